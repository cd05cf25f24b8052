import PyProof.Rows.All
import Wide.All
import OpenK.AllK
import Wide.FinOn
import PySem.Challenge.RW_lanescribe_k09_ways_judged_and_gone
import HandS.Head0
import HandS.Head1
import HandS.Head2
import HandS.HeadEnd
import HandS.HeadHook1
import HandS.HeadHook2
import HandS.HeadHook3
import HandS.HeadHook4
import HandS.HeadWalk
import HandS.EndTab
import KE.KNestM
import KE.KStateDown
import HandS.ForMost
import HandS.Exc
import HandS.TryOnly
import HandS.TryMany
import HandS.WordsExc
import HandS.Flow
import HandS.Style
import HandS.DictComp
import HandS.Deep
import HandS.Wide
import HandS.Defaults
import HandS.MakeKwOnly
import HandS.Zip
import HandS.TupAny
import HandS.TupLe
import HandS.IsInst
import HandS.Walk
import HandS.EndBits
import HandS.ClsMeth
import HandS.ExcInit
import HandS.ExcField
import HandS.Lambda
import HandS.ExcOwn
import KE.GoesMore
import HandS.Codes
import HandS.MakeKw
import HandS.OwnEq
import HandS.NamedTupGet
import OpenK.KOps
import KE.KDictZip
import HandS.Dict
import HandS.SetFor
import HandS.FStr
import KE.SortKeyHeap
import HandS.SortKw
import HandS.ExcValue
import KE.DataMinMax
import HandS.Strs
import HandS.Conv
import PyProof.WalksMore
import PyProof.CollectIter
import PyProof.InstNe
import HandS.More
import HandS.RaiseMore
import HandS.SortInts
import HandS.Text
import KE.KxText
import KE.IntTextLaws
import PyProof.Rows.StrRev
import PyProof.Rows.StrCountLaw
import KE.KStrOpen
import PyProof.StrBlock2
import HandS.RevRange
import KE.KDictKeyed
import KE.KeyNested
import PyProof.DictMoreH
set_option Elab.async false
set_option linter.all false
set_option maxRecDepth 100000
set_option maxHeartbeats 4000000
open PySem PySem.Spec PyProof.Rows L2
namespace Ls
end Ls
open Ls
namespace Lw
open PySem PySem.Spec PyProof.Rows L2 Ls
def top (i : Nat) : Stmt := PySem.Challenge.pw_lanescribe_k09_ways_judged_and_gone.main.body.getD i (.Pass ⟨0, 0, 0, 0⟩)
abbrev s_law : Stmt := top 80
theorem sc_law : FnScope ["_law_script", "_law_d", "_law_turn", "_law_title", "_law_fields_here", "_law_way", "_law_step", "_law_handed", "_law_good", "_law_values_here", "_law_word_here", "_law_due", "_law_sort"] ["_law_script"] (defScope s_law) := ⟨rfl, rfl, rfl, by decide +kernel, rfl, by decide +kernel, by decide +kernel⟩
abbrev s__law_begin : Stmt := top 45
theorem sc__law_begin : FnScope ["_law_script", "_law_seed", "_law_cell"] ["_law_script"] (defScope s__law_begin) := ⟨rfl, rfl, rfl, by decide +kernel, rfl, by decide +kernel, by decide +kernel⟩
abbrev s__law_same : Stmt := top 49
theorem sc__law_same : FnScope ["_law_found", "_law_due", "_law_k"] ["_law_found", "_law_due"] (defScope s__law_same) := ⟨rfl, rfl, rfl, by decide +kernel, rfl, by decide +kernel, by decide +kernel⟩
abbrev s__law_kind_of : Stmt := top 72
theorem sc__law_kind_of : FnScope ["_law_d", "_law_fields_here"] ["_law_d"] (defScope s__law_kind_of) := ⟨rfl, rfl, rfl, by decide +kernel, rfl, by decide +kernel, by decide +kernel⟩
abbrev s__law_some_way : Stmt := top 78
theorem sc__law_some_way : FnScope ["_law_d", "_law_title", "_law_fields_here", "_law_names", "_law_test_here"] ["_law_d", "_law_title", "_law_fields_here"] (defScope s__law_some_way) := ⟨rfl, rfl, rfl, by decide +kernel, rfl, by decide +kernel, by decide +kernel⟩
abbrev s__law_kept_way : Stmt := top 79
theorem sc__law_kept_way : FnScope ["_law_way"] ["_law_way"] (defScope s__law_kept_way) := ⟨rfl, rfl, rfl, by decide +kernel, rfl, by decide +kernel, by decide +kernel⟩
abbrev s__law_way_ok : Stmt := top 75
theorem sc__law_way_ok : FnScope ["_law_way", "_law_start", "_law_rows", "_law_at", "_law_leaf_here", "_law_yes", "_law_no", "_law_jump"] ["_law_way"] (defScope s__law_way_ok) := ⟨rfl, rfl, rfl, by decide +kernel, rfl, by decide +kernel, by decide +kernel⟩
abbrev s__law_values : Stmt := top 55
theorem sc__law_values : FnScope ["_law_d", "_law_fields_here", "_law_field"] ["_law_d", "_law_fields_here"] (defScope s__law_values) := ⟨rfl, rfl, rfl, by decide +kernel, rfl, by decide +kernel, by decide +kernel⟩
abbrev s_Kind___init__ : Stmt := inClass (top 18) 0
theorem sc_Kind___init__ : FnScope ["self", "name", "fields", "at", "field", "one"] ["self", "name", "fields"] (defScope s_Kind___init__) := ⟨rfl, rfl, rfl, by decide +kernel, rfl, by decide +kernel, by decide +kernel⟩
abbrev s__law_pick : Stmt := top 46
theorem sc__law_pick : FnScope ["_law_d", "_law_many", "_law_cell", "_law_digit", "_law_one"] ["_law_d", "_law_many"] (defScope s__law_pick) := ⟨rfl, rfl, rfl, by decide +kernel, rfl, by decide +kernel, by decide +kernel⟩
abbrev s__law_bent_way : Stmt := top 76
theorem sc__law_bent_way : FnScope ["_law_d", "_law_way", "_law_start", "_law_rows", "_law_at", "_law_leaf_here", "_law_yes", "_law_no", "_law_jump"] ["_law_d", "_law_way"] (defScope s__law_bent_way) := ⟨rfl, rfl, rfl, by decide +kernel, rfl, by decide +kernel, by decide +kernel⟩
abbrev s__law_bent_values : Stmt := top 59
theorem sc__law_bent_values : FnScope ["_law_d", "_law_fields_here", "_law_values_here", "_law_some", "_law_step", "_law_at", "_law_way"] ["_law_d", "_law_fields_here", "_law_values_here"] (defScope s__law_bent_values) := ⟨rfl, rfl, rfl, by decide +kernel, rfl, by decide +kernel, by decide +kernel⟩
abbrev s__law_values_word : Stmt := top 60
theorem sc__law_values_word : FnScope ["_law_fields_here", "_law_values_here", "_law_least", "_law_at"] ["_law_fields_here", "_law_values_here"] (defScope s__law_values_word) := ⟨rfl, rfl, rfl, by decide +kernel, rfl, by decide +kernel, by decide +kernel⟩
abbrev s__law_walked : Stmt := top 77
theorem sc__law_walked : FnScope ["_law_way", "_law_title", "_law_fields_here", "_law_values_here", "_law_jump", "_law_rows", "_law_many", "_law_step", "_law_leaf_here", "_law_yes", "_law_no"] ["_law_way", "_law_title", "_law_fields_here", "_law_values_here"] (defScope s__law_walked) := ⟨rfl, rfl, rfl, by decide +kernel, rfl, by decide +kernel, by decide +kernel⟩
abbrev s_is_way : Stmt := top 32
theorem sc_is_way : FnScope ["way", "start", "rows", "at", "row"] ["way"] (defScope s_is_way) := ⟨rfl, rfl, rfl, by decide +kernel, rfl, by decide +kernel, by decide +kernel⟩
abbrev s__law_ask : Stmt := top 57
theorem sc__law_ask : FnScope ["_law_ask_here", "_law_told", "_law_word_here", "e"] ["_law_ask_here"] (defScope s__law_ask) := ⟨rfl, rfl, rfl, by decide +kernel, rfl, by decide +kernel, by decide +kernel⟩
abbrev s_run : Stmt := top 38
theorem sc_run : FnScope ["way", "kind", "values"] ["way", "kind", "values"] (defScope s_run) := ⟨rfl, rfl, rfl, by decide +kernel, rfl, by decide +kernel, by decide +kernel⟩
abbrev s_steps : Stmt := top 39
theorem sc_steps : FnScope ["way", "kind", "values"] ["way", "kind", "values"] (defScope s_steps) := ⟨rfl, rfl, rfl, by decide +kernel, rfl, by decide +kernel, by decide +kernel⟩
abbrev s_shorter : Stmt := top 43
theorem sc_shorter : FnScope ["way", "start", "rows", "heads", "begin", "kept", "places", "number", "at", "found", "leaf", "yes", "no", "jumps", "jump"] ["way"] (defScope s_shorter) := ⟨rfl, rfl, rfl, by decide +kernel, rfl, by decide +kernel, by decide +kernel⟩
abbrev s__law_fields : Stmt := top 53
theorem sc__law_fields : FnScope ["_law_d", "_law_many", "_law_names", "_law_found", "_law_title", "_law_low", "_law_high"] ["_law_d", "_law_many"] (defScope s__law_fields) := ⟨rfl, rfl, rfl, by decide +kernel, rfl, by decide +kernel, by decide +kernel⟩
abbrev s__law_word : Stmt := top 50
theorem sc__law_word : FnScope ["_law_d", "_law_letters", "_law_first", "_law_size", "_law_some", "_law_k"] ["_law_d"] (defScope s__law_word) := ⟨rfl, rfl, rfl, by decide +kernel, rfl, by decide +kernel, by decide +kernel⟩
abbrev s__law_names_of : Stmt := top 73
theorem sc__law_names_of : FnScope ["_law_d", "_law_fields_here", "_law_field"] ["_law_d", "_law_fields_here"] (defScope s__law_names_of) := ⟨rfl, rfl, rfl, by decide +kernel, rfl, by decide +kernel, by decide +kernel⟩
abbrev s__law_test : Stmt := top 66
theorem sc__law_test : FnScope ["_law_d", "_law_names", "_law_kinds", "_law_test_here"] ["_law_d", "_law_names", "_law_kinds"] (defScope s__law_test) := ⟨rfl, rfl, rfl, by decide +kernel, rfl, by decide +kernel, by decide +kernel⟩
abbrev s_made : Stmt := top 36
theorem sc_made : FnScope ["test", "rows", "start", "way", "kept", "many", "leaf", "yes", "no"] ["test"] (defScope s_made) := ⟨rfl, rfl, rfl, by decide +kernel, rfl, by decide +kernel, by decide +kernel⟩
abbrev s__law_ended : Stmt := top 74
theorem sc__law_ended : FnScope ["_law_jump"] ["_law_jump"] (defScope s__law_ended) := ⟨rfl, rfl, rfl, by decide +kernel, rfl, by decide +kernel, by decide +kernel⟩
abbrev s__law_test_ok : Stmt := top 69
theorem sc__law_test_ok : FnScope ["_law_test_here"] ["_law_test_here"] (defScope s__law_test_ok) := ⟨rfl, rfl, rfl, by decide +kernel, rfl, by decide +kernel, by decide +kernel⟩
abbrev s__law_value : Stmt := top 54
theorem sc__law_value : FnScope ["_law_d", "_law_field", "_law_title", "_law_low", "_law_high"] ["_law_d", "_law_field"] (defScope s__law_value) := ⟨rfl, rfl, rfl, by decide +kernel, rfl, by decide +kernel, by decide +kernel⟩
abbrev s_is_name : Stmt := top 16
theorem sc_is_name : FnScope ["text", "sign"] ["text"] (defScope s_is_name) := ⟨rfl, rfl, rfl, by decide +kernel, rfl, by decide +kernel, by decide +kernel⟩
abbrev s_look_field : Stmt := top 17
theorem sc_look_field : FnScope ["field", "names", "title", "low", "high"] ["field", "names"] (defScope s_look_field) := ⟨rfl, rfl, rfl, by decide +kernel, rfl, by decide +kernel, by decide +kernel⟩
abbrev s__law_of : Stmt := top 47
theorem sc__law_of : FnScope ["_law_d", "_law_things"] ["_law_d", "_law_things"] (defScope s__law_of) := ⟨rfl, rfl, rfl, by decide +kernel, rfl, by decide +kernel, by decide +kernel⟩
abbrev s__law_far : Stmt := top 48
theorem sc__law_far : FnScope ["_law_d", "_law_number_here"] ["_law_d"] (defScope s__law_far) := ⟨rfl, rfl, rfl, by decide +kernel, rfl, by decide +kernel, by decide +kernel⟩
abbrev s__law_bent_test : Stmt := top 70
theorem sc__law_bent_test : FnScope ["_law_d", "_law_test_here", "_law_way", "_law_at"] ["_law_d", "_law_test_here"] (defScope s__law_bent_test) := ⟨rfl, rfl, rfl, by decide +kernel, rfl, by decide +kernel, by decide +kernel⟩
abbrev s__law_passes : Stmt := top 71
theorem sc__law_passes : FnScope ["_law_test_here", "_law_title", "_law_fields_here", "_law_values_here", "_law_both", "_law_part", "_law_spots", "_law_at"] ["_law_test_here", "_law_title", "_law_fields_here", "_law_values_here"] (defScope s__law_passes) := ⟨rfl, rfl, rfl, by decide +kernel, rfl, by decide +kernel, by decide +kernel⟩
abbrev s_is_end : Stmt := top 30
theorem sc_is_end : FnScope ["jump"] ["jump"] (defScope s_is_end) := ⟨rfl, rfl, rfl, by decide +kernel, rfl, by decide +kernel, by decide +kernel⟩
abbrev s_row_fits : Stmt := top 31
theorem sc_row_fits : FnScope ["row", "at", "many", "leaf", "yes", "no", "jump"] ["row", "at", "many"] (defScope s_row_fits) := ⟨rfl, rfl, rfl, by decide +kernel, rfl, by decide +kernel, by decide +kernel⟩
abbrev s_look_way : Stmt := top 33
theorem sc_look_way : FnScope ["way"] ["way"] (defScope s_look_way) := ⟨rfl, rfl, rfl, by decide +kernel, rfl, by decide +kernel, by decide +kernel⟩
abbrev s_Kind_need : Stmt := inClass (top 18) 8
theorem sc_Kind_need : FnScope ["self", "values", "at", "title", "low", "high", "number"] ["self", "values"] (defScope s_Kind_need) := ⟨rfl, rfl, rfl, by decide +kernel, rfl, by decide +kernel, by decide +kernel⟩
abbrev s_walked : Stmt := top 37
theorem sc_walked : FnScope ["way", "kind", "values", "jump", "rows", "many", "leaf", "yes", "no"] ["way", "kind", "values"] (defScope s_walked) := ⟨rfl, rfl, rfl, by decide +kernel, rfl, by decide +kernel, by decide +kernel⟩
abbrev s_joined : Stmt := top 41
theorem sc_joined : FnScope ["rows", "heads", "known", "at", "leaf", "yes", "no", "key"] ["rows"] (defScope s_joined) := ⟨rfl, rfl, rfl, by decide +kernel, rfl, by decide +kernel, by decide +kernel⟩
abbrev s_led : Stmt := top 40
theorem sc_led : FnScope ["jump", "heads"] ["jump", "heads"] (defScope s_led) := ⟨rfl, rfl, rfl, by decide +kernel, rfl, by decide +kernel, by decide +kernel⟩
abbrev s_reached : Stmt := top 42
theorem sc_reached : FnScope ["start", "rows", "heads", "found", "left", "at"] ["start", "rows", "heads"] (defScope s_reached) := ⟨rfl, rfl, rfl, by decide +kernel, rfl, by decide +kernel, by decide +kernel⟩
abbrev s__law_words : Stmt := top 51
theorem sc__law_words : FnScope ["_law_d", "_law_many", "_law_found", "_law_k", "_law_word_here", "_law_step"] ["_law_d", "_law_many"] (defScope s__law_words) := ⟨rfl, rfl, rfl, by decide +kernel, rfl, by decide +kernel, by decide +kernel⟩
abbrev s__law_bound : Stmt := top 52
theorem sc__law_bound : FnScope ["_law_d", "_law_near"] ["_law_d"] (defScope s__law_bound) := ⟨rfl, rfl, rfl, by decide +kernel, rfl, by decide +kernel, by decide +kernel⟩
abbrev s__law_tree : Stmt := top 63
theorem sc__law_tree : FnScope ["_law_d", "_law_deep_here", "_law_names", "_law_kinds", "_law_way", "_law_word_here"] ["_law_d", "_law_deep_here", "_law_names", "_law_kinds"] (defScope s__law_tree) := ⟨rfl, rfl, rfl, by decide +kernel, rfl, by decide +kernel, by decide +kernel⟩
abbrev s__law_parts : Stmt := top 64
theorem sc__law_parts : FnScope ["_law_test_here", "_law_part"] ["_law_test_here"] (defScope s__law_parts) := ⟨rfl, rfl, rfl, by decide +kernel, rfl, by decide +kernel, by decide +kernel⟩
abbrev s__law_leaf : Stmt := top 62
theorem sc__law_leaf : FnScope ["_law_d", "_law_names", "_law_kinds", "_law_way"] ["_law_d", "_law_names", "_law_kinds"] (defScope s__law_leaf) := ⟨rfl, rfl, rfl, by decide +kernel, rfl, by decide +kernel, by decide +kernel⟩
abbrev s_look_test : Stmt := top 26
theorem sc_look_test : FnScope ["test"] ["test"] (defScope s_look_test) := ⟨rfl, rfl, rfl, by decide +kernel, rfl, by decide +kernel, by decide +kernel⟩
abbrev s_put_rows : Stmt := top 34
theorem sc_put_rows : FnScope ["test", "yes", "no", "rows"] ["test", "yes", "no", "rows"] (defScope s_put_rows) := ⟨rfl, rfl, rfl, by decide +kernel, rfl, by decide +kernel, by decide +kernel⟩
abbrev s_turned : Stmt := top 35
theorem sc_turned : FnScope ["jump", "many"] ["jump", "many"] (defScope s_turned) := ⟨rfl, rfl, rfl, by decide +kernel, rfl, by decide +kernel, by decide +kernel⟩
abbrev s__law_shape_ok : Stmt := top 68
theorem sc__law_shape_ok : FnScope ["_law_test_here"] ["_law_test_here"] (defScope s__law_shape_ok) := ⟨rfl, rfl, rfl, by decide +kernel, rfl, by decide +kernel, by decide +kernel⟩
abbrev s__law_deep : Stmt := top 65
theorem sc__law_deep : FnScope ["_law_test_here", "_law_part"] ["_law_test_here"] (defScope s__law_deep) := ⟨rfl, rfl, rfl, by decide +kernel, rfl, by decide +kernel, by decide +kernel⟩
abbrev s__law_odd_name : Stmt := top 58
theorem sc__law_odd_name : FnScope ["_law_d", "_law_text", "_law_odd"] ["_law_d", "_law_text"] (defScope s__law_odd_name) := ⟨rfl, rfl, rfl, by decide +kernel, rfl, by decide +kernel, by decide +kernel⟩
abbrev s_is_test : Stmt := top 25
theorem sc_is_test : FnScope ["test"] ["test"] (defScope s_is_test) := ⟨rfl, rfl, rfl, by decide +kernel, rfl, by decide +kernel, by decide +kernel⟩
abbrev s_leaves_in : Stmt := top 27
theorem sc_leaves_in : FnScope ["test", "part", "leaf"] ["test"] (defScope s_leaves_in) := ⟨rfl, rfl, rfl, by decide +kernel, rfl, by decide +kernel, by decide +kernel⟩
abbrev s_leaf_holds : Stmt := top 28
theorem sc_leaf_holds : FnScope ["leaf", "kind", "values", "at"] ["leaf", "kind", "values"] (defScope s_leaf_holds) := ⟨rfl, rfl, rfl, by decide +kernel, rfl, by decide +kernel, by decide +kernel⟩
abbrev s__law_number : Stmt := top 61
theorem sc__law_number : FnScope ["_law_d"] ["_law_d"] (defScope s__law_number) := ⟨rfl, rfl, rfl, by decide +kernel, rfl, by decide +kernel, by decide +kernel⟩
abbrev s__law_leaf_ok : Stmt := top 67
theorem sc__law_leaf_ok : FnScope ["_law_test_here"] ["_law_test_here"] (defScope s__law_leaf_ok) := ⟨rfl, rfl, rfl, by decide +kernel, rfl, by decide +kernel, by decide +kernel⟩
abbrev s_parts_of : Stmt := top 24
theorem sc_parts_of : FnScope ["test", "deep", "word", "inner", "many", "part", "more"] ["test", "deep"] (defScope s_parts_of) := ⟨rfl, rfl, rfl, by decide +kernel, rfl, by decide +kernel, by decide +kernel⟩
abbrev s_Kind_place_of : Stmt := inClass (top 18) 7
theorem sc_Kind_place_of : FnScope ["self", "field", "names", "title", "low", "high"] ["self", "field"] (defScope s_Kind_place_of) := ⟨rfl, rfl, rfl, by decide +kernel, rfl, by decide +kernel, by decide +kernel⟩
abbrev s__law_is_name : Stmt := top 56
theorem sc__law_is_name : FnScope ["_law_text", "_law_sign"] ["_law_text"] (defScope s__law_is_name) := ⟨rfl, rfl, rfl, by decide +kernel, rfl, by decide +kernel, by decide +kernel⟩
abbrev s_is_leaf : Stmt := top 23
theorem sc_is_leaf : FnScope ["test"] ["test"] (defScope s_is_leaf) := ⟨rfl, rfl, rfl, by decide +kernel, rfl, by decide +kernel, by decide +kernel⟩
abbrev s_ScribeError___init__ : Stmt := inClass (top 2) 0
theorem sc_ScribeError___init__ : FnScope ["self", "word"] ["self", "word"] (defScope s_ScribeError___init__) := ⟨rfl, rfl, rfl, by decide +kernel, rfl, by decide +kernel, by decide +kernel⟩
abbrev s_BadTest___init__ : Stmt := inClass (top 6) 0
abbrev s_BadWay___init__ : Stmt := inClass (top 7) 0
theorem sc_BadWay___init__ : FnScope ["self"] ["self"] (defScope s_BadWay___init__) := ⟨rfl, rfl, rfl, by decide +kernel, rfl, by decide +kernel, by decide +kernel⟩
abbrev s_BadValue___init__ : Stmt := inClass (top 10) 0
theorem sc_BadValue___init__ : FnScope ["self", "at"] ["self", "at"] (defScope s_BadValue___init__) := ⟨rfl, rfl, rfl, by decide +kernel, rfl, by decide +kernel, by decide +kernel⟩
end Lw
namespace Ls
open PySem PySem.Spec PyProof.Rows L2
section
variable {X : Cx}
def rAddU (K : PySem.W.Frag) : R2 := fun x y H Q => (∃ i j, x = .int i ∧ y = .int j ∧ Q (.int (i + j)) H) ∨ (∃ i j, x = .str i ∧ y = .str j ∧ i.length + j.length ≤ sizeLine ∧ Q (.str (i ++ j)) H) ∨ rCat x y H Q ∨ rCatA K x y H Q
theorem op_addU0 : OpR X (binaryOp .Add) (rAddU X.K) := OpR.or op_add (OpR.or op_add_str (OpR.or op_cat op_catA))
def rEqU (K : PySem.W.Frag) : R2 := fun x y H Q => rEq x y H Q ∨ rEqD K x y H Q
def rNeU (K : PySem.W.Frag) : R2 := fun x y H Q => rNe x y H Q ∨ rNeD K x y H Q
theorem op_eqU0 (hu : X.A.units + 66 < cLine) : OpR X (compareOp .Eq) (rEqU X.K) := OpR.or op_eq (op_eqD (by omega))
theorem op_neU0 (hu : X.A.units + 66 < cLine) : OpR X (compareOp .NotEq) (rNeU X.K) := OpR.or op_ne (op_neD (by omega))
def rIsU : R2 := fun x y H Q => (y = .non ∧ Q (.bl (decide (x = .non))) H) ∨ (∃ a b, x = .bl a ∧ y = .bl b ∧ Q (.bl (decide (a = b))) H)
def rIsNotU : R2 := fun x y H Q => (y = .non ∧ Q (.bl (!decide (x = .non))) H) ∨ (∃ a b, x = .bl a ∧ y = .bl b ∧ Q (.bl (!decide (a = b))) H)
theorem op_isU : OpR X (compareOp .Is) rIsU := OpR.or op_isN op_is_bl
def rInSg : R2 := fun x y H Q => ∃ (c : Nat) (z : Str), x = .str ⟨#[c]⟩ ∧ y = .str z ∧ Q (.bl (decide (c ∈ z.cps.toList))) H
def rNotInSg : R2 := fun x y H Q => ∃ (c : Nat) (z : Str), x = .str ⟨#[c]⟩ ∧ y = .str z ∧ Q (.bl (!decide (c ∈ z.cps.toList))) H
def rInU (K : PySem.W.Frag) : R2 := fun x y H Q => rIn K false x y H Q ∨ rInD K x y H Q ∨ rInSg x y H Q
def rNotInU (K : PySem.W.Frag) : R2 := fun x y H Q => rIn K true x y H Q ∨ rNotInD K x y H Q ∨ rNotInSg x y H Q
theorem op_inU0 (hu : X.A.units + 66 < cLine) : OpR X (compareOp .In) (rInU X.K) := OpR.or op_in_seq (OpR.or (op_inD (by omega)) op_in_sign)
theorem op_notinU0 (hu : X.A.units + 66 < cLine) : OpR X (compareOp .NotIn) (rNotInU X.K) := OpR.or op_notIn_seq (OpR.or (op_notInD (by omega)) op_notIn_sign)
def rLenU (K : PySem.W.Frag) : List V → Hp → VK → Prop := fun xs H Q => (∃ p ys, xs = [.ref p] ∧ (SqL K H p ys ∨ SqT K H p ys) ∧ Q (.int ys.length) H) ∨ (∃ z, xs = [.str z] ∧ z.length ≤ sizeLine ∧ Q (.int z.length) H) ∨ (∃ a kvs, xs = [V.ref a] ∧ H a = some (.dK kvs) ∧ Q (.int kvs.length) H)
theorem call_lenU0 : CallR X (.builtin "len") (rLenU X.K) := CallR.or call_len_seq (CallR.or call_len_str call_lenD)
def rSlU (K : PySem.W.Frag) : V → Option Int → Option Int → Hp → VK → Prop := fun x lo hi H Q => rSlL K x lo hi H Q ∨ rSlA K x lo hi H Q ∨ rSlS x lo hi H Q
theorem sl_U0 : SlR X (rSlU X.K) := SlR.or sl_list (SlR.or sl_tupA sl_str)
def rMaxU (K : PySem.W.Frag) : List V → Hp → VK → Prop := fun vs H Q => (∃ i j, vs = [.int i, .int j] ∧ Q (.int (if j > i then j else i)) H) ∨ rMax K vs H Q
def rMinU (K : PySem.W.Frag) : List V → Hp → VK → Prop := fun vs H Q => (∃ i j, vs = [.int i, .int j] ∧ Q (.int (if j < i then j else i)) H) ∨ rMin K vs H Q
theorem call_maxU0 (hc : X.calm = true) : CallR X (.builtin "max") (rMaxU X.K) := CallR.or (call_max2 hc) (cr_max hc)
theorem call_minU0 (hc : X.calm = true) : CallR X (.builtin "min") (rMinU X.K) := CallR.or (call_min2 hc) (cr_min hc)
end
section
variable {X : Cx}
theorem op_addU (K : PySem.W.Frag) (hK : X.K = K)  : OpR X (binaryOp .Add) (rAddU K) := by
  subst hK
  exact op_addU0
theorem op_eqU (K : PySem.W.Frag) (hK : X.K = K) (hu : X.A.units + 66 < cLine) : OpR X (compareOp .Eq) (rEqU K) := by
  subst hK
  exact op_eqU0 hu
theorem op_neU (K : PySem.W.Frag) (hK : X.K = K) (hu : X.A.units + 66 < cLine) : OpR X (compareOp .NotEq) (rNeU K) := by
  subst hK
  exact op_neU0 hu
theorem op_inU (K : PySem.W.Frag) (hK : X.K = K) (hu : X.A.units + 66 < cLine) : OpR X (compareOp .In) (rInU K) := by
  subst hK
  exact op_inU0 hu
theorem op_notinU (K : PySem.W.Frag) (hK : X.K = K) (hu : X.A.units + 66 < cLine) : OpR X (compareOp .NotIn) (rNotInU K) := by
  subst hK
  exact op_notinU0 hu
theorem call_lenU (K : PySem.W.Frag) (hK : X.K = K)  : CallR X (.builtin "len") (rLenU K) := by
  subst hK
  exact call_lenU0
theorem sl_U (K : PySem.W.Frag) (hK : X.K = K)  : SlR X (rSlU K) := by
  subst hK
  exact sl_U0
theorem call_maxU (K : PySem.W.Frag) (hK : X.K = K) (hc : X.calm = true) : CallR X (.builtin "max") (rMaxU K) := by
  subst hK
  exact call_maxU0 hc
theorem call_minU (K : PySem.W.Frag) (hK : X.K = K) (hc : X.calm = true) : CallR X (.builtin "min") (rMinU K) := by
  subst hK
  exact call_minU0 hc
def rListU (K : PySem.W.Frag) : List V → Hp → VK → Prop := fun xs H Q => ∃ p ys, xs = [V.ref p] ∧ (SqL K H p ys ∨ SqT K H p ys) ∧ ∀ l, H l = none → Q (.ref l) (upd H l (.lst ys))
def rTupleU (K : PySem.W.Frag) : List V → Hp → VK → Prop := fun xs H Q => ∃ p ys, xs = [.ref p] ∧ ((SqL K H p ys ∧ ∀ l, H l = none → Q (.ref l) (upd H l (.tup ys))) ∨ (SqT K H p ys ∧ Q (.ref p) H))
theorem call_listU (K : PySem.W.Frag) (hK : X.K = K) : CallR X (.type "list") (rListU K) := by
  subst hK
  exact call_list_of
theorem call_tupleU (K : PySem.W.Frag) (hK : X.K = K) : CallR X (.type "tuple") (rTupleU K) := by
  subst hK
  exact call_tuple_of
theorem cr_sumU (K : PySem.W.Frag) (hK : X.K = K) (hc : X.calm = true) : CallR X (.builtin "sum") (rSum K) := by
  subst hK
  exact cr_sum hc
theorem cr_allU (K : PySem.W.Frag) (hK : X.K = K) (hc : X.calm = true) : CallR X (.builtin "all") (rAll K) := by
  subst hK
  exact cr_all hc
theorem cr_anyU (K : PySem.W.Frag) (hK : X.K = K) (hc : X.calm = true) : CallR X (.builtin "any") (rAny K) := by
  subst hK
  exact cr_any hc
theorem call_isiU (K : PySem.W.Frag) (hK : X.K = K) : CallR X (.builtin "isinstance") (rIsi K) := by
  subst hK
  exact call_isi
theorem call_isiTU (K : PySem.W.Frag) (hK : X.K = K) : CallR X (.builtin "isinstance") (rIsiT K) := by
  subst hK
  exact call_isiT
theorem ix_U (K : PySem.W.Frag) (hK : X.K = K) : IxR X (rIx K) := by
  subst hK
  exact ix_seq
theorem kBM {e : Expr} {T : String} {r : V → List V → Hp → VK → Prop} {to : TE} {t : TA} (K : PySem.W.Frag) (hK : X.K = K) (h : PE X e (tBM X.K T r to t)) : PE X e (tBM K T r to t) := hK ▸ h
theorem kBM0 {e : Expr} {T : String} {r : V → List V → Hp → VK → Prop} {to : TE} (K : PySem.W.Frag) (hK : X.K = K) (h : PE X e (tBM0 X.K T r to)) : PE X e (tBM0 K T r to) := hK ▸ h
theorem kFld {e : Expr} {f : Str} {ta : TE} (K : PySem.W.Frag) (hK : X.K = K) (h : PE X e (tFld X.K ta f)) : PE X e (tFld K ta f) := hK ▸ h
theorem kGTup {e : Expr} {n : Nat} {t : TGs} (K : PySem.W.Frag) (hK : X.K = K) (h : PG X e (gTup X.K n t)) : PG X e (gTup K n t) := hK ▸ h
theorem kIL {tg l : Expr} {tl : TE} (K : PySem.W.Frag) (hK : X.K = K) (h : PI X tg l (iList X.K tl)) : PI X tg l (iList K tl) := hK ▸ h
end
theorem huOf {A : Around} {k : Nat} (hr : Room k A) : A.units + 66 < cLine := by
  have := hr.un
  omega
end Ls
namespace Ls
open PySem PySem.Spec PyProof.Rows L2
/-- tuples stay (they always do) -/
def Tp (K : PySem.W.Frag) (H H' : Hp) : Prop := ∀ a xs, SqT K H a xs → SqT K H' a xs
/-- all but the object at d stays -/
def Keep (d : Addr) (H H' : Hp) : Prop := ∀ b o, b ≠ d → H b = some o → H' b = some o
theorem same_new {H : Hp} {p : Addr} {o : HO} (h : H p = none) : Same H (upd H p o) := fun b x e => by
  rw [upd_ne (ne_of_none e h)]
  exact e
theorem rd_same {H H' : Hp} {a : Addr} {u : HO} (e : Same H H') (h : Rd H a u) : Rd H' a u := by
  rcases h with h | ⟨o, h⟩
  · exact .inl (e _ _ h)
  · exact .inr ⟨o, e _ _ h⟩
theorem sqt_same {K : PySem.W.Frag} {H H' : Hp} {a : Addr} {xs : List V} (e : Same H H') (h : SqT K H a xs) : SqT K H' a xs := by
  rcases h with h | h
  · exact .inl (rd_same e h)
  · exact .inr h
theorem Tp.refl {K : PySem.W.Frag} {H : Hp} : Tp K H H := fun _ _ h => h
theorem Tp.trans {K : PySem.W.Frag} {H H1 H2 : Hp} (a : Tp K H H1) (b : Tp K H1 H2) : Tp K H H2 := fun x xs h => b x xs (a x xs h)
theorem Tp.same {K : PySem.W.Frag} {H H' : Hp} (e : Same H H') : Tp K H H' := fun _ _ h => sqt_same e h
theorem Tp.new {K : PySem.W.Frag} {H : Hp} {p : Addr} {o : HO} (h : H p = none) : Tp K H (upd H p o) := Tp.same (same_new h)
/-- an object that is no tuple (nor a locked one) -/
def NoT : HO → Bool
  | .tup _ => false
  | .frz _ _ => false
  | _ => true
theorem keep_tp {K : PySem.W.Frag} {d : Addr} {H H' : Hp} {o : HO} (k : Keep d H H') (h : H d = some o) (n : NoT o = true) : Tp K H H' := fun a xs q => by
  have ne : ∀ u, NoT u = false → H a = some u → a ≠ d := fun u hu e z => by
    rw [z, h] at e
    cases e
    rw [n] at hu
    cases hu
  rcases q with (q | ⟨u, q⟩) | q
  · exact .inl (.inl (k _ _ (ne _ rfl q) q))
  · exact .inl (.inr ⟨u, k _ _ (ne _ rfl q) q⟩)
  · exact .inr q
theorem Keep.refl {d : Addr} {H : Hp} : Keep d H H := fun _ _ _ h => h
theorem Keep.trans {d : Addr} {H H1 H2 : Hp} (a : Keep d H H1) (b : Keep d H1 H2) : Keep d H H2 := fun c o n h => b c o n (a c o n h)
theorem Keep.same {d : Addr} {H H' : Hp} (e : Same H H') : Keep d H H' := fun b o _ h => e b o h
theorem Keep.new {d p : Addr} {H H' : Hp} {o : HO} (k : Keep d H H') (h : H' p = none) : Keep d H (upd H' p o) := fun b u n e => same_new h _ _ (k b u n e)
theorem Keep.put {d : Addr} {H H' : Hp} {o : HO} (k : Keep d H H') : Keep d H (upd H' d o) := fun b u n e => by
  rw [upd_ne n]
  exact k b u n e
/-- a write to what did not stand there at first -/
theorem Keep.wr {d p : Addr} {H H' : Hp} {o : HO} (k : Keep d H H') (h : H p = none) : Keep d H (upd H' p o) := fun b u n e => by
  rw [upd_ne (ne_of_none e h)]
  exact k b u n e
theorem Same.wr {p : Addr} {H H' : Hp} {o : HO} (k : Same H H') (h : H p = none) : Same H (upd H' p o) := fun b u e => by
  rw [upd_ne (ne_of_none e h)]
  exact k b u e
theorem Keep.free {d p : Addr} {H H' : Hp} {o : HO} (k : Keep d H H') (hd : H' d = some o) (h : H' p = none) : H p = none := by
  cases q : H p with
  | none => rfl
  | some u =>
    by_cases e : p = d
    · rw [e, hd] at h
      cases h
    · rw [k p u e q] at h
      cases h
theorem sql_same {K : PySem.W.Frag} {H H' : Hp} {a : Addr} {xs : List V} (e : Same H H') (h : SqL K H a xs) : SqL K H' a xs := e.seq h
theorem sql_keep {K : PySem.W.Frag} {d : Addr} {H H' : Hp} {a : Addr} {xs : List V} {kvs : List (Key × V)} (k : Keep d H H') (hd : H d = some (.dK kvs)) (h : SqL K H a xs) : SqL K H' a xs := by
  have ne : ∀ u, (∀ ks, u ≠ .dK ks) → H a = some u → a ≠ d := fun u hu e z => by
    rw [z, hd] at e
    exact hu _ (Option.some.inj e).symm
  rcases h with (q | ⟨u, q⟩) | q
  · exact .inl (.inl (k _ _ (ne _ (fun _ z => by cases z) q) q))
  · exact .inl (.inr ⟨u, k _ _ (ne _ (fun _ z => by cases z) q) q⟩)
  · exact .inr q
mutual
inductive Im (K : PySem.W.Frag) (H : Hp) : V → PyData → Prop
  | non : Im K H .non .none
  | bl (b : Bool) : Im K H (.bl b) (.bool b)
  | int (i : Int) : Im K H (.int i) (.int i)
  | str (x : Str) : Im K H (.str x) (.str x)
  | tup {a : Addr} {xs : List V} {ds : List PyData} : SqT K H a xs → ImAll K H xs ds → Im K H (.ref a) (.tuple ds)
inductive ImAll (K : PySem.W.Frag) (H : Hp) : List V → List PyData → Prop
  | nil : ImAll K H [] []
  | cons {v : V} {vs : List V} {d : PyData} {ds : List PyData} : Im K H v d → ImAll K H vs ds → ImAll K H (v :: vs) (d :: ds)
end
section
variable {K : PySem.W.Frag} {H H' : Hp}
mutual
theorem Im.mono (t : Tp K H H') : ∀ {v : V} {d : PyData}, Im K H v d → Im K H' v d
  | _, _, .non => .non
  | _, _, .bl b => .bl b
  | _, _, .int i => .int i
  | _, _, .str x => .str x
  | _, _, .tup h hs => .tup (t _ _ h) (ImAll.mono t hs)
theorem ImAll.mono (t : Tp K H H') : ∀ {vs : List V} {ds : List PyData}, ImAll K H vs ds → ImAll K H' vs ds
  | _, _, .nil => .nil
  | _, _, .cons h hs => .cons (Im.mono t h) (ImAll.mono t hs)
end
mutual
theorem Im.dp : ∀ {v : V} {d : PyData}, Im K H v d → Dp K H v d
  | _, _, .non => .non
  | _, _, .bl b => .bl b
  | _, _, .int i => .int i
  | _, _, .str x => .str x
  | _, _, .tup h hs => .tup h (ImAll.dp hs)
theorem ImAll.dp : ∀ {vs : List V} {ds : List PyData}, ImAll K H vs ds → DpAll K H vs ds
  | _, _, .nil => .nil
  | _, _, .cons h hs => .cons (Im.dp h) (ImAll.dp hs)
end
theorem ImAll.length : ∀ {vs : List V} {ds : List PyData}, ImAll K H vs ds → vs.length = ds.length
  | _, _, .nil => rfl
  | _, _, .cons _ hs => congrArg Nat.succ (ImAll.length hs)
theorem ImAll.app : ∀ {vs ws : List V} {ds es : List PyData}, ImAll K H vs ds → ImAll K H ws es → ImAll K H (vs ++ ws) (ds ++ es)
  | _, _, _, _, .nil, h => h
  | _, _, _, _, .cons a b, h => .cons a (ImAll.app b h)
theorem ImAll.snoc {vs : List V} {ds : List PyData} {v : V} {d : PyData} (h : ImAll K H vs ds) (a : Im K H v d) : ImAll K H (vs ++ [v]) (ds ++ [d]) := h.app (.cons a .nil)
theorem ImAll.get : ∀ {vs : List V} {ds : List PyData} {i : Nat} {v : V}, ImAll K H vs ds → vs[i]? = some v → ∃ d, ds[i]? = some d ∧ Im K H v d
  | _, _, i, _, .nil, e => by simp at e
  | _, _, 0, _, .cons a _, e => by
    simp at e
    subst e
    exact ⟨_, rfl, a⟩
  | _, _, i + 1, v, .cons _ b, e => by
    obtain ⟨d, h1, h2⟩ := ImAll.get (i := i) (v := v) b (by simpa using e)
    exact ⟨d, by simpa using h1, h2⟩
theorem ImAll.getD : ∀ {vs : List V} {ds : List PyData} {i : Nat} {d : PyData}, ImAll K H vs ds → ds[i]? = some d → ∃ v, vs[i]? = some v ∧ Im K H v d
  | _, _, i, _, .nil, e => by simp at e
  | _, _, 0, _, .cons a _, e => by
    simp at e
    subst e
    exact ⟨_, rfl, a⟩
  | _, _, i + 1, d, .cons _ b, e => by
    obtain ⟨v, h1, h2⟩ := ImAll.getD (i := i) (d := d) b (by simpa using e)
    exact ⟨v, by simpa using h1, h2⟩
theorem ImAll.take : ∀ {vs : List V} {ds : List PyData} (n : Nat), ImAll K H vs ds → ImAll K H (vs.take n) (ds.take n)
  | _, _, 0, _ => by simp only [List.take_zero]; exact .nil
  | _, _, n + 1, .nil => by simp only [List.take_nil]; exact .nil
  | _, _, n + 1, .cons a b => .cons a (ImAll.take n b)
theorem ImAll.drop : ∀ {vs : List V} {ds : List PyData} (n : Nat), ImAll K H vs ds → ImAll K H (vs.drop n) (ds.drop n)
  | _, _, 0, h => h
  | _, _, n + 1, .nil => by simp only [List.drop_nil]; exact .nil
  | _, _, n + 1, .cons a b => ImAll.drop n b
theorem im_int {v : V} {i : Int} (h : Im K H v (.int i)) : v = .int i := by cases h; rfl
theorem im_str {v : V} {x : Str} (h : Im K H v (.str x)) : v = .str x := by cases h; rfl
theorem im_bl {v : V} {b : Bool} (h : Im K H v (.bool b)) : v = .bl b := by cases h; rfl
theorem im_tup {v : V} {ds : List PyData} (h : Im K H v (.tuple ds)) : ∃ a xs, v = .ref a ∧ SqT K H a xs ∧ ImAll K H xs ds := by
  cases h with
  | tup h hs => exact ⟨_, _, rfl, h, hs⟩
end
theorem sqt_of {K : PySem.W.Frag} {H : Hp} {p : Addr} {xs : List V} (h : H p = some (.tup xs)) : SqT K H p xs := .inl (.inl h)
theorem sql_of {K : PySem.W.Frag} {H : Hp} {p : Addr} {xs : List V} (h : H p = some (.lst xs)) : SqL K H p xs := .inl (.inl h)
end Ls
namespace Ls
open PySem PySem.Spec PyProof.Rows L2
section
variable {K : PySem.W.Frag} {σ : L2.St} {H : Hp} {Q : VK} {D : Ends} {ta tb tc te td ty tv : TE} {tt tu : TT} {t u : TS} {tl : TA} {x y z v : V} {i j : Int} {b c : Bool} {a p l : Addr} {xs ys : List V}
theorem k_seq (h : t { D with nx := u D } σ H) : tSeq t u D σ H := h
theorem k_next (h : D.nx σ H) : tNext D σ H := h
theorem k_brk (h : D.bk σ H) : tBreak D σ H := h
theorem k_cont (h : D.ct σ H) : tCont D σ H := h
theorem k_drop (h : te σ H fun _ H1 => D.nx σ H1) : tDrop te D σ H := h
theorem k_ret (h : te σ H D.rt) : tRet te D σ H := h
theorem k_retN (h : D.rt .non H) : tRetN D σ H := h
theorem k_if (h : tt σ H fun b H1 => if b = true then t D σ H1 else u D σ H1) : tIfS tt t u D σ H := h
theorem k_asg {g : TG} (h : te σ H fun x H1 => g x σ H1 D.nx) : tAsg te g D σ H := h
theorem k_par {i j : Nat} (h : tl σ H fun vs H1 => ∃ v w, vs = [v, w] ∧ D.nx ((σ.set i (some v)).set j (some w)) H1) : tPar i j tl D σ H := h
theorem k_par2 {Q : V → V → Prop} (h : Q x y) : ∃ v w, [x, y] = [v, w] ∧ Q v w := ⟨x, y, rfl, h⟩
theorem k_gtup {n : Nat} {tg : TGs} {R : L2.St → Hp → Prop} (h1 : SqT K H a xs) (h2 : xs.length = n) (h : tg xs σ H R) : gTup K n tg (.ref a) σ H R := ⟨a, xs, rfl, h1, h2, h⟩
theorem k_gcons {tg : TG} {ug : TGs} {R : L2.St → Hp → Prop} (h : tg x σ H fun σ' H' => ug xs σ' H' R) : gCons tg ug (x :: xs) σ H R := ⟨x, xs, rfl, h⟩
theorem k_gnil {R : L2.St → Hp → Prop} (h : R σ H) : gNil [] σ H R := ⟨rfl, h⟩
theorem k_c (q : Q v H) : tC v σ H Q := q
theorem k_op {r : R2} (h : ta σ H fun x H1 => tb σ H1 fun y H2 => r x y H2 Q) : tOp r ta tb σ H Q := h
theorem k_un {r : V → Hp → VK → Prop} (h : ta σ H fun x H1 => r x H1 Q) : tUn r ta σ H Q := h
theorem k_cb {r : List V → Hp → VK → Prop} (h : tl σ H fun vs H1 => r vs H1 Q) : tCB r tl σ H Q := h
theorem k_nil {R : List V → Hp → Prop} (h : R [] H) : tNil σ H R := h
theorem k_cons {R : List V → Hp → Prop} (h : ta σ H fun x H1 => tl σ H1 fun xs H2 => R (x :: xs) H2) : tCons ta tl σ H R := h
theorem k_call {sp : Sp} {dvs : List V} {E : XK} (h : tl σ H fun vs H1 => sp (vs ++ dvs) H1 Q E) : tCall sp dvs E tl σ H Q := h
theorem k_callN {n m : Nat} {sp : Sp} {gV : List V → List V → List V} {E : XK} {tk : TA} (h : tl σ H fun vs H1 => tk σ H1 fun zs H2 => vs.length = n ∧ zs.length = m ∧ sp (gV vs zs) H2 Q E) : tCallN n m sp gV E tl tk σ H Q := h
theorem k_tup (h : tl σ H fun xs H1 => xs.length ≤ sizeLine ∧ ∀ p, H1 p = none → Q (.ref p) (upd H1 p (.tup xs))) : tTup tl σ H Q := h
theorem k_lst (h : tl σ H fun xs H1 => xs.length ≤ sizeLine ∧ ∀ p, H1 p = none → Q (.ref p) (upd H1 p (.lst xs))) : tLst tl σ H Q := h
theorem k_new {P : Prop} (h1 : xs.length ≤ sizeLine) (h : P) : xs.length ≤ sizeLine ∧ P := ⟨h1, h⟩
theorem k_test {R : Bool → Hp → Prop} (h : te σ H fun x H' => ∃ k, x = .bl k ∧ R k H') : tTest te σ H R := h
theorem k_B {R : Bool → Hp → Prop} (h : te σ H fun x H' => ∃ k, x = .bl k ∧ R k H') : tB te σ H R := h
theorem k_bl {R : Bool → Prop} (h : R b) : ∃ k, V.bl b = .bl k ∧ R k := ⟨b, rfl, h⟩
theorem k_and {R : Bool → Hp → Prop} (h : tt σ H fun c H1 => if c = true then tu σ H1 R else R false H1) : tAnd tt tu σ H R := h
theorem k_or {R : Bool → Hp → Prop} (h : tt σ H fun c H1 => if c = true then R true H1 else tu σ H1 R) : tOr tt tu σ H R := h
theorem k_not {R : Bool → Hp → Prop} (h : tt σ H fun c H1 => R (!c) H1) : tNot tt σ H R := h
theorem k_andV (h : ta σ H fun x H1 => ∃ c, x = .bl c ∧ if c = true then tb σ H1 Q else Q (.bl false) H1) : tAndV ta tb σ H Q := h
theorem k_orV (h : ta σ H fun x H1 => ∃ c, x = .bl c ∧ if c = true then Q (.bl true) H1 else tb σ H1 Q) : tOrV ta tb σ H Q := h
theorem k_notV (h : ta σ H fun x H1 => ∃ c, x = .bl c ∧ Q (.bl (!c)) H1) : tNotV ta σ H Q := h
theorem k_ifE (h : tt σ H fun c H1 => if c = true then ta σ H1 Q else tb σ H1 Q) : tIf tt ta tb σ H Q := h
theorem k_yes {R : Bool → Hp → Prop} (h : R true H) : tYes σ H R := h
theorem k_chain {r r' : R2} (h : ta σ H fun x H1 => tb σ H1 fun y H2 => r x y H2 fun z H3 => ∃ k, z = .bl k ∧ (if k = true then tc σ H3 fun w' H4 => r' y w' H4 Q else Q (.bl false) H3)) : tChain r r' ta tb tc σ H Q := h
theorem k_dget (h : td σ H fun x H1 => ty σ H1 fun y H2 => ∃ a v, x = .ref a ∧ DGet H2 a y (some v) ∧ Q v H2) : tDGet td ty σ H Q := h
theorem k_dput (h : tv σ H fun v H1 => td σ H1 fun x H2 => ty σ H2 fun y H3 => ∃ a H4, x = .ref a ∧ DPut H3 a y v H4 ∧ D.nx σ H4) : sDPut td ty tv D σ H := h
theorem k_din (h : ty σ H fun y H1 => td σ H1 fun x H2 => ∃ a o, x = .ref a ∧ DGet H2 a y o ∧ Q (.bl o.isSome) H2) : tDIn ty td σ H Q := h
theorem k_dnotin (h : ty σ H fun y H1 => td σ H1 fun x H2 => ∃ a o, x = .ref a ∧ DGet H2 a y o ∧ Q (.bl (!o.isSome)) H2) : tDNotIn ty td σ H Q := h
theorem k_getI {kvs : List (Key × V)} {R : V → Prop} {k : Int} (h1 : H a = some (.dK kvs)) (h2 : valV kvs (.inl k) = some v) (h : R v) : ∃ b w, V.ref a = .ref b ∧ DGet H b (.int k) (some w) ∧ R w :=
  ⟨a, v, rfl, .inl ⟨kvs, .inl k, .inl h1, rfl, h2.symm⟩, h⟩
theorem k_getS {kvs : List (Key × V)} {R : V → Prop} {k : Str} (h1 : H a = some (.dK kvs)) (h2 : valV kvs (.inr k) = some v) (h : R v) : ∃ b w, V.ref a = .ref b ∧ DGet H b (.str k) (some w) ∧ R w :=
  ⟨a, v, rfl, .inl ⟨kvs, .inr k, .inl h1, rfl, h2.symm⟩, h⟩
theorem k_isI {kvs : List (Key × V)} {R : Option V → Prop} {k : Int} (h1 : H a = some (.dK kvs)) (h : R (valV kvs (.inl k))) : ∃ b o, V.ref a = .ref b ∧ DGet H b (.int k) o ∧ R o := ⟨a, _, rfl, .inl ⟨kvs, .inl k, .inl h1, rfl, rfl⟩, h⟩
theorem k_putI {kvs : List (Key × V)} {R : Hp → Prop} {k : Int} (h1 : H a = some (.dK kvs)) (h2 : kvs.length < sizeLine) (h : R (upd H a (.dK (putK kvs (.inl k) v)))) : ∃ b H4, V.ref a = .ref b ∧ DPut H b (.int k) v H4 ∧ R H4 :=
  ⟨a, _, rfl, .inl ⟨kvs, .inl k, h1, rfl, h2, rfl⟩, h⟩
theorem k_putS {kvs : List (Key × V)} {R : Hp → Prop} {k : Str} (h1 : H a = some (.dK kvs)) (h2 : kvs.length < sizeLine) (h : R (upd H a (.dK (putK kvs (.inr k) v)))) : ∃ b H4, V.ref a = .ref b ∧ DPut H b (.str k) v H4 ∧ R H4 :=
  ⟨a, _, rfl, .inl ⟨kvs, .inr k, h1, rfl, h2, rfl⟩, h⟩
theorem k_addI (q : Q (.int (i + j)) H) : rAddU K (.int i) (.int j) H Q := .inl ⟨i, j, rfl, rfl, q⟩
theorem k_addS {x y : Str} (h : x.length + y.length ≤ sizeLine) (q : Q (.str (x ++ y)) H) : rAddU K (.str x) (.str y) H Q := .inr (.inl ⟨x, y, rfl, rfl, h, q⟩)
theorem k_addL (h1 : H a = some (.lst xs)) (h2 : H l = some (.lst ys)) (h3 : xs.length + ys.length ≤ sizeLine) (q : ∀ p, H p = none → Q (.ref p) (upd H p (.lst (xs ++ ys)))) : rAddU K (.ref a) (.ref l) H Q := .inr (.inr (.inl ⟨a, l, xs, ys, rfl, rfl, h1, h2, h3, q⟩))
theorem k_addT (h1 : SqT K H a xs) (h2 : SqT K H l ys) (h3 : xs.length + ys.length ≤ sizeLine) (q1 : xs = [] → Q (.ref l) H) (q2 : xs ≠ [] → ys = [] → Q (.ref a) H) (q : ∀ p, H p = none → Q (.ref p) (upd H p (.tup (xs ++ ys)))) : rAddU K (.ref a) (.ref l) H Q :=
  .inr (.inr (.inr ⟨a, l, xs, ys, rfl, rfl, h1, h2, h3, q1, q2, fun _ _ => q⟩))
theorem k_sub (q : Q (.int (i - j)) H) : rI0 (fun i j => .int (i - j)) (.int i) (.int j) H Q := ⟨i, j, rfl, rfl, q⟩
theorem k_mulR (h : -(2 ^ 64) < j ∧ j < 2 ^ 64) (q : Q (.int (i * j)) H) : rI CMul (fun i j => .int (i * j)) (.int i) (.int j) H Q := ⟨i, j, rfl, rfl, .inr h, q⟩
theorem k_mulL (h : -(2 ^ 64) < i ∧ i < 2 ^ 64) (q : Q (.int (i * j)) H) : rI CMul (fun i j => .int (i * j)) (.int i) (.int j) H Q := ⟨i, j, rfl, rfl, .inl h, q⟩
theorem k_mod (h : 0 < j) (q : Q (.int (i % j)) H) : rI (fun _ j => 0 < j) (fun i j => .int (i % j)) (.int i) (.int j) H Q := ⟨i, j, rfl, rfl, h, q⟩
theorem k_fdiv (h : 0 < j) (h2 : j < 2 ^ 200) (q : Q (.int (i / j)) H) : rI CDivW (fun i j => .int (i / j)) (.int i) (.int j) H Q := ⟨i, j, rfl, rfl, wide_div h (b := 200) (by omega) (by decide) (by decide), q⟩
theorem k_neg (q : Q (.int (-i)) H) : rU (fun i => .int (-i)) (.int i) H Q := ⟨i, rfl, q⟩
theorem k_lt (q : Q (.bl (decide (i < j))) H) : rI0 (fun i j => .bl (decide (i < j))) (.int i) (.int j) H Q := ⟨i, j, rfl, rfl, q⟩
theorem k_le (q : Q (.bl (decide (i ≤ j))) H) : rI0 (fun i j => .bl (decide (i ≤ j))) (.int i) (.int j) H Q := ⟨i, j, rfl, rfl, q⟩
theorem k_gt (q : Q (.bl (decide (j < i))) H) : rI0 (fun i j => .bl (decide (j < i))) (.int i) (.int j) H Q := ⟨i, j, rfl, rfl, q⟩
theorem k_ge (q : Q (.bl (decide (j ≤ i))) H) : rI0 (fun i j => .bl (decide (j ≤ i))) (.int i) (.int j) H Q := ⟨i, j, rfl, rfl, q⟩
theorem dec_eqI : decide (V.int i = V.int j) = decide (i = j) := by
  by_cases h : i = j
  · subst h; simp
  · rw [decide_eq_false h]; exact decide_eq_false fun e => h (V.int.inj e)
theorem dec_eqS {x y : Str} : decide (V.str x = V.str y) = decide (x = y) := by
  by_cases h : x = y
  · subst h; simp
  · rw [decide_eq_false h]; exact decide_eq_false fun e => h (V.str.inj e)
theorem k_eqI (q : Q (.bl (decide (i = j))) H) : rEqU K (.int i) (.int j) H Q := .inl ⟨rfl, by rw [dec_eqI]; exact q⟩
theorem k_neI (q : Q (.bl (!decide (i = j))) H) : rNeU K (.int i) (.int j) H Q := .inl ⟨rfl, by rw [dec_eqI]; exact q⟩
theorem k_eqS {x y : Str} (q : Q (.bl (decide (x = y))) H) : rEqU K (.str x) (.str y) H Q := .inl ⟨rfl, by rw [dec_eqS]; exact q⟩
theorem k_neS {x y : Str} (q : Q (.bl (!decide (x = y))) H) : rNeU K (.str x) (.str y) H Q := .inl ⟨rfl, by rw [dec_eqS]; exact q⟩
theorem k_eqB (q : Q (.bl (decide (b = c))) H) : rEqU K (.bl b) (.bl c) H Q := .inl ⟨rfl, by
  have e : decide (V.bl b = V.bl c) = decide (b = c) := by cases b <;> cases c <;> decide
  rw [e]; exact q⟩
theorem k_neB (q : Q (.bl (!decide (b = c))) H) : rNeU K (.bl b) (.bl c) H Q := .inl ⟨rfl, by
  have e : decide (V.bl b = V.bl c) = decide (b = c) := by cases b <;> cases c <;> decide
  rw [e]; exact q⟩
theorem k_eqD {d e : PyData} (h1 : Dp K H x d) (h2 : Dp K H y e) (s1 : SeqAt.shaped d = true) (s2 : SeqAt.shaped e = true) (q : Q (.bl (PyData.eqv d e)) H) : rEqU K x y H Q := .inr ⟨d, e, h1, h2, s1, s2, q⟩
theorem k_neD {d e : PyData} (h1 : Dp K H x d) (h2 : Dp K H y e) (s1 : SeqAt.shaped d = true) (s2 : SeqAt.shaped e = true) (q : Q (.bl (!PyData.eqv d e)) H) : rNeU K x y H Q := .inr ⟨d, e, h1, h2, s1, s2, q⟩
theorem k_isN (q : Q (.bl (decide (x = .non))) H) : rIsU x .non H Q := .inl ⟨rfl, q⟩
theorem k_isnotN (q : Q (.bl (!decide (x = .non))) H) : rIsNotU x .non H Q := .inl ⟨rfl, q⟩
theorem k_lenL (h : SqL K H a xs) (q : Q (.int xs.length) H) : rLenU K [.ref a] H Q := .inl ⟨a, xs, rfl, .inl h, q⟩
theorem k_lenT (h : SqT K H a xs) (q : Q (.int xs.length) H) : rLenU K [.ref a] H Q := .inl ⟨a, xs, rfl, .inr h, q⟩
theorem k_lenS {w : Str} (h : w.length ≤ sizeLine) (q : Q (.int w.length) H) : rLenU K [.str w] H Q := .inr (.inl ⟨w, rfl, h, q⟩)
theorem k_ixL (h : SqL K H a xs) (h2 : atI xs i = some v) (q : Q v H) : rIx K (.ref a) (.int i) H Q := .inl ⟨a, xs, i, v, rfl, rfl, h, h2, q⟩
theorem k_ixT (h : SqT K H a xs) (h2 : atI xs i = some v) (q : Q v H) : rIx K (.ref a) (.int i) H Q := .inr (.inl ⟨a, xs, i, v, rfl, rfl, h, h2, q⟩)
theorem k_ixS {w : Str} {c : Nat} (h : w.length ≤ sizeLine) (h2 : atI w.cps.toList i = some c) (q : Q (.str ⟨#[c]⟩) H) : rIx K (.str w) (.int i) H Q := .inr (.inr ⟨w, i, c, rfl, rfl, h, h2, q⟩)
theorem k_bm {T : String} {r : V → List V → Hp → VK → Prop} (h : ta σ H fun x H1 => tyV K T x H1 ∧ tl σ H1 fun xs H2 => r x xs H2 Q) : tBM K T r ta tl σ H Q := h
theorem k_bm0 {T : String} {r : V → List V → Hp → VK → Prop} (h : ta σ H fun x H1 => tyV K T x H1 ∧ r x [] H1 Q) : tBM0 K T r ta σ H Q := h
theorem k_tyL {P : Prop} (h : SqL K H a xs) (q : P) : tyV K "list" (.ref a) H ∧ P := ⟨.inl ⟨rfl, _, h⟩, q⟩
theorem k_app (h : H a = some (.lst xs)) (hl : xs.length < sizeLine) (q : Q .non (upd H a (.lst (xs ++ [x])))) : rAppend (.ref a) [x] H Q := ⟨a, xs, x, rfl, rfl, h, hl, q⟩
theorem k_sl {r : V → Option Int → Option Int → Hp → VK → Prop} {tlo thi : TO} (h : te σ H fun x H1 => tlo σ H1 fun l H2 => thi σ H2 fun u H3 => r x l u H3 Q) : tSl r te tlo thi σ H Q := h
theorem k_nop {R : Option Int → Hp → Prop} (h : R none H) : tNoPart σ H R := h
theorem k_part {R : Option Int → Hp → Prop} (h : te σ H fun x H1 => ∃ i, x = .int i ∧ R (some i) H1) : tPart te σ H R := h
theorem k_partI {R : Int → Prop} (h : R i) : ∃ k, V.int i = .int k ∧ R k := ⟨i, rfl, h⟩
theorem k_slL {lo hi : Option Int} (h : SqL K H a xs) (q : ∀ p, H p = none → Q (.ref p) (upd H p (.lst (cutV xs lo hi)))) : rSlU K (.ref a) lo hi H Q := .inl ⟨a, xs, rfl, h, q⟩
theorem k_list (h : SqL K H a xs) (q : ∀ p, H p = none → Q (.ref p) (upd H p (.lst xs))) : rListU K [V.ref a] H Q := ⟨a, xs, rfl, .inl h, q⟩
theorem k_for {wi : TI} {g : TG} {tb : TS} (h : wi σ H fun J H1 => ∃ W : Nat → Nat → L2.St → Hp → Prop, (∃ m, W 0 m σ H1) ∧ ∀ i m σ H, W i m σ H → (J.stop i H ∧ D.nx σ H) ∨ (J.go i H ∧ ∃ N : L2.St → Hp → Prop, (∀ σ' H', N σ' H' → ∃ m', m' < m ∧ W (i + 1) m' σ' H') ∧ ∀ x H', J.yld i H x H' → g x σ H' fun σ2 H2 => tb { D with nx := N, ct := N, bk := D.nx } σ2 H2)) : tFor wi g tb D σ H := h
theorem k_itL {R : It → Hp → Prop} (h : te σ H fun x H1 => ∃ a, x = .ref a ∧ (∃ xs, SqL K H1 a xs) ∧ R (Itl K a) H1) : iList K te σ H R := h
theorem k_itl {R : Addr → Prop} (h1 : SqL K H a xs) (h : R a) : ∃ b, V.ref a = .ref b ∧ (∃ xs, SqL K H b xs) ∧ R b := ⟨a, rfl, ⟨xs, h1⟩, h⟩
theorem k_itT {R : It → Hp → Prop} (h : te σ H fun x H1 => ∃ a, x = .ref a ∧ (∃ xs, SqT K H1 a xs) ∧ R (Itt K a) H1) : iTup K te σ H R := h
theorem k_itR1 {R : It → Hp → Prop} (h : tl σ H fun vs H1 => ∃ j : Int, vs = [.int j] ∧ -(2 ^ 62) ≤ j ∧ j < 2 ^ 62 ∧ R (Itr 0 j.toNat) H1) : iRng1 tl σ H R := h
theorem k_itr1 {R : Int → Prop} (h1 : -(2 ^ 62) ≤ j ∧ j < 2 ^ 62) (h : R j) : ∃ k : Int, [V.int j] = [.int k] ∧ -(2 ^ 62) ≤ k ∧ k < 2 ^ 62 ∧ R k := ⟨j, rfl, h1.1, h1.2, h⟩
theorem k_itR2 {R : It → Hp → Prop} (h : tl σ H fun vs H1 => ∃ i j : Int, vs = [.int i, .int j] ∧ (-(2 ^ 62) ≤ i ∧ i < 2 ^ 62 ∧ -(2 ^ 62) ≤ j ∧ j < 2 ^ 62) ∧ R (Itr i (j - i).toNat) H1) : iRng2 tl σ H R := h
theorem k_dnew (q : ∀ p, H p = none → Q (.ref p) (upd H p (.dK []))) : tDNewK σ H Q := q
end
theorem k_ite {b : Bool} {A B : Prop} (h1 : b = true → A) (h2 : b = false → B) : if b = true then A else B := by
  cases b with
  | true => rw [if_pos rfl]; exact h1 rfl
  | false => rw [if_neg Bool.false_ne_true]; exact h2 rfl
theorem k_itd {p A B : Prop} [Decidable p] (h1 : p → A) (h2 : ¬ p → B) : if decide p = true then A else B := k_ite (fun h => h1 (of_decide_eq_true h)) fun h => h2 (of_decide_eq_false h)
theorem k_itn {p A B : Prop} [Decidable p] (h1 : ¬ p → A) (h2 : p → B) : if (!decide p) = true then A else B := k_ite (fun h => h1 (of_decide_eq_false (by simpa using h))) fun h => h2 (of_decide_eq_true (by simpa using h))
theorem k_pos {p A B : Prop} [Decidable p] (hp : p) (h1 : A) : if decide p = true then A else B := k_itd (fun _ => h1) fun h => absurd hp h
theorem k_neg' {p A B : Prop} [Decidable p] (hp : ¬ p) (h1 : B) : if decide p = true then A else B := k_itd (fun h => absurd h hp) fun _ => h1
theorem k_npos {p A B : Prop} [Decidable p] (hp : ¬ p) (h1 : A) : if (!decide p) = true then A else B := k_itn (fun _ => h1) fun h => absurd h hp
theorem k_nneg {p A B : Prop} [Decidable p] (hp : p) (h1 : B) : if (!decide p) = true then A else B := k_itn (fun h => absurd hp h) fun _ => h1
theorem k_tt {A B : Prop} (h : A) : if true = true then A else B := by rw [if_pos rfl]; exact h
theorem k_ff {A B : Prop} (h : B) : if false = true then A else B := by rw [if_neg Bool.false_ne_true]; exact h
theorem up_new {H : Hp} {a p : Addr} {o u : HO} (hp : H p = none) (h : H a = some o) : upd H p u a = some o := same_new hp _ _ h
theorem up_ne {H : Hp} {a p : Addr} {o u : HO} (n : a ≠ p) (h : H a = some o) : upd H p u a = some o := by rw [upd_ne n]; exact h
theorem Keep.at {d a : Addr} {H H' : Hp} {o : HO} (k : Keep d H H') (n : a ≠ d) (h : H a = some o) : H' a = some o := k a o n h
end Ls
namespace Ls
theorem hu1 {n : Nat} (h : n + 66 < PySem.cLine) : n + 1 < PySem.cLine := by omega
end Ls
namespace Ls
open PySem PySem.Spec PyProof.Rows L2
theorem k_body {t : TS} {D : Ends} {s0 s1 : L2.St} {H : Hp} (e : s0 = s1) (h : t D s1 H) : t D s0 H := e ▸ h
end Ls
namespace Ls
open PySem PySem.Spec PyProof.Rows L2
/-- a statement, then the rest, the ways joined between: M what holds there -/
def tCut (t u : TS) : TS := fun D σ H => ∃ M : L2.St → Hp → Prop, t { D with nx := M } σ H ∧ ∀ σ' H', M σ' H' → u D σ' H'
theorem k_cut {t u : TS} {D : Ends} {σ : L2.St} {H : Hp} (M : L2.St → Hp → Prop) (h1 : t { D with nx := M } σ H) (h2 : ∀ σ' H', M σ' H' → u D σ' H') : tCut t u D σ H := ⟨M, h1, h2⟩
end Ls
namespace Ls
open PySem PySem.Spec PyProof.Rows L2
theorem pss_cut {X : Cx} {st : Stmt} {rest : List Stmt} {t u : TS} (h1 : PS X st t) (h2 : PSs X rest u) : PSs X (st :: rest) (tCut t u) := by
  refine ⟨fun pins s σ H D I h => ?_⟩
  obtain ⟨M, hm, hu⟩ := h
  refine wpAny_execs_cons (thn (h1.run pins s σ H { D with nx := M } I hm) fun f s1 q => ?_)
  cases f with
  | next =>
    obtain ⟨σ', H', I', q⟩ := q
    exact h2.run pins s1 σ' H' D I' (hu σ' H' q)
  | ret v => exact q
  | brk => exact q
  | cont => exact q
theorem k_powL {H : Hp} {Q : VK} {i j v : Int} (h1 : 0 ≤ j ∧ j ≤ 1000000) (h3 : i.natAbs < 2 ^ 64) (e : i ^ j.toNat = v) (q : Q (.int v) H) : rI CPow (fun i j => .int (i ^ j.toNat)) (.int i) (.int j) H Q := ⟨i, j, rfl, rfl, ⟨h1.1, h1.2, h3⟩, by
  show Q (.int (i ^ j.toNat)) H
  rw [e]
  exact q⟩
end Ls
namespace Ls
open PySem PySem.Spec PyProof.Rows L2
theorem pe_ty {X : Cx} {x : Str} {pos : Pos} (T : String) (hg : Gl X x) (hm : X.mg x = none) (hv : bootBuiltins x = some (.type T)) (hn : x ≠ "__name__" := by decide) (hd : (x == ("__debug__" : Str)) = false := by decide) : PE X (.Name x pos) (tC (.ty T)) := pe_bltn (v := .ty T) hg hm hv rfl hn hd
end Ls
namespace Ls
open PySem PySem.Spec PyProof.Rows L2
theorem pe_gc {X : Cx} {x : Str} {pos : Pos} {v : V} (hg : Gl X x) (h : ∃ u, X.mg x = some u ∧ RelV v u) (hd : (x == ("__debug__" : Str)) = false := by decide) : PE X (.Name x pos) (tC v) := by
  obtain ⟨u, h1, h2⟩ := h
  exact pe_glob hg h1 h2 hd
end Ls
namespace Ls
theorem k_nt {A B : Prop} (h : B) : if (!true) = true then A else B := by rw [if_neg (by decide)]; exact h
theorem k_nf {A B : Prop} (h : A) : if (!false) = true then A else B := by rw [if_pos (by decide)]; exact h
end Ls
namespace Ls
open PySem PySem.Spec PyProof.Rows L2
section
variable {H : Hp} {Q : VK} {D : Ends} {te : TE} {v x : V} {s : L2.St} {R : L2.St → Hp → Prop} {o0 o1 o2 o3 o4 o5 o6 o7 o8 o9 o10 o11 o12 o13 o14 o15 o16 o17 o18 o19 o20 o21 o22 o23 o24 o25 o26 o27 o28 o29 o30 o31 o32 o33 o34 o35 o36 o37 o38 o39 o40 o41 o42 o43 : Option V}
theorem k_v0 (q : Q v H) : tVar 0 (some v :: s) H Q := ⟨v, rfl, q⟩
theorem k_s0 (q : te (o0 :: s) H fun x H1 => D.nx (some x :: s) H1) : tAsg te (gName 0) D (o0 :: s) H := q
theorem k_g0 (q : R (some x :: s) H) : gName 0 x (o0 :: s) H R := q
theorem k_v1 (q : Q v H) : tVar 1 (o0 :: some v :: s) H Q := ⟨v, rfl, q⟩
theorem k_s1 (q : te (o0 :: o1 :: s) H fun x H1 => D.nx (o0 :: some x :: s) H1) : tAsg te (gName 1) D (o0 :: o1 :: s) H := q
theorem k_g1 (q : R (o0 :: some x :: s) H) : gName 1 x (o0 :: o1 :: s) H R := q
theorem k_v2 (q : Q v H) : tVar 2 (o0 :: o1 :: some v :: s) H Q := ⟨v, rfl, q⟩
theorem k_s2 (q : te (o0 :: o1 :: o2 :: s) H fun x H1 => D.nx (o0 :: o1 :: some x :: s) H1) : tAsg te (gName 2) D (o0 :: o1 :: o2 :: s) H := q
theorem k_g2 (q : R (o0 :: o1 :: some x :: s) H) : gName 2 x (o0 :: o1 :: o2 :: s) H R := q
theorem k_v3 (q : Q v H) : tVar 3 (o0 :: o1 :: o2 :: some v :: s) H Q := ⟨v, rfl, q⟩
theorem k_s3 (q : te (o0 :: o1 :: o2 :: o3 :: s) H fun x H1 => D.nx (o0 :: o1 :: o2 :: some x :: s) H1) : tAsg te (gName 3) D (o0 :: o1 :: o2 :: o3 :: s) H := q
theorem k_g3 (q : R (o0 :: o1 :: o2 :: some x :: s) H) : gName 3 x (o0 :: o1 :: o2 :: o3 :: s) H R := q
theorem k_v4 (q : Q v H) : tVar 4 (o0 :: o1 :: o2 :: o3 :: some v :: s) H Q := ⟨v, rfl, q⟩
theorem k_s4 (q : te (o0 :: o1 :: o2 :: o3 :: o4 :: s) H fun x H1 => D.nx (o0 :: o1 :: o2 :: o3 :: some x :: s) H1) : tAsg te (gName 4) D (o0 :: o1 :: o2 :: o3 :: o4 :: s) H := q
theorem k_g4 (q : R (o0 :: o1 :: o2 :: o3 :: some x :: s) H) : gName 4 x (o0 :: o1 :: o2 :: o3 :: o4 :: s) H R := q
theorem k_v5 (q : Q v H) : tVar 5 (o0 :: o1 :: o2 :: o3 :: o4 :: some v :: s) H Q := ⟨v, rfl, q⟩
theorem k_s5 (q : te (o0 :: o1 :: o2 :: o3 :: o4 :: o5 :: s) H fun x H1 => D.nx (o0 :: o1 :: o2 :: o3 :: o4 :: some x :: s) H1) : tAsg te (gName 5) D (o0 :: o1 :: o2 :: o3 :: o4 :: o5 :: s) H := q
theorem k_g5 (q : R (o0 :: o1 :: o2 :: o3 :: o4 :: some x :: s) H) : gName 5 x (o0 :: o1 :: o2 :: o3 :: o4 :: o5 :: s) H R := q
theorem k_v6 (q : Q v H) : tVar 6 (o0 :: o1 :: o2 :: o3 :: o4 :: o5 :: some v :: s) H Q := ⟨v, rfl, q⟩
theorem k_s6 (q : te (o0 :: o1 :: o2 :: o3 :: o4 :: o5 :: o6 :: s) H fun x H1 => D.nx (o0 :: o1 :: o2 :: o3 :: o4 :: o5 :: some x :: s) H1) : tAsg te (gName 6) D (o0 :: o1 :: o2 :: o3 :: o4 :: o5 :: o6 :: s) H := q
theorem k_g6 (q : R (o0 :: o1 :: o2 :: o3 :: o4 :: o5 :: some x :: s) H) : gName 6 x (o0 :: o1 :: o2 :: o3 :: o4 :: o5 :: o6 :: s) H R := q
theorem k_v7 (q : Q v H) : tVar 7 (o0 :: o1 :: o2 :: o3 :: o4 :: o5 :: o6 :: some v :: s) H Q := ⟨v, rfl, q⟩
theorem k_s7 (q : te (o0 :: o1 :: o2 :: o3 :: o4 :: o5 :: o6 :: o7 :: s) H fun x H1 => D.nx (o0 :: o1 :: o2 :: o3 :: o4 :: o5 :: o6 :: some x :: s) H1) : tAsg te (gName 7) D (o0 :: o1 :: o2 :: o3 :: o4 :: o5 :: o6 :: o7 :: s) H := q
theorem k_g7 (q : R (o0 :: o1 :: o2 :: o3 :: o4 :: o5 :: o6 :: some x :: s) H) : gName 7 x (o0 :: o1 :: o2 :: o3 :: o4 :: o5 :: o6 :: o7 :: s) H R := q
theorem k_v8 (q : Q v H) : tVar 8 (o0 :: o1 :: o2 :: o3 :: o4 :: o5 :: o6 :: o7 :: some v :: s) H Q := ⟨v, rfl, q⟩
theorem k_s8 (q : te (o0 :: o1 :: o2 :: o3 :: o4 :: o5 :: o6 :: o7 :: o8 :: s) H fun x H1 => D.nx (o0 :: o1 :: o2 :: o3 :: o4 :: o5 :: o6 :: o7 :: some x :: s) H1) : tAsg te (gName 8) D (o0 :: o1 :: o2 :: o3 :: o4 :: o5 :: o6 :: o7 :: o8 :: s) H := q
theorem k_g8 (q : R (o0 :: o1 :: o2 :: o3 :: o4 :: o5 :: o6 :: o7 :: some x :: s) H) : gName 8 x (o0 :: o1 :: o2 :: o3 :: o4 :: o5 :: o6 :: o7 :: o8 :: s) H R := q
theorem k_v9 (q : Q v H) : tVar 9 (o0 :: o1 :: o2 :: o3 :: o4 :: o5 :: o6 :: o7 :: o8 :: some v :: s) H Q := ⟨v, rfl, q⟩
theorem k_s9 (q : te (o0 :: o1 :: o2 :: o3 :: o4 :: o5 :: o6 :: o7 :: o8 :: o9 :: s) H fun x H1 => D.nx (o0 :: o1 :: o2 :: o3 :: o4 :: o5 :: o6 :: o7 :: o8 :: some x :: s) H1) : tAsg te (gName 9) D (o0 :: o1 :: o2 :: o3 :: o4 :: o5 :: o6 :: o7 :: o8 :: o9 :: s) H := q
theorem k_g9 (q : R (o0 :: o1 :: o2 :: o3 :: o4 :: o5 :: o6 :: o7 :: o8 :: some x :: s) H) : gName 9 x (o0 :: o1 :: o2 :: o3 :: o4 :: o5 :: o6 :: o7 :: o8 :: o9 :: s) H R := q
theorem k_v10 (q : Q v H) : tVar 10 (o0 :: o1 :: o2 :: o3 :: o4 :: o5 :: o6 :: o7 :: o8 :: o9 :: some v :: s) H Q := ⟨v, rfl, q⟩
theorem k_s10 (q : te (o0 :: o1 :: o2 :: o3 :: o4 :: o5 :: o6 :: o7 :: o8 :: o9 :: o10 :: s) H fun x H1 => D.nx (o0 :: o1 :: o2 :: o3 :: o4 :: o5 :: o6 :: o7 :: o8 :: o9 :: some x :: s) H1) : tAsg te (gName 10) D (o0 :: o1 :: o2 :: o3 :: o4 :: o5 :: o6 :: o7 :: o8 :: o9 :: o10 :: s) H := q
theorem k_g10 (q : R (o0 :: o1 :: o2 :: o3 :: o4 :: o5 :: o6 :: o7 :: o8 :: o9 :: some x :: s) H) : gName 10 x (o0 :: o1 :: o2 :: o3 :: o4 :: o5 :: o6 :: o7 :: o8 :: o9 :: o10 :: s) H R := q
theorem k_v11 (q : Q v H) : tVar 11 (o0 :: o1 :: o2 :: o3 :: o4 :: o5 :: o6 :: o7 :: o8 :: o9 :: o10 :: some v :: s) H Q := ⟨v, rfl, q⟩
theorem k_s11 (q : te (o0 :: o1 :: o2 :: o3 :: o4 :: o5 :: o6 :: o7 :: o8 :: o9 :: o10 :: o11 :: s) H fun x H1 => D.nx (o0 :: o1 :: o2 :: o3 :: o4 :: o5 :: o6 :: o7 :: o8 :: o9 :: o10 :: some x :: s) H1) : tAsg te (gName 11) D (o0 :: o1 :: o2 :: o3 :: o4 :: o5 :: o6 :: o7 :: o8 :: o9 :: o10 :: o11 :: s) H := q
theorem k_g11 (q : R (o0 :: o1 :: o2 :: o3 :: o4 :: o5 :: o6 :: o7 :: o8 :: o9 :: o10 :: some x :: s) H) : gName 11 x (o0 :: o1 :: o2 :: o3 :: o4 :: o5 :: o6 :: o7 :: o8 :: o9 :: o10 :: o11 :: s) H R := q
theorem k_v12 (q : Q v H) : tVar 12 (o0 :: o1 :: o2 :: o3 :: o4 :: o5 :: o6 :: o7 :: o8 :: o9 :: o10 :: o11 :: some v :: s) H Q := ⟨v, rfl, q⟩
theorem k_s12 (q : te (o0 :: o1 :: o2 :: o3 :: o4 :: o5 :: o6 :: o7 :: o8 :: o9 :: o10 :: o11 :: o12 :: s) H fun x H1 => D.nx (o0 :: o1 :: o2 :: o3 :: o4 :: o5 :: o6 :: o7 :: o8 :: o9 :: o10 :: o11 :: some x :: s) H1) : tAsg te (gName 12) D (o0 :: o1 :: o2 :: o3 :: o4 :: o5 :: o6 :: o7 :: o8 :: o9 :: o10 :: o11 :: o12 :: s) H := q
theorem k_g12 (q : R (o0 :: o1 :: o2 :: o3 :: o4 :: o5 :: o6 :: o7 :: o8 :: o9 :: o10 :: o11 :: some x :: s) H) : gName 12 x (o0 :: o1 :: o2 :: o3 :: o4 :: o5 :: o6 :: o7 :: o8 :: o9 :: o10 :: o11 :: o12 :: s) H R := q
theorem k_v13 (q : Q v H) : tVar 13 (o0 :: o1 :: o2 :: o3 :: o4 :: o5 :: o6 :: o7 :: o8 :: o9 :: o10 :: o11 :: o12 :: some v :: s) H Q := ⟨v, rfl, q⟩
theorem k_s13 (q : te (o0 :: o1 :: o2 :: o3 :: o4 :: o5 :: o6 :: o7 :: o8 :: o9 :: o10 :: o11 :: o12 :: o13 :: s) H fun x H1 => D.nx (o0 :: o1 :: o2 :: o3 :: o4 :: o5 :: o6 :: o7 :: o8 :: o9 :: o10 :: o11 :: o12 :: some x :: s) H1) : tAsg te (gName 13) D (o0 :: o1 :: o2 :: o3 :: o4 :: o5 :: o6 :: o7 :: o8 :: o9 :: o10 :: o11 :: o12 :: o13 :: s) H := q
theorem k_g13 (q : R (o0 :: o1 :: o2 :: o3 :: o4 :: o5 :: o6 :: o7 :: o8 :: o9 :: o10 :: o11 :: o12 :: some x :: s) H) : gName 13 x (o0 :: o1 :: o2 :: o3 :: o4 :: o5 :: o6 :: o7 :: o8 :: o9 :: o10 :: o11 :: o12 :: o13 :: s) H R := q
theorem k_v14 (q : Q v H) : tVar 14 (o0 :: o1 :: o2 :: o3 :: o4 :: o5 :: o6 :: o7 :: o8 :: o9 :: o10 :: o11 :: o12 :: o13 :: some v :: s) H Q := ⟨v, rfl, q⟩
theorem k_s14 (q : te (o0 :: o1 :: o2 :: o3 :: o4 :: o5 :: o6 :: o7 :: o8 :: o9 :: o10 :: o11 :: o12 :: o13 :: o14 :: s) H fun x H1 => D.nx (o0 :: o1 :: o2 :: o3 :: o4 :: o5 :: o6 :: o7 :: o8 :: o9 :: o10 :: o11 :: o12 :: o13 :: some x :: s) H1) : tAsg te (gName 14) D (o0 :: o1 :: o2 :: o3 :: o4 :: o5 :: o6 :: o7 :: o8 :: o9 :: o10 :: o11 :: o12 :: o13 :: o14 :: s) H := q
theorem k_g14 (q : R (o0 :: o1 :: o2 :: o3 :: o4 :: o5 :: o6 :: o7 :: o8 :: o9 :: o10 :: o11 :: o12 :: o13 :: some x :: s) H) : gName 14 x (o0 :: o1 :: o2 :: o3 :: o4 :: o5 :: o6 :: o7 :: o8 :: o9 :: o10 :: o11 :: o12 :: o13 :: o14 :: s) H R := q
theorem k_v15 (q : Q v H) : tVar 15 (o0 :: o1 :: o2 :: o3 :: o4 :: o5 :: o6 :: o7 :: o8 :: o9 :: o10 :: o11 :: o12 :: o13 :: o14 :: some v :: s) H Q := ⟨v, rfl, q⟩
theorem k_s15 (q : te (o0 :: o1 :: o2 :: o3 :: o4 :: o5 :: o6 :: o7 :: o8 :: o9 :: o10 :: o11 :: o12 :: o13 :: o14 :: o15 :: s) H fun x H1 => D.nx (o0 :: o1 :: o2 :: o3 :: o4 :: o5 :: o6 :: o7 :: o8 :: o9 :: o10 :: o11 :: o12 :: o13 :: o14 :: some x :: s) H1) : tAsg te (gName 15) D (o0 :: o1 :: o2 :: o3 :: o4 :: o5 :: o6 :: o7 :: o8 :: o9 :: o10 :: o11 :: o12 :: o13 :: o14 :: o15 :: s) H := q
theorem k_g15 (q : R (o0 :: o1 :: o2 :: o3 :: o4 :: o5 :: o6 :: o7 :: o8 :: o9 :: o10 :: o11 :: o12 :: o13 :: o14 :: some x :: s) H) : gName 15 x (o0 :: o1 :: o2 :: o3 :: o4 :: o5 :: o6 :: o7 :: o8 :: o9 :: o10 :: o11 :: o12 :: o13 :: o14 :: o15 :: s) H R := q
theorem k_v16 (q : Q v H) : tVar 16 (o0 :: o1 :: o2 :: o3 :: o4 :: o5 :: o6 :: o7 :: o8 :: o9 :: o10 :: o11 :: o12 :: o13 :: o14 :: o15 :: some v :: s) H Q := ⟨v, rfl, q⟩
theorem k_s16 (q : te (o0 :: o1 :: o2 :: o3 :: o4 :: o5 :: o6 :: o7 :: o8 :: o9 :: o10 :: o11 :: o12 :: o13 :: o14 :: o15 :: o16 :: s) H fun x H1 => D.nx (o0 :: o1 :: o2 :: o3 :: o4 :: o5 :: o6 :: o7 :: o8 :: o9 :: o10 :: o11 :: o12 :: o13 :: o14 :: o15 :: some x :: s) H1) : tAsg te (gName 16) D (o0 :: o1 :: o2 :: o3 :: o4 :: o5 :: o6 :: o7 :: o8 :: o9 :: o10 :: o11 :: o12 :: o13 :: o14 :: o15 :: o16 :: s) H := q
theorem k_g16 (q : R (o0 :: o1 :: o2 :: o3 :: o4 :: o5 :: o6 :: o7 :: o8 :: o9 :: o10 :: o11 :: o12 :: o13 :: o14 :: o15 :: some x :: s) H) : gName 16 x (o0 :: o1 :: o2 :: o3 :: o4 :: o5 :: o6 :: o7 :: o8 :: o9 :: o10 :: o11 :: o12 :: o13 :: o14 :: o15 :: o16 :: s) H R := q
theorem k_v17 (q : Q v H) : tVar 17 (o0 :: o1 :: o2 :: o3 :: o4 :: o5 :: o6 :: o7 :: o8 :: o9 :: o10 :: o11 :: o12 :: o13 :: o14 :: o15 :: o16 :: some v :: s) H Q := ⟨v, rfl, q⟩
theorem k_s17 (q : te (o0 :: o1 :: o2 :: o3 :: o4 :: o5 :: o6 :: o7 :: o8 :: o9 :: o10 :: o11 :: o12 :: o13 :: o14 :: o15 :: o16 :: o17 :: s) H fun x H1 => D.nx (o0 :: o1 :: o2 :: o3 :: o4 :: o5 :: o6 :: o7 :: o8 :: o9 :: o10 :: o11 :: o12 :: o13 :: o14 :: o15 :: o16 :: some x :: s) H1) : tAsg te (gName 17) D (o0 :: o1 :: o2 :: o3 :: o4 :: o5 :: o6 :: o7 :: o8 :: o9 :: o10 :: o11 :: o12 :: o13 :: o14 :: o15 :: o16 :: o17 :: s) H := q
theorem k_g17 (q : R (o0 :: o1 :: o2 :: o3 :: o4 :: o5 :: o6 :: o7 :: o8 :: o9 :: o10 :: o11 :: o12 :: o13 :: o14 :: o15 :: o16 :: some x :: s) H) : gName 17 x (o0 :: o1 :: o2 :: o3 :: o4 :: o5 :: o6 :: o7 :: o8 :: o9 :: o10 :: o11 :: o12 :: o13 :: o14 :: o15 :: o16 :: o17 :: s) H R := q
theorem k_v18 (q : Q v H) : tVar 18 (o0 :: o1 :: o2 :: o3 :: o4 :: o5 :: o6 :: o7 :: o8 :: o9 :: o10 :: o11 :: o12 :: o13 :: o14 :: o15 :: o16 :: o17 :: some v :: s) H Q := ⟨v, rfl, q⟩
theorem k_s18 (q : te (o0 :: o1 :: o2 :: o3 :: o4 :: o5 :: o6 :: o7 :: o8 :: o9 :: o10 :: o11 :: o12 :: o13 :: o14 :: o15 :: o16 :: o17 :: o18 :: s) H fun x H1 => D.nx (o0 :: o1 :: o2 :: o3 :: o4 :: o5 :: o6 :: o7 :: o8 :: o9 :: o10 :: o11 :: o12 :: o13 :: o14 :: o15 :: o16 :: o17 :: some x :: s) H1) : tAsg te (gName 18) D (o0 :: o1 :: o2 :: o3 :: o4 :: o5 :: o6 :: o7 :: o8 :: o9 :: o10 :: o11 :: o12 :: o13 :: o14 :: o15 :: o16 :: o17 :: o18 :: s) H := q
theorem k_g18 (q : R (o0 :: o1 :: o2 :: o3 :: o4 :: o5 :: o6 :: o7 :: o8 :: o9 :: o10 :: o11 :: o12 :: o13 :: o14 :: o15 :: o16 :: o17 :: some x :: s) H) : gName 18 x (o0 :: o1 :: o2 :: o3 :: o4 :: o5 :: o6 :: o7 :: o8 :: o9 :: o10 :: o11 :: o12 :: o13 :: o14 :: o15 :: o16 :: o17 :: o18 :: s) H R := q
theorem k_v19 (q : Q v H) : tVar 19 (o0 :: o1 :: o2 :: o3 :: o4 :: o5 :: o6 :: o7 :: o8 :: o9 :: o10 :: o11 :: o12 :: o13 :: o14 :: o15 :: o16 :: o17 :: o18 :: some v :: s) H Q := ⟨v, rfl, q⟩
theorem k_s19 (q : te (o0 :: o1 :: o2 :: o3 :: o4 :: o5 :: o6 :: o7 :: o8 :: o9 :: o10 :: o11 :: o12 :: o13 :: o14 :: o15 :: o16 :: o17 :: o18 :: o19 :: s) H fun x H1 => D.nx (o0 :: o1 :: o2 :: o3 :: o4 :: o5 :: o6 :: o7 :: o8 :: o9 :: o10 :: o11 :: o12 :: o13 :: o14 :: o15 :: o16 :: o17 :: o18 :: some x :: s) H1) : tAsg te (gName 19) D (o0 :: o1 :: o2 :: o3 :: o4 :: o5 :: o6 :: o7 :: o8 :: o9 :: o10 :: o11 :: o12 :: o13 :: o14 :: o15 :: o16 :: o17 :: o18 :: o19 :: s) H := q
theorem k_g19 (q : R (o0 :: o1 :: o2 :: o3 :: o4 :: o5 :: o6 :: o7 :: o8 :: o9 :: o10 :: o11 :: o12 :: o13 :: o14 :: o15 :: o16 :: o17 :: o18 :: some x :: s) H) : gName 19 x (o0 :: o1 :: o2 :: o3 :: o4 :: o5 :: o6 :: o7 :: o8 :: o9 :: o10 :: o11 :: o12 :: o13 :: o14 :: o15 :: o16 :: o17 :: o18 :: o19 :: s) H R := q
theorem k_v20 (q : Q v H) : tVar 20 (o0 :: o1 :: o2 :: o3 :: o4 :: o5 :: o6 :: o7 :: o8 :: o9 :: o10 :: o11 :: o12 :: o13 :: o14 :: o15 :: o16 :: o17 :: o18 :: o19 :: some v :: s) H Q := ⟨v, rfl, q⟩
theorem k_s20 (q : te (o0 :: o1 :: o2 :: o3 :: o4 :: o5 :: o6 :: o7 :: o8 :: o9 :: o10 :: o11 :: o12 :: o13 :: o14 :: o15 :: o16 :: o17 :: o18 :: o19 :: o20 :: s) H fun x H1 => D.nx (o0 :: o1 :: o2 :: o3 :: o4 :: o5 :: o6 :: o7 :: o8 :: o9 :: o10 :: o11 :: o12 :: o13 :: o14 :: o15 :: o16 :: o17 :: o18 :: o19 :: some x :: s) H1) : tAsg te (gName 20) D (o0 :: o1 :: o2 :: o3 :: o4 :: o5 :: o6 :: o7 :: o8 :: o9 :: o10 :: o11 :: o12 :: o13 :: o14 :: o15 :: o16 :: o17 :: o18 :: o19 :: o20 :: s) H := q
theorem k_g20 (q : R (o0 :: o1 :: o2 :: o3 :: o4 :: o5 :: o6 :: o7 :: o8 :: o9 :: o10 :: o11 :: o12 :: o13 :: o14 :: o15 :: o16 :: o17 :: o18 :: o19 :: some x :: s) H) : gName 20 x (o0 :: o1 :: o2 :: o3 :: o4 :: o5 :: o6 :: o7 :: o8 :: o9 :: o10 :: o11 :: o12 :: o13 :: o14 :: o15 :: o16 :: o17 :: o18 :: o19 :: o20 :: s) H R := q
theorem k_v21 (q : Q v H) : tVar 21 (o0 :: o1 :: o2 :: o3 :: o4 :: o5 :: o6 :: o7 :: o8 :: o9 :: o10 :: o11 :: o12 :: o13 :: o14 :: o15 :: o16 :: o17 :: o18 :: o19 :: o20 :: some v :: s) H Q := ⟨v, rfl, q⟩
theorem k_s21 (q : te (o0 :: o1 :: o2 :: o3 :: o4 :: o5 :: o6 :: o7 :: o8 :: o9 :: o10 :: o11 :: o12 :: o13 :: o14 :: o15 :: o16 :: o17 :: o18 :: o19 :: o20 :: o21 :: s) H fun x H1 => D.nx (o0 :: o1 :: o2 :: o3 :: o4 :: o5 :: o6 :: o7 :: o8 :: o9 :: o10 :: o11 :: o12 :: o13 :: o14 :: o15 :: o16 :: o17 :: o18 :: o19 :: o20 :: some x :: s) H1) : tAsg te (gName 21) D (o0 :: o1 :: o2 :: o3 :: o4 :: o5 :: o6 :: o7 :: o8 :: o9 :: o10 :: o11 :: o12 :: o13 :: o14 :: o15 :: o16 :: o17 :: o18 :: o19 :: o20 :: o21 :: s) H := q
theorem k_g21 (q : R (o0 :: o1 :: o2 :: o3 :: o4 :: o5 :: o6 :: o7 :: o8 :: o9 :: o10 :: o11 :: o12 :: o13 :: o14 :: o15 :: o16 :: o17 :: o18 :: o19 :: o20 :: some x :: s) H) : gName 21 x (o0 :: o1 :: o2 :: o3 :: o4 :: o5 :: o6 :: o7 :: o8 :: o9 :: o10 :: o11 :: o12 :: o13 :: o14 :: o15 :: o16 :: o17 :: o18 :: o19 :: o20 :: o21 :: s) H R := q
theorem k_v22 (q : Q v H) : tVar 22 (o0 :: o1 :: o2 :: o3 :: o4 :: o5 :: o6 :: o7 :: o8 :: o9 :: o10 :: o11 :: o12 :: o13 :: o14 :: o15 :: o16 :: o17 :: o18 :: o19 :: o20 :: o21 :: some v :: s) H Q := ⟨v, rfl, q⟩
theorem k_s22 (q : te (o0 :: o1 :: o2 :: o3 :: o4 :: o5 :: o6 :: o7 :: o8 :: o9 :: o10 :: o11 :: o12 :: o13 :: o14 :: o15 :: o16 :: o17 :: o18 :: o19 :: o20 :: o21 :: o22 :: s) H fun x H1 => D.nx (o0 :: o1 :: o2 :: o3 :: o4 :: o5 :: o6 :: o7 :: o8 :: o9 :: o10 :: o11 :: o12 :: o13 :: o14 :: o15 :: o16 :: o17 :: o18 :: o19 :: o20 :: o21 :: some x :: s) H1) : tAsg te (gName 22) D (o0 :: o1 :: o2 :: o3 :: o4 :: o5 :: o6 :: o7 :: o8 :: o9 :: o10 :: o11 :: o12 :: o13 :: o14 :: o15 :: o16 :: o17 :: o18 :: o19 :: o20 :: o21 :: o22 :: s) H := q
theorem k_g22 (q : R (o0 :: o1 :: o2 :: o3 :: o4 :: o5 :: o6 :: o7 :: o8 :: o9 :: o10 :: o11 :: o12 :: o13 :: o14 :: o15 :: o16 :: o17 :: o18 :: o19 :: o20 :: o21 :: some x :: s) H) : gName 22 x (o0 :: o1 :: o2 :: o3 :: o4 :: o5 :: o6 :: o7 :: o8 :: o9 :: o10 :: o11 :: o12 :: o13 :: o14 :: o15 :: o16 :: o17 :: o18 :: o19 :: o20 :: o21 :: o22 :: s) H R := q
theorem k_v23 (q : Q v H) : tVar 23 (o0 :: o1 :: o2 :: o3 :: o4 :: o5 :: o6 :: o7 :: o8 :: o9 :: o10 :: o11 :: o12 :: o13 :: o14 :: o15 :: o16 :: o17 :: o18 :: o19 :: o20 :: o21 :: o22 :: some v :: s) H Q := ⟨v, rfl, q⟩
theorem k_s23 (q : te (o0 :: o1 :: o2 :: o3 :: o4 :: o5 :: o6 :: o7 :: o8 :: o9 :: o10 :: o11 :: o12 :: o13 :: o14 :: o15 :: o16 :: o17 :: o18 :: o19 :: o20 :: o21 :: o22 :: o23 :: s) H fun x H1 => D.nx (o0 :: o1 :: o2 :: o3 :: o4 :: o5 :: o6 :: o7 :: o8 :: o9 :: o10 :: o11 :: o12 :: o13 :: o14 :: o15 :: o16 :: o17 :: o18 :: o19 :: o20 :: o21 :: o22 :: some x :: s) H1) : tAsg te (gName 23) D (o0 :: o1 :: o2 :: o3 :: o4 :: o5 :: o6 :: o7 :: o8 :: o9 :: o10 :: o11 :: o12 :: o13 :: o14 :: o15 :: o16 :: o17 :: o18 :: o19 :: o20 :: o21 :: o22 :: o23 :: s) H := q
theorem k_g23 (q : R (o0 :: o1 :: o2 :: o3 :: o4 :: o5 :: o6 :: o7 :: o8 :: o9 :: o10 :: o11 :: o12 :: o13 :: o14 :: o15 :: o16 :: o17 :: o18 :: o19 :: o20 :: o21 :: o22 :: some x :: s) H) : gName 23 x (o0 :: o1 :: o2 :: o3 :: o4 :: o5 :: o6 :: o7 :: o8 :: o9 :: o10 :: o11 :: o12 :: o13 :: o14 :: o15 :: o16 :: o17 :: o18 :: o19 :: o20 :: o21 :: o22 :: o23 :: s) H R := q
theorem k_v24 (q : Q v H) : tVar 24 (o0 :: o1 :: o2 :: o3 :: o4 :: o5 :: o6 :: o7 :: o8 :: o9 :: o10 :: o11 :: o12 :: o13 :: o14 :: o15 :: o16 :: o17 :: o18 :: o19 :: o20 :: o21 :: o22 :: o23 :: some v :: s) H Q := ⟨v, rfl, q⟩
theorem k_s24 (q : te (o0 :: o1 :: o2 :: o3 :: o4 :: o5 :: o6 :: o7 :: o8 :: o9 :: o10 :: o11 :: o12 :: o13 :: o14 :: o15 :: o16 :: o17 :: o18 :: o19 :: o20 :: o21 :: o22 :: o23 :: o24 :: s) H fun x H1 => D.nx (o0 :: o1 :: o2 :: o3 :: o4 :: o5 :: o6 :: o7 :: o8 :: o9 :: o10 :: o11 :: o12 :: o13 :: o14 :: o15 :: o16 :: o17 :: o18 :: o19 :: o20 :: o21 :: o22 :: o23 :: some x :: s) H1) : tAsg te (gName 24) D (o0 :: o1 :: o2 :: o3 :: o4 :: o5 :: o6 :: o7 :: o8 :: o9 :: o10 :: o11 :: o12 :: o13 :: o14 :: o15 :: o16 :: o17 :: o18 :: o19 :: o20 :: o21 :: o22 :: o23 :: o24 :: s) H := q
theorem k_g24 (q : R (o0 :: o1 :: o2 :: o3 :: o4 :: o5 :: o6 :: o7 :: o8 :: o9 :: o10 :: o11 :: o12 :: o13 :: o14 :: o15 :: o16 :: o17 :: o18 :: o19 :: o20 :: o21 :: o22 :: o23 :: some x :: s) H) : gName 24 x (o0 :: o1 :: o2 :: o3 :: o4 :: o5 :: o6 :: o7 :: o8 :: o9 :: o10 :: o11 :: o12 :: o13 :: o14 :: o15 :: o16 :: o17 :: o18 :: o19 :: o20 :: o21 :: o22 :: o23 :: o24 :: s) H R := q
theorem k_v25 (q : Q v H) : tVar 25 (o0 :: o1 :: o2 :: o3 :: o4 :: o5 :: o6 :: o7 :: o8 :: o9 :: o10 :: o11 :: o12 :: o13 :: o14 :: o15 :: o16 :: o17 :: o18 :: o19 :: o20 :: o21 :: o22 :: o23 :: o24 :: some v :: s) H Q := ⟨v, rfl, q⟩
theorem k_s25 (q : te (o0 :: o1 :: o2 :: o3 :: o4 :: o5 :: o6 :: o7 :: o8 :: o9 :: o10 :: o11 :: o12 :: o13 :: o14 :: o15 :: o16 :: o17 :: o18 :: o19 :: o20 :: o21 :: o22 :: o23 :: o24 :: o25 :: s) H fun x H1 => D.nx (o0 :: o1 :: o2 :: o3 :: o4 :: o5 :: o6 :: o7 :: o8 :: o9 :: o10 :: o11 :: o12 :: o13 :: o14 :: o15 :: o16 :: o17 :: o18 :: o19 :: o20 :: o21 :: o22 :: o23 :: o24 :: some x :: s) H1) : tAsg te (gName 25) D (o0 :: o1 :: o2 :: o3 :: o4 :: o5 :: o6 :: o7 :: o8 :: o9 :: o10 :: o11 :: o12 :: o13 :: o14 :: o15 :: o16 :: o17 :: o18 :: o19 :: o20 :: o21 :: o22 :: o23 :: o24 :: o25 :: s) H := q
theorem k_g25 (q : R (o0 :: o1 :: o2 :: o3 :: o4 :: o5 :: o6 :: o7 :: o8 :: o9 :: o10 :: o11 :: o12 :: o13 :: o14 :: o15 :: o16 :: o17 :: o18 :: o19 :: o20 :: o21 :: o22 :: o23 :: o24 :: some x :: s) H) : gName 25 x (o0 :: o1 :: o2 :: o3 :: o4 :: o5 :: o6 :: o7 :: o8 :: o9 :: o10 :: o11 :: o12 :: o13 :: o14 :: o15 :: o16 :: o17 :: o18 :: o19 :: o20 :: o21 :: o22 :: o23 :: o24 :: o25 :: s) H R := q
theorem k_v26 (q : Q v H) : tVar 26 (o0 :: o1 :: o2 :: o3 :: o4 :: o5 :: o6 :: o7 :: o8 :: o9 :: o10 :: o11 :: o12 :: o13 :: o14 :: o15 :: o16 :: o17 :: o18 :: o19 :: o20 :: o21 :: o22 :: o23 :: o24 :: o25 :: some v :: s) H Q := ⟨v, rfl, q⟩
theorem k_s26 (q : te (o0 :: o1 :: o2 :: o3 :: o4 :: o5 :: o6 :: o7 :: o8 :: o9 :: o10 :: o11 :: o12 :: o13 :: o14 :: o15 :: o16 :: o17 :: o18 :: o19 :: o20 :: o21 :: o22 :: o23 :: o24 :: o25 :: o26 :: s) H fun x H1 => D.nx (o0 :: o1 :: o2 :: o3 :: o4 :: o5 :: o6 :: o7 :: o8 :: o9 :: o10 :: o11 :: o12 :: o13 :: o14 :: o15 :: o16 :: o17 :: o18 :: o19 :: o20 :: o21 :: o22 :: o23 :: o24 :: o25 :: some x :: s) H1) : tAsg te (gName 26) D (o0 :: o1 :: o2 :: o3 :: o4 :: o5 :: o6 :: o7 :: o8 :: o9 :: o10 :: o11 :: o12 :: o13 :: o14 :: o15 :: o16 :: o17 :: o18 :: o19 :: o20 :: o21 :: o22 :: o23 :: o24 :: o25 :: o26 :: s) H := q
theorem k_g26 (q : R (o0 :: o1 :: o2 :: o3 :: o4 :: o5 :: o6 :: o7 :: o8 :: o9 :: o10 :: o11 :: o12 :: o13 :: o14 :: o15 :: o16 :: o17 :: o18 :: o19 :: o20 :: o21 :: o22 :: o23 :: o24 :: o25 :: some x :: s) H) : gName 26 x (o0 :: o1 :: o2 :: o3 :: o4 :: o5 :: o6 :: o7 :: o8 :: o9 :: o10 :: o11 :: o12 :: o13 :: o14 :: o15 :: o16 :: o17 :: o18 :: o19 :: o20 :: o21 :: o22 :: o23 :: o24 :: o25 :: o26 :: s) H R := q
theorem k_v27 (q : Q v H) : tVar 27 (o0 :: o1 :: o2 :: o3 :: o4 :: o5 :: o6 :: o7 :: o8 :: o9 :: o10 :: o11 :: o12 :: o13 :: o14 :: o15 :: o16 :: o17 :: o18 :: o19 :: o20 :: o21 :: o22 :: o23 :: o24 :: o25 :: o26 :: some v :: s) H Q := ⟨v, rfl, q⟩
theorem k_s27 (q : te (o0 :: o1 :: o2 :: o3 :: o4 :: o5 :: o6 :: o7 :: o8 :: o9 :: o10 :: o11 :: o12 :: o13 :: o14 :: o15 :: o16 :: o17 :: o18 :: o19 :: o20 :: o21 :: o22 :: o23 :: o24 :: o25 :: o26 :: o27 :: s) H fun x H1 => D.nx (o0 :: o1 :: o2 :: o3 :: o4 :: o5 :: o6 :: o7 :: o8 :: o9 :: o10 :: o11 :: o12 :: o13 :: o14 :: o15 :: o16 :: o17 :: o18 :: o19 :: o20 :: o21 :: o22 :: o23 :: o24 :: o25 :: o26 :: some x :: s) H1) : tAsg te (gName 27) D (o0 :: o1 :: o2 :: o3 :: o4 :: o5 :: o6 :: o7 :: o8 :: o9 :: o10 :: o11 :: o12 :: o13 :: o14 :: o15 :: o16 :: o17 :: o18 :: o19 :: o20 :: o21 :: o22 :: o23 :: o24 :: o25 :: o26 :: o27 :: s) H := q
theorem k_g27 (q : R (o0 :: o1 :: o2 :: o3 :: o4 :: o5 :: o6 :: o7 :: o8 :: o9 :: o10 :: o11 :: o12 :: o13 :: o14 :: o15 :: o16 :: o17 :: o18 :: o19 :: o20 :: o21 :: o22 :: o23 :: o24 :: o25 :: o26 :: some x :: s) H) : gName 27 x (o0 :: o1 :: o2 :: o3 :: o4 :: o5 :: o6 :: o7 :: o8 :: o9 :: o10 :: o11 :: o12 :: o13 :: o14 :: o15 :: o16 :: o17 :: o18 :: o19 :: o20 :: o21 :: o22 :: o23 :: o24 :: o25 :: o26 :: o27 :: s) H R := q
theorem k_v28 (q : Q v H) : tVar 28 (o0 :: o1 :: o2 :: o3 :: o4 :: o5 :: o6 :: o7 :: o8 :: o9 :: o10 :: o11 :: o12 :: o13 :: o14 :: o15 :: o16 :: o17 :: o18 :: o19 :: o20 :: o21 :: o22 :: o23 :: o24 :: o25 :: o26 :: o27 :: some v :: s) H Q := ⟨v, rfl, q⟩
theorem k_s28 (q : te (o0 :: o1 :: o2 :: o3 :: o4 :: o5 :: o6 :: o7 :: o8 :: o9 :: o10 :: o11 :: o12 :: o13 :: o14 :: o15 :: o16 :: o17 :: o18 :: o19 :: o20 :: o21 :: o22 :: o23 :: o24 :: o25 :: o26 :: o27 :: o28 :: s) H fun x H1 => D.nx (o0 :: o1 :: o2 :: o3 :: o4 :: o5 :: o6 :: o7 :: o8 :: o9 :: o10 :: o11 :: o12 :: o13 :: o14 :: o15 :: o16 :: o17 :: o18 :: o19 :: o20 :: o21 :: o22 :: o23 :: o24 :: o25 :: o26 :: o27 :: some x :: s) H1) : tAsg te (gName 28) D (o0 :: o1 :: o2 :: o3 :: o4 :: o5 :: o6 :: o7 :: o8 :: o9 :: o10 :: o11 :: o12 :: o13 :: o14 :: o15 :: o16 :: o17 :: o18 :: o19 :: o20 :: o21 :: o22 :: o23 :: o24 :: o25 :: o26 :: o27 :: o28 :: s) H := q
theorem k_g28 (q : R (o0 :: o1 :: o2 :: o3 :: o4 :: o5 :: o6 :: o7 :: o8 :: o9 :: o10 :: o11 :: o12 :: o13 :: o14 :: o15 :: o16 :: o17 :: o18 :: o19 :: o20 :: o21 :: o22 :: o23 :: o24 :: o25 :: o26 :: o27 :: some x :: s) H) : gName 28 x (o0 :: o1 :: o2 :: o3 :: o4 :: o5 :: o6 :: o7 :: o8 :: o9 :: o10 :: o11 :: o12 :: o13 :: o14 :: o15 :: o16 :: o17 :: o18 :: o19 :: o20 :: o21 :: o22 :: o23 :: o24 :: o25 :: o26 :: o27 :: o28 :: s) H R := q
theorem k_v29 (q : Q v H) : tVar 29 (o0 :: o1 :: o2 :: o3 :: o4 :: o5 :: o6 :: o7 :: o8 :: o9 :: o10 :: o11 :: o12 :: o13 :: o14 :: o15 :: o16 :: o17 :: o18 :: o19 :: o20 :: o21 :: o22 :: o23 :: o24 :: o25 :: o26 :: o27 :: o28 :: some v :: s) H Q := ⟨v, rfl, q⟩
theorem k_s29 (q : te (o0 :: o1 :: o2 :: o3 :: o4 :: o5 :: o6 :: o7 :: o8 :: o9 :: o10 :: o11 :: o12 :: o13 :: o14 :: o15 :: o16 :: o17 :: o18 :: o19 :: o20 :: o21 :: o22 :: o23 :: o24 :: o25 :: o26 :: o27 :: o28 :: o29 :: s) H fun x H1 => D.nx (o0 :: o1 :: o2 :: o3 :: o4 :: o5 :: o6 :: o7 :: o8 :: o9 :: o10 :: o11 :: o12 :: o13 :: o14 :: o15 :: o16 :: o17 :: o18 :: o19 :: o20 :: o21 :: o22 :: o23 :: o24 :: o25 :: o26 :: o27 :: o28 :: some x :: s) H1) : tAsg te (gName 29) D (o0 :: o1 :: o2 :: o3 :: o4 :: o5 :: o6 :: o7 :: o8 :: o9 :: o10 :: o11 :: o12 :: o13 :: o14 :: o15 :: o16 :: o17 :: o18 :: o19 :: o20 :: o21 :: o22 :: o23 :: o24 :: o25 :: o26 :: o27 :: o28 :: o29 :: s) H := q
theorem k_g29 (q : R (o0 :: o1 :: o2 :: o3 :: o4 :: o5 :: o6 :: o7 :: o8 :: o9 :: o10 :: o11 :: o12 :: o13 :: o14 :: o15 :: o16 :: o17 :: o18 :: o19 :: o20 :: o21 :: o22 :: o23 :: o24 :: o25 :: o26 :: o27 :: o28 :: some x :: s) H) : gName 29 x (o0 :: o1 :: o2 :: o3 :: o4 :: o5 :: o6 :: o7 :: o8 :: o9 :: o10 :: o11 :: o12 :: o13 :: o14 :: o15 :: o16 :: o17 :: o18 :: o19 :: o20 :: o21 :: o22 :: o23 :: o24 :: o25 :: o26 :: o27 :: o28 :: o29 :: s) H R := q
theorem k_v30 (q : Q v H) : tVar 30 (o0 :: o1 :: o2 :: o3 :: o4 :: o5 :: o6 :: o7 :: o8 :: o9 :: o10 :: o11 :: o12 :: o13 :: o14 :: o15 :: o16 :: o17 :: o18 :: o19 :: o20 :: o21 :: o22 :: o23 :: o24 :: o25 :: o26 :: o27 :: o28 :: o29 :: some v :: s) H Q := ⟨v, rfl, q⟩
theorem k_s30 (q : te (o0 :: o1 :: o2 :: o3 :: o4 :: o5 :: o6 :: o7 :: o8 :: o9 :: o10 :: o11 :: o12 :: o13 :: o14 :: o15 :: o16 :: o17 :: o18 :: o19 :: o20 :: o21 :: o22 :: o23 :: o24 :: o25 :: o26 :: o27 :: o28 :: o29 :: o30 :: s) H fun x H1 => D.nx (o0 :: o1 :: o2 :: o3 :: o4 :: o5 :: o6 :: o7 :: o8 :: o9 :: o10 :: o11 :: o12 :: o13 :: o14 :: o15 :: o16 :: o17 :: o18 :: o19 :: o20 :: o21 :: o22 :: o23 :: o24 :: o25 :: o26 :: o27 :: o28 :: o29 :: some x :: s) H1) : tAsg te (gName 30) D (o0 :: o1 :: o2 :: o3 :: o4 :: o5 :: o6 :: o7 :: o8 :: o9 :: o10 :: o11 :: o12 :: o13 :: o14 :: o15 :: o16 :: o17 :: o18 :: o19 :: o20 :: o21 :: o22 :: o23 :: o24 :: o25 :: o26 :: o27 :: o28 :: o29 :: o30 :: s) H := q
theorem k_g30 (q : R (o0 :: o1 :: o2 :: o3 :: o4 :: o5 :: o6 :: o7 :: o8 :: o9 :: o10 :: o11 :: o12 :: o13 :: o14 :: o15 :: o16 :: o17 :: o18 :: o19 :: o20 :: o21 :: o22 :: o23 :: o24 :: o25 :: o26 :: o27 :: o28 :: o29 :: some x :: s) H) : gName 30 x (o0 :: o1 :: o2 :: o3 :: o4 :: o5 :: o6 :: o7 :: o8 :: o9 :: o10 :: o11 :: o12 :: o13 :: o14 :: o15 :: o16 :: o17 :: o18 :: o19 :: o20 :: o21 :: o22 :: o23 :: o24 :: o25 :: o26 :: o27 :: o28 :: o29 :: o30 :: s) H R := q
theorem k_v31 (q : Q v H) : tVar 31 (o0 :: o1 :: o2 :: o3 :: o4 :: o5 :: o6 :: o7 :: o8 :: o9 :: o10 :: o11 :: o12 :: o13 :: o14 :: o15 :: o16 :: o17 :: o18 :: o19 :: o20 :: o21 :: o22 :: o23 :: o24 :: o25 :: o26 :: o27 :: o28 :: o29 :: o30 :: some v :: s) H Q := ⟨v, rfl, q⟩
theorem k_s31 (q : te (o0 :: o1 :: o2 :: o3 :: o4 :: o5 :: o6 :: o7 :: o8 :: o9 :: o10 :: o11 :: o12 :: o13 :: o14 :: o15 :: o16 :: o17 :: o18 :: o19 :: o20 :: o21 :: o22 :: o23 :: o24 :: o25 :: o26 :: o27 :: o28 :: o29 :: o30 :: o31 :: s) H fun x H1 => D.nx (o0 :: o1 :: o2 :: o3 :: o4 :: o5 :: o6 :: o7 :: o8 :: o9 :: o10 :: o11 :: o12 :: o13 :: o14 :: o15 :: o16 :: o17 :: o18 :: o19 :: o20 :: o21 :: o22 :: o23 :: o24 :: o25 :: o26 :: o27 :: o28 :: o29 :: o30 :: some x :: s) H1) : tAsg te (gName 31) D (o0 :: o1 :: o2 :: o3 :: o4 :: o5 :: o6 :: o7 :: o8 :: o9 :: o10 :: o11 :: o12 :: o13 :: o14 :: o15 :: o16 :: o17 :: o18 :: o19 :: o20 :: o21 :: o22 :: o23 :: o24 :: o25 :: o26 :: o27 :: o28 :: o29 :: o30 :: o31 :: s) H := q
theorem k_g31 (q : R (o0 :: o1 :: o2 :: o3 :: o4 :: o5 :: o6 :: o7 :: o8 :: o9 :: o10 :: o11 :: o12 :: o13 :: o14 :: o15 :: o16 :: o17 :: o18 :: o19 :: o20 :: o21 :: o22 :: o23 :: o24 :: o25 :: o26 :: o27 :: o28 :: o29 :: o30 :: some x :: s) H) : gName 31 x (o0 :: o1 :: o2 :: o3 :: o4 :: o5 :: o6 :: o7 :: o8 :: o9 :: o10 :: o11 :: o12 :: o13 :: o14 :: o15 :: o16 :: o17 :: o18 :: o19 :: o20 :: o21 :: o22 :: o23 :: o24 :: o25 :: o26 :: o27 :: o28 :: o29 :: o30 :: o31 :: s) H R := q
theorem k_v32 (q : Q v H) : tVar 32 (o0 :: o1 :: o2 :: o3 :: o4 :: o5 :: o6 :: o7 :: o8 :: o9 :: o10 :: o11 :: o12 :: o13 :: o14 :: o15 :: o16 :: o17 :: o18 :: o19 :: o20 :: o21 :: o22 :: o23 :: o24 :: o25 :: o26 :: o27 :: o28 :: o29 :: o30 :: o31 :: some v :: s) H Q := ⟨v, rfl, q⟩
theorem k_s32 (q : te (o0 :: o1 :: o2 :: o3 :: o4 :: o5 :: o6 :: o7 :: o8 :: o9 :: o10 :: o11 :: o12 :: o13 :: o14 :: o15 :: o16 :: o17 :: o18 :: o19 :: o20 :: o21 :: o22 :: o23 :: o24 :: o25 :: o26 :: o27 :: o28 :: o29 :: o30 :: o31 :: o32 :: s) H fun x H1 => D.nx (o0 :: o1 :: o2 :: o3 :: o4 :: o5 :: o6 :: o7 :: o8 :: o9 :: o10 :: o11 :: o12 :: o13 :: o14 :: o15 :: o16 :: o17 :: o18 :: o19 :: o20 :: o21 :: o22 :: o23 :: o24 :: o25 :: o26 :: o27 :: o28 :: o29 :: o30 :: o31 :: some x :: s) H1) : tAsg te (gName 32) D (o0 :: o1 :: o2 :: o3 :: o4 :: o5 :: o6 :: o7 :: o8 :: o9 :: o10 :: o11 :: o12 :: o13 :: o14 :: o15 :: o16 :: o17 :: o18 :: o19 :: o20 :: o21 :: o22 :: o23 :: o24 :: o25 :: o26 :: o27 :: o28 :: o29 :: o30 :: o31 :: o32 :: s) H := q
theorem k_g32 (q : R (o0 :: o1 :: o2 :: o3 :: o4 :: o5 :: o6 :: o7 :: o8 :: o9 :: o10 :: o11 :: o12 :: o13 :: o14 :: o15 :: o16 :: o17 :: o18 :: o19 :: o20 :: o21 :: o22 :: o23 :: o24 :: o25 :: o26 :: o27 :: o28 :: o29 :: o30 :: o31 :: some x :: s) H) : gName 32 x (o0 :: o1 :: o2 :: o3 :: o4 :: o5 :: o6 :: o7 :: o8 :: o9 :: o10 :: o11 :: o12 :: o13 :: o14 :: o15 :: o16 :: o17 :: o18 :: o19 :: o20 :: o21 :: o22 :: o23 :: o24 :: o25 :: o26 :: o27 :: o28 :: o29 :: o30 :: o31 :: o32 :: s) H R := q
theorem k_v33 (q : Q v H) : tVar 33 (o0 :: o1 :: o2 :: o3 :: o4 :: o5 :: o6 :: o7 :: o8 :: o9 :: o10 :: o11 :: o12 :: o13 :: o14 :: o15 :: o16 :: o17 :: o18 :: o19 :: o20 :: o21 :: o22 :: o23 :: o24 :: o25 :: o26 :: o27 :: o28 :: o29 :: o30 :: o31 :: o32 :: some v :: s) H Q := ⟨v, rfl, q⟩
theorem k_s33 (q : te (o0 :: o1 :: o2 :: o3 :: o4 :: o5 :: o6 :: o7 :: o8 :: o9 :: o10 :: o11 :: o12 :: o13 :: o14 :: o15 :: o16 :: o17 :: o18 :: o19 :: o20 :: o21 :: o22 :: o23 :: o24 :: o25 :: o26 :: o27 :: o28 :: o29 :: o30 :: o31 :: o32 :: o33 :: s) H fun x H1 => D.nx (o0 :: o1 :: o2 :: o3 :: o4 :: o5 :: o6 :: o7 :: o8 :: o9 :: o10 :: o11 :: o12 :: o13 :: o14 :: o15 :: o16 :: o17 :: o18 :: o19 :: o20 :: o21 :: o22 :: o23 :: o24 :: o25 :: o26 :: o27 :: o28 :: o29 :: o30 :: o31 :: o32 :: some x :: s) H1) : tAsg te (gName 33) D (o0 :: o1 :: o2 :: o3 :: o4 :: o5 :: o6 :: o7 :: o8 :: o9 :: o10 :: o11 :: o12 :: o13 :: o14 :: o15 :: o16 :: o17 :: o18 :: o19 :: o20 :: o21 :: o22 :: o23 :: o24 :: o25 :: o26 :: o27 :: o28 :: o29 :: o30 :: o31 :: o32 :: o33 :: s) H := q
theorem k_g33 (q : R (o0 :: o1 :: o2 :: o3 :: o4 :: o5 :: o6 :: o7 :: o8 :: o9 :: o10 :: o11 :: o12 :: o13 :: o14 :: o15 :: o16 :: o17 :: o18 :: o19 :: o20 :: o21 :: o22 :: o23 :: o24 :: o25 :: o26 :: o27 :: o28 :: o29 :: o30 :: o31 :: o32 :: some x :: s) H) : gName 33 x (o0 :: o1 :: o2 :: o3 :: o4 :: o5 :: o6 :: o7 :: o8 :: o9 :: o10 :: o11 :: o12 :: o13 :: o14 :: o15 :: o16 :: o17 :: o18 :: o19 :: o20 :: o21 :: o22 :: o23 :: o24 :: o25 :: o26 :: o27 :: o28 :: o29 :: o30 :: o31 :: o32 :: o33 :: s) H R := q
theorem k_v34 (q : Q v H) : tVar 34 (o0 :: o1 :: o2 :: o3 :: o4 :: o5 :: o6 :: o7 :: o8 :: o9 :: o10 :: o11 :: o12 :: o13 :: o14 :: o15 :: o16 :: o17 :: o18 :: o19 :: o20 :: o21 :: o22 :: o23 :: o24 :: o25 :: o26 :: o27 :: o28 :: o29 :: o30 :: o31 :: o32 :: o33 :: some v :: s) H Q := ⟨v, rfl, q⟩
theorem k_s34 (q : te (o0 :: o1 :: o2 :: o3 :: o4 :: o5 :: o6 :: o7 :: o8 :: o9 :: o10 :: o11 :: o12 :: o13 :: o14 :: o15 :: o16 :: o17 :: o18 :: o19 :: o20 :: o21 :: o22 :: o23 :: o24 :: o25 :: o26 :: o27 :: o28 :: o29 :: o30 :: o31 :: o32 :: o33 :: o34 :: s) H fun x H1 => D.nx (o0 :: o1 :: o2 :: o3 :: o4 :: o5 :: o6 :: o7 :: o8 :: o9 :: o10 :: o11 :: o12 :: o13 :: o14 :: o15 :: o16 :: o17 :: o18 :: o19 :: o20 :: o21 :: o22 :: o23 :: o24 :: o25 :: o26 :: o27 :: o28 :: o29 :: o30 :: o31 :: o32 :: o33 :: some x :: s) H1) : tAsg te (gName 34) D (o0 :: o1 :: o2 :: o3 :: o4 :: o5 :: o6 :: o7 :: o8 :: o9 :: o10 :: o11 :: o12 :: o13 :: o14 :: o15 :: o16 :: o17 :: o18 :: o19 :: o20 :: o21 :: o22 :: o23 :: o24 :: o25 :: o26 :: o27 :: o28 :: o29 :: o30 :: o31 :: o32 :: o33 :: o34 :: s) H := q
theorem k_g34 (q : R (o0 :: o1 :: o2 :: o3 :: o4 :: o5 :: o6 :: o7 :: o8 :: o9 :: o10 :: o11 :: o12 :: o13 :: o14 :: o15 :: o16 :: o17 :: o18 :: o19 :: o20 :: o21 :: o22 :: o23 :: o24 :: o25 :: o26 :: o27 :: o28 :: o29 :: o30 :: o31 :: o32 :: o33 :: some x :: s) H) : gName 34 x (o0 :: o1 :: o2 :: o3 :: o4 :: o5 :: o6 :: o7 :: o8 :: o9 :: o10 :: o11 :: o12 :: o13 :: o14 :: o15 :: o16 :: o17 :: o18 :: o19 :: o20 :: o21 :: o22 :: o23 :: o24 :: o25 :: o26 :: o27 :: o28 :: o29 :: o30 :: o31 :: o32 :: o33 :: o34 :: s) H R := q
theorem k_v35 (q : Q v H) : tVar 35 (o0 :: o1 :: o2 :: o3 :: o4 :: o5 :: o6 :: o7 :: o8 :: o9 :: o10 :: o11 :: o12 :: o13 :: o14 :: o15 :: o16 :: o17 :: o18 :: o19 :: o20 :: o21 :: o22 :: o23 :: o24 :: o25 :: o26 :: o27 :: o28 :: o29 :: o30 :: o31 :: o32 :: o33 :: o34 :: some v :: s) H Q := ⟨v, rfl, q⟩
theorem k_s35 (q : te (o0 :: o1 :: o2 :: o3 :: o4 :: o5 :: o6 :: o7 :: o8 :: o9 :: o10 :: o11 :: o12 :: o13 :: o14 :: o15 :: o16 :: o17 :: o18 :: o19 :: o20 :: o21 :: o22 :: o23 :: o24 :: o25 :: o26 :: o27 :: o28 :: o29 :: o30 :: o31 :: o32 :: o33 :: o34 :: o35 :: s) H fun x H1 => D.nx (o0 :: o1 :: o2 :: o3 :: o4 :: o5 :: o6 :: o7 :: o8 :: o9 :: o10 :: o11 :: o12 :: o13 :: o14 :: o15 :: o16 :: o17 :: o18 :: o19 :: o20 :: o21 :: o22 :: o23 :: o24 :: o25 :: o26 :: o27 :: o28 :: o29 :: o30 :: o31 :: o32 :: o33 :: o34 :: some x :: s) H1) : tAsg te (gName 35) D (o0 :: o1 :: o2 :: o3 :: o4 :: o5 :: o6 :: o7 :: o8 :: o9 :: o10 :: o11 :: o12 :: o13 :: o14 :: o15 :: o16 :: o17 :: o18 :: o19 :: o20 :: o21 :: o22 :: o23 :: o24 :: o25 :: o26 :: o27 :: o28 :: o29 :: o30 :: o31 :: o32 :: o33 :: o34 :: o35 :: s) H := q
theorem k_g35 (q : R (o0 :: o1 :: o2 :: o3 :: o4 :: o5 :: o6 :: o7 :: o8 :: o9 :: o10 :: o11 :: o12 :: o13 :: o14 :: o15 :: o16 :: o17 :: o18 :: o19 :: o20 :: o21 :: o22 :: o23 :: o24 :: o25 :: o26 :: o27 :: o28 :: o29 :: o30 :: o31 :: o32 :: o33 :: o34 :: some x :: s) H) : gName 35 x (o0 :: o1 :: o2 :: o3 :: o4 :: o5 :: o6 :: o7 :: o8 :: o9 :: o10 :: o11 :: o12 :: o13 :: o14 :: o15 :: o16 :: o17 :: o18 :: o19 :: o20 :: o21 :: o22 :: o23 :: o24 :: o25 :: o26 :: o27 :: o28 :: o29 :: o30 :: o31 :: o32 :: o33 :: o34 :: o35 :: s) H R := q
theorem k_v36 (q : Q v H) : tVar 36 (o0 :: o1 :: o2 :: o3 :: o4 :: o5 :: o6 :: o7 :: o8 :: o9 :: o10 :: o11 :: o12 :: o13 :: o14 :: o15 :: o16 :: o17 :: o18 :: o19 :: o20 :: o21 :: o22 :: o23 :: o24 :: o25 :: o26 :: o27 :: o28 :: o29 :: o30 :: o31 :: o32 :: o33 :: o34 :: o35 :: some v :: s) H Q := ⟨v, rfl, q⟩
theorem k_s36 (q : te (o0 :: o1 :: o2 :: o3 :: o4 :: o5 :: o6 :: o7 :: o8 :: o9 :: o10 :: o11 :: o12 :: o13 :: o14 :: o15 :: o16 :: o17 :: o18 :: o19 :: o20 :: o21 :: o22 :: o23 :: o24 :: o25 :: o26 :: o27 :: o28 :: o29 :: o30 :: o31 :: o32 :: o33 :: o34 :: o35 :: o36 :: s) H fun x H1 => D.nx (o0 :: o1 :: o2 :: o3 :: o4 :: o5 :: o6 :: o7 :: o8 :: o9 :: o10 :: o11 :: o12 :: o13 :: o14 :: o15 :: o16 :: o17 :: o18 :: o19 :: o20 :: o21 :: o22 :: o23 :: o24 :: o25 :: o26 :: o27 :: o28 :: o29 :: o30 :: o31 :: o32 :: o33 :: o34 :: o35 :: some x :: s) H1) : tAsg te (gName 36) D (o0 :: o1 :: o2 :: o3 :: o4 :: o5 :: o6 :: o7 :: o8 :: o9 :: o10 :: o11 :: o12 :: o13 :: o14 :: o15 :: o16 :: o17 :: o18 :: o19 :: o20 :: o21 :: o22 :: o23 :: o24 :: o25 :: o26 :: o27 :: o28 :: o29 :: o30 :: o31 :: o32 :: o33 :: o34 :: o35 :: o36 :: s) H := q
theorem k_g36 (q : R (o0 :: o1 :: o2 :: o3 :: o4 :: o5 :: o6 :: o7 :: o8 :: o9 :: o10 :: o11 :: o12 :: o13 :: o14 :: o15 :: o16 :: o17 :: o18 :: o19 :: o20 :: o21 :: o22 :: o23 :: o24 :: o25 :: o26 :: o27 :: o28 :: o29 :: o30 :: o31 :: o32 :: o33 :: o34 :: o35 :: some x :: s) H) : gName 36 x (o0 :: o1 :: o2 :: o3 :: o4 :: o5 :: o6 :: o7 :: o8 :: o9 :: o10 :: o11 :: o12 :: o13 :: o14 :: o15 :: o16 :: o17 :: o18 :: o19 :: o20 :: o21 :: o22 :: o23 :: o24 :: o25 :: o26 :: o27 :: o28 :: o29 :: o30 :: o31 :: o32 :: o33 :: o34 :: o35 :: o36 :: s) H R := q
theorem k_v37 (q : Q v H) : tVar 37 (o0 :: o1 :: o2 :: o3 :: o4 :: o5 :: o6 :: o7 :: o8 :: o9 :: o10 :: o11 :: o12 :: o13 :: o14 :: o15 :: o16 :: o17 :: o18 :: o19 :: o20 :: o21 :: o22 :: o23 :: o24 :: o25 :: o26 :: o27 :: o28 :: o29 :: o30 :: o31 :: o32 :: o33 :: o34 :: o35 :: o36 :: some v :: s) H Q := ⟨v, rfl, q⟩
theorem k_s37 (q : te (o0 :: o1 :: o2 :: o3 :: o4 :: o5 :: o6 :: o7 :: o8 :: o9 :: o10 :: o11 :: o12 :: o13 :: o14 :: o15 :: o16 :: o17 :: o18 :: o19 :: o20 :: o21 :: o22 :: o23 :: o24 :: o25 :: o26 :: o27 :: o28 :: o29 :: o30 :: o31 :: o32 :: o33 :: o34 :: o35 :: o36 :: o37 :: s) H fun x H1 => D.nx (o0 :: o1 :: o2 :: o3 :: o4 :: o5 :: o6 :: o7 :: o8 :: o9 :: o10 :: o11 :: o12 :: o13 :: o14 :: o15 :: o16 :: o17 :: o18 :: o19 :: o20 :: o21 :: o22 :: o23 :: o24 :: o25 :: o26 :: o27 :: o28 :: o29 :: o30 :: o31 :: o32 :: o33 :: o34 :: o35 :: o36 :: some x :: s) H1) : tAsg te (gName 37) D (o0 :: o1 :: o2 :: o3 :: o4 :: o5 :: o6 :: o7 :: o8 :: o9 :: o10 :: o11 :: o12 :: o13 :: o14 :: o15 :: o16 :: o17 :: o18 :: o19 :: o20 :: o21 :: o22 :: o23 :: o24 :: o25 :: o26 :: o27 :: o28 :: o29 :: o30 :: o31 :: o32 :: o33 :: o34 :: o35 :: o36 :: o37 :: s) H := q
theorem k_g37 (q : R (o0 :: o1 :: o2 :: o3 :: o4 :: o5 :: o6 :: o7 :: o8 :: o9 :: o10 :: o11 :: o12 :: o13 :: o14 :: o15 :: o16 :: o17 :: o18 :: o19 :: o20 :: o21 :: o22 :: o23 :: o24 :: o25 :: o26 :: o27 :: o28 :: o29 :: o30 :: o31 :: o32 :: o33 :: o34 :: o35 :: o36 :: some x :: s) H) : gName 37 x (o0 :: o1 :: o2 :: o3 :: o4 :: o5 :: o6 :: o7 :: o8 :: o9 :: o10 :: o11 :: o12 :: o13 :: o14 :: o15 :: o16 :: o17 :: o18 :: o19 :: o20 :: o21 :: o22 :: o23 :: o24 :: o25 :: o26 :: o27 :: o28 :: o29 :: o30 :: o31 :: o32 :: o33 :: o34 :: o35 :: o36 :: o37 :: s) H R := q
theorem k_v38 (q : Q v H) : tVar 38 (o0 :: o1 :: o2 :: o3 :: o4 :: o5 :: o6 :: o7 :: o8 :: o9 :: o10 :: o11 :: o12 :: o13 :: o14 :: o15 :: o16 :: o17 :: o18 :: o19 :: o20 :: o21 :: o22 :: o23 :: o24 :: o25 :: o26 :: o27 :: o28 :: o29 :: o30 :: o31 :: o32 :: o33 :: o34 :: o35 :: o36 :: o37 :: some v :: s) H Q := ⟨v, rfl, q⟩
theorem k_s38 (q : te (o0 :: o1 :: o2 :: o3 :: o4 :: o5 :: o6 :: o7 :: o8 :: o9 :: o10 :: o11 :: o12 :: o13 :: o14 :: o15 :: o16 :: o17 :: o18 :: o19 :: o20 :: o21 :: o22 :: o23 :: o24 :: o25 :: o26 :: o27 :: o28 :: o29 :: o30 :: o31 :: o32 :: o33 :: o34 :: o35 :: o36 :: o37 :: o38 :: s) H fun x H1 => D.nx (o0 :: o1 :: o2 :: o3 :: o4 :: o5 :: o6 :: o7 :: o8 :: o9 :: o10 :: o11 :: o12 :: o13 :: o14 :: o15 :: o16 :: o17 :: o18 :: o19 :: o20 :: o21 :: o22 :: o23 :: o24 :: o25 :: o26 :: o27 :: o28 :: o29 :: o30 :: o31 :: o32 :: o33 :: o34 :: o35 :: o36 :: o37 :: some x :: s) H1) : tAsg te (gName 38) D (o0 :: o1 :: o2 :: o3 :: o4 :: o5 :: o6 :: o7 :: o8 :: o9 :: o10 :: o11 :: o12 :: o13 :: o14 :: o15 :: o16 :: o17 :: o18 :: o19 :: o20 :: o21 :: o22 :: o23 :: o24 :: o25 :: o26 :: o27 :: o28 :: o29 :: o30 :: o31 :: o32 :: o33 :: o34 :: o35 :: o36 :: o37 :: o38 :: s) H := q
theorem k_g38 (q : R (o0 :: o1 :: o2 :: o3 :: o4 :: o5 :: o6 :: o7 :: o8 :: o9 :: o10 :: o11 :: o12 :: o13 :: o14 :: o15 :: o16 :: o17 :: o18 :: o19 :: o20 :: o21 :: o22 :: o23 :: o24 :: o25 :: o26 :: o27 :: o28 :: o29 :: o30 :: o31 :: o32 :: o33 :: o34 :: o35 :: o36 :: o37 :: some x :: s) H) : gName 38 x (o0 :: o1 :: o2 :: o3 :: o4 :: o5 :: o6 :: o7 :: o8 :: o9 :: o10 :: o11 :: o12 :: o13 :: o14 :: o15 :: o16 :: o17 :: o18 :: o19 :: o20 :: o21 :: o22 :: o23 :: o24 :: o25 :: o26 :: o27 :: o28 :: o29 :: o30 :: o31 :: o32 :: o33 :: o34 :: o35 :: o36 :: o37 :: o38 :: s) H R := q
theorem k_v39 (q : Q v H) : tVar 39 (o0 :: o1 :: o2 :: o3 :: o4 :: o5 :: o6 :: o7 :: o8 :: o9 :: o10 :: o11 :: o12 :: o13 :: o14 :: o15 :: o16 :: o17 :: o18 :: o19 :: o20 :: o21 :: o22 :: o23 :: o24 :: o25 :: o26 :: o27 :: o28 :: o29 :: o30 :: o31 :: o32 :: o33 :: o34 :: o35 :: o36 :: o37 :: o38 :: some v :: s) H Q := ⟨v, rfl, q⟩
theorem k_s39 (q : te (o0 :: o1 :: o2 :: o3 :: o4 :: o5 :: o6 :: o7 :: o8 :: o9 :: o10 :: o11 :: o12 :: o13 :: o14 :: o15 :: o16 :: o17 :: o18 :: o19 :: o20 :: o21 :: o22 :: o23 :: o24 :: o25 :: o26 :: o27 :: o28 :: o29 :: o30 :: o31 :: o32 :: o33 :: o34 :: o35 :: o36 :: o37 :: o38 :: o39 :: s) H fun x H1 => D.nx (o0 :: o1 :: o2 :: o3 :: o4 :: o5 :: o6 :: o7 :: o8 :: o9 :: o10 :: o11 :: o12 :: o13 :: o14 :: o15 :: o16 :: o17 :: o18 :: o19 :: o20 :: o21 :: o22 :: o23 :: o24 :: o25 :: o26 :: o27 :: o28 :: o29 :: o30 :: o31 :: o32 :: o33 :: o34 :: o35 :: o36 :: o37 :: o38 :: some x :: s) H1) : tAsg te (gName 39) D (o0 :: o1 :: o2 :: o3 :: o4 :: o5 :: o6 :: o7 :: o8 :: o9 :: o10 :: o11 :: o12 :: o13 :: o14 :: o15 :: o16 :: o17 :: o18 :: o19 :: o20 :: o21 :: o22 :: o23 :: o24 :: o25 :: o26 :: o27 :: o28 :: o29 :: o30 :: o31 :: o32 :: o33 :: o34 :: o35 :: o36 :: o37 :: o38 :: o39 :: s) H := q
theorem k_g39 (q : R (o0 :: o1 :: o2 :: o3 :: o4 :: o5 :: o6 :: o7 :: o8 :: o9 :: o10 :: o11 :: o12 :: o13 :: o14 :: o15 :: o16 :: o17 :: o18 :: o19 :: o20 :: o21 :: o22 :: o23 :: o24 :: o25 :: o26 :: o27 :: o28 :: o29 :: o30 :: o31 :: o32 :: o33 :: o34 :: o35 :: o36 :: o37 :: o38 :: some x :: s) H) : gName 39 x (o0 :: o1 :: o2 :: o3 :: o4 :: o5 :: o6 :: o7 :: o8 :: o9 :: o10 :: o11 :: o12 :: o13 :: o14 :: o15 :: o16 :: o17 :: o18 :: o19 :: o20 :: o21 :: o22 :: o23 :: o24 :: o25 :: o26 :: o27 :: o28 :: o29 :: o30 :: o31 :: o32 :: o33 :: o34 :: o35 :: o36 :: o37 :: o38 :: o39 :: s) H R := q
theorem k_v40 (q : Q v H) : tVar 40 (o0 :: o1 :: o2 :: o3 :: o4 :: o5 :: o6 :: o7 :: o8 :: o9 :: o10 :: o11 :: o12 :: o13 :: o14 :: o15 :: o16 :: o17 :: o18 :: o19 :: o20 :: o21 :: o22 :: o23 :: o24 :: o25 :: o26 :: o27 :: o28 :: o29 :: o30 :: o31 :: o32 :: o33 :: o34 :: o35 :: o36 :: o37 :: o38 :: o39 :: some v :: s) H Q := ⟨v, rfl, q⟩
theorem k_s40 (q : te (o0 :: o1 :: o2 :: o3 :: o4 :: o5 :: o6 :: o7 :: o8 :: o9 :: o10 :: o11 :: o12 :: o13 :: o14 :: o15 :: o16 :: o17 :: o18 :: o19 :: o20 :: o21 :: o22 :: o23 :: o24 :: o25 :: o26 :: o27 :: o28 :: o29 :: o30 :: o31 :: o32 :: o33 :: o34 :: o35 :: o36 :: o37 :: o38 :: o39 :: o40 :: s) H fun x H1 => D.nx (o0 :: o1 :: o2 :: o3 :: o4 :: o5 :: o6 :: o7 :: o8 :: o9 :: o10 :: o11 :: o12 :: o13 :: o14 :: o15 :: o16 :: o17 :: o18 :: o19 :: o20 :: o21 :: o22 :: o23 :: o24 :: o25 :: o26 :: o27 :: o28 :: o29 :: o30 :: o31 :: o32 :: o33 :: o34 :: o35 :: o36 :: o37 :: o38 :: o39 :: some x :: s) H1) : tAsg te (gName 40) D (o0 :: o1 :: o2 :: o3 :: o4 :: o5 :: o6 :: o7 :: o8 :: o9 :: o10 :: o11 :: o12 :: o13 :: o14 :: o15 :: o16 :: o17 :: o18 :: o19 :: o20 :: o21 :: o22 :: o23 :: o24 :: o25 :: o26 :: o27 :: o28 :: o29 :: o30 :: o31 :: o32 :: o33 :: o34 :: o35 :: o36 :: o37 :: o38 :: o39 :: o40 :: s) H := q
theorem k_g40 (q : R (o0 :: o1 :: o2 :: o3 :: o4 :: o5 :: o6 :: o7 :: o8 :: o9 :: o10 :: o11 :: o12 :: o13 :: o14 :: o15 :: o16 :: o17 :: o18 :: o19 :: o20 :: o21 :: o22 :: o23 :: o24 :: o25 :: o26 :: o27 :: o28 :: o29 :: o30 :: o31 :: o32 :: o33 :: o34 :: o35 :: o36 :: o37 :: o38 :: o39 :: some x :: s) H) : gName 40 x (o0 :: o1 :: o2 :: o3 :: o4 :: o5 :: o6 :: o7 :: o8 :: o9 :: o10 :: o11 :: o12 :: o13 :: o14 :: o15 :: o16 :: o17 :: o18 :: o19 :: o20 :: o21 :: o22 :: o23 :: o24 :: o25 :: o26 :: o27 :: o28 :: o29 :: o30 :: o31 :: o32 :: o33 :: o34 :: o35 :: o36 :: o37 :: o38 :: o39 :: o40 :: s) H R := q
theorem k_v41 (q : Q v H) : tVar 41 (o0 :: o1 :: o2 :: o3 :: o4 :: o5 :: o6 :: o7 :: o8 :: o9 :: o10 :: o11 :: o12 :: o13 :: o14 :: o15 :: o16 :: o17 :: o18 :: o19 :: o20 :: o21 :: o22 :: o23 :: o24 :: o25 :: o26 :: o27 :: o28 :: o29 :: o30 :: o31 :: o32 :: o33 :: o34 :: o35 :: o36 :: o37 :: o38 :: o39 :: o40 :: some v :: s) H Q := ⟨v, rfl, q⟩
theorem k_s41 (q : te (o0 :: o1 :: o2 :: o3 :: o4 :: o5 :: o6 :: o7 :: o8 :: o9 :: o10 :: o11 :: o12 :: o13 :: o14 :: o15 :: o16 :: o17 :: o18 :: o19 :: o20 :: o21 :: o22 :: o23 :: o24 :: o25 :: o26 :: o27 :: o28 :: o29 :: o30 :: o31 :: o32 :: o33 :: o34 :: o35 :: o36 :: o37 :: o38 :: o39 :: o40 :: o41 :: s) H fun x H1 => D.nx (o0 :: o1 :: o2 :: o3 :: o4 :: o5 :: o6 :: o7 :: o8 :: o9 :: o10 :: o11 :: o12 :: o13 :: o14 :: o15 :: o16 :: o17 :: o18 :: o19 :: o20 :: o21 :: o22 :: o23 :: o24 :: o25 :: o26 :: o27 :: o28 :: o29 :: o30 :: o31 :: o32 :: o33 :: o34 :: o35 :: o36 :: o37 :: o38 :: o39 :: o40 :: some x :: s) H1) : tAsg te (gName 41) D (o0 :: o1 :: o2 :: o3 :: o4 :: o5 :: o6 :: o7 :: o8 :: o9 :: o10 :: o11 :: o12 :: o13 :: o14 :: o15 :: o16 :: o17 :: o18 :: o19 :: o20 :: o21 :: o22 :: o23 :: o24 :: o25 :: o26 :: o27 :: o28 :: o29 :: o30 :: o31 :: o32 :: o33 :: o34 :: o35 :: o36 :: o37 :: o38 :: o39 :: o40 :: o41 :: s) H := q
theorem k_g41 (q : R (o0 :: o1 :: o2 :: o3 :: o4 :: o5 :: o6 :: o7 :: o8 :: o9 :: o10 :: o11 :: o12 :: o13 :: o14 :: o15 :: o16 :: o17 :: o18 :: o19 :: o20 :: o21 :: o22 :: o23 :: o24 :: o25 :: o26 :: o27 :: o28 :: o29 :: o30 :: o31 :: o32 :: o33 :: o34 :: o35 :: o36 :: o37 :: o38 :: o39 :: o40 :: some x :: s) H) : gName 41 x (o0 :: o1 :: o2 :: o3 :: o4 :: o5 :: o6 :: o7 :: o8 :: o9 :: o10 :: o11 :: o12 :: o13 :: o14 :: o15 :: o16 :: o17 :: o18 :: o19 :: o20 :: o21 :: o22 :: o23 :: o24 :: o25 :: o26 :: o27 :: o28 :: o29 :: o30 :: o31 :: o32 :: o33 :: o34 :: o35 :: o36 :: o37 :: o38 :: o39 :: o40 :: o41 :: s) H R := q
theorem k_v42 (q : Q v H) : tVar 42 (o0 :: o1 :: o2 :: o3 :: o4 :: o5 :: o6 :: o7 :: o8 :: o9 :: o10 :: o11 :: o12 :: o13 :: o14 :: o15 :: o16 :: o17 :: o18 :: o19 :: o20 :: o21 :: o22 :: o23 :: o24 :: o25 :: o26 :: o27 :: o28 :: o29 :: o30 :: o31 :: o32 :: o33 :: o34 :: o35 :: o36 :: o37 :: o38 :: o39 :: o40 :: o41 :: some v :: s) H Q := ⟨v, rfl, q⟩
theorem k_s42 (q : te (o0 :: o1 :: o2 :: o3 :: o4 :: o5 :: o6 :: o7 :: o8 :: o9 :: o10 :: o11 :: o12 :: o13 :: o14 :: o15 :: o16 :: o17 :: o18 :: o19 :: o20 :: o21 :: o22 :: o23 :: o24 :: o25 :: o26 :: o27 :: o28 :: o29 :: o30 :: o31 :: o32 :: o33 :: o34 :: o35 :: o36 :: o37 :: o38 :: o39 :: o40 :: o41 :: o42 :: s) H fun x H1 => D.nx (o0 :: o1 :: o2 :: o3 :: o4 :: o5 :: o6 :: o7 :: o8 :: o9 :: o10 :: o11 :: o12 :: o13 :: o14 :: o15 :: o16 :: o17 :: o18 :: o19 :: o20 :: o21 :: o22 :: o23 :: o24 :: o25 :: o26 :: o27 :: o28 :: o29 :: o30 :: o31 :: o32 :: o33 :: o34 :: o35 :: o36 :: o37 :: o38 :: o39 :: o40 :: o41 :: some x :: s) H1) : tAsg te (gName 42) D (o0 :: o1 :: o2 :: o3 :: o4 :: o5 :: o6 :: o7 :: o8 :: o9 :: o10 :: o11 :: o12 :: o13 :: o14 :: o15 :: o16 :: o17 :: o18 :: o19 :: o20 :: o21 :: o22 :: o23 :: o24 :: o25 :: o26 :: o27 :: o28 :: o29 :: o30 :: o31 :: o32 :: o33 :: o34 :: o35 :: o36 :: o37 :: o38 :: o39 :: o40 :: o41 :: o42 :: s) H := q
theorem k_g42 (q : R (o0 :: o1 :: o2 :: o3 :: o4 :: o5 :: o6 :: o7 :: o8 :: o9 :: o10 :: o11 :: o12 :: o13 :: o14 :: o15 :: o16 :: o17 :: o18 :: o19 :: o20 :: o21 :: o22 :: o23 :: o24 :: o25 :: o26 :: o27 :: o28 :: o29 :: o30 :: o31 :: o32 :: o33 :: o34 :: o35 :: o36 :: o37 :: o38 :: o39 :: o40 :: o41 :: some x :: s) H) : gName 42 x (o0 :: o1 :: o2 :: o3 :: o4 :: o5 :: o6 :: o7 :: o8 :: o9 :: o10 :: o11 :: o12 :: o13 :: o14 :: o15 :: o16 :: o17 :: o18 :: o19 :: o20 :: o21 :: o22 :: o23 :: o24 :: o25 :: o26 :: o27 :: o28 :: o29 :: o30 :: o31 :: o32 :: o33 :: o34 :: o35 :: o36 :: o37 :: o38 :: o39 :: o40 :: o41 :: o42 :: s) H R := q
theorem k_v43 (q : Q v H) : tVar 43 (o0 :: o1 :: o2 :: o3 :: o4 :: o5 :: o6 :: o7 :: o8 :: o9 :: o10 :: o11 :: o12 :: o13 :: o14 :: o15 :: o16 :: o17 :: o18 :: o19 :: o20 :: o21 :: o22 :: o23 :: o24 :: o25 :: o26 :: o27 :: o28 :: o29 :: o30 :: o31 :: o32 :: o33 :: o34 :: o35 :: o36 :: o37 :: o38 :: o39 :: o40 :: o41 :: o42 :: some v :: s) H Q := ⟨v, rfl, q⟩
theorem k_s43 (q : te (o0 :: o1 :: o2 :: o3 :: o4 :: o5 :: o6 :: o7 :: o8 :: o9 :: o10 :: o11 :: o12 :: o13 :: o14 :: o15 :: o16 :: o17 :: o18 :: o19 :: o20 :: o21 :: o22 :: o23 :: o24 :: o25 :: o26 :: o27 :: o28 :: o29 :: o30 :: o31 :: o32 :: o33 :: o34 :: o35 :: o36 :: o37 :: o38 :: o39 :: o40 :: o41 :: o42 :: o43 :: s) H fun x H1 => D.nx (o0 :: o1 :: o2 :: o3 :: o4 :: o5 :: o6 :: o7 :: o8 :: o9 :: o10 :: o11 :: o12 :: o13 :: o14 :: o15 :: o16 :: o17 :: o18 :: o19 :: o20 :: o21 :: o22 :: o23 :: o24 :: o25 :: o26 :: o27 :: o28 :: o29 :: o30 :: o31 :: o32 :: o33 :: o34 :: o35 :: o36 :: o37 :: o38 :: o39 :: o40 :: o41 :: o42 :: some x :: s) H1) : tAsg te (gName 43) D (o0 :: o1 :: o2 :: o3 :: o4 :: o5 :: o6 :: o7 :: o8 :: o9 :: o10 :: o11 :: o12 :: o13 :: o14 :: o15 :: o16 :: o17 :: o18 :: o19 :: o20 :: o21 :: o22 :: o23 :: o24 :: o25 :: o26 :: o27 :: o28 :: o29 :: o30 :: o31 :: o32 :: o33 :: o34 :: o35 :: o36 :: o37 :: o38 :: o39 :: o40 :: o41 :: o42 :: o43 :: s) H := q
theorem k_g43 (q : R (o0 :: o1 :: o2 :: o3 :: o4 :: o5 :: o6 :: o7 :: o8 :: o9 :: o10 :: o11 :: o12 :: o13 :: o14 :: o15 :: o16 :: o17 :: o18 :: o19 :: o20 :: o21 :: o22 :: o23 :: o24 :: o25 :: o26 :: o27 :: o28 :: o29 :: o30 :: o31 :: o32 :: o33 :: o34 :: o35 :: o36 :: o37 :: o38 :: o39 :: o40 :: o41 :: o42 :: some x :: s) H) : gName 43 x (o0 :: o1 :: o2 :: o3 :: o4 :: o5 :: o6 :: o7 :: o8 :: o9 :: o10 :: o11 :: o12 :: o13 :: o14 :: o15 :: o16 :: o17 :: o18 :: o19 :: o20 :: o21 :: o22 :: o23 :: o24 :: o25 :: o26 :: o27 :: o28 :: o29 :: o30 :: o31 :: o32 :: o33 :: o34 :: o35 :: o36 :: o37 :: o38 :: o39 :: o40 :: o41 :: o42 :: o43 :: s) H R := q
end
theorem gd_v {i : Nat} {σ : L2.St} {H : Hp} {Q : VK} (h : tVar i σ H Q) : tVar i σ H Q := h
theorem gd_s {i : Nat} {te : TE} {D : Ends} {σ : L2.St} {H : Hp} (h : tAsg te (gName i) D σ H) : tAsg te (gName i) D σ H := h
theorem gd_g {i : Nat} {x : V} {σ : L2.St} {H : Hp} {R : L2.St → Hp → Prop} (h : gName i x σ H R) : gName i x σ H R := h
end Ls
namespace Ls
open PySem PySem.Spec PyProof.Rows L2
def dd (c : Addr) (n r s : Int) : List (Key × V) := [(.inr ("cells" : Str), .ref c), (.inr ("at" : Str), .int n), (.inr ("rest" : Str), .int r), (.inr ("seed" : Str), .int s)]
theorem kne {a b : Str} (h : ¬ a = b) : ¬ (Sum.inr a : Key) = Sum.inr b := fun e => h (Sum.inr.inj e)
theorem n_ca : ¬ ("cells" : Str) = "at" := by decide +kernel
theorem n_cr : ¬ ("cells" : Str) = "rest" := by decide +kernel
theorem n_cs : ¬ ("cells" : Str) = "seed" := by decide +kernel
theorem n_ar : ¬ ("at" : Str) = "rest" := by decide +kernel
theorem n_as : ¬ ("at" : Str) = "seed" := by decide +kernel
theorem n_rs : ¬ ("rest" : Str) = "seed" := by decide +kernel
section
variable {c : Addr} {n r s m : Int}
theorem dd_cells : valV (dd c n r s) (.inr ("cells" : Str)) = some (.ref c) := valV_pos rfl
theorem dd_at : valV (dd c n r s) (.inr ("at" : Str)) = some (.int n) := (valV_neg (kne n_ca)).trans (valV_pos rfl)
theorem dd_rest : valV (dd c n r s) (.inr ("rest" : Str)) = some (.int r) := (valV_neg (kne n_cr)).trans ((valV_neg (kne n_ar)).trans (valV_pos rfl))
theorem dd_seed : valV (dd c n r s) (.inr ("seed" : Str)) = some (.int s) := (valV_neg (kne n_cs)).trans ((valV_neg (kne n_as)).trans ((valV_neg (kne n_rs)).trans (valV_pos rfl)))
theorem dd_len : (dd c n r s).length < sizeLine := by show 4 < sizeLine; decide
theorem put_of {kvs : List (Key × V)} {k : Key} {v w : V} (h : valV kvs k = some w) : putK kvs k v = kvs.map (fun kv => if kv.1 = k then (kv.1, v) else kv) := by
  unfold putK
  rw [valV_any, h]
  rfl
theorem dd_put_at : putK (dd c n r s) (.inr ("at" : Str)) (.int m) = dd c m r s := by
  rw [put_of dd_at]
  simp only [dd, List.map_cons, List.map_nil, if_neg (kne n_ca), if_neg (kne (fun e => n_ar e.symm)), if_neg (kne (fun e => n_as e.symm)), if_true]
theorem dd_put_rest : putK (dd c n r s) (.inr ("rest" : Str)) (.int m) = dd c n m s := by
  rw [put_of dd_rest]
  simp only [dd, List.map_cons, List.map_nil, if_neg (kne n_cr), if_neg (kne n_ar), if_neg (kne (fun e => n_rs e.symm)), if_true]
theorem dd_put_seed : putK (dd c n r s) (.inr ("seed" : Str)) (.int m) = dd c n r m := by
  rw [put_of dd_seed]
  simp only [dd, List.map_cons, List.map_nil, if_neg (kne n_cs), if_neg (kne n_as), if_neg (kne n_rs), if_true]
end
/-- the draws' dict: any state of it -/
def Draw (K : PySem.W.Frag) (H : Hp) (d c : Addr) : Prop := ∃ (n r s : Int) (ns : List Int), H d = some (.dK (dd c n r s)) ∧ H c = some (.lst (ns.map V.int)) ∧ 0 ≤ n ∧ 0 ≤ r ∧ 0 ≤ s ∧ s < 2305843009213693951
theorem Draw.keeps {K : PySem.W.Frag} {H H' : Hp} {d c : Addr} (h : Draw K H d c) (k : Same H H') : Draw K H' d c := by
  obtain ⟨n, r, s, ns, h1, h2, h3⟩ := h
  exact ⟨n, r, s, ns, k _ _ h1, k _ _ h2, h3⟩
theorem Draw.is {K : PySem.W.Frag} {H : Hp} {d c : Addr} (h : Draw K H d c) : ∃ kvs, H d = some (.dK kvs) := by
  obtain ⟨n, r, s, ns, h1, _⟩ := h
  exact ⟨_, h1⟩
theorem Draw.ne {K : PySem.W.Frag} {H : Hp} {d c a : Addr} {o : HO} (h : Draw K H d c) (e : H a = some o) (n : ∀ kvs, o ≠ .dK kvs) : a ≠ d := by
  obtain ⟨kvs, h1⟩ := h.is
  exact ne_of e h1 (n kvs)
theorem Draw.free {K : PySem.W.Frag} {H : Hp} {d c p : Addr} (h : Draw K H d c) (e : H p = none) : p ≠ d := by
  obtain ⟨kvs, h1⟩ := h.is
  exact fun z => by
    rw [z, h1] at e
    cases e
theorem Draw.tp {K : PySem.W.Frag} {H H' : Hp} {d c : Addr} (h : Draw K H d c) (k : Keep d H H') : Tp K H H' := by
  obtain ⟨kvs, h1⟩ := h.is
  exact keep_tp k h1 rfl
theorem Draw.sql {K : PySem.W.Frag} {H H' : Hp} {d c a : Addr} {xs : List V} (h : Draw K H d c) (k : Keep d H H') (q : SqL K H a xs) : SqL K H' a xs := by
  obtain ⟨kvs, h1⟩ := h.is
  exact sql_keep k h1 q
/-- a write to a list that the draws do not hold -/
theorem Draw.new {K : PySem.W.Frag} {H : Hp} {d c p : Addr} {o : HO} (h : Draw K H d c) (e : H p = none) : Draw K (upd H p o) d c := h.keeps (same_new e)
def spBegin (K : PySem.W.Frag) : Sp := fun vs H Q _ => ∃ (a : Addr) (ns : List Int), vs = [.ref a] ∧ SqL K H a (ns.map V.int) ∧ ns.length ≤ 63 ∧ ∀ d c H', H d = none → H c = none → Same H H' → Draw K H' d c → Q (.ref d) H'
def spPick (K : PySem.W.Frag) : Sp := fun vs H Q _ => ∃ (d c : Addr) (many : Int), vs = [.ref d, .int many] ∧ Draw K H d c ∧ 0 < many ∧ many < 2 ^ 200 ∧ ∀ r H', Keep d H H' → Draw K H' d c → 0 ≤ r → r < many → Q (.int r) H'
theorem use_pick {K : PySem.W.Frag} {d c : Addr} {many : Int} {H : Hp} {Q : VK} {E : XK} (hD : Draw K H d c) (h1 : 0 < many) (h2 : many < 2 ^ 200) (q : ∀ r H', Keep d H H' → Draw K H' d c → 0 ≤ r → r < many → Q (.int r) H') : spPick K ([.ref d, .int many] ++ []) H Q E := ⟨d, c, many, rfl, hD, h1, h2, q⟩
end Ls
namespace Ls
open PySem PySem.Spec PyProof.Rows L2
/-- data of at most this depth, its lists not too long -/
def OkD : Nat → PyData → Prop
  | _, .none => True
  | _, .bool _ => True
  | _, .int _ => True
  | _, .str x => PyData.strOk x = true
  | n + 1, .list xs => xs.length ≤ 100000 ∧ ∀ d ∈ xs, OkD n d
  | n + 1, .tuple xs => xs.length ≤ 100000 ∧ ∀ d ∈ xs, OkD n d
  | _, _ => False
theorem lay_all : ∀ {xs : List PyData}, (∀ d ∈ xs, d.canLay0 = true) → PyData.canLayAll0 xs = true
  | [], _ => by simp only [PyData.canLayAll0]
  | d :: r, h => by
    simp only [PyData.canLayAll0, Bool.and_eq_true]
    exact ⟨h d List.mem_cons_self, lay_all fun e he => h e (List.mem_cons_of_mem _ he)⟩
theorem depth_all {n : Nat} : ∀ {xs : List PyData}, (∀ d ∈ xs, d.depth ≤ n) → PyData.depthAll xs ≤ n
  | [], _ => by simp only [PyData.depthAll]; omega
  | d :: r, h => by
    simp only [PyData.depthAll]
    have h1 := h d List.mem_cons_self
    have h2 := depth_all fun e he => h e (List.mem_cons_of_mem _ he)
    omega
theorem OkD.lay : ∀ {n : Nat} {d : PyData}, OkD n d → d.canLay0 = true ∧ d.depth ≤ n
  | _, .none, _ => by simp only [PyData.canLay0, PyData.depth]; exact ⟨trivial, Nat.zero_le _⟩
  | _, .bool _, _ => by simp only [PyData.canLay0, PyData.depth]; exact ⟨trivial, Nat.zero_le _⟩
  | _, .int _, _ => by simp only [PyData.canLay0, PyData.depth]; exact ⟨trivial, Nat.zero_le _⟩
  | n, .str x, h => by
    cases n <;> exact ⟨by simp only [PyData.canLay0]; exact h, by simp only [PyData.depth]; omega⟩
  | n + 1, .list xs, h => by
    have ih : ∀ d ∈ xs, d.canLay0 = true ∧ d.depth ≤ n := fun d hd => OkD.lay (h.2 d hd)
    simp only [PyData.canLay0, PyData.depth]
    exact ⟨lay_all fun d hd => (ih d hd).1, Nat.succ_le_succ (depth_all fun d hd => (ih d hd).2)⟩
  | n + 1, .tuple xs, h => by
    have ih : ∀ d ∈ xs, d.canLay0 = true ∧ d.depth ≤ n := fun d hd => OkD.lay (h.2 d hd)
    simp only [PyData.canLay0, PyData.depth]
    exact ⟨lay_all fun d hd => (ih d hd).1, Nat.succ_le_succ (depth_all fun d hd => (ih d hd).2)⟩
  | 0, .list _, h => (show False from h).elim
  | 0, .tuple _, h => (show False from h).elim
  | n, .dict _, h => by
    cases n <;> exact (show False from h).elim
theorem OkD.shaped {n : Nat} {d : PyData} (h : OkD n d) (hn : n ≤ 64) : SeqAt.shaped d = true := by
  obtain ⟨h1, h2⟩ := h.lay
  show (d.canLay0 && decide (d.depth ≤ 64)) = true
  rw [h1, decide_eq_true (Nat.le_trans h2 hn)]
  rfl
theorem OkD.mono : ∀ {n m : Nat} {d : PyData}, n ≤ m → OkD n d → OkD m d
  | n, m, .none, _, _ => by cases m <;> trivial
  | n, m, .bool _, _, _ => by cases m <;> trivial
  | n, m, .int _, _, _ => by cases m <;> trivial
  | n, m, .str x, _, h => by cases n <;> cases m <;> exact h
  | n + 1, m + 1, .list xs, hl, h => ⟨h.1, fun d hd => OkD.mono (Nat.le_of_succ_le_succ hl) (h.2 d hd)⟩
  | n + 1, m + 1, .tuple xs, hl, h => ⟨h.1, fun d hd => OkD.mono (Nat.le_of_succ_le_succ hl) (h.2 d hd)⟩
  | 0, _, .list _, _, h => (show False from h).elim
  | 0, _, .tuple _, _, h => (show False from h).elim
  | n + 1, 0, .list _, hl, _ => absurd hl (by omega)
  | n + 1, 0, .tuple _, hl, _ => absurd hl (by omega)
  | n, m, .dict _, _, h => by cases n <;> exact (show False from h).elim
theorem kt_bool_bool : kitB "bool" "bool" = some true := by decide +kernel
theorem kt_int_bool : kitB "int" "bool" = some false := by decide +kernel
theorem kt_int_int : kitB "int" "int" = some true := by decide +kernel
theorem kt_int_str : kitB "int" "str" = some false := by decide +kernel
theorem kt_int_tuple : kitB "int" "tuple" = some false := by decide +kernel
theorem kt_str_bool : kitB "str" "bool" = some false := by decide +kernel
theorem kt_str_int : kitB "str" "int" = some false := by decide +kernel
theorem kt_str_str : kitB "str" "str" = some true := by decide +kernel
theorem kt_str_tuple : kitB "str" "tuple" = some false := by decide +kernel
theorem kt_list_bool : kitB "list" "bool" = some false := by decide +kernel
theorem kt_list_int : kitB "list" "int" = some false := by decide +kernel
theorem kt_list_str : kitB "list" "str" = some false := by decide +kernel
theorem kt_list_list : kitB "list" "list" = some true := by decide +kernel
theorem kt_list_tuple : kitB "list" "tuple" = some false := by decide +kernel
theorem kt_tuple_bool : kitB "tuple" "bool" = some false := by decide +kernel
theorem kt_tuple_int : kitB "tuple" "int" = some false := by decide +kernel
theorem kt_tuple_str : kitB "tuple" "str" = some false := by decide +kernel
theorem kt_tuple_list : kitB "tuple" "list" = some false := by decide +kernel
theorem kt_tuple_tuple : kitB "tuple" "tuple" = some true := by decide +kernel
/-- a datum's type -/
def tyn : PyData → String
  | .none => "NoneType"
  | .bool _ => "bool"
  | .int _ => "int"
  | .str _ => "str"
  | .list _ => "list"
  | .tuple _ => "tuple"
  | .dict _ => "dict"
section
variable {K : PySem.W.Frag} {H H' : Hp} {Q : VK} {x : V} {d : PyData} {b : Bool}
theorem sql_ty {a : Addr} {xs : List V} (h : SqL K H a xs) : TyX K H (.ref a) (.type "list") := by
  rcases h with (h | ⟨o, h⟩) | ⟨o, its, n, h1, h2, _⟩
  · exact .base (.lst h)
  · exact .base (.frz h)
  · exact .kList h1 h2
theorem sqt_ty {a : Addr} {xs : List V} (h : SqT K H a xs) : TyX K H (.ref a) (.type "tuple") := by
  rcases h with (h | ⟨o, h⟩) | ⟨o, its, n, h1, h2, _⟩
  · exact .base (.tup h)
  · exact .fTuple h
  · exact .kTuple h1 h2
theorem dp_ty (h : Dp K H x d) : TyX K H x (.type (tyn d)) := by
  cases h with
  | non => exact .base .non
  | bl b => exact .base (.bl b)
  | int i => exact .base (.int i)
  | str x => exact .base (.str x)
  | lst h _ => exact sql_ty h
  | tup h _ => exact sqt_ty h
theorem k_isi {T U : String} (h : Dp K H x d) (e0 : tyn d = U) (e : kitB U T = some b) (q : Q (.bl b) H) : rIsi K [x, .ty T] H Q := ⟨x, .ty T, _, _, b, rfl, .ty T, dp_ty h, kit_ty (by rw [e0]; exact e), q⟩
theorem k_isi2 {T U W : String} {b1 b2 b : Bool} {tp : Addr} (h : Dp K H x d) (ht : H tp = some (.tup [.ty T, .ty U])) (e0 : tyn d = W) (e1 : kitB W T = some b1) (e2 : kitB W U = some b2) (eb : (b1 || b2) = b) (q : Q (.bl b) H) : rIsiT K [x, .ref tp] H Q :=
  ⟨x, tp, _, _, [.type T, .type U], b1 || b2, rfl, ht, .cons (.ty T) (.cons (.ty U) .nil), dp_ty h, by
    subst e0
    refine kitAny_cons (kit_ty e1) (fun h1 => ?_) fun h1 => by rw [h1]; rfl
    rw [h1, Bool.false_or]
    refine kitAny_cons (kit_ty e2) (fun h2 => by rw [h2]; rfl) fun h2 => h2, by rw [eb]; exact q⟩
theorem k_all {a : Addr} {bs : List Bool} (h : SqL K H a (bs.map V.bl)) (q : Q (.bl (bs.all id)) H) : rAll K [.ref a] H Q := ⟨a, bs, rfl, h, q⟩
theorem k_any {a : Addr} {bs : List Bool} (h : SqL K H a (bs.map V.bl)) (q : Q (.bl (bs.any id)) H) : rAny K [.ref a] H Q := ⟨a, bs, rfl, h, q⟩
theorem k_lc {wi : TI} {g : TG} {tt : TT} {te : TE} {vs : List Nat} {σ : L2.St} (h : wi σ H fun J H1 => ∀ D, H1 D = none → ∃ W : Nat → Nat → Hp → Prop, (∃ m, W 0 m (upd H1 D (.lst []))) ∧ ∀ i m H, W i m H →
  (J.stop i H ∧ Q (.ref D) H) ∨ (J.go i H ∧ ∃ Nx : Hp → Prop, (∀ H', Nx H' → ∃ m', m' < m ∧ W (i + 1) m' H') ∧ ∀ x H', J.yld i H x H' → g x (wipe σ vs) H' fun σ2 H2 => wipe σ2 vs = wipe σ vs ∧ tt σ2 H2 fun b H3 =>
    if b = true then te σ2 H3 fun y H4 => ∃ acc, H4 D = some (.lst acc) ∧ acc.length < sizeLine ∧ Nx (upd H4 D (.lst (acc ++ [y]))) else Nx H3)) : tLc wi g tt te vs σ H Q := h
theorem k_lenE {a : Addr} {xs : List V} (h : SqL K H a xs ∨ SqT K H a xs) (q : Q (.int xs.length) H) : rLenU K [.ref a] H Q := .inl ⟨a, xs, rfl, h, q⟩
theorem k_ixE {a : Addr} {xs : List V} {v : V} {i : Int} (h : SqL K H a xs ∨ SqT K H a xs) (h2 : atI xs i = some v) (q : Q v H) : rIx K (.ref a) (.int i) H Q := by
  rcases h with h | h
  · exact k_ixL h h2 q
  · exact k_ixT h h2 q
theorem seq_same {a : Addr} {xs : List V} (e : Same H H') (h : SqL K H a xs ∨ SqT K H a xs) : SqL K H' a xs ∨ SqT K H' a xs := by
  rcases h with h | h
  · exact .inl (e.seq h)
  · exact .inr (sqt_same e h)
theorem dp_same (e : Same H H') : ∀ {x : V} {d : PyData}, Dp K H x d → Dp K H' x d := by
  intro x d h
  induction h using Dp.rec (motive_2 := fun vs ds _ => DpAll K H' vs ds) with
  | non => exact .non
  | bl b => exact .bl b
  | int i => exact .int i
  | str x => exact .str x
  | lst h _ ih => exact .lst (e.seq h) ih
  | tup h _ ih => exact .tup (sqt_same e h) ih
  | nil => exact .nil
  | cons _ _ h1 h2 => exact .cons h1 h2
theorem DpAll.length' : ∀ {vs : List V} {ds : List PyData}, DpAll K H vs ds → vs.length = ds.length
  | _, _, .nil => rfl
  | _, _, .cons _ hs => congrArg Nat.succ (DpAll.length' hs)
theorem DpAll.getD' : ∀ {vs : List V} {ds : List PyData} {i : Nat} {d : PyData}, DpAll K H vs ds → ds[i]? = some d → ∃ v, vs[i]? = some v ∧ Dp K H v d
  | _, _, i, _, .nil, e => by simp at e
  | _, _, 0, _, .cons a _, e => by
    simp at e
    subst e
    exact ⟨_, rfl, a⟩
  | _, _, i + 1, d, .cons _ b, e => by
    obtain ⟨v, h1, h2⟩ := DpAll.getD' (i := i) (d := d) b (by simpa using e)
    exact ⟨v, by simpa using h1, h2⟩
end
def spSame (K : PySem.W.Frag) (n : Nat) : Sp := fun vs H Q _ => ∃ (x y : V) (d : PyData), vs = [x, y] ∧ Dp K H x d ∧ Dp K H y d ∧ OkD n d ∧ ∀ H', Same H H' → Q (.bl true) H'
theorem use_same {K : PySem.W.Frag} {n : Nat} {x y : V} {d : PyData} {H : Hp} {Q : VK} {E : XK} (h1 : Dp K H x d) (h2 : Dp K H y d) (h3 : OkD n d) (q : ∀ H', Same H H' → Q (.bl true) H') : spSame K n ([x, y] ++ []) H Q E := ⟨x, y, d, rfl, h1, h2, h3, q⟩
end Ls
namespace Ls
open PySem PySem.Spec PyProof.Rows L2
section
variable {σ : L2.St} {H : Hp} {Q : VK} {tk tv : TE} {r : List (TE × TE)}
theorem k_disp {trs : List (TE × TE)} (q : ∀ p, H p = none → tPairs trs σ (upd H p (.dK [])) fun ps H2 => H2 p = some (.dK []) ∧ ∃ kvs : List (Key × V), ps = kvs.map (fun kv => (kV kv.1, kv.2)) ∧ kvs.length ≤ 15 ∧ Q (.ref p) (upd H2 p (.dK (mergeK [] kvs)))) : tDisp trs σ H Q := q
theorem k_prs {R : List (V × V) → Hp → Prop} (h : tk σ H fun x H1 => tv σ H1 fun y H2 => tPairs r σ H2 fun ps H3 => R ((x, y) :: ps) H3) : tPairs ((tk, tv) :: r) σ H R := h
theorem k_prn {R : List (V × V) → Hp → Prop} (h : R [] H) : tPairs [] σ H R := h
theorem cut_to {xs : List V} {i : Int} (h : 0 ≤ i) : cutV xs none (some i) = xs.take i.toNat := by
  obtain ⟨k, rfl⟩ := Int.eq_ofNat_of_zero_le h
  show (xs.drop 0).take (HT.sIx xs.length xs.length (some (k : Int)) - 0) = _
  rw [HT.sIx_nat, List.drop_zero, Nat.sub_zero, Int.toNat_natCast]
  by_cases hk : k ≤ xs.length
  · rw [Nat.min_eq_left hk]
  · rw [Nat.min_eq_right (by omega), List.take_of_length_le (Nat.le_refl _), List.take_of_length_le (by omega)]
theorem cut_all {xs : List V} {i : Int} (h : (xs.length : Int) ≤ i) : cutV xs none (some i) = xs := by
  rw [cut_to (by omega), List.take_of_length_le (by omega)]
theorem put_none {kvs : List (Key × V)} {k : Key} {v : V} (h : valV kvs k = none) : putK kvs k v = kvs ++ [(k, v)] := by
  unfold putK
  rw [valV_any, h]
  rfl
theorem dd_merge {c : Addr} {n r s : Int} : mergeK [] (dd c n r s) = dd c n r s := by
  show putK (putK (putK (putK ([] : List (Key × V)) (Sum.inr ("cells" : Str) : Key) (V.ref c)) (Sum.inr ("at" : Str) : Key) (V.int n)) (Sum.inr ("rest" : Str) : Key) (V.int r)) (Sum.inr ("seed" : Str) : Key) (V.int s) = _
  rw [put_none (kvs := []) rfl]
  rw [put_none (kvs := [] ++ _) ((valV_neg (kne n_ca)).trans rfl)]
  rw [put_none (kvs := [] ++ _ ++ _) ((valV_neg (kne n_cr)).trans ((valV_neg (kne n_ar)).trans rfl))]
  rw [put_none (kvs := [] ++ _ ++ _ ++ _) ((valV_neg (kne n_cs)).trans ((valV_neg (kne n_as)).trans ((valV_neg (kne n_rs)).trans rfl)))]
  rfl
end
/-- some element of a list -/
def spOf (K : PySem.W.Frag) : Sp := fun vs H Q _ => ∃ (d c l : Addr) (xs : List V), vs = [.ref d, .ref l] ∧ Draw K H d c ∧ SqL K H l xs ∧ 0 < xs.length ∧ xs.length < 2 ^ 100 ∧ ∀ x H', Keep d H H' → Draw K H' d c → x ∈ xs → Q x H'
theorem use_of {K : PySem.W.Frag} {d c l : Addr} {xs : List V} {H : Hp} {Q : VK} {E : XK} (hD : Draw K H d c) (h : SqL K H l xs) (h1 : 0 < xs.length) (h2 : xs.length < 2 ^ 100) (q : ∀ x H', Keep d H H' → Draw K H' d c → x ∈ xs → Q x H') : spOf K ([.ref d, .ref l] ++ []) H Q E := ⟨d, c, l, xs, rfl, hD, h, h1, h2, q⟩
end Ls
namespace Lm
abbrev Tie := Int × Int × Int
structure S where
  row : Int → Int
  way : Int → Option Tie
  last : Option Int
end Lm
namespace Lm
/-- the tie that pushed a place, when there is one -/
def wy (w : Int → Option Tie) (v : Int) : Tie := (w v).getD (0, 0, 0)
def nx (w : Int → Option Tie) (v : Int) : Int := (wy w v).2.1
def go (w : Int → Option Tie) : Nat → Int → Int
  | 0, v => v
  | k + 1, v => nx w (go w k v)
end Lm
namespace Ls
open PySem PySem.Spec PyProof.Rows L2
abbrev Tie := Lm.Tie
def tieD (t : Tie) : PyData := .tuple [.int t.1, .int t.2.1, .int t.2.2]
/-- a list of ties -/
def TieL (K : PySem.W.Frag) (H : Hp) (vs : List V) (ts : List Tie) : Prop := ImAll K H vs (ts.map tieD)
theorem TieL.mono {K : PySem.W.Frag} {H H' : Hp} {vs : List V} {ts : List Tie} (t : Tp K H H') (h : TieL K H vs ts) : TieL K H' vs ts := ImAll.mono t h
theorem TieL.len {K : PySem.W.Frag} {H : Hp} {vs : List V} {ts : List Tie} (h : TieL K H vs ts) : vs.length = ts.length := by
  have := ImAll.length h
  rwa [List.length_map] at this
theorem TieL.snoc {K : PySem.W.Frag} {H : Hp} {vs : List V} {ts : List Tie} {p : Addr} {a b c : Int} (h : TieL K H vs ts) (hp : SqT K H p [.int a, .int b, .int c]) : TieL K H (vs ++ [.ref p]) (ts ++ [(a, b, c)]) := by
  unfold TieL
  rw [List.map_append]
  exact ImAll.snoc h (.tup hp (.cons (.int a) (.cons (.int b) (.cons (.int c) .nil))))
theorem TieL.app {K : PySem.W.Frag} {H : Hp} {vs us : List V} {ts ss : List Tie} (h : TieL K H vs ts) (h2 : TieL K H us ss) : TieL K H (vs ++ us) (ts ++ ss) := by
  unfold TieL
  rw [List.map_append]
  exact ImAll.app h h2
theorem tie_of {K : PySem.W.Frag} {H : Hp} {v : V} {t : Tie} (h : Im K H v (tieD t)) : ∃ a, v = .ref a ∧ SqT K H a [.int t.1, .int t.2.1, .int t.2.2] := by
  obtain ⟨a, xs, rfl, h1, h2⟩ := im_tup h
  refine ⟨a, rfl, ?_⟩
  cases h2 with
  | cons a1 r1 =>
    cases r1 with
    | cons a2 r2 =>
      cases r2 with
      | cons a3 r3 =>
        cases r3
        cases im_int a1
        cases im_int a2
        cases im_int a3
        exact h1
theorem TieL.get {K : PySem.W.Frag} {H : Hp} {vs : List V} {ts : List Tie} {i : Nat} {v : V} (h : TieL K H vs ts) (e : vs[i]? = some v) : ∃ t a, ts[i]? = some t ∧ v = .ref a ∧ SqT K H a [.int t.1, .int t.2.1, .int t.2.2] := by
  obtain ⟨d, h1, h2⟩ := ImAll.get h e
  rw [List.getElem?_map] at h1
  obtain ⟨t, ht, rfl⟩ := Option.map_eq_some_iff.mp h1
  obtain ⟨a, rfl, h3⟩ := tie_of h2
  exact ⟨t, a, ht, rfl, h3⟩
theorem TieL.take {K : PySem.W.Frag} {H : Hp} {vs : List V} {ts : List Tie} (n : Nat) (h : TieL K H vs ts) : TieL K H (vs.take n) (ts.take n) := by
  unfold TieL
  rw [List.map_take]
  exact ImAll.take n h
theorem TieL.drop {K : PySem.W.Frag} {H : Hp} {vs : List V} {ts : List Tie} (n : Nat) (h : TieL K H vs ts) : TieL K H (vs.drop n) (ts.drop n) := by
  unfold TieL
  rw [List.map_drop]
  exact ImAll.drop n h
end Ls
namespace Ls
open PySem PySem.Spec PyProof.Rows L2
/-- all but the objects at d and e stays -/
def Keep2 (d e : Addr) (H H' : Hp) : Prop := ∀ b o, b ≠ d → b ≠ e → H b = some o → H' b = some o
theorem Keep2.refl {d e : Addr} {H : Hp} : Keep2 d e H H := fun _ _ _ _ h => h
theorem Keep2.trans {d e : Addr} {H H1 H2 : Hp} (a : Keep2 d e H H1) (b : Keep2 d e H1 H2) : Keep2 d e H H2 := fun c o n m h => b c o n m (a c o n m h)
theorem Keep2.same {d e : Addr} {H H' : Hp} (k : Same H H') : Keep2 d e H H' := fun b o _ _ h => k b o h
theorem Keep2.tp {K : PySem.W.Frag} {d e : Addr} {H H' : Hp} {o u : HO} (k : Keep2 d e H H') (h1 : H d = some o) (n1 : NoT o = true) (h2 : H e = some u) (n2 : NoT u = true) : Tp K H H' := fun a xs q => by
  have ne : ∀ z, NoT z = false → H a = some z → a ≠ d := fun z hz e y => by
    rw [y, h1] at e
    cases e
    rw [n1] at hz
    cases hz
  have ne2 : ∀ z, NoT z = false → H a = some z → a ≠ e := fun z hz f y => by
    rw [y, h2] at f
    cases f
    rw [n2] at hz
    cases hz
  rcases q with (q | ⟨z, q⟩) | q
  · exact .inl (.inl (k _ _ (ne _ rfl q) (ne2 _ rfl q) q))
  · exact .inl (.inr ⟨z, k _ _ (ne _ rfl q) (ne2 _ rfl q) q⟩)
  · exact .inr q
theorem Keep2.free {d e p : Addr} {H H' : Hp} {o u : HO} (k : Keep2 d e H H') (hd : H' d = some o) (he : H' e = some u) (h : H' p = none) : H p = none := by
  cases q : H p with
  | none => rfl
  | some z =>
    by_cases a : p = d
    · rw [a, hd] at h; cases h
    · by_cases b : p = e
      · rw [b, he] at h; cases h
      · rw [k p z a b q] at h; cases h
theorem k_dc {wi : TI} {g : TG} {tt : TT} {tk tv : TE} {vs : List Nat} {σ : L2.St} {H : Hp} {Q : VK} (h : wi σ H fun J H1 => ∀ D, H1 D = none → ∃ W : Nat → Nat → Hp → Prop, (∃ m, W 0 m (upd H1 D (.dK []))) ∧ ∀ i m H, W i m H →
  (J.stop i H ∧ Q (.ref D) H) ∨ (J.go i H ∧ ∃ Nx : Hp → Prop, (∀ H', Nx H' → ∃ m', m' < m ∧ W (i + 1) m' H') ∧ ∀ x H', J.yld i H x H' → g x (wipe σ vs) H' fun σ2 H2 => wipe σ2 vs = wipe σ vs ∧ tt σ2 H2 fun b H3 =>
    if b = true then tk σ2 H3 fun y H4 => tv σ2 H4 fun z H5 => ∃ kvs k, y = kV k ∧ H5 D = some (.dK kvs) ∧ kvs.length < sizeLine ∧ Nx (upd H5 D (.dK (putK kvs k z))) else Nx H3)) : tDc wi g tt tk tv vs σ H Q := h
/-- amounts by places, in a dict -/
def RowK (n : Int) (kvs : List (Key × V)) (r : Int → Int) : Prop := (∀ p, -1 ≤ p → p < n → valV kvs (.inl p) = some (.int (r p))) ∧ kvs.length ≤ 1000
theorem RowK.put {n : Int} {kvs : List (Key × V)} {r : Int → Int} {p x : Int} (h : RowK n kvs r) (h1 : -1 ≤ p) (h2 : p < n) : RowK n (putK kvs (.inl p) (.int x)) (fun q => if q = p then x else r q) := by
  refine ⟨fun q q1 q2 => ?_, ?_⟩
  · rw [valV_put, h.1 q q1 q2]
    show _ = some (V.int (if q = p then x else r q))
    by_cases e : q = p
    · rw [if_pos (by rw [e]), if_pos e]
    · rw [if_neg (fun z => e (Sum.inl.inj z)), if_neg e]
  · rw [put_of (h.1 p h1 h2), List.length_map]
    exact h.2
/-- the ties that pushed places, in a dict -/
def WayK (K : PySem.W.Frag) (H : Hp) (kvs : List (Key × V)) (w : Int → Option Tie) : Prop := ∀ p, (w p = none → valV kvs (.inl p) = none) ∧ ∀ t, w p = some t → ∃ a, valV kvs (.inl p) = some (.ref a) ∧ SqT K H a [.int t.1, .int t.2.1, .int t.2.2]
theorem WayK.mono {K : PySem.W.Frag} {H H' : Hp} {kvs : List (Key × V)} {w : Int → Option Tie} (h : WayK K H kvs w) (t : Tp K H H') : WayK K H' kvs w := fun p => ⟨(h p).1, fun u hu => by
  obtain ⟨a, h1, h2⟩ := (h p).2 u hu
  exact ⟨a, h1, t _ _ h2⟩⟩
theorem WayK.put {K : PySem.W.Frag} {H : Hp} {kvs : List (Key × V)} {w : Int → Option Tie} {p : Int} {t : Tie} {a : Addr} (h : WayK K H kvs w) (ht : SqT K H a [.int t.1, .int t.2.1, .int t.2.2]) : WayK K H (putK kvs (.inl p) (.ref a)) (fun q => if q = p then some t else w q) := fun q => by
  rw [valV_put]
  show ((if q = p then some t else w q) = none → _) ∧ ∀ u, (if q = p then some t else w q) = some u → _
  by_cases e : q = p
  · rw [if_pos e, if_pos (by rw [e])]
    refine ⟨fun z => by (cases z), fun u hu => ?_⟩
    cases hu
    exact ⟨a, rfl, ht⟩
  · rw [if_neg e, if_neg (fun z => e (Sum.inl.inj z))]
    exact h q
/-- nothing pushed yet -/
def s0 : Lm.S := ⟨fun _ => 0, fun _ => none, none⟩
end Ls
namespace Ls
open PySem PySem.Spec PyProof.Rows L2
theorem k_while {c : TT} {tb : TS} {D : Ends} {σ : L2.St} {H : Hp} (h : ∃ W : Nat → L2.St → Hp → Prop, (∃ m, W m σ H) ∧ ∀ m σ H, W m σ H → c σ H fun b H1 => if b = true then ∃ N : L2.St → Hp → Prop, (∀ σ' H', N σ' H' → ∃ m', m' < m ∧ W m' σ' H') ∧ tb { D with nx := N, ct := N, bk := D.nx } σ H1 else D.nx σ H1) : tWhile c tb D σ H := h
end Ls
namespace Ls
open PySem PySem.Spec PyProof.Rows L2
/-- an object that is no tuple -/
def Nt : HO → Bool
  | .tup _ => false
  | .frz _ _ => false
  | .ext _ => false
  | _ => true
/-- .. nor a table: what may be frozen -/
def Fr : HO → Bool
  | .tbl _ => false
  | o => Nt o
theorem fr_nt {o : HO} (h : Fr o = true) : Nt o = true := by
  cases o <;> first | exact h | rfl
/-- tuples stay, and what is told of from outside -/
def Tq (K : PySem.W.Frag) (H H' : Hp) : Prop := Tp K H H' ∧ ∀ a f, H a = some (.ext f) → H' a = some (.ext f)
theorem Tq.refl {K : PySem.W.Frag} {H : Hp} : Tq K H H := ⟨Tp.refl, fun _ _ h => h⟩
theorem Tq.same {K : PySem.W.Frag} {H H' : Hp} (e : Same H H') : Tq K H H' := ⟨Tp.same e, fun _ _ h => e _ _ h⟩
theorem Tq.new {K : PySem.W.Frag} {H : Hp} {p : Addr} {o : HO} (h : H p = none) : Tq K H (upd H p o) := Tq.same (same_new h)
theorem nt_tp {K : PySem.W.Frag} {H H' : Hp} (h : ∀ a o, H a = some o → Nt o = false → H' a = some o) : Tq K H H' := ⟨fun a xs q => by
  rcases q with (q | ⟨u, q⟩) | q
  · exact .inl (.inl (h _ _ q rfl))
  · exact .inl (.inr ⟨u, h _ _ q rfl⟩)
  · exact .inr q, fun a f e => h a _ e rfl⟩
theorem tp_upd {K : PySem.W.Frag} {H : Hp} {a : Addr} {o u : HO} (h : H a = some o) (n : Nt o = true) : Tq K H (upd H a u) := nt_tp fun b x e nb => by
  have : b ≠ a := fun z => by
    rw [z, h] at e
    cases e
    rw [n] at nb
    cases nb
  rw [upd_ne this]
  exact e
/-- what is frozen: it stands, and never changes -/
abbrev Fz := Addr → HO → Prop
structure As (K : PySem.W.Frag) where
  ok : Fz → (Addr → Prop) → Hp → Prop
  st : ∀ {W : Fz} {s : Addr → Prop} {H H' : Hp}, ok W s H → (∀ a, s a → H' a = H a) → Tq K H H' → ok W s H'
  al : ∀ {W : Fz} {s : Addr → Prop} {H : Hp}, ok W s H → ∀ a, s a → ∃ o, H a = some o ∧ Nt o = true
  mo : ∀ {W W' : Fz} {s : Addr → Prop} {H : Hp}, ok W s H → (∀ a o, W a o → W' a o) → ok W' s H
section
variable {K : PySem.W.Frag} {A B C : As K} {L L' M : List (As K)} {s t r : Addr → Prop} {H H' : Hp} {W W' : Fz}
def Hld (W : Fz) : List (As K) → (Addr → Prop) → Hp → Prop
  | [], s, _ => ∀ a, ¬ s a
  | A :: L, s, H => ∃ s1 s2, (∀ a, s1 a → s2 a → False) ∧ (∀ a, s a ↔ s1 a ∨ s2 a) ∧ A.ok W s1 H ∧ Hld W L s2 H
theorem Hld.st : ∀ {L : List (As K)} {s : Addr → Prop}, Hld W L s H → (∀ a, s a → H' a = H a) → Tq K H H' → Hld W L s H'
  | [], _, h, _, _ => h
  | _ :: _, _, ⟨s1, s2, d, u, h1, h2⟩, e, t => ⟨s1, s2, d, u, As.st _ h1 (fun a z => e a ((u a).mpr (.inl z))) t, Hld.st h2 (fun a z => e a ((u a).mpr (.inr z))) t⟩
theorem Hld.al : ∀ {L : List (As K)} {s : Addr → Prop}, Hld W L s H → ∀ a, s a → ∃ o, H a = some o ∧ Nt o = true
  | [], _, h, a, z => (h a z).elim
  | _ :: _, _, ⟨s1, s2, d, u, h1, h2⟩, a, z => ((u a).mp z).elim (As.al _ h1 a) (Hld.al h2 a)
theorem Hld.mo (k : ∀ a o, W a o → W' a o) : ∀ {L : List (As K)} {s : Addr → Prop}, Hld W L s H → Hld W' L s H
  | [], _, h => h
  | _ :: _, _, ⟨s1, s2, d, u, h1, h2⟩ => ⟨s1, s2, d, u, As.mo _ h1 k, Hld.mo k h2⟩
theorem Hld.cg (h : Hld W L s H) (e : ∀ a, s a ↔ t a) : Hld W L t H := by
  have : s = t := funext fun a => propext (e a)
  exact this ▸ h
theorem Hld.swap (h : Hld W (A :: B :: L) s H) : Hld W (B :: A :: L) s H := by
  obtain ⟨s1, s2, d, u, h1, t1, t2, d2, u2, h2, h3⟩ := h
  refine ⟨t1, fun a => s1 a ∨ t2 a, fun a x y => ?_, fun a => ?_, h2, s1, t2, fun a x y => d a x ((u2 a).mpr (.inr y)), fun a => Iff.rfl, h1, h3⟩
  · rcases y with y | y
    · exact d a y ((u2 a).mpr (.inl x))
    · exact d2 a x y
  · rw [u a, u2 a]
    constructor
    · rintro (x | x | x)
      · exact .inr (.inl x)
      · exact .inl x
      · exact .inr (.inr x)
    · rintro (x | x | x)
      · exact .inr (.inl x)
      · exact .inl x
      · exact .inr (.inr x)
/-- the frozen ones stand apart from what is owned -/
def FzOk (W : Fz) (s : Addr → Prop) (H : Hp) : Prop := ∀ a o, W a o → H a = some o ∧ Fr o = true ∧ ¬ s a
/-- the assertions of a list hold, each of addresses of its own -/
def Sep (L : List (As K)) (H : Hp) : Prop := ∃ W s, FzOk W s H ∧ Hld W L s H
theorem Hld.perm (p : L.Perm L') : ∀ {s : Addr → Prop}, Hld W L s H → Hld W L' s H := by
  induction p with
  | nil => exact id
  | cons x _ ih =>
    rintro s ⟨s1, s2, d, u, h1, h2⟩
    exact ⟨s1, s2, d, u, h1, ih h2⟩
  | swap x y l => exact fun h => h.swap
  | trans _ _ a b => exact fun h => b (a h)
theorem Sep.perm (h : Sep L H) (p : L.Perm L') : Sep L' H := by
  obtain ⟨W, s, f, h⟩ := h
  exact ⟨W, s, f, h.perm p⟩
theorem FzOk.less (f : FzOk W s H) (k : ∀ a, t a → s a) : FzOk W t H := fun a o h => ⟨(f a o h).1, (f a o h).2.1, fun z => (f a o h).2.2 (k a z)⟩
theorem Sep.tail (h : Sep (A :: L) H) : Sep L H := by
  obtain ⟨W, s, f, s1, s2, d, u, h1, h2⟩ := h
  exact ⟨W, s2, f.less fun a z => (u a).mpr (.inr z), h2⟩
theorem Sep.nil : Sep ([] : List (As K)) H := ⟨fun _ _ => False, fun _ => False, fun _ _ z => z.elim, fun _ z => z⟩
theorem Sep.same (h : Sep L H) (e : Same H H') : Sep L H' := by
  obtain ⟨W, s, f, h⟩ := h
  refine ⟨W, s, fun a o z => ⟨e _ _ (f a o z).1, (f a o z).2⟩, h.st (fun a z => ?_) (Tq.same e)⟩
  obtain ⟨o, ho, _⟩ := h.al a z
  rw [e _ _ ho, ho]
/-- the first one, and what it takes to put another in its place -/
theorem Sep.hd (h : Sep (A :: L) H) : ∃ (W : Fz) (s r : Addr → Prop), A.ok W s H ∧ (∀ a, s a → r a → False) ∧ (∀ a, r a → ∃ o, H a = some o ∧ Nt o = true) ∧
    ∀ {B : As K} {s' : Addr → Prop} {H' : Hp}, B.ok W s' H' → (∀ a, s' a → r a → False) → (∀ a, r a → H' a = H a) → Tq K H H' → Sep (B :: L) H' := by
  obtain ⟨W, s, f, s1, s2, d, u, h1, h2⟩ := h
  refine ⟨W, s1, fun a => s2 a ∨ ∃ o, W a o, h1, fun a x y => ?_, fun a y => ?_, fun {B s' H'} hB dj e t => ⟨W, fun a => s' a ∨ s2 a, fun a o z => ⟨?_, (f a o z).2.1, fun y => ?_⟩, s', s2, fun a x y => dj a x (.inl y), fun a => Iff.rfl, hB, h2.st (fun a z => e a (.inl z)) t⟩⟩
  · rcases y with y | ⟨o, y⟩
    · exact d a x y
    · exact (f a o y).2.2 ((u a).mpr (.inl x))
  · rcases y with y | ⟨o, y⟩
    · exact h2.al a y
    · exact ⟨o, (f a o y).1, fr_nt (f a o y).2.1⟩
  · rw [e a (.inr ⟨o, z⟩)]
    exact (f a o z).1
  · rcases y with y | y
    · exact dj a y (.inr ⟨o, z⟩)
    · exact (f a o z).2.2 ((u a).mpr (.inr y))
inductive Rep : List (As K) → As K → As K → List (As K) → Prop
  | here {A B : As K} {L} : Rep (A :: L) A B (B :: L)
  | there {A B C : As K} {L M} : Rep L A B M → Rep (C :: L) A B (C :: M)
inductive Rem : List (As K) → As K → List (As K) → Prop
  | here {A : As K} {L} : Rem (A :: L) A L
  | there {A C : As K} {L M} : Rem L A M → Rem (C :: L) A (C :: M)
theorem Rem.perm (r : Rem L A M) : L.Perm (A :: M) := by
  induction r with
  | here => exact .refl _
  | there _ ih => exact (List.Perm.cons _ ih).trans (.swap _ _ _)
theorem Rep.rem (r : Rep L A B M) : ∃ N, L.Perm (A :: N) ∧ M.Perm (B :: N) := by
  induction r with
  | here => exact ⟨_, .refl _, .refl _⟩
  | there _ ih =>
    obtain ⟨N, h1, h2⟩ := ih
    exact ⟨_, (List.Perm.cons _ h1).trans (.swap _ _ _), (List.Perm.cons _ h2).trans (.swap _ _ _)⟩
theorem Rem.of_mem : A ∈ L → ∃ M, Rem L A M := by
  intro h
  induction L with
  | nil => cases h
  | cons C L ih =>
    by_cases e : A = C
    · subst e
      exact ⟨_, .here⟩
    · obtain ⟨M, hM⟩ := ih (by
        rcases List.mem_cons.mp h with z | z
        · exact (e z).elim
        · exact z)
      exact ⟨_, .there hM⟩
theorem Sep.rem (h : Sep L H) (r : Rem L A M) : Sep (A :: M) H := h.perm r.perm
/-- a call that changes the first one and lets the rest stand -/
theorem Sep.rep (r : Rep L A B M) : ∃ N, (∀ H, Sep L H → Sep (A :: N) H) ∧ (∀ H, Sep (B :: N) H → Sep M H) := by
  obtain ⟨N, h1, h2⟩ := r.rem
  exact ⟨N, fun H h => h.perm h1, fun H h => h.perm h2.symm⟩
/-- one of them, and how all stand again behind a change of it -/
theorem Sep.at (h : Sep L H) (m : A ∈ L) : ∃ (W : Fz) (s r : Addr → Prop), A.ok W s H ∧ (∀ a, s a → r a → False) ∧ (∀ a, r a → ∃ o, H a = some o ∧ Nt o = true) ∧
    ∀ {s' : Addr → Prop} {H' : Hp}, A.ok W s' H' → (∀ a, s' a → r a → False) → (∀ a, r a → H' a = H a) → Tq K H H' → Sep L H' := by
  obtain ⟨M, hM⟩ := Rem.of_mem m
  obtain ⟨W, s, r, h1, h2, h3, h4⟩ := (h.rem hM).hd
  exact ⟨W, s, r, h1, h2, h3, fun a b c d => (h4 a b c d).perm hM.perm.symm⟩
theorem Sep.the (h : Sep L H) (m : A ∈ L) : ∃ W s, A.ok W s H ∧ FzOk W (fun _ => False) H := by
  obtain ⟨M, hM⟩ := Rem.of_mem m
  obtain ⟨W, s, f, s1, s2, d, u, h1, h2⟩ := h.rem hM
  exact ⟨W, s1, h1, f.less fun _ z => z.elim⟩
end
section
variable {K : PySem.W.Frag}
/-- a fact that stays, of the frozen ones and the heap -/
def persW (P : Fz → Hp → Prop) (h : ∀ W H H', Tq K H H' → P W H → P W H') (k : ∀ (W W' : Fz) H, (∀ a o, W a o → W' a o) → P W H → P W' H) : As K := ⟨fun W s H => (∀ a, ¬ s a) ∧ P W H, fun ⟨a, b⟩ _ t => ⟨a, h _ _ _ t b⟩, fun ⟨a, _⟩ b z => (a b z).elim, fun ⟨a, b⟩ e => ⟨a, k _ _ _ e b⟩⟩
/-- a fact that stays -/
def pers (P : Hp → Prop) (h : ∀ H H', Tq K H H' → P H → P H') : As K := persW (fun _ => P) (fun _ => h) fun _ _ _ _ b => b
def im (v : V) (d : PyData) : As K := pers (fun H => Im K H v d) fun _ _ t h => h.mono t.1
def ims (vs : List V) (ds : List PyData) : As K := pers (fun H => ImAll K H vs ds) fun _ _ t h => h.mono t.1
def tu (a : Addr) (xs : List V) : As K := pers (fun H => SqT K H a xs) fun _ _ t h => t.1 _ _ h
def pr (P : Prop) : As K := pers (fun _ => P) fun _ _ _ h => h
/-- an object that never changes any more -/
def fzn (a : Addr) (o : HO) : As K := persW (fun W _ => W a o) (fun _ _ _ _ h => h) fun _ _ _ e h => e _ _ h
/-- an object of one's own -/
def ob (a : Addr) (o : HO) : As K := ⟨fun _ s H => (∀ b, s b ↔ b = a) ∧ H a = some o ∧ Nt o = true, fun ⟨e, h, n⟩ k _ => ⟨e, (k a ((e a).mpr rfl)).trans h, n⟩, fun ⟨e, h, n⟩ b z => by
  obtain rfl := (e b).mp z
  exact ⟨o, h, n⟩, fun h _ => h⟩
/-- there is an x .. -/
def ex {α : Type} (f : α → As K) : As K := ⟨fun W s H => ∃ x, (f x).ok W s H, fun ⟨x, h⟩ e t => ⟨x, (f x).st h e t⟩, fun ⟨x, h⟩ => (f x).al h, fun ⟨x, h⟩ e => ⟨x, (f x).mo h e⟩⟩
/-- all of a list as one -/
def all (L : List (As K)) : As K := ⟨fun W => Hld W L, fun h e t => Hld.st h e t, fun h => Hld.al h, fun h e => Hld.mo e h⟩
variable {A B : As K} {L L' M : List (As K)} {H H' : Hp} {a p : Addr} {o u : HO} {v : V} {d : PyData} {vs xs : List V} {ds : List PyData} {W : Fz}
theorem Sep.pers_iff {P : Hp → Prop} {h : ∀ H H', Tq K H H' → P H → P H'} : Sep (pers P h :: L) H ↔ P H ∧ Sep L H := by
  constructor
  · intro z
    refine ⟨?_, z.tail⟩
    obtain ⟨W, s, ⟨_, h1⟩, _⟩ := z.the List.mem_cons_self
    exact h1
  · rintro ⟨p, W, s, f, q⟩
    exact ⟨W, s, f, fun _ => False, s, fun _ z => z.elim, fun a => ⟨.inr, fun z => z.elim False.elim id⟩, ⟨fun _ z => z, p⟩, q⟩
theorem Sep.im_iff : Sep (im v d :: L) H ↔ Im K H v d ∧ Sep L H := Sep.pers_iff
theorem Sep.tu_iff : Sep (tu a xs :: L) H ↔ SqT K H a xs ∧ Sep L H := Sep.pers_iff
theorem Sep.pr_iff {P : Prop} : Sep (pr P :: L) H ↔ P ∧ Sep L H := Sep.pers_iff
theorem Hld.app : ∀ {L L' : List (As K)} {s : Addr → Prop}, Hld W (L ++ L') s H ↔ ∃ s1 s2, (∀ a, s1 a → s2 a → False) ∧ (∀ a, s a ↔ s1 a ∨ s2 a) ∧ Hld W L s1 H ∧ Hld W L' s2 H
  | [], L', s => by
    constructor
    · intro h
      exact ⟨fun _ => False, s, fun _ z => z.elim, fun a => ⟨.inr, fun z => z.elim False.elim id⟩, fun _ z => z, h⟩
    · rintro ⟨s1, s2, d, u, h1, h2⟩
      exact h2.cg fun a => ⟨fun z => (u a).mpr (.inr z), fun z => ((u a).mp z).elim (fun y => (h1 a y).elim) id⟩
  | A :: L, L', s => by
    constructor
    · rintro ⟨s1, s2, d, u, h1, h2⟩
      obtain ⟨t1, t2, d', u', h3, h4⟩ := Hld.app.mp h2
      refine ⟨fun a => s1 a ∨ t1 a, t2, fun a x y => ?_, fun a => ?_, ⟨s1, t1, fun a x y => d a x ((u' a).mpr (.inl y)), fun a => Iff.rfl, h1, h3⟩, h4⟩
      · rcases x with x | x
        · exact d a x ((u' a).mpr (.inr y))
        · exact d' a x y
      · rw [u a, u' a, or_assoc]
    · rintro ⟨s1, s2, d, u, ⟨t1, t2, d', u', h1, h3⟩, h2⟩
      refine ⟨t1, fun a => t2 a ∨ s2 a, fun a x y => ?_, fun a => ?_, h1, Hld.app.mpr ⟨t2, s2, fun a x y => d a ((u' a).mpr (.inr x)) y, fun a => Iff.rfl, h3, h2⟩⟩
      · rcases y with y | y
        · exact d' a x y
        · exact d a ((u' a).mpr (.inl x)) y
      · rw [u a, u' a, or_assoc]
theorem Sep.all_iff : Sep (all L :: L') H ↔ Sep (L ++ L') H := by
  constructor
  · rintro ⟨W, s, f, s1, s2, d, u, h1, h2⟩
    exact ⟨W, s, f, Hld.app.mpr ⟨s1, s2, d, u, h1, h2⟩⟩
  · rintro ⟨W, s, f, h⟩
    obtain ⟨s1, s2, d, u, h1, h2⟩ := Hld.app.mp h
    exact ⟨W, s, f, s1, s2, d, u, h1, h2⟩
theorem Sep.obm (h : Sep L H) (m : ob a o ∈ L) : H a = some o := by
  obtain ⟨W, s, ⟨_, h1, _⟩, _⟩ := h.the m
  exact h1
theorem Sep.imm (h : Sep L H) (m : im v d ∈ L) : Im K H v d := by
  obtain ⟨W, s, ⟨_, h1⟩, _⟩ := h.the m
  exact h1
theorem Sep.imsm (h : Sep L H) (m : ims vs ds ∈ L) : ImAll K H vs ds := by
  obtain ⟨W, s, ⟨_, h1⟩, _⟩ := h.the m
  exact h1
theorem Sep.tum (h : Sep L H) (m : tu a xs ∈ L) : SqT K H a xs := by
  obtain ⟨W, s, ⟨_, h1⟩, _⟩ := h.the m
  exact h1
theorem Sep.set (h : Sep (ob a o :: L) H) (n : Nt u = true) : Sep (ob a u :: L) (upd H a u) := by
  obtain ⟨W, s, r, ⟨e, h1, n1⟩, d, _, k⟩ := h.hd
  refine k (s' := s) ⟨e, upd_same, n⟩ d (fun b z => upd_ne fun y => d b ((e b).mpr y) z) (tp_upd h1 n1)
theorem Sep.setR (h : Sep L H) (r : Rep L (ob a o) (ob a u) M) (n : Nt u = true) : Sep M (upd H a u) := by
  obtain ⟨N, h1, h2⟩ := Sep.rep r
  exact h2 _ ((h1 _ h).set n)
theorem Sep.new (h : Sep L H) (hp : H p = none) (n : Nt o = true) : Sep (ob p o :: L) (upd H p o) := by
  obtain ⟨W, s, f, h⟩ := h
  have ne : ∀ b, s b → b ≠ p := fun b z y => by
    obtain ⟨x, hx, _⟩ := h.al b z
    rw [y, hp] at hx
    cases hx
  have nw : ∀ b x, W b x → b ≠ p := fun b x z y => by
    have := (f b x z).1
    rw [y, hp] at this
    cases this
  exact ⟨W, fun b => b = p ∨ s b, fun b x z => ⟨by rw [upd_ne (nw b x z)]; exact (f b x z).1, (f b x z).2.1, fun y => y.elim (nw b x z) (f b x z).2.2⟩, fun b => b = p, s, fun b x y => ne b y x, fun b => Iff.rfl, ⟨fun b => Iff.rfl, upd_same, n⟩, h.st (fun b z => upd_ne (ne b z)) (Tq.new hp)⟩
theorem Sep.newT (h : Sep L H) (hp : H p = none) : Sep (tu p xs :: L) (upd H p (.tup xs)) := Sep.tu_iff.mpr ⟨sqt_of upd_same, h.same (same_new hp)⟩
end
/-- what may be told as often as one likes -/
class Dup {K : PySem.W.Frag} (A : As K) : Prop where
  no : ∀ {W : Fz} {s : Addr → Prop} {H : Hp}, A.ok W s H → ∀ a, ¬ s a
instance {K : PySem.W.Frag} {P : Fz → Hp → Prop} {h k} : Dup (persW (K := K) P h k) := ⟨fun z => z.1⟩
instance {K : PySem.W.Frag} {v d} : Dup (im (K := K) v d) := ⟨fun z => z.1⟩
instance {K : PySem.W.Frag} {v d} : Dup (ims (K := K) v d) := ⟨fun z => z.1⟩
instance {K : PySem.W.Frag} {v d} : Dup (tu (K := K) v d) := ⟨fun z => z.1⟩
instance {K : PySem.W.Frag} {P} : Dup (pr (K := K) P) := ⟨fun z => z.1⟩
instance {K : PySem.W.Frag} {a o} : Dup (fzn (K := K) a o) := ⟨fun z => z.1⟩
instance {K : PySem.W.Frag} {α : Type} {f : α → As K} [h : ∀ x, Dup (f x)] : Dup (ex f) := ⟨fun ⟨x, z⟩ => (h x).no z⟩
end Ls
open PySem PySem.Spec PyProof.Rows L2
namespace Ls
end Ls
open Ls
namespace Ls
open PySem PySem.Spec PyProof.Rows L2
def stepV (xs : List V) (k : Int) : List V := (sliceRange 0 (xs.length : Int) k).filterMap (xs[·]?)
def tStepL (K : PySem.W.Frag) (te : TE) (k : Int) : TE := fun σ H Q => te σ H fun x H1 => ∃ a xs, x = .ref a ∧ SqL K H1 a xs ∧ ∀ p, H1 p = none → Q (.ref p) (upd H1 p (.lst (stepV xs k)))
section
variable {K : PySem.W.Frag} {σ : L2.St} {H : Hp} {Q : VK} {te : TE} {k : Int}
theorem k_step (h : te σ H fun x H1 => ∃ a xs, x = .ref a ∧ SqL K H1 a xs ∧ ∀ p, H1 p = none → Q (.ref p) (upd H1 p (.lst (stepV xs k)))) : tStepL K te k σ H Q := h
theorem k_lenset (h : te σ H fun x H1 => ∃ (l : Addr) (ns : List Int), x = V.ref l ∧ SqL K H1 l (ns.map V.int) ∧ ns.Nodup ∧ ns.length ≤ 4000 ∧ Q (.int ns.length) H1) : RZ.tLenSetI K te σ H Q := h
end
def tJ (te : TE) : TE := fun σ H Q => ∃ M : VK, te σ H M ∧ ∀ v H', M v H' → Q v H'
theorem pe_join {X : Cx} {e : Expr} {te : TE} (h : PE X e te) : PE X e (tJ te) := by
  refine ⟨fun pins s σ H Q I ⟨M, hm, k⟩ => ?_⟩
  exact thn (h.run pins s σ H M I hm) fun v s1 ⟨x, H1, I1, r1, q1⟩ => ⟨x, H1, I1, r1, k _ _ q1⟩
theorem k_join {te : TE} {σ : L2.St} {H : Hp} {Q : VK} (M : VK) (h : te σ H M) (k : ∀ v H', M v H' → Q v H') : tJ te σ H Q := ⟨M, h, k⟩
theorem k_nojoin {te : TE} {σ : L2.St} {H : Hp} {Q : VK} (h : te σ H Q) : tJ te σ H Q := ⟨Q, h, fun _ _ h => h⟩
end Ls
namespace Ls
open PySem PySem.Spec PyProof.Rows L2
def tCFn (C : Addr) (sp : Sp) (E : XK) (ta : TE) (t : TA) : TE := fun σ H Q => ta σ H fun x H1 => x = .ref C ∧ t σ H1 fun vs H2 => sp (vs ++ []) H2 Q E
theorem pe_cfn {X : Cx} {CX : CXT} {k : Nat} {C f : Addr} {mc : Value} {fd : FuncData} {ps : List Str} {sp : Sp} {E : XK} {o e : Expr} {es : List Expr} {m : Str} {pos apos : Pos} {ta : TE} {t : TA} {pl : Sem Bool}
    (he : PE X o ta) (r : ClX.CRead X.K C mc) (c : ClX.CVal X.K C mc m (.ref f) (.ref f)) (kp : PySem.W.keepIn X.K (.ref f) = true) (F : FnOk X.prog X.w X.K X.mg X.base CX k f fd ps sp) (hr : Room k X.A) (hb : Binds X.K fd ps []) (hx : Passes CX X E) (ha : PA X (e :: es) t)
    (hst : starEach (e :: es) X.env = (false, eval e X.env) :: starEach es X.env := by rfl) (hpl : (backTo pos (starEach es X.env)).any (·.1) = false := by rfl)
    (ht : eval (.Call (.Attribute o m apos) (e :: es) [] pos) X.env = (do
      let ov ← eval o X.env
      standAt apos.atName
      let (f, first) ← holding [ov] (getMethod ov m pl)
      callWith pos f first (backTo pos (starEach (e :: es) X.env)) (backToKw pos (keywordEach [] X.env))) := by rfl) :
    PE X (.Call (.Attribute o m apos) (e :: es) [] pos) (tCFn C sp E ta t) := by
  refine ⟨fun pins s σ H Q I h => PySem.W.methodCall_KW (pl := pl) (thn (he.run pins s σ H _ I h) fun u s1 ⟨x, H1, I1, rx, ex, q⟩ => ?_) ht⟩
  subst ex
  obtain rfl : u = Value.ref C := rx
  refine PySem.W.method_cls I1.kIn r.ga (ClX.getcval_ok I1 r c fun s2 I2 => ?_)
  exact PySem.W.callWith_K (h₀ := X.base) I2.ok.mod.kin kp (thn (ha.run pos pins s2 σ H1 _ I2 q) fun us s3 ⟨vs, H2, I3, rv, q2⟩ => ⟨I3.kIn, run_fn F hr hb .nil hx I3 rv q2⟩) hst hpl
def tXfA (K : PySem.W.Frag) (a : Addr) (cls : Value) (d : Option Addr) (f : Str) (te : TE) : TE := fun σ H Q => ∃ C : Addr, XfC K C ∧ PySem.W.findIn K (.ref C) f = some none ∧ tXf a cls d C f te σ H Q
theorem pe_xfA {X : Cx} {a : Addr} {oe : Obj} {cls : Value} {d : Option Addr} {pn : List (Addr × Obj)} {e : Expr} {te : TE} {pos : Pos} {n : Str} (K : PySem.W.Frag) (hK : X.K = K) (hz : Zc cls d oe) (hf : ∃ vs, oe.data = .fields vs) (he : PE (X.suite a ((a, oe) :: pn)) e te)
    (hb : attributeBase e n X.env (eval e X.env) = eval e X.env := by rfl) : PE (X.suite a ((a, oe) :: pn)) (.Attribute e n pos) (tXfA K a cls d n te) := by
  subst hK
  exact ⟨fun pins s σ H Q I ⟨C, T, no, h⟩ => (pe_xf (C := C) T no hz hf he hb).run pins s σ H Q I h⟩
def gone (D : Ends) (i : Nat) : Ends := { nx := fun σ' H' => D.nx (σ'.set i none) H', rt := D.rt, bk := fun σ' H' => D.bk (σ'.set i none) H', ct := fun σ' H' => D.ct (σ'.set i none) H' }
abbrev Cla := Value × Nat × (Addr → Value → Option Addr → TS)
/-- what the clauses wish of an exception of the body -/
def wCl (K : PySem.W.Frag) (Wout : WX) (D : Ends) : List Cla → WX
  | [] => Wout
  | k :: r => fun cls d σ H => ∃ b, PySem.W.exmOne K cls k.1 = some b ∧ (b = true → ∀ a, H a = none → k.2.2 a cls d (gone D k.2.1) (σ.set k.2.1 (some (.ref a))) H) ∧ (b = false → wCl K Wout D r cls d σ H)
inductive ClOk (X : Cx) : List ExceptHandler → List Cla → Prop
  | nil : ClOk X [] []
  | cons {x n : Str} {c : Value} {i : Nat} {ts : Addr → Value → Option Addr → TS} {b0 : Stmt} {su : List Stmt} {np po : Pos} {hds : List ExceptHandler} {l : List Cla} (hc : Names X x c) (hi : X.N[i]? = some n) (hln : X.env.kindOf n = some .local)
      (hsu : ∀ (a : Addr) (oe : Obj) (cls : Value) (d : Option Addr) (pn : List (Addr × Obj)), Zc cls d oe → (∃ vs, oe.data = .fields vs) → PSs (X.suite a ((a, oe) :: pn)) (b0 :: su) (ts a cls d)) (r : ClOk X hds l) :
      ClOk X (.ExceptHandler (some (.Name x np)) (some n) (b0 :: su) po :: hds) ((c, i, ts) :: l)
theorem ps_try_cl {X : Cx} {body : List Stmt} {h0 : ExceptHandler} {hds : List ExceptHandler} {l : List Cla} {pos : Pos} {tb : WX → TS} {Wout : WX} (hst : X.stack = X.env :: X.outer) (hfl : X.env.frame = some X.env.locals) (hN : X.N.Nodup) (tk : Takes X Wout)
    (hb : ∀ (W : WX) (pn : List (Addr × Obj)) (xe : Value → Shared → Prop), Takes (X.tr pn xe) W → PassesOwn (model X.prog X.w) X.A X.env xe → PSs (X.tr pn xe) body (tb W)) (hh : ClOk X (h0 :: hds) l) :
    PS X (.Try body (h0 :: hds) [] [] pos) (fun D σ H => tb (wCl X.K Wout D l) D σ H) := by
  refine ⟨fun pins s σ H D I h => ?_⟩
  have OK := I.ok
  have FR : X.A.frames = some (X.env :: X.outer) := OK.frames.trans (congrArg some hst)
  let caught : Value → Shared → Prop := fun e u => wpAny (model X.prog X.w) X.A (noteFrame e X.env) (fun _ u2 => wpAny (model X.prog X.w) X.A (setFlight e none) (fun _ u3 => wpAny (model X.prog X.w) X.A (handleBy e X.env (h0 :: hds)) (SP X pins D) X.xe u3) X.xe u2) X.xe u
  refine wpAny_Try_except (wpAny_mono ((hb (wCl X.K Wout D l) (X.pn ++ pins) caught (fun u t y => ?_) PassesOwn.looking).run [] s σ H D (I.toTry _) h) (fun fl t y => ?_) fun e t z => z)
  · obtain ⟨a, B, t0, pins2, σ2, H2, cls, d, rfl, J2, nb, up, sk, na, os, ag, wish⟩ := y
    have J : Inv X pins σ2 H2 t0 := J2.ofTry OK
    have SK : Sky B (X.env :: X.outer) a (Zc cls d) X.env.locals t.heap := hst ▸ sk
    show wpAny (model X.prog X.w) X.A (noteFrame (.ref a) X.env) _ _ _
    refine Sky.land Zc.steady FR hfl SK fun g la ug => ?_
    have Jg : Inv X pins σ2 H2 { t with heap := g } := J.landed nb la.1 (up.trans ug) os ag
    obtain ⟨og, vg, eg, zg, dg⟩ := la.there
    have out : a ∉ frs (X.env :: X.outer) := fun m => by
      obtain ⟨_, o2, e2, n2⟩ := la.2.2.1.mem m
      rw [eg] at e2
      cases e2
      exact n2 _ dg
    have nLoc : a ≠ X.env.locals := fun z => out (List.mem_filterMap.mpr ⟨X.env, List.mem_cons_self, by rw [hfl, z]⟩)
    have nFs : a ∉ X.fs := fun m => by
      obtain ⟨e2, m2, q2⟩ := List.mem_filterMap.mp m
      exact out (List.mem_filterMap.mpr ⟨e2, List.mem_cons_of_mem _ m2, q2⟩)
    have Sg := Jg.suite eg dg na nLoc nFs
    have all : ∀ {hs2 : List ExceptHandler} {l2 : List Cla}, ClOk X hs2 l2 → wCl X.K Wout D l2 cls d σ2 H2 → wpAny (model X.prog X.w) X.A (handleBy (.ref a) X.env hs2) (SP X pins D) X.xe { t with heap := g } := by
      intro hs2 l2 ok2
      induction ok2 with
      | nil =>
        intro wish2
        obtain ⟨k1, k2, k3, o3, v3, T, oT, t3, e3, z3, d3, i3, r3⟩ := id la
        refine wpAny_handleBy_nil ?_
        unfold PySem.passOn
        refine wpAny_bind (wpAny_field e3 d3 i3 ?_)
        rw [if_neg (by simp : ¬ ((Value.ref T == Value.none) = true))]
        have last : wpAny (model X.prog X.w) X.A (setFlight (.ref a) X.env.frame) (fun _ u => wpAny (model X.prog X.w) X.A (throw (.ref a) : Sem Flow) (SP X pins D) X.xe u) X.xe { t with heap := g } := by
          rw [hfl]
          exact HandSPX.setFlight_upZ la fun g2 hg2 ug2 => wpAny_throw (tk _ _ ⟨a, B, t0, pins, σ2, H2, cls, d, rfl, J, nb, (up.trans ug).trans ug2, .inr (.inr (by rw [hst]; exact hg2)), na, os, ag, wish2⟩)
        first | exact wpAny_bind (wpAny_pure (wpAny_bind last)) | exact wpAny_bind last
      | @cons x n c i ts b0 su np po hds2 l3 hc hi hln hsu r ih =>
        rintro ⟨b, eb, yes, no⟩
        have lt : PySem.W.Looks (model X.prog X.w) g (typeOf (.ref a)) cls := fun A Q E u k q => wpAny_typeOf_ref (k _ _ eg) (zg.1.symm ▸ q)
        have lm := PySem.W.exm_one (M := model X.prog X.w) Jg.kIn lt eb
        have named : ∀ {Q : Value → Shared → Prop} {E : Value → Shared → Prop}, Q c { t with heap := g } → wpAny (model X.prog X.w) (X.A.mark (some (.ref a))) (eval (.Name x np) X.env) Q E { t with heap := g } := by
          intro Q E q
          obtain ⟨hg, hd, hm | ⟨hm, hv, hnn⟩⟩ := hc
          · exact ld_glob (X := X.suite a ((a, og) :: (X.pn ++ pins))) Sg hg hm q hd
          · exact ld_blt (X := X.suite a ((a, og) :: (X.pn ++ pins))) Sg hg hm hv q hnn hd
        refine wpAny_handleBy_cons (codeAny_handlers_test (named (lm.here ?_))) (by intro q; cases q)
        cases b with
        | false => exact ih (no rfl)
        | true =>
          refine codeAny_handlers_suite_as (HandSPX.lands_againZ la fun g2 la2 ug2 => ?_)
          have Jh : Inv X pins σ2 H2 { t with heap := g2 } := J.landed nb la2.1 ((up.trans ug).trans ug2) os ag
          obtain ⟨o4, v4, e4, z4, d4⟩ := la2.there
          have Sh := Jh.suite e4 d4 na nLoc nFs
          refine store_ok (X := X.suite a ((a, o4) :: (X.pn ++ pins))) (v := .ref a) Sh hN hi (.inl hln) rfl (fun u5 S5 => ?_) (.inr hln)
          refine wpAny_mono ((hsu a o4 cls d (X.pn ++ pins) z4 ⟨_, d4⟩).run [] u5 _ H2 _ S5 (yes rfl a na)) (fun fl6 u6 y6 => ?_) fun _ _ z => False.elim z
          have off : ∀ {σ6 : L2.St} {H6 : Hp} {R : Shared → Prop}, Inv (X.suite a ((a, o4) :: (X.pn ++ pins))) [] σ6 H6 u6 → (∀ u7, Inv X pins (σ6.set i none) H6 u7 → R u7) → wpAny (model X.prog X.w) X.A (do bindName X.env n .none; unbindBehindTheSuite X.env n po) (fun _ u7 => R u7) X.xe u6 :=
            fun S6 hq => gone_ok (S6.unsuite OK) hN hi hln hq
          cases fl6 with
          | ret u8 =>
            obtain ⟨v8, σ8, H8, S8, r8, q8⟩ := y6
            exact off S8 fun u7 J7 => ⟨_, _, _, J7, r8, q8⟩
          | next =>
            obtain ⟨σ8, H8, S8, q8⟩ := y6
            exact off S8 fun u7 J7 => ⟨_, _, J7, q8⟩
          | brk =>
            obtain ⟨σ8, H8, S8, q8⟩ := y6
            exact off S8 fun u7 J7 => ⟨_, _, J7, q8⟩
          | cont =>
            obtain ⟨σ8, H8, S8, q8⟩ := y6
            exact off S8 fun u7 J7 => ⟨_, _, J7, q8⟩
    exact all hh wish
  · cases fl with
    | ret u8 =>
      obtain ⟨v8, σ8, H8, J8, r8, q8⟩ := y
      exact ⟨v8, σ8, H8, J8.ofTry OK, r8, q8⟩
    | next =>
      obtain ⟨σ8, H8, J8, q8⟩ := y
      exact wpAny_execs_nil ⟨σ8, H8, J8.ofTry OK, q8⟩
    | brk =>
      obtain ⟨σ8, H8, J8, q8⟩ := y
      exact ⟨σ8, H8, J8.ofTry OK, q8⟩
    | cont =>
      obtain ⟨σ8, H8, J8, q8⟩ := y
      exact ⟨σ8, H8, J8.ofTry OK, q8⟩
end Ls
namespace Ls
open PySem PySem.Spec PyProof.Rows L2
theorem pmk_oex0 {X : Cx} {CX : CXT} {x : Str} {C fI : Addr} {k : Nat} {fd : FuncData} {ps : List Str} {sp : Sp} {ds : List Value} {dvs : List V} {p pos : Pos} (T : OexC X.K C) (iC : PySem.W.findIn X.K (.ref C) "__init__" = some (some (.ref fI))) (tI : PySem.W.typeIn X.K (.ref fI) = some (.type "function"))
    (Fi : FnOk X.prog X.w X.K X.mg X.base CX k fI fd ps sp) (hr : Room (k + 1) X.A) (hb : Binds X.K fd ps ds) (hd : Vals dvs ds) (hx : Passes CX X (fun _ _ _ => False)) (hg : Gl X x) (hm : X.mg x = some (.ref C)) (hdb : (x == ("__debug__" : Str)) = false := by decide) :
    PMk X (.Call (.Name x p) [] [] pos) (tMkO C sp dvs tNil) := by
  intro pins s σ H Q I h
  obtain ⟨_, _, _, _, bm, _, _, _, _, _, _, _, _, _, _, cl, rb⟩ := T.cls
  refine wpAny_Call_Name_kw (ld_glob I hg hm (PySem.W.callWith_K0 I.kIn T.kC ?_) hdb)
  show wpAny _ _ (call (.ref C) []) _ _ _
  obtain ⟨h0, g0, d0, k0, o0⟩ := s
  obtain ⟨_, made⟩ := h
  have up : h0.objs.size ≤ h0.objs.size + 1 := Nat.le_succ _
  have free : H (h0.objs.size + 1) = none := I.hok.fresh up
  have it := made (h0.objs.size + 1) free
  have keep : ∀ b o, h0.get? b = some o → ((h0.push (PySem.W.kdv_tup [])).push (PySem.HandSPX.excO C h0.objs.size)).get? b = some o := fun b o e => Heap.get?_push_of_some _ (Heap.get?_push_of_some _ e)
  have at1 : ((h0.push (PySem.W.kdv_tup [])).push (PySem.HandSPX.excO C h0.objs.size)).get? (h0.objs.size + 1) = some (PySem.HandSPX.excO C h0.objs.size) := by heap_get
  have J : Inv X pins σ (upd H (h0.objs.size + 1) (exo (h0.objs.size + 1) C none)) ⟨((h0.push (PySem.W.kdv_tup [])).push (PySem.HandSPX.excO C h0.objs.size)), g0, d0, k0, o0⟩ :=
    I.laid (a := h0.objs.size + 1) (o := exo (h0.objs.size + 1) C none) (h' := ((h0.push (PySem.W.kdv_tup [])).push (PySem.HandSPX.excO C h0.objs.size))) (t' := k0) keep up (exo_ok at1)
  have vals : Vals (V.ref (h0.objs.size + 1) :: ([] ++ dvs)) (Value.ref (h0.objs.size + 1) :: ds) := .cons rfl hd
  have len : ([Value.ref (h0.objs.size + 1)] ++ ds).length = ps.length := vals.length.symm.trans (Fi.len _ _ _ _ it)
  refine wpAny_call (PySem.HandSPX.call_own F.excBase_ValueError (fun Y => PySem.HandSPX.refsVE_contains Y bm rb) (I.kIn _ _ cl) (PySem.W.looks_findIn I.kIn iC) (fun self => PySem.W.bind_fn I.kIn self tI) (Nat.zero_le _)
    (codeAny_mono (Fi.run _ X.stack _ _ ⟨[Value.ref (h0.objs.size + 1)], []⟩ (Value.ref (h0.objs.size + 1) :: ds) _ _ (fun _ _ _ => False) (hr.make C [] []) (J.env0.make C [] []) (hb _ [Value.ref (h0.objs.size + 1)] J.kIn len) vals it) fun r s' z => ?_))
  cases r with
  | error e => exact hx pins σ _ _ e s' J z
  | ok fl =>
    cases fl with
    | next => exact z.elim
    | brk => exact z.elim
    | cont => exact z.elim
    | ret u =>
      obtain ⟨v, H2, os2, bare2, un2, ok2, rv, ev, d, fs, ea, ed, fr, q⟩ := z
      subst ev
      obtain ⟨h2, g2, d2, k2, o2⟩ := s'
      exact ⟨rv, mk_end (raises_own T.exC T.tyC) I up keep un2 ok2 os2 bare2 ea ed fr q⟩
end Ls
namespace Ls
open PySem PySem.Spec PyProof.Rows L2
def eqO (a b : Option (Option Value)) : Bool := decide (a = b)
def oexC (K : PySem.W.Frag) (C : Addr) : Bool := match K.lookup C with
  | some ⟨.type "type", _, .cls cd, sl⟩ => (match cd.mro, sl.toList with
    | .ref D :: bm, [_, _, _, _, some (.builtin n), _] => decide (D = C) && (decide (n = "ValueError.__new__") && (cd.hasDict && (!cd.hasDel && PySem.HandSPX.refsVE bm)))
    | _, _ => false)
  | _ => false
def oexB (K : PySem.W.Frag) (C : Addr) : Bool := oexC K C && (eqO (PySem.W.findIn K (.ref C) "__setattr__") (some (some (.builtin "object.__setattr__"))) && (decide (PySem.W.subIn K (.ref C) (.type "BaseException") = some true) && (decide (PySem.W.typeIn K (.ref C) = some (.type "type")) && PySem.W.keepIn K (.ref C))))
theorem ba2 {a b : Bool} (h : (a && b) = true) : a = true ∧ b = true := Bool.and_eq_true_iff.mp h
theorem oexB_ok {K : PySem.W.Frag} {C : Addr} (h : oexB K C = true) : OexC K C := by
  obtain ⟨h1, h⟩ := ba2 h
  obtain ⟨h2, h⟩ := ba2 h
  obtain ⟨h3, h⟩ := ba2 h
  obtain ⟨h4, h5⟩ := ba2 h
  refine ⟨?_, of_decide_eq_true h2, of_decide_eq_true h3, of_decide_eq_true h4, h5⟩
  unfold oexC at h1
  split at h1
  · rename_i dd cd sl ho
    split at h1
    · rename_i D bm k0 k1 k2 k3 n k5 hm hs
      obtain ⟨a1, h1⟩ := ba2 h1
      obtain ⟨a2, h1⟩ := ba2 h1
      obtain ⟨a3, h1⟩ := ba2 h1
      obtain ⟨a4, a5⟩ := ba2 h1
      obtain rfl := of_decide_eq_true a1
      obtain rfl := of_decide_eq_true a2
      obtain ⟨nm, bs, mro, ns, qn, hd, sn, sub, ab, col, del⟩ := cd
      dsimp only at hm a3 a4
      subst hm a3
      have a4 : del = false := by simpa using a4
      subst a4
      obtain ⟨sl⟩ := sl
      dsimp only at hs
      subst hs
      exact ⟨nm, qn, ns, bs, bm, sn, sub, ab, col, dd, k0, k1, k2, k3, k5, ho, a5⟩
    · cases h1
  · cases h1
/-- C.__init__ is the def at ma K C "__init__" -/
def iniB (K : PySem.W.Frag) (C : Addr) : Bool := eqO (PySem.W.findIn K (.ref C) "__init__") (some (some (.ref (He.ma K C "__init__")))) && decide (PySem.W.typeIn K (.ref (He.ma K C "__init__")) = some (.type "function"))
theorem iniB_ok {K : PySem.W.Frag} {C : Addr} (h : iniB K C = true) : PySem.W.findIn K (.ref C) "__init__" = some (some (.ref (He.ma K C "__init__"))) ∧ PySem.W.typeIn K (.ref (He.ma K C "__init__")) = some (.type "function") := by
  obtain ⟨h1, h2⟩ := ba2 h
  exact ⟨of_decide_eq_true h1, of_decide_eq_true h2⟩
/-- C.__init__ read by the class -/
def crdB (K : PySem.W.Frag) (C : Addr) : Bool := PySem.W.readsIn K C (.type "type") && eqO (PySem.W.specialIn K (.ref C) "__getattribute__") (some (some (.builtin "type.__getattribute__")))
theorem crdB_ok {K : PySem.W.Frag} {C : Addr} (h : crdB K C = true) : ClX.CRead K C (.type "type") := by
  obtain ⟨h1, h2⟩ := ba2 h
  exact ⟨h1, of_decide_eq_true h2⟩
def cviB (K : PySem.W.Frag) (C : Addr) : Bool := (match PySem.W.findCls K (.ref C) (.type "type") "__init__" with
  | some (.val (.ref f)) => decide (f = He.ma K C "__init__")
  | _ => false)
theorem cviB_ok {K : PySem.W.Frag} {C : Addr} (h : cviB K C = true) : ClX.CVal K C (.type "type") "__init__" (.ref (He.ma K C "__init__")) (.ref (He.ma K C "__init__")) := by
  refine ⟨?_, rfl⟩
  unfold cviB at h
  split at h
  · rename_i f hf
    rw [of_decide_eq_true h] at hf
    exact hf
  · cases h
def veiB (K : PySem.W.Frag) : Bool := (match PySem.W.findCls K (.type "ValueError") (.type "type") "__init__" with
  | some (.val (.builtin n)) => decide (n = "ValueError.__init__")
  | _ => false)
theorem veiB_ok {K : PySem.W.Frag} (h : veiB K = true) : PySem.W.findCls K (.type "ValueError") (.type "type") "__init__" = some (.val (.builtin "ValueError.__init__")) := by
  unfold veiB at h
  split at h
  · rename_i n hn
    rw [of_decide_eq_true h] at hn
    exact hn
  · cases h
def noFB (K : PySem.W.Frag) (C : Addr) (f : Str) : Bool := eqO (PySem.W.findIn K (.ref C) f) (some none)
theorem noFB_ok {K : PySem.W.Frag} {C : Addr} {f : Str} (h : noFB K C f = true) : PySem.W.findIn K (.ref C) f = some none := of_decide_eq_true h
def exmB (K : PySem.W.Frag) (C D : Addr) (b : Bool) : Bool := decide (PySem.W.exmOne K (.ref C) (.ref D) = some b)
theorem exmB_ok {K : PySem.W.Frag} {C D : Addr} {b : Bool} (h : exmB K C D b = true) : PySem.W.exmOne K (.ref C) (.ref D) = some b := of_decide_eq_true h
end Ls
namespace Ls
open PySem PySem.Spec PyProof.Rows L2
/-- C.__init__(self): the word w -/
def spInit0 (K : PySem.W.Frag) (w : Str) : Sp := fun vs H Q _ => ∃ (a C : Addr), vs = [.ref a] ∧ OexC K C ∧ PySem.W.findIn K (.ref C) "word" = some none ∧ H a = some (exo a C none) ∧ ∀ dx, H dx = none → dx ≠ a → Q .non (upd (upd H dx (exd dx [("word", .str w)])) a (exo a C (some dx)))
/-- the base's __init__(self, word) -/
def spInit1 (K : PySem.W.Frag) : Sp := fun vs H Q _ => ∃ (a C : Addr) (w : Str), vs = [.ref a, .str w] ∧ OexC K C ∧ PySem.W.findIn K (.ref C) "word" = some none ∧ H a = some (exo a C none) ∧ ∀ dx, H dx = none → dx ≠ a → Q .non (upd (upd H dx (exd dx [("word", .str w)])) a (exo a C (some dx)))
section
variable {K : PySem.W.Frag} {σ : L2.St} {H : Hp} {D : Ends} {C : Addr} {w : Str}
theorem k_vei {Q : VK} {ta : TA} (h : ta σ H fun vs H1 => ∃ (a C : Addr) (ws : List V), vs = .ref a :: ws ∧ ws.length ≤ 1000 ∧ OexC K C ∧ H1 a = some (exo a C none) ∧ Q .non H1) : tVeI K ta σ H Q := h
theorem k_ost {f : Str} {to te : TE} (h : te σ H fun y H1 => to σ H1 fun x H2 => ∃ a C : Addr, x = .ref a ∧ OexC K C ∧ PySem.W.findIn K (.ref C) f = some none ∧
  ((H2 a = some (exo a C none) ∧ ∀ dx, H2 dx = none → dx ≠ a → D.nx σ (upd (upd H2 dx (exd dx [(f, y)])) a (exo a C (some dx)))) ∨
    ∃ (dx : Addr) (fs : List (Str × V)), H2 a = some (exo a C (some dx)) ∧ H2 dx = some (exd dx fs) ∧ fs.length ≤ 900 ∧ D.nx σ (upd H2 dx (exd dx ((f, y) :: fs))))) : tOst K f to te D σ H := h
theorem k_cfn {Q : VK} {sp : Sp} {E : XK} {ta : TE} {t : TA} (h : ta σ H fun x H1 => x = .ref C ∧ t σ H1 fun vs H2 => sp (vs ++ []) H2 Q E) : tCFn C sp E ta t σ H Q := h
/-- raise C() -/
theorem k_raise {Q : XK} (T : OexC K C) (no : PySem.W.findIn K (.ref C) "word" = some none) (q : ∀ d H', H d = none → Same H H' → H' d = some (.xd [("word", .str w)]) → Q (.ref C) (some d) H') : tMkO C (spInit0 K w) [] tNil σ H Q := by
  refine ⟨Nat.zero_le _, fun a ha => ⟨a, C, rfl, T, no, upd_same, fun dx hdx na => ⟨rfl, dx, [("word", .str w)], upd_same, ?_, ?_, ?_⟩⟩⟩
  · rw [upd_ne na]
    exact upd_same
  · rw [upd_ne na] at hdx
    exact hdx
  · have hd : H dx = none := by
      rw [upd_ne na] at hdx
      exact hdx
    refine q dx _ hd (fun b o hb => ?_) upd_same
    have b1 : b ≠ dx := ne_of_none hb hd
    have b2 : b ≠ a := ne_of_none hb ha
    rw [upd_ne b1, del_ne b2, upd_ne b2, upd_ne b1, upd_ne b2]
    exact hb
end
end Ls
namespace Ls
open PySem PySem.Spec PyProof.Rows L2 LamX
section
variable {X : Cx} {pins : List (Addr × Obj)} {σ : L2.St} {H : Hp} {s : Shared}
theorem pe_actZ {CXg : CXT} {Eg : XK} {Ng : List Str} {qg : Str} {sg : Scope} {g f c' : Addr} {cdg pm ctv : Value} {params : Arguments} {body : Expr} {scope : Scope} {k i : Nat} {a : Str} {pn : List (Addr × Obj)} {xe : Value → Shared → Prop} {W : WX} {tb : XK → TE} {p1 p2 : Pos}
    (I : Inv X pins σ H s) (L : LamS X.env.scope scope) (of : s.heap.get? f = some (PySem.W.kla_obj "<lambda>" (X.env.qual ++ "<lambda>") params body scope (cloFrom X.env.cells scope.names []) pm c' ctv)) (hfn : H f = none) (hfr : f ∉ frs X.stack)
    (bind0 : bindArgs (PySem.W.kla_fn "<lambda>" (X.env.qual ++ "<lambda>") params body scope (cloFrom X.env.cells scope.names []) pm (.ref c') ctv) ⟨[], []⟩ = pure [])
    (tk : Takes ((cxOf CXg X.prog X.w X.K X.mg X.base Ng qg sg g cdg X.A X.stack s H Eg).tr pn xe) W) (hr : Room (k + 1) (X.A.deeper (envOfC qg sg s.heap.objs.size g cdg)))
    (bodyP : ∀ (E : XK) (A : Around) (outer : List Env) (s : Shared) (H : Hp), Room k (A.deeper (lamEnv X scope s.heap.objs.size f c')) → PE (lamCx X A outer s H E scope f c') body (tb E))
    (hN : Ng[i]? = some a) (hv : Vis sg a) (hd : (a == ("__debug__" : Str)) = false := by decide) (hcd : (a == ("__classdict__" : Str)) = false := by decide) :
    PE ((cxOf CXg X.prog X.w X.K X.mg X.base Ng qg sg g cdg X.A X.stack s H Eg).tr pn xe) (.Call (.Name a p1) [] [] p2)
      (fun σZ HZ Q => σZ[i]? = some (some (.ref f)) ∧ HZ c' = some (CodeO c' (X.env.qual ++ "<lambda>")) ∧ tb (fun cls d H' => W cls d σZ H') σ HZ Q) := by
  refine ⟨fun pZ sZ σZ HZ Q IZ ⟨z1, z2, z3⟩ => ?_⟩
  refine wpAny_Call_Name_kw (thn ((pe_var (pos := p1) (i := i) hN hv hd hcd).run pZ sZ σZ HZ (fun v H1 => v = .ref f ∧ H1 = HZ) IZ ⟨.ref f, z1, rfl, rfl⟩) fun u s1 ⟨v, H1, I1, r1, e1, e2⟩ => ?_)
  subst e1
  rw [e2] at I1
  obtain rfl : u = Value.ref f := r1
  have of1 : s1.heap.get? f = some (PySem.W.kla_obj "<lambda>" (X.env.qual ++ "<lambda>") params body scope (cloFrom X.env.cells scope.names []) pm c' ctv) := I1.base.keep f _ of hfn hfr (fun z => nomatch (show f ∈ ([] : List Addr) from z))
  obtain ⟨⟨oc, vs, t, c1, c2, c3⟩, _, _⟩ := I1.hok c' _ z2
  have run : codeAny (model X.prog X.w) (X.A.deeper (envOfC qg sg s.heap.objs.size g cdg)) (.call (.ref f) ⟨[], []⟩) (CR (L2.CX X.prog X.w) (envOfC qg sg s.heap.objs.size g cdg :: X.stack) X.prog X.w HZ s1 Q (WE W σZ)) s1 := by
    refine PySem.W.kla_callFunE hr.depth of1 rfl L.co L.gen rfl ⟨c', oc, vs, t, rfl, c1, c2, c3⟩ (bind0 ▸ wpAny_pure (wpAny_newFunctionEnv (fun y hy => (L.own y hy).2) (fun y hy => absurd hy (by simp)) (fun h2 n2 b2 => ⟨I1.nolimit.fresh _ b2, ?_⟩) L.kind))
    have keep2 : ∀ b o, s1.heap.get? b = some o → h2.get? b = some o := fun b o e => b2.extBut b o (Nat.ne_of_lt (Heap.lt_size e)) (Heap.get?_push_of_some _ e)
    have J := lam_start2 (E := WE W σZ) (f := f) (c' := c') (tk := s1.toks + ([] : List (Str × Value)).length) I L I1.env0 hr.hd I1.base n2 keep2
    refine PySem.W.kla_codeExpr (wpAny_mono ((bodyP (WE W σZ) _ _ s1 HZ (hr.deeper _)).run [] _ _ HZ Q J z3) (fun v s' hq => ?_) fun e s' hq => hq)
    obtain ⟨w', H', J', rv, q⟩ := hq
    exact ⟨w', H', J'.os, J'.bare, J'.base, J'.hok, rv, q⟩
  refine PySem.W.callWith_F0 ⟨_, _, _, _, of1⟩ (wpAny_call (codeAny_mono run fun r s' hq => ?_))
  cases r with
  | error e => exact tk e s' (XE.of_call I1 (fun _ _ _ h => h) hq)
  | ok fl =>
    cases fl with
    | ret u => exact I1.after hq
    | next => exact False.elim hq
    | brk => exact False.elim hq
    | cont => exact False.elim hq
end
/-- the def that calls what it got -/
def GivesZ (X : Cx) (Ng : List Str) (x : Str) (sg : Scope) (g : Addr) (cdg : Value) (bg : List Stmt) (a : Str) (q : Str) (TT : (XK → Hp → VK → Prop) → Hp → VK → Prop) : Prop :=
  ∀ (f c' : Addr) (s : Shared) (H : Hp) (Q : VK) (tl : XK → Hp → VK → Prop),
    (∀ (W : WX) (pn : List (Addr × Obj)) (xe : Value → Shared → Prop) (p1 p2 : Pos), Takes ((cxOf C8.CX0 X.prog X.w X.K X.mg X.base Ng x sg g cdg X.A X.stack s H C8.E0).tr pn xe) W →
      PE ((cxOf C8.CX0 X.prog X.w X.K X.mg X.base Ng x sg g cdg X.A X.stack s H C8.E0).tr pn xe) (.Call (.Name a p1) [] [] p2) (fun σZ HZ Q => σZ[0]? = some (some (.ref f)) ∧ HZ c' = some (CodeO c' q) ∧ tl (fun cls d H' => W cls d σZ H') HZ Q)) →
    H c' = some (CodeO c' q) → TT tl H Q →
    ∃ t, PSs (cxOf C8.CX0 X.prog X.w X.K X.mg X.base Ng x sg g cdg X.A X.stack s H C8.E0).nox bg t ∧ t { nx := fun _ H' => Q .non H', rt := Q } (L2.start Ng [.ref f]) H
section
variable {X : Cx}
theorem pe_lamZ {T : List (Addr × Str)} {TT : (XK → Hp → VK → Prop) → Hp → VK → Prop} {x a : Str} {g c P : Addr} {k : Nat} {pg : Arguments} {bg : List Stmt} {sg : Scope} {dV kV doc pm cdv ct oc : Value} {an od : Option Addr} {osl : Array (Option Value)} {Ng : List Str}
    {params : Arguments} {body : Expr} {scope : Scope} {t : XK → TE} {p lpos pos : Pos} (hg : Gl X x) (hm : X.mg x = some (.ref g)) (hk : PySem.W.keepIn X.K (.ref g) = true)
    (lk : X.K.lookup g = some ⟨oc, od, .func (PySem.W.fnOf x x pg bg sg dV kV doc pm an cdv ct), osl⟩) (hcg : PySem.W.codeIn X.K cdv x = true) (hb : L2.Binds X.K (PySem.W.fnOf x x pg bg sg dV kV doc pm an cdv ct) [a] []) (Sg : FnScope Ng [a] sg) (hNg : Ng[0]? = some a) (hva : Vis sg a)
    (give : GivesZ X Ng x sg g cdv bg a (X.env.qual ++ "<lambda>") TT)
    (TB : TabB X.base X.mg c P) (hcode : X.env.code = .ref c) (hmT : (P, X.env.qual ++ "<lambda>") ∈ T) (hu : ∀ p ∈ T, p.1 = P → p.2 = X.env.qual ++ "<lambda>") (hr : Room (k + 2) X.A) (L : LamS X.env.scope scope) (hdef : defaultsOf params X.env = ([], []))
    (bind0 : ∀ (q : Str) (cl : List (Str × Addr)) (pm cv ctv : Value), bindArgs (PySem.W.kla_fn "<lambda>" q params body scope cl pm cv ctv) ⟨[], []⟩ = pure [])
    (bodyP : ∀ (A : Around) (outer : List Env) (s : Shared) (H : Hp) (E : XK) (f c' : Addr), Room k (A.deeper (lamEnv X scope s.heap.objs.size f c')) → PE (lamCx X A outer s H E scope f c') body (t E))
    (hdb : (x == ("__debug__" : Str)) = false := by decide) (hd : (a == ("__debug__" : Str)) = false := by decide) (hcd : (a == ("__classdict__" : Str)) = false := by decide) :
    PE X (.Call (.Name x p) [.Lambda params body scope lpos] [] pos) (tLam T TT t) := by
  refine ⟨fun pins s σ H Q I ⟨hT, h⟩ => wpAny_Call_Name_kw (ld_glob I hg hm ?_ hdb)⟩
  refine PySem.W.callWith_K (h₀ := X.base) I.ok.mod.kin hk ?_ (by rfl) (by rfl)
  show wpAny _ _ (spliced ((false, eval (.Lambda params body scope lpos) X.env) :: backTo pos (starEach [] X.env))) _ _ s
  refine Calls.spliced_cons (lam_make2 I TB hcode hmT hu hT hdef (L.has I.ok) fun f c' pm' ctv H1 s' I1 eN T1 hf hfn hfr hco => Calls.spliced_nil ⟨I1.kIn, ?_⟩)
  have run : codeAny (model X.prog X.w) X.A (.call (.ref g) ⟨[.ref f], []⟩) (CR C8.CX0 X.stack X.prog X.w H1 s' Q C8.E0) s' := by
    refine run_ofS (N := Ng) (ps := [a]) (us := [.ref f]) (vs := [.ref f]) lk hcg Sg hr I1.env0 (hb s' [.ref f] I1.kIn rfl) (.cons rfl .nil) rfl fun hr' => ?_
    obtain ⟨t', ht', hq'⟩ := give f c' s' H1 Q (fun E H' Q' => t E σ H' Q') (fun W pn xe p1 p2 tk => pe_actZ (i := 0) I1 L hf hfn hfr (bind0 _ _ _ _ _) tk hr' (fun E A outer s H hr2 => bodyP A outer s H E f c' hr2) hNg hva hd hcd) hco (h H1 eN T1)
    exact ⟨t', ht'.nox, hq'⟩
  refine wpAny_call (codeAny_mono run fun r s2 hq => ?_)
  cases r with
  | error e => exact (show False from hq).elim
  | ok fl =>
    cases fl with
    | ret u => exact I1.after hq
    | next => exact False.elim hq
    | brk => exact False.elim hq
    | cont => exact False.elim hq
end
end Ls
namespace Ls
open PySem PySem.Spec PyProof.Rows L2
end Ls
namespace Ls
open PySem PySem.Spec PyProof.Rows L2
def fn1 {α : Type} (n : Nat) (k : Nat → α) : α := match n with
  | 0 => k 0
  | m + 1 => k (m + 1)
theorem fn1_eq {α : Type} (n : Nat) (k : Nat → α) : fn1 n k = k n := by
  cases n <;> rfl
def seenZ (m a : Nat) : Bool := Nat.beq (Nat.land (Nat.shiftRight m a) 1) 1
def addZ {α : Type} : List Addr → List Addr → Nat → (List Addr → Nat → α) → α
  | [], fr, m, k => k fr m
  | a :: as, fr, m, k => fn1 a fun a => match seenZ m a with
    | true => addZ as fr m k
    | false => fn1 (Nat.lor m (Nat.shiftLeft 1 a)) fun m => addZ as (a :: fr) m k
theorem addZ_k {α : Type} : ∀ (as fr : List Addr) (m : Nat) (k : List Addr → Nat → α), addZ as fr m k = k (addZ as fr m fun f _ => f) (addZ as fr m fun _ m => m)
  | [], fr, m, k => rfl
  | a :: as, fr, m, k => by
    simp only [addZ, fn1_eq]
    cases seenZ m a with
    | true => exact addZ_k as fr m k
    | false => exact addZ_k as (a :: fr) _ k
def goZ (g : Addr → Option Obj) : List Addr → List Addr
  | [] => []
  | a :: as => (match g a with
    | some o => He.refsD o
    | none => []) ++ goZ g as
def onZ : List Addr → List Addr → List Addr
  | [], l => l
  | a :: as, l => onZ as (a :: l)
def asZ {α : Type} (g : Addr → Option Obj) : Nat → List Addr → List Addr → Nat → (List Addr → α) → α
  | 0, _, acc, _, k => k (onZ acc [])
  | n + 1, fr, acc, m, k => addZ (goZ g fr) [] m fun fr2 m2 => asZ g n fr2 (onZ fr2 acc) m2 k
theorem asZ_k {α : Type} (g : Addr → Option Obj) : ∀ (n : Nat) (fr acc : List Addr) (m : Nat) (k : List Addr → α), asZ g n fr acc m k = k (asZ g n fr acc m id)
  | 0, fr, acc, m, k => rfl
  | n + 1, fr, acc, m, k => by
    simp only [asZ]
    rw [addZ_k, asZ_k, addZ_k (k := fun fr2 m2 => asZ g n fr2 (onZ fr2 acc) m2 id)]
def frK {α : Type} (g : Addr → Option Obj) : List Addr → (PySem.W.Frag → α) → α
  | [], k => k []
  | a :: l, k => match g a with
    | some o => (match He.emptyTab o with
      | true => frK g l k
      | false => fn1 a fun a => frK g l fun K => k ((a, o) :: K))
    | none => frK g l k
theorem frK_eq {α : Type} (g : Addr → Option Obj) : ∀ (l : List Addr) (k : PySem.W.Frag → α), frK g l k = k (He.frT g l)
  | [], k => rfl
  | a :: l, k => by
    unfold frK He.frT He.frG
    rw [List.filterMap_cons]
    cases e : g a with
    | none => exact frK_eq g l k
    | some o =>
      simp only [fn1_eq]
      cases e2 : He.emptyTab o with
      | true =>
        rw [show (Option.map (fun o => (a, o)) (some o)) = some (a, o) from rfl]
        simp only
        rw [List.filter_cons_of_neg (by rw [e2]; decide)]
        exact frK_eq g l k
      | false =>
        rw [show (Option.map (fun o => (a, o)) (some o)) = some (a, o) from rfl]
        simp only
        rw [List.filter_cons_of_pos (by rw [e2]; rfl)]
        exact frK_eq g l _
def wK {α : Type} (n : Nat) (g : Addr → Option Obj) (k : PySem.W.Frag → α) : α := asZ g n [mainGlobals] [mainGlobals] (Nat.shiftLeft 1 mainGlobals) fun as => frK g (cStatics :: as) k
def KZ (n : Nat) (g : Addr → Option Obj) : PySem.W.Frag := He.frT g (cStatics :: asZ g n [mainGlobals] [mainGlobals] (Nat.shiftLeft 1 mainGlobals) id)
theorem wK_eq {α : Type} (n : Nat) (g : Addr → Option Obj) (k : PySem.W.Frag → α) : wK n g k = k (KZ n g) := by
  unfold wK KZ
  rw [asZ_k, frK_eq]
section
variable (n : Nat) (fa : List He.Fa) (fn : List He.DefD) (ts : List He.Tab) (tf : List He.Defn) (eb : PySem.W.Frag → Bool)
def obsZ (g : Addr → Option Obj) : He.AlX := wK n g fun K => (He.obsT fa fn ts K, eb K && He.tabsB g tf K)
theorem obsZ_is (g : Addr → Option Obj) : obsZ n fa fn ts tf eb g = (He.obsT fa fn ts (KZ n g), eb (KZ n g) && He.tabsB g tf (KZ n g)) := wK_eq n g _
theorem saysZ {w : World} {h : Heap} (e : obsZ n fa fn ts tf eb h.get? = He.valX fn ts w) : He.SaysX fa fn ts tf eb w h (KZ n h.get?) := by
  rw [obsZ_is] at e
  have eT := congrArg (fun q : He.AlX => q.1) e
  have eB : (eb (KZ n h.get?) && He.tabsB h.get? tf (KZ n h.get?)) = true := congrArg (fun q : He.AlX => q.2) e
  have e1 := (Bool.and_eq_true_iff.mp eB).1
  have e2 := (Bool.and_eq_true_iff.mp eB).2
  have each : ∀ d ∈ tf, PySem.W.codeHdIn (KZ n h.get?) (He.cT (KZ n h.get?) d).1 (He.cT (KZ n h.get?) d).2 = true ∧ ∃ u, h.get? (He.cT (KZ n h.get?) d).2 = some u ∧ He.emptyTab u = true := by
    intro d hd
    have z := List.all_eq_true.mp e2 d hd
    have z1 := (Bool.and_eq_true_iff.mp z).1
    have z2 := (Bool.and_eq_true_iff.mp z).2
    refine ⟨z1, ?_⟩
    split at z2
    · rename_i u hu
      exact ⟨u, hu, z2⟩
    · cases z2
  refine ⟨eT, e1, fun d hd => (each d hd).1, fun d hd => ?_, fun d hd => ?_⟩
  · obtain ⟨_, u, hu, ue⟩ := each d hd
    exact He.frT_none hu ue
  · obtain ⟨_, u, hu, ue⟩ := each d hd
    rw [hu, He.emptyTab_eq ue]
def hookZ : PySem.W.Hook where
  α := He.AlX
  obs := fun s => obsZ n fa fn ts tf eb s.heap.get?
  val := fun w => He.valX fn ts w
  says := fun w h => ∃ K : PySem.W.Frag, K.In h ∧ He.SaysX fa fn ts tf eb w h K
  of := fun _ _ e => ⟨KZ n _, He.frT_in, saysZ n fa fn ts tf eb e⟩
  keeps := fun _ _ _ ⟨K, hK, y⟩ k => ⟨K, PySem.W.Frag.In.keeps hK k, ⟨y.t, y.more, y.hd, y.out, fun d hd => k _ _ (y.empty d hd)⟩⟩
theorem obsZ_eq {g : Addr → Option Obj} {s : Shared} (h : ∀ a, g a = s.heap.get? a) : obsZ n fa fn ts tf eb g = (hookZ n fa fn ts tf eb).obs s := by
  obtain rfl : g = s.heap.get? := funext h
  rfl
end
end Ls
namespace Lh
open PySem PySem.Spec PyProof.Rows L2 Ls Lw LamX
def d_law : He.DefD := ⟨("law", none), "law", "law", defArgs s_law, defBody s_law, defScope s_law, [], []⟩
def d__law_begin : He.DefD := ⟨("_law_begin", none), "_law_begin", "_law_begin", defArgs s__law_begin, defBody s__law_begin, defScope s__law_begin, [], []⟩
def d__law_same : He.DefD := ⟨("_law_same", none), "_law_same", "_law_same", defArgs s__law_same, defBody s__law_same, defScope s__law_same, [], []⟩
def d__law_kind_of : He.DefD := ⟨("_law_kind_of", none), "_law_kind_of", "_law_kind_of", defArgs s__law_kind_of, defBody s__law_kind_of, defScope s__law_kind_of, [], []⟩
def d__law_some_way : He.DefD := ⟨("_law_some_way", none), "_law_some_way", "_law_some_way", defArgs s__law_some_way, defBody s__law_some_way, defScope s__law_some_way, [], []⟩
def d__law_kept_way : He.DefD := ⟨("_law_kept_way", none), "_law_kept_way", "_law_kept_way", defArgs s__law_kept_way, defBody s__law_kept_way, defScope s__law_kept_way, [], []⟩
def d__law_way_ok : He.DefD := ⟨("_law_way_ok", none), "_law_way_ok", "_law_way_ok", defArgs s__law_way_ok, defBody s__law_way_ok, defScope s__law_way_ok, [], []⟩
def d__law_values : He.DefD := ⟨("_law_values", none), "_law_values", "_law_values", defArgs s__law_values, defBody s__law_values, defScope s__law_values, [], []⟩
def d_Kind___init__ : He.DefD := ⟨("Kind", some "__init__"), "__init__", "Kind.__init__", defArgs s_Kind___init__, defBody s_Kind___init__, defScope s_Kind___init__, [.adr (He.dflAt ("Kind", some "__init__") 0)], []⟩
def d__law_pick : He.DefD := ⟨("_law_pick", none), "_law_pick", "_law_pick", defArgs s__law_pick, defBody s__law_pick, defScope s__law_pick, [], []⟩
def d__law_bent_way : He.DefD := ⟨("_law_bent_way", none), "_law_bent_way", "_law_bent_way", defArgs s__law_bent_way, defBody s__law_bent_way, defScope s__law_bent_way, [], []⟩
def d__law_bent_values : He.DefD := ⟨("_law_bent_values", none), "_law_bent_values", "_law_bent_values", defArgs s__law_bent_values, defBody s__law_bent_values, defScope s__law_bent_values, [], []⟩
def d__law_values_word : He.DefD := ⟨("_law_values_word", none), "_law_values_word", "_law_values_word", defArgs s__law_values_word, defBody s__law_values_word, defScope s__law_values_word, [], []⟩
def d__law_walked : He.DefD := ⟨("_law_walked", none), "_law_walked", "_law_walked", defArgs s__law_walked, defBody s__law_walked, defScope s__law_walked, [], []⟩
def d_is_way : He.DefD := ⟨("is_way", none), "is_way", "is_way", defArgs s_is_way, defBody s_is_way, defScope s_is_way, [], []⟩
def d__law_ask : He.DefD := ⟨("_law_ask", none), "_law_ask", "_law_ask", defArgs s__law_ask, defBody s__law_ask, defScope s__law_ask, [], []⟩
def d_run : He.DefD := ⟨("run", none), "run", "run", defArgs s_run, defBody s_run, defScope s_run, [], []⟩
def d_steps : He.DefD := ⟨("steps", none), "steps", "steps", defArgs s_steps, defBody s_steps, defScope s_steps, [], []⟩
def d_shorter : He.DefD := ⟨("shorter", none), "shorter", "shorter", defArgs s_shorter, defBody s_shorter, defScope s_shorter, [], []⟩
def d__law_fields : He.DefD := ⟨("_law_fields", none), "_law_fields", "_law_fields", defArgs s__law_fields, defBody s__law_fields, defScope s__law_fields, [], []⟩
def d__law_word : He.DefD := ⟨("_law_word", none), "_law_word", "_law_word", defArgs s__law_word, defBody s__law_word, defScope s__law_word, [], []⟩
def d__law_names_of : He.DefD := ⟨("_law_names_of", none), "_law_names_of", "_law_names_of", defArgs s__law_names_of, defBody s__law_names_of, defScope s__law_names_of, [], []⟩
def d__law_test : He.DefD := ⟨("_law_test", none), "_law_test", "_law_test", defArgs s__law_test, defBody s__law_test, defScope s__law_test, [], []⟩
def d_made : He.DefD := ⟨("made", none), "made", "made", defArgs s_made, defBody s_made, defScope s_made, [], []⟩
def d__law_ended : He.DefD := ⟨("_law_ended", none), "_law_ended", "_law_ended", defArgs s__law_ended, defBody s__law_ended, defScope s__law_ended, [], []⟩
def d__law_test_ok : He.DefD := ⟨("_law_test_ok", none), "_law_test_ok", "_law_test_ok", defArgs s__law_test_ok, defBody s__law_test_ok, defScope s__law_test_ok, [], []⟩
def d__law_value : He.DefD := ⟨("_law_value", none), "_law_value", "_law_value", defArgs s__law_value, defBody s__law_value, defScope s__law_value, [], []⟩
def d_is_name : He.DefD := ⟨("is_name", none), "is_name", "is_name", defArgs s_is_name, defBody s_is_name, defScope s_is_name, [], []⟩
def d_look_field : He.DefD := ⟨("look_field", none), "look_field", "look_field", defArgs s_look_field, defBody s_look_field, defScope s_look_field, [], []⟩
def d__law_of : He.DefD := ⟨("_law_of", none), "_law_of", "_law_of", defArgs s__law_of, defBody s__law_of, defScope s__law_of, [], []⟩
def d__law_far : He.DefD := ⟨("_law_far", none), "_law_far", "_law_far", defArgs s__law_far, defBody s__law_far, defScope s__law_far, [], []⟩
def d__law_bent_test : He.DefD := ⟨("_law_bent_test", none), "_law_bent_test", "_law_bent_test", defArgs s__law_bent_test, defBody s__law_bent_test, defScope s__law_bent_test, [], []⟩
def d__law_passes : He.DefD := ⟨("_law_passes", none), "_law_passes", "_law_passes", defArgs s__law_passes, defBody s__law_passes, defScope s__law_passes, [], []⟩
def d_is_end : He.DefD := ⟨("is_end", none), "is_end", "is_end", defArgs s_is_end, defBody s_is_end, defScope s_is_end, [], []⟩
def d_row_fits : He.DefD := ⟨("row_fits", none), "row_fits", "row_fits", defArgs s_row_fits, defBody s_row_fits, defScope s_row_fits, [], []⟩
def d_look_way : He.DefD := ⟨("look_way", none), "look_way", "look_way", defArgs s_look_way, defBody s_look_way, defScope s_look_way, [], []⟩
def d_Kind_need : He.DefD := ⟨("Kind", some "need"), "need", "Kind.need", defArgs s_Kind_need, defBody s_Kind_need, defScope s_Kind_need, [], []⟩
def d_walked : He.DefD := ⟨("walked", none), "walked", "walked", defArgs s_walked, defBody s_walked, defScope s_walked, [], []⟩
def d_joined : He.DefD := ⟨("joined", none), "joined", "joined", defArgs s_joined, defBody s_joined, defScope s_joined, [], []⟩
def d_led : He.DefD := ⟨("led", none), "led", "led", defArgs s_led, defBody s_led, defScope s_led, [], []⟩
def d_reached : He.DefD := ⟨("reached", none), "reached", "reached", defArgs s_reached, defBody s_reached, defScope s_reached, [], []⟩
def d__law_words : He.DefD := ⟨("_law_words", none), "_law_words", "_law_words", defArgs s__law_words, defBody s__law_words, defScope s__law_words, [], []⟩
def d__law_bound : He.DefD := ⟨("_law_bound", none), "_law_bound", "_law_bound", defArgs s__law_bound, defBody s__law_bound, defScope s__law_bound, [], []⟩
def d__law_tree : He.DefD := ⟨("_law_tree", none), "_law_tree", "_law_tree", defArgs s__law_tree, defBody s__law_tree, defScope s__law_tree, [], []⟩
def d__law_parts : He.DefD := ⟨("_law_parts", none), "_law_parts", "_law_parts", defArgs s__law_parts, defBody s__law_parts, defScope s__law_parts, [], []⟩
def d__law_leaf : He.DefD := ⟨("_law_leaf", none), "_law_leaf", "_law_leaf", defArgs s__law_leaf, defBody s__law_leaf, defScope s__law_leaf, [], []⟩
def d_look_test : He.DefD := ⟨("look_test", none), "look_test", "look_test", defArgs s_look_test, defBody s_look_test, defScope s_look_test, [], []⟩
def d_put_rows : He.DefD := ⟨("put_rows", none), "put_rows", "put_rows", defArgs s_put_rows, defBody s_put_rows, defScope s_put_rows, [], []⟩
def d_turned : He.DefD := ⟨("turned", none), "turned", "turned", defArgs s_turned, defBody s_turned, defScope s_turned, [], []⟩
def d__law_shape_ok : He.DefD := ⟨("_law_shape_ok", none), "_law_shape_ok", "_law_shape_ok", defArgs s__law_shape_ok, defBody s__law_shape_ok, defScope s__law_shape_ok, [], []⟩
def d__law_deep : He.DefD := ⟨("_law_deep", none), "_law_deep", "_law_deep", defArgs s__law_deep, defBody s__law_deep, defScope s__law_deep, [], []⟩
def d__law_odd_name : He.DefD := ⟨("_law_odd_name", none), "_law_odd_name", "_law_odd_name", defArgs s__law_odd_name, defBody s__law_odd_name, defScope s__law_odd_name, [], []⟩
def d_is_test : He.DefD := ⟨("is_test", none), "is_test", "is_test", defArgs s_is_test, defBody s_is_test, defScope s_is_test, [], []⟩
def d_leaves_in : He.DefD := ⟨("leaves_in", none), "leaves_in", "leaves_in", defArgs s_leaves_in, defBody s_leaves_in, defScope s_leaves_in, [], []⟩
def d_leaf_holds : He.DefD := ⟨("leaf_holds", none), "leaf_holds", "leaf_holds", defArgs s_leaf_holds, defBody s_leaf_holds, defScope s_leaf_holds, [], []⟩
def d__law_number : He.DefD := ⟨("_law_number", none), "_law_number", "_law_number", defArgs s__law_number, defBody s__law_number, defScope s__law_number, [], []⟩
def d__law_leaf_ok : He.DefD := ⟨("_law_leaf_ok", none), "_law_leaf_ok", "_law_leaf_ok", defArgs s__law_leaf_ok, defBody s__law_leaf_ok, defScope s__law_leaf_ok, [], []⟩
def d_parts_of : He.DefD := ⟨("parts_of", none), "parts_of", "parts_of", defArgs s_parts_of, defBody s_parts_of, defScope s_parts_of, [], []⟩
def d_Kind_place_of : He.DefD := ⟨("Kind", some "place_of"), "place_of", "Kind.place_of", defArgs s_Kind_place_of, defBody s_Kind_place_of, defScope s_Kind_place_of, [], []⟩
def d__law_is_name : He.DefD := ⟨("_law_is_name", none), "_law_is_name", "_law_is_name", defArgs s__law_is_name, defBody s__law_is_name, defScope s__law_is_name, [], []⟩
def d_is_leaf : He.DefD := ⟨("is_leaf", none), "is_leaf", "is_leaf", defArgs s_is_leaf, defBody s_is_leaf, defScope s_is_leaf, [], []⟩
def d_ScribeError___init__ : He.DefD := ⟨("ScribeError", some "__init__"), "__init__", "ScribeError.__init__", defArgs s_ScribeError___init__, defBody s_ScribeError___init__, defScope s_ScribeError___init__, [], []⟩
def d_BadTest___init__ : He.DefD := ⟨("BadTest", some "__init__"), "__init__", "BadTest.__init__", defArgs s_BadTest___init__, defBody s_BadTest___init__, defScope s_BadTest___init__, [], []⟩
def d_BadWay___init__ : He.DefD := ⟨("BadWay", some "__init__"), "__init__", "BadWay.__init__", defArgs s_BadWay___init__, defBody s_BadWay___init__, defScope s_BadWay___init__, [], []⟩
def d_BadValue___init__ : He.DefD := ⟨("BadValue", some "__init__"), "__init__", "BadValue.__init__", defArgs s_BadValue___init__, defBody s_BadValue___init__, defScope s_BadValue___init__, [], []⟩
def fn : List He.DefD := [d_law, d__law_begin, d__law_same, d__law_kind_of, d__law_some_way, d__law_kept_way, d__law_way_ok, d__law_values, d_Kind___init__, d__law_pick, d__law_bent_way, d__law_bent_values, d__law_values_word, d__law_walked, d_is_way, d__law_ask, d_run, d_steps, d_shorter, d__law_fields, d__law_word, d__law_names_of, d__law_test, d_made, d__law_ended, d__law_test_ok, d__law_value, d_is_name, d_look_field, d__law_of, d__law_far, d__law_bent_test, d__law_passes, d_is_end, d_row_fits, d_look_way, d_Kind_need, d_walked, d_joined, d_led, d_reached, d__law_words, d__law_bound, d__law_tree, d__law_parts, d__law_leaf, d_look_test, d_put_rows, d_turned, d__law_shape_ok, d__law_deep, d__law_odd_name, d_is_test, d_leaves_in, d_leaf_holds, d__law_number, d__law_leaf_ok, d_parts_of, d_Kind_place_of, d__law_is_name, d_is_leaf, d_ScribeError___init__, d_BadTest___init__, d_BadWay___init__, d_BadValue___init__]
def fa : List He.Fa := [.glo "Kind", .cls "Kind", .noat "Kind" "name", .noat "Kind" "fields", .glo "law", .glo "_law_begin", .glo "_law_same", .glo "_law_kind_of", .glo "_law_some_way", .glo "_law_kept_way", .glo "_law_way_ok", .glo "_law_values", .mkr "Kind", .glo "_law_pick", .glo "_law_bent_way", .glo "_law_bent_values", .glo "_law_values_word", .glo "_law_walked", .glo "is_way", .glo "_law_ask", .glo "run", .glo "steps", .glo "shorter", .glo "_law_fields", .glo "_law_word", .glo "_law_names_of", .glo "_law_test", .glo "made", .glo "_law_ended", .glo "_law_test_ok", .glo "_law_value", .glo "is_name", .glo "look_field", .glo "_law_of", .glo "_law_far", .glo "_law_bent_test", .glo "_law_passes", .glo "is_end", .glo "row_fits", .glo "look_way", .meth "Kind" "need", .glo "walked", .glo "joined", .glo "led", .glo "reached", .glo "_law_words", .glo "_law_bound", .glo "_law_tree", .glo "_law_parts", .glo "_law_leaf", .glo "look_test", .glo "put_rows", .glo "turned", .glo "_law_shape_ok", .glo "_law_deep", .glo "_law_odd_name", .glo "is_test", .glo "leaves_in", .glo "leaf_holds", .glo "_law_number", .glo "_law_leaf_ok", .glo "parts_of", .meth "Kind" "place_of", .glo "_law_is_name", .glo "is_leaf", .free "range", .free "list", .free "isinstance", .free "bool", .free "int", .free "str", .free "all", .free "tuple", .free "len", .free "enumerate", .free "min", .free "any", .free "zip", .free "reversed", .free "sorted", .free "sum", .free "max", .free "ValueError", .int "MOST_FIELDS" 4, .int "LONGEST" 8, .str "LETTERS" "abcdefghijklmnopqrstuvwxyz", .int "LIMIT" 999999, .int "MOST_PARTS" 15, .int "DEEPEST" 5, .glo "WITHIN", .glo "ScribeError", .glo "BadTest", .glo "BadWay", .glo "BadValue", .glo "Missing"]
def tbs : List He.Tab := [(fun K => He.ga K "WITHIN", ["not", "and", "or"])]
def exl (K : PySem.W.Frag) : List Bool := [crdB K (He.ga K "ScribeError"), cviB K (He.ga K "ScribeError"), oexB K (He.ga K "BadTest"), iniB K (He.ga K "BadTest"), iniB K (He.ga K "BadTest"), noFB K (He.ga K "BadTest") "word", xfB K (He.ga K "BadTest"), exmB K (He.ga K "BadTest") (He.ga K "BadValue") false, exmB K (He.ga K "BadTest") (He.ga K "ScribeError") true, exmB K (He.ga K "BadTest") (He.ga K "Missing") false, oexB K (He.ga K "BadWay"), iniB K (He.ga K "BadWay"), iniB K (He.ga K "BadWay"), noFB K (He.ga K "BadWay") "word", xfB K (He.ga K "BadWay"), exmB K (He.ga K "BadWay") (He.ga K "BadValue") false, exmB K (He.ga K "BadWay") (He.ga K "ScribeError") true, exmB K (He.ga K "BadWay") (He.ga K "Missing") false, oexB K (He.ga K "BadValue"), iniB K (He.ga K "BadValue"), iniB K (He.ga K "BadValue"), noFB K (He.ga K "BadValue") "word", xfB K (He.ga K "BadValue"), noFB K (He.ga K "BadValue") "at", exmB K (He.ga K "BadValue") (He.ga K "BadValue") true, exmB K (He.ga K "BadValue") (He.ga K "ScribeError") true, exmB K (He.ga K "BadValue") (He.ga K "Missing") false, veiB K, He.valsB K (He.ga K "WITHIN") [("not", .int 1), ("and", .int 2), ("or", .int 2)]]
def exB (K : PySem.W.Frag) : Bool := (exl K).all id
theorem exB_ok {K : PySem.W.Frag} (h : exB K = true) {i : Nat} {b : Bool} (e : (exl K)[i]? = some b) : b = true := List.all_eq_true.mp h b (List.mem_of_getElem? e)
def tfs : List He.Defn := [("law", none)]
abbrev R : PySem.W.OpenRow := PySem.W.OpenLaw.row PySem.Challenge.rw_lanescribe_k09_ways_judged_and_gone
abbrev hk : PySem.W.Hook := hookZ 5 fa fn tbs tfs exB
def ob (s : PySem.W.SharedT) : He.AlX := obsZ 5 fa fn tbs tfs exB (HandSHeadRun.getT s)
theorem ob_eq (s : PySem.W.SharedT) : ob s = hk.obs s.abs := obsZ_eq 5 fa fn tbs tfs exB (HandSHeadRun.getT_eq s)
def loose0 : List PySem.Str := ["_wall", "__name__", "ScribeError", "Missing", "BadName", "BadBounds", "BadTest", "BadWay", "Taken", "Full", "BadValue", "LIMIT", "LONGEST", "MOST_FIELDS", "LETTERS", "is_name", "look_field", "Kind", "MOST_PARTS", "DEEPEST"]
def loose1 : List PySem.Str := ["WITHIN", "is_leaf", "parts_of", "is_test", "look_test", "leaves_in", "leaf_holds", "is_end", "row_fits", "is_way", "look_way", "put_rows", "turned", "made", "walked", "run", "steps", "led", "joined", "reached"]
def loose2 : List PySem.Str := ["shorter", "_law_begin", "_law_pick", "_law_of", "_law_far", "_law_same", "_law_word", "_law_words", "_law_bound", "_law_fields", "_law_value", "_law_values", "_law_is_name", "_law_ask", "_law_odd_name", "_law_bent_values", "_law_values_word", "_law_number", "_law_leaf", "_law_tree"]
def loose3 : List PySem.Str := ["_law_parts", "_law_deep", "_law_test", "_law_leaf_ok", "_law_shape_ok", "_law_test_ok", "_law_bent_test", "_law_passes", "_law_kind_of", "_law_names_of", "_law_ended", "_law_way_ok", "_law_bent_way", "_law_walked", "_law_some_way", "_law_kept_way"]
def loose : List PySem.Str := loose0 ++ loose1 ++ loose2 ++ loose3
theorem runF (w : World) : HandSHeadRun.RunEq R (PySem.W.view R.prog [80]) hk ob 20000 loose (w.withFollow "special-get-raises" false) := by
  intro os
  kernel_rfl
theorem runT (w : World) : HandSHeadRun.RunEq R (PySem.W.view R.prog [80]) hk ob 20000 loose (w.withFollow "special-get-raises" true) := by
  intro os
  kernel_rfl
theorem runB (b : Bool) (w : World) : HandSHeadRun.RunEq R (PySem.W.view R.prog [80]) hk ob 20000 loose (w.withFollow "special-get-raises" b) := by
  cases b
  · exact runF w
  · exact runT w
theorem run (w : World) : HandSHeadRun.RunEq R (PySem.W.view R.prog [80]) hk ob 20000 loose w := by
  have z := runB (w.params.followText "special-get-raises") w
  rwa [World.withFollow_self] at z
end Lh
namespace Ls
open PySem PySem.Spec PyProof.Rows L2
section
variable {K : PySem.W.Frag}
/-- a list of data that never change, one's own -/
def ld (a : Addr) (ds : List PyData) : As K := ⟨fun _ s H => (∀ b, s b ↔ b = a) ∧ ∃ xs, H a = some (.lst xs) ∧ ImAll K H xs ds, fun ⟨e, xs, h, g⟩ k t => ⟨e, xs, (k a ((e a).mpr rfl)).trans h, g.mono t.1⟩, fun ⟨e, xs, h, _⟩ b z => by
  obtain rfl := (e b).mp z
  exact ⟨_, h, rfl⟩, fun h _ => h⟩
/-- a value's data, by what stands -/
inductive Dat (L : List (As K)) : V → PyData → Prop
  | non : Dat L .non .none
  | bl (b : Bool) : Dat L (.bl b) (.bool b)
  | int (i : Int) : Dat L (.int i) (.int i)
  | str (x : Str) : Dat L (.str x) (.str x)
  | im {v : V} {d : PyData} : im v d ∈ L → Dat L v d
inductive DatAll (L : List (As K)) : List V → List PyData → Prop
  | nil : DatAll L [] []
  | cons {v : V} {d : PyData} {vs : List V} {ds : List PyData} : Dat L v d → DatAll L vs ds → DatAll L (v :: vs) (d :: ds)
  | ims {vs : List V} {ds : List PyData} : Ls.ims vs ds ∈ L → DatAll L vs ds
/-- .. lists too -/
inductive Dl (L : List (As K)) : V → PyData → Prop
  | dat {v : V} {d : PyData} : Dat L v d → Dl L v d
  | ld {a : Addr} {ds : List PyData} : ld a ds ∈ L → Dl L (.ref a) (.list ds)
variable {A B : As K} {L L' M N : List (As K)} {H H' : Hp} {a p l : Addr} {o u : HO} {v x y : V} {d e : PyData} {vs xs ys : List V} {ds es : List PyData} {Q : VK} {σ : L2.St} {i j : Int}
theorem Dat.is (h : Sep L H) (t : Dat L v d) : Im K H v d := by
  cases t with
  | non => exact .non
  | bl b => exact .bl b
  | int i => exact .int i
  | str x => exact .str x
  | im m => exact h.imm m
theorem DatAll.is (h : Sep L H) : ∀ {vs : List V} {ds : List PyData}, DatAll L vs ds → ImAll K H vs ds
  | _, _, .nil => .nil
  | _, _, .cons a b => .cons (a.is h) (b.is h)
  | _, _, .ims m => h.imsm m
theorem Sep.ldm (h : Sep L H) (m : ld a ds ∈ L) : ∃ xs, H a = some (.lst xs) ∧ ImAll K H xs ds := by
  obtain ⟨W, s, ⟨_, h1⟩, _⟩ := h.the m
  exact h1
theorem Dl.is (h : Sep L H) (t : Dl L v d) : Dp K H v d := by
  cases t with
  | dat t => exact (t.is h).dp
  | ld m =>
    obtain ⟨xs, h1, h2⟩ := h.ldm m
    exact .lst (sql_of h1) h2.dp
theorem Sep.newD (h : Sep L H) (hp : H p = none) (t : DatAll L xs ds) : Sep (ld p ds :: L) (upd H p (.lst xs)) := by
  obtain ⟨W, s, f, s1, s2, d, u, ⟨e1, e2, _⟩, h2⟩ := h.new (o := .lst xs) hp rfl
  exact ⟨W, s, f, s1, s2, d, u, ⟨e1, xs, e2, (t.is h).mono (Tp.new hp)⟩, h2⟩
theorem Sep.newI (h : Sep L H) (hp : H p = none) (t : DatAll L xs ds) : Sep (im (.ref p) (.tuple ds) :: L) (upd H p (.tup xs)) :=
  Sep.im_iff.mpr ⟨.tup (sqt_of upd_same) ((t.is h).mono (Tp.new hp)), h.same (same_new hp)⟩
theorem Sep.setD (h : Sep (ld a ds :: L) H) (t : ImAll K H xs es) : Sep (ld a es :: L) (upd H a (.lst xs)) := by
  obtain ⟨W, s, r, ⟨e, ys, h1, h2⟩, d, _, k⟩ := h.hd
  have tp : Tq K H (upd H a (.lst xs)) := tp_upd h1 rfl
  exact k (s' := s) ⟨e, xs, upd_same, t.mono tp.1⟩ d (fun b z => upd_ne fun y => d b ((e b).mpr y) z) tp
theorem Sep.setDR (h : Sep L H) (r : Rep L (ld a ds) (ld a es) M) (t : ImAll K H xs es) : Sep M (upd H a (.lst xs)) := by
  obtain ⟨N, h1, h2⟩ := Sep.rep r
  exact h2 _ ((h1 _ h).setD t)
theorem Rep.mem (r : Rep L A B M) : A ∈ L := by
  induction r with
  | here => exact List.mem_cons_self
  | there _ ih => exact List.mem_cons_of_mem _ ih
def Sub (N L : List (As K)) : Prop := ∀ (W : Fz) (s : Addr → Prop) (H : Hp), FzOk W s H → Hld W N s H → ∃ s' : Addr → Prop, (∀ a, s' a → s a) ∧ Hld W L s' H
theorem Sub.ok (s : Sub N L) (h : Sep N H) : Sep L H := by
  obtain ⟨W, q, f, h⟩ := h
  obtain ⟨q', e, z⟩ := s W q H f h
  exact ⟨W, q', f.less e, z⟩
theorem Sub.refl : Sub L L := fun W s _ _ h => ⟨s, fun _ z => z, h⟩
theorem Sub.drop (z : Sub N L) : Sub (A :: N) L := fun W s H f ⟨s1, s2, d, u, _, h⟩ => by
  obtain ⟨q, e, k⟩ := z W s2 H (f.less fun a y => (u a).mpr (.inr y)) h
  exact ⟨q, fun a y => (u a).mpr (.inr (e a y)), k⟩
theorem Sub.nil : Sub N ([] : List (As K)) := fun _ _ _ _ _ => ⟨fun _ => False, fun _ z => z.elim, fun _ z => z⟩
theorem Sub.cons (z : Sub N L) : Sub (A :: N) (A :: L) := fun W s H f ⟨s1, s2, d, u, h1, h⟩ => by
  obtain ⟨q, e, k⟩ := z W s2 H (f.less fun a y => (u a).mpr (.inr y)) h
  exact ⟨fun a => s1 a ∨ q a, fun a y => (u a).mpr (y.imp id (e a)), s1, q, fun a x y => d a x (e a y), fun a => Iff.rfl, h1, k⟩
theorem Sub.trans (z : Sub N M) (y : Sub M L) : Sub N L := fun W s H f h => by
  obtain ⟨q, e, k⟩ := z W s H f h
  obtain ⟨q2, e2, k2⟩ := y W q H (f.less e) k
  exact ⟨q2, fun a w => e a (e2 a w), k2⟩
theorem Sub.perm (p : N.Perm M) : Sub N M := fun W s H _ h => ⟨s, fun _ z => z, h.perm p⟩
theorem Sub.rem (r : Rem N A M) (z : Sub M L) : Sub N (A :: L) := (Sub.perm r.perm).trans z.cons
/-- told once more -/
theorem Sub.dup [i : Dup A] (m : A ∈ N) (z : Sub N L) : Sub N (A :: L) := fun W s H f h => by
  obtain ⟨M, hM⟩ := Rem.of_mem m
  obtain ⟨s1, s2, d, u, h1, h2⟩ := h.perm hM.perm
  obtain ⟨q, e, k⟩ := z W s H f h
  exact ⟨q, e, s1, q, fun a x _ => (i.no h1 a x).elim, fun a => ⟨.inr, fun y => y.elim (fun x => (i.no h1 a x).elim) id⟩, h1, k⟩
theorem Sub.all : Sub (Ls.all L :: M) N ↔ Sub (L ++ M) N := by
  constructor
  · intro z W s H f h
    obtain ⟨s1, s2, d, u, h1, h2⟩ := Hld.app.mp h
    exact z W s H f ⟨s1, s2, d, u, h1, h2⟩
  · intro z W s H f h
    obtain ⟨s1, s2, d, u, h1, h2⟩ := h
    exact z W s H f (Hld.app.mpr ⟨s1, s2, d, u, h1, h2⟩)
def Gv : PyData → (V → List (As K) → Prop) → Prop
  | .none, q => q .non []
  | .bool b, q => q (.bl b) []
  | .int i, q => q (.int i) []
  | .str x, q => q (.str x) []
  | .tuple ds, q => ∀ a, q (.ref a) [im (.ref a) (.tuple ds)]
  | d, q => ∀ v, q v [im v d]
def GvAll : List PyData → (List V → List (As K) → Prop) → Prop
  | [], q => q [] []
  | d :: ds, q => Gv d fun v M => GvAll ds fun vs N => q (v :: vs) (M ++ N)
theorem Gv.go {R : V → Prop} (m : Im K H v d) (h : Sep L H) (g : Gv (K := K) d fun v M => Sep (M ++ L) H → R v) : R v := by
  cases m with
  | non => exact g h
  | bl b => exact g h
  | int i => exact g h
  | str x => exact g h
  | tup h1 h2 => exact g _ (Sep.im_iff.mpr ⟨.tup h1 h2, h⟩)
theorem Gv.mono {q q' : V → List (As K) → Prop} (g : Gv d q) (k : ∀ v M, q v M → q' v M) : Gv d q' := by
  cases d <;> first | exact k _ _ g | exact fun v => k _ _ (g v)
theorem GvAll.go : ∀ {L : List (As K)} {ds : List PyData} {vs : List V} {q : List V → List (As K) → Prop}, ImAll K H vs ds → Sep L H → GvAll ds q → ∃ M, q vs M ∧ Sep (M ++ L) H
  | L, [], _, q, .nil, h, g => ⟨[], g, h⟩
  | L, d :: ds, _, q, .cons (v := v) a b, h, g => by
    have g' : Gv (K := K) d fun v M => GvAll ds fun vs N => q (v :: vs) (M ++ N) := g
    refine Gv.go (R := fun v => ∃ M, q (v :: _) M ∧ Sep (M ++ L) H) a h (g'.mono fun v M g2 hM => ?_)
    obtain ⟨N, h3, h4⟩ := GvAll.go (L := M ++ L) b hM g2
    refine ⟨M ++ N, h3, h4.perm ?_⟩
    rw [← List.append_assoc]
    exact List.perm_append_comm.append_right L
theorem k_gtupS {n : Nat} {tg : TGs} {R : L2.St → Hp → Prop} (h : Sep L H) (m : im (.ref a) (.tuple ds) ∈ L) (hn : ds.length = n) (q : GvAll (K := K) ds fun vs M => Sep (M ++ L) H → tg vs σ H R) : gTup K n tg (.ref a) σ H R := by
  obtain ⟨a', xs, e, h1, h2⟩ := im_tup (h.imm m)
  cases e
  obtain ⟨M, h3, h4⟩ := q.go h2 h
  exact k_gtup h1 (h2.length.trans hn) (h3 h4)
theorem k_gtupO {n : Nat} {tg : TGs} {R : L2.St → Hp → Prop} (h : Sep L H) (m : tu a xs ∈ L) (hn : xs.length = n) (q : tg xs σ H R) : gTup K n tg (.ref a) σ H R := k_gtup (h.tum m) hn q
theorem atI_all : ∀ {vs : List V} {ds : List PyData} {i : Int}, ImAll K H vs ds → atI ds i = some d → ∃ v, atI vs i = some v ∧ Im K H v d := fun {vs ds i} h e => by
  unfold atI at e ⊢
  rw [h.length]
  cases q : ixN ds.length i with
  | none =>
    rw [q] at e
    cases e
  | some j =>
    rw [q] at e
    exact h.getD e
theorem k_ixS' (h : Sep L H) (m : im (.ref a) (.tuple ds) ∈ L) (e : atI ds i = some d) (q : Gv (K := K) d fun v M => Sep (M ++ L) H → Q v H) : rIx K (.ref a) (.int i) H Q := by
  obtain ⟨a', xs, e', h1, h2⟩ := im_tup (h.imm m)
  cases e'
  obtain ⟨v, hv, hd⟩ := atI_all h2 e
  exact k_ixT h1 hv (Gv.go hd h q)
end
end Ls
namespace Ls
open PySem PySem.Spec PyProof.Rows L2
section
variable {K : PySem.W.Frag} {A B : As K} {L L' M N : List (As K)} {H H' : Hp} {a p l : Addr} {o u : HO} {v x y : V} {d e : PyData} {vs xs ys : List V} {ds es : List PyData} {Q : VK} {σ : L2.St} {i j : Int} {n : Nat} {b : Bool}
theorem k_lenD (h : Sep L H) (m : ld a ds ∈ L) (q : Q (.int ds.length) H) : rLenU K [.ref a] H Q := by
  obtain ⟨xs, h1, h2⟩ := h.ldm m
  exact k_lenL (sql_of h1) (by rw [h2.length]; exact q)
theorem k_lenO (h : Sep L H) (m : ob a (.lst xs) ∈ L) (q : Q (.int xs.length) H) : rLenU K [.ref a] H Q := k_lenL (sql_of (h.obm m)) q
theorem k_lenI (h : Sep L H) (m : im (.ref a) (.tuple ds) ∈ L) (q : Q (.int ds.length) H) : rLenU K [.ref a] H Q := by
  obtain ⟨a', xs, e, h1, h2⟩ := im_tup (h.imm m)
  cases e
  exact k_lenT h1 (by rw [h2.length]; exact q)
theorem k_lenK (h : Sep L H) {kvs : List (Key × V)} (m : ob a (.dK kvs) ∈ L) (q : Q (.int kvs.length) H) : rLenU K [.ref a] H Q := .inr (.inr ⟨a, kvs, rfl, h.obm m, q⟩)
theorem k_ixD (h : Sep L H) (m : ld a ds ∈ L) (e : atI ds i = some d) (q : Gv (K := K) d fun v M => Sep (M ++ L) H → Q v H) : rIx K (.ref a) (.int i) H Q := by
  obtain ⟨xs, h1, h2⟩ := h.ldm m
  obtain ⟨v, hv, hd⟩ := atI_all h2 e
  exact k_ixL (sql_of h1) hv (Gv.go hd h q)
theorem k_ixO (h : Sep L H) (m : ob a (.lst xs) ∈ L) (e : atI xs i = some v) (q : Q v H) : rIx K (.ref a) (.int i) H Q := k_ixL (sql_of (h.obm m)) e q
theorem k_ixTu (h : Sep L H) (m : tu a xs ∈ L) (e : atI xs i = some v) (q : Q v H) : rIx K (.ref a) (.int i) H Q := k_ixT (h.tum m) e q
theorem k_tyD {P : Prop} (h : Sep L H) (m : ld a ds ∈ L) (q : P) : tyV K "list" (.ref a) H ∧ P := by
  obtain ⟨xs, h1, h2⟩ := h.ldm m
  exact k_tyL (sql_of h1) q
theorem k_tyO {P : Prop} (h : Sep L H) (m : ob a (.lst xs) ∈ L) (q : P) : tyV K "list" (.ref a) H ∧ P := k_tyL (sql_of (h.obm m)) q
theorem k_appD (h : Sep L H) (r : Rep L (ld a ds) (ld a (ds ++ [d])) M) (t : Dat L x d) (hl : ds.length < sizeLine) (q : ∀ H', Sep M H' → Q .non H') : rAppend (.ref a) [x] H Q := by
  obtain ⟨xs, h1, h2⟩ := h.ldm r.mem
  exact k_app h1 (by rw [h2.length]; exact hl) (q _ (h.setDR r (h2.snoc (t.is h))))
theorem k_appO (h : Sep L H) (r : Rep L (ob a (.lst xs)) (ob a (.lst (xs ++ [x]))) M) (hl : xs.length < sizeLine) (q : ∀ H', Sep M H' → Q .non H') : rAppend (.ref a) [x] H Q :=
  k_app (h.obm r.mem) hl (q _ (h.setR r rfl))
theorem k_eqT {n m : Nat} (h : Sep L H) (t : Dl L x d) (t2 : Dl L y e) (o1 : OkD n d) (o2 : OkD m e) (hn : n ≤ 64) (hm : m ≤ 64) (q : Q (.bl (PyData.eqv d e)) H) : rEqU K x y H Q := k_eqD (t.is h) (t2.is h) (o1.shaped hn) (o2.shaped hm) q
theorem k_neT {n m : Nat} (h : Sep L H) (t : Dl L x d) (t2 : Dl L y e) (o1 : OkD n d) (o2 : OkD m e) (hn : n ≤ 64) (hm : m ≤ 64) (q : Q (.bl (!PyData.eqv d e)) H) : rNeU K x y H Q := k_neD (t.is h) (t2.is h) (o1.shaped hn) (o2.shaped hm) q
theorem eqv_self {n : Nat} (o : OkD n d) : PyData.eqv d d = true := SeqAt.eqv_refl _ o.lay.1
structure Wk (J : It) (L : List (As K)) (n : Nat) (Y : Nat → (V → List (As K) → Prop) → Prop) : Prop where
  go : ∀ i H, i < n → Sep L H → J.go i H
  yl : ∀ i H x H' (R : V → Hp → Prop), i < n → Sep L H → J.yld i H x H' → Y i (fun v M => ∀ H2, Sep (M ++ L) H2 → R v H2) → R x H'
  st : ∀ H, Sep L H → J.stop n H
theorem wk_ld (m : ld a ds ∈ L) : Wk (Itl K a) L ds.length fun i q => ∀ d, ds[i]? = some d → Gv d q where
  go := fun i H hi h => by
    obtain ⟨xs, h1, h2⟩ := h.ldm m
    have hx : i < xs.length := by rw [h2.length]; exact hi
    exact ⟨xs, xs[i], sql_of h1, List.getElem?_eq_getElem hx⟩
  yl := fun i H x H' R hi h ⟨e, y⟩ q => by
    subst e
    obtain ⟨xs, h1, h2⟩ := h.ldm m
    obtain ⟨d, hd, hm⟩ := h2.get (y xs (sql_of h1))
    exact Gv.go hm h ((q d hd).mono fun v M g hM => g _ hM)
  st := fun H h => by
    obtain ⟨xs, h1, h2⟩ := h.ldm m
    exact ⟨xs, sql_of h1, by rw [h2.length]; exact Nat.le_refl _⟩
theorem Wk.mono {J : It} {Y Y' : Nat → (V → List (As K) → Prop) → Prop} (w : Wk J L n Y) (k : ∀ i q, i < n → Y' i q → Y i q) : Wk J L n Y' := ⟨w.go, fun i H x H' R hi h y q => w.yl i H x H' R hi h y (k i _ hi q), w.st⟩
theorem wk_ldm {α : Type} {zs : List α} {f : α → PyData} (m : ld a (zs.map f) ∈ L) : Wk (Itl K a) L zs.length fun i q => ∀ z, zs[i]? = some z → Gv (f z) q := by
  have w := wk_ld m
  rw [List.length_map] at w
  refine w.mono fun i q hi k d hd => ?_
  rw [List.getElem?_map] at hd
  obtain ⟨z, hz, rfl⟩ := Option.map_eq_some_iff.mp hd
  exact k z hz
theorem wk_tu (m : tu a xs ∈ L) : Wk (Itt K a) L xs.length fun i q => ∀ v, xs[i]? = some v → q v [] where
  go := fun i H hi h => ⟨xs, xs[i], h.tum m, List.getElem?_eq_getElem hi⟩
  yl := fun i H x H' R hi h ⟨e, y⟩ q => by
    subst e
    exact q x (y xs (h.tum m)) _ h
  st := fun H h => ⟨xs, h.tum m, Nat.le_refl _⟩
theorem wk_im (m : im (.ref a) (.tuple ds) ∈ L) : Wk (Itt K a) L ds.length fun i q => ∀ d, ds[i]? = some d → Gv d q where
  go := fun i H hi h => by
    obtain ⟨a', xs, e, h1, h2⟩ := im_tup (h.imm m)
    cases e
    have hx : i < xs.length := by rw [h2.length]; exact hi
    exact ⟨xs, xs[i], h1, List.getElem?_eq_getElem hx⟩
  yl := fun i H x H' R hi h ⟨e, y⟩ q => by
    subst e
    obtain ⟨a', xs, e, h1, h2⟩ := im_tup (h.imm m)
    cases e
    obtain ⟨d, hd, hm⟩ := h2.get (y xs h1)
    exact Gv.go hm h ((q d hd).mono fun v M g hM => g _ hM)
  st := fun H h => by
    obtain ⟨a', xs, e, h1, h2⟩ := im_tup (h.imm m)
    cases e
    exact ⟨xs, h1, by rw [h2.length]; exact Nat.le_refl _⟩
theorem wk_imm {α : Type} {zs : List α} {f : α → PyData} (m : im (.ref a) (.tuple (zs.map f)) ∈ L) : Wk (Itt K a) L zs.length fun i q => ∀ z, zs[i]? = some z → Gv (f z) q := by
  have w := wk_im m
  rw [List.length_map] at w
  refine w.mono fun i q hi k d hd => ?_
  rw [List.getElem?_map] at hd
  obtain ⟨z, hz, rfl⟩ := Option.map_eq_some_iff.mp hd
  exact k z hz
theorem wk_rng {lo : Int} : Wk (Itr lo n) L n fun i q => q (.int (lo + i)) [] where
  go := fun i H hi h => hi
  yl := fun i H x H' R hi h ⟨e, y⟩ q => by
    subst e y
    exact q _ h
  st := fun H h => Nat.le_refl _
def Nx (Iv : Nat → L2.St → List (As K) → Prop) (i : Nat) : L2.St → Hp → Prop := fun σ H => ∃ L, Iv i σ L ∧ Sep L H
theorem for_wk {J : It} {Y : Nat → (V → List (As K) → Prop) → Prop} {g : TG} {tb : TS} {D : Ends} (Iv : Nat → L2.St → List (As K) → Prop) (hw : ∀ i σ L, Iv i σ L → Wk J L n Y) (h : Sep L H) (h0 : Iv 0 σ L)
    (hs : ∀ i σ L, i < n → Iv i σ L → Y i fun v M => ∀ H, Sep (M ++ L) H → g v σ H fun σ2 H2 => tb { D with nx := Nx Iv (i + 1), ct := Nx Iv (i + 1), bk := D.nx } σ2 H2) (hd : ∀ σ L H, Iv n σ L → Sep L H → D.nx σ H) :
    ∃ W : Nat → Nat → L2.St → Hp → Prop, (∃ m, W 0 m σ H) ∧ ∀ i m σ H, W i m σ H →
      (J.stop i H ∧ D.nx σ H) ∨ (J.go i H ∧ ∃ N : L2.St → Hp → Prop, (∀ σ' H', N σ' H' → ∃ m', m' < m ∧ W (i + 1) m' σ' H') ∧ ∀ x H', J.yld i H x H' → g x σ H' fun σ2 H2 => tb { D with nx := N, ct := N, bk := D.nx } σ2 H2) := by
  refine ⟨fun i m σ H => m = n - i ∧ i ≤ n ∧ Nx Iv i σ H, ⟨n, by simp, Nat.zero_le _, L, h0, h⟩, ?_⟩
  rintro i m σ H ⟨rfl, hi, L, iv, h⟩
  by_cases hlt : i < n
  · refine .inr ⟨(hw i σ L iv).go i H hlt h, Nx Iv (i + 1), fun σ' H' p => ⟨n - (i + 1), by omega, rfl, hlt, p⟩, fun x H' y => ?_⟩
    exact (hw i σ L iv).yl i H x H' (fun v H2 => g v σ H2 fun σ2 H2 => tb { D with nx := Nx Iv (i + 1), ct := Nx Iv (i + 1), bk := D.nx } σ2 H2) hlt h y (hs i σ L hlt iv)
  · have e : i = n := by omega
    subst e
    exact .inl ⟨(hw i σ L iv).st H h, hd σ L H iv h⟩
def Lx (D : Addr) (Iv : Nat → List PyData → List (As K) → Prop) (i : Nat) : Hp → Prop := fun H => ∃ acc L, Iv i acc L ∧ Sep (ld D acc :: L) H
theorem lc_wk {J : It} {Y : Nat → (V → List (As K) → Prop) → Prop} {g : TG} {tt : TT} {te : TE} {ws : List Nat} {D : Addr} {Qd : Hp → Prop} (Iv : Nat → List PyData → List (As K) → Prop) (hw : ∀ i acc L, Iv i acc L → Wk J (ld D acc :: L) n Y) (h : Sep (ld D [] :: L) H) (h0 : Iv 0 [] L)
    (hs : ∀ i acc L, i < n → Iv i acc L → Y i fun v M => ∀ H, Sep (M ++ ld D acc :: L) H → g v (wipe σ ws) H fun σ2 H2 => wipe σ2 ws = wipe σ ws ∧ tt σ2 H2 fun b H3 =>
      if b = true then te σ2 H3 fun y H4 => ∃ zs, H4 D = some (.lst zs) ∧ zs.length < sizeLine ∧ Lx D Iv (i + 1) (upd H4 D (.lst (zs ++ [y]))) else Lx D Iv (i + 1) H3)
    (hd : ∀ acc L H, Iv n acc L → Sep (ld D acc :: L) H → Qd H) :
    ∃ W : Nat → Nat → Hp → Prop, (∃ m, W 0 m H) ∧ ∀ i m H, W i m H →
      (J.stop i H ∧ Qd H) ∨ (J.go i H ∧ ∃ Nx : Hp → Prop, (∀ H', Nx H' → ∃ m', m' < m ∧ W (i + 1) m' H') ∧ ∀ x H', J.yld i H x H' → g x (wipe σ ws) H' fun σ2 H2 => wipe σ2 ws = wipe σ ws ∧ tt σ2 H2 fun b H3 =>
        if b = true then te σ2 H3 fun y H4 => ∃ acc, H4 D = some (.lst acc) ∧ acc.length < sizeLine ∧ Nx (upd H4 D (.lst (acc ++ [y]))) else Nx H3) := by
  refine ⟨fun i m H => m = n - i ∧ i ≤ n ∧ Lx D Iv i H, ⟨n, by simp, Nat.zero_le _, [], L, h0, h⟩, ?_⟩
  rintro i m H ⟨rfl, hi, acc, L, iv, h⟩
  by_cases hlt : i < n
  · refine .inr ⟨(hw i acc L iv).go i H hlt h, Lx D Iv (i + 1), fun H' p => ⟨n - (i + 1), by omega, rfl, hlt, p⟩, fun x H' y => ?_⟩
    exact (hw i acc L iv).yl i H x H' (fun v H2 => g v (wipe σ ws) H2 fun σ2 H2 => wipe σ2 ws = wipe σ ws ∧ tt σ2 H2 fun b H3 =>
        if b = true then te σ2 H3 fun y H4 => ∃ zs, H4 D = some (.lst zs) ∧ zs.length < sizeLine ∧ Lx D Iv (i + 1) (upd H4 D (.lst (zs ++ [y]))) else Lx D Iv (i + 1) H3) hlt h y (hs i acc L hlt iv)
  · have e : i = n := by omega
    subst e
    exact .inl ⟨(hw i acc L iv).st H h, hd acc L H iv h⟩
/-- a turn's end: the element is kept -/
theorem lc_keep {D : Addr} {Iv : Nat → List PyData → List (As K) → Prop} {i : Nat} {acc : List PyData} (h : Sep N H) (t : Dat N y d) (s : Sub N (ld D acc :: L)) (hl : acc.length < sizeLine) (iv : Iv i (acc ++ [d]) L) : ∃ zs, H D = some (.lst zs) ∧ zs.length < sizeLine ∧ Lx D Iv i (upd H D (.lst (zs ++ [y]))) := by
  have g := s.ok h
  obtain ⟨zs, h1, h2⟩ := g.ldm List.mem_cons_self
  exact ⟨zs, h1, by rw [h2.length]; exact hl, _, _, iv, g.setD (h2.snoc (t.is h))⟩
theorem lc_skip {D : Addr} {Iv : Nat → List PyData → List (As K) → Prop} {i : Nat} {acc : List PyData} (h : Sep N H) (s : Sub N (ld D acc :: L)) (iv : Iv i acc L) : Lx D Iv i H := ⟨_, _, iv, s.ok h⟩
/-- [r z for z in ..], what stands beside unchanged -/
def Fl {α : Type} (zs : List α) (r : α → List PyData) (L : List (As K)) : Nat → List PyData → List (As K) → Prop := fun i acc L' => L' = L ∧ acc = (zs.take i).flatMap r
theorem flat_len {α : Type} (r : α → List PyData) (hr : ∀ z, (r z).length ≤ 1) : ∀ zs : List α, (zs.flatMap r).length ≤ zs.length
  | [] => Nat.le_refl _
  | z :: zs => by
    have := flat_len r hr zs
    have := hr z
    rw [List.flatMap_cons, List.length_append, List.length_cons]
    omega
theorem lc_flat {α : Type} {J : It} {zs : List α} {Z : α → (V → List (As K) → Prop) → Prop} {g : TG} {tt : TT} {te : TE} {ws : List Nat} {D : Addr} {Qd : Hp → Prop} (r : α → List PyData)
    (h : Sep (ld D [] :: L) H) (hw : ∀ acc, Wk J (ld D acc :: L) zs.length fun i q => ∀ z, zs[i]? = some z → Z z q)
    (hs : ∀ i z acc, zs[i]? = some z → (∀ d, r z = [d] → Fl zs r L (i + 1) (acc ++ [d]) L) → (r z = [] → Fl zs r L (i + 1) acc L) → acc.length ≤ i → Z z fun v M => ∀ H, Sep (M ++ ld D acc :: L) H → g v (wipe σ ws) H fun σ2 H2 => wipe σ2 ws = wipe σ ws ∧ tt σ2 H2 fun b H3 =>
      if b = true then te σ2 H3 fun y H4 => ∃ xs, H4 D = some (.lst xs) ∧ xs.length < sizeLine ∧ Lx D (Fl zs r L) (i + 1) (upd H4 D (.lst (xs ++ [y]))) else Lx D (Fl zs r L) (i + 1) H3)
    (hd : ∀ H, Sep (ld D (zs.flatMap r) :: L) H → Qd H) (hr : ∀ z, (r z).length ≤ 1 := by intro _; first | exact Nat.le_refl _ | (split <;> decide)) :
    ∃ W : Nat → Nat → Hp → Prop, (∃ m, W 0 m H) ∧ ∀ i m H, W i m H →
      (J.stop i H ∧ Qd H) ∨ (J.go i H ∧ ∃ Nx : Hp → Prop, (∀ H', Nx H' → ∃ m', m' < m ∧ W (i + 1) m' H') ∧ ∀ x H', J.yld i H x H' → g x (wipe σ ws) H' fun σ2 H2 => wipe σ2 ws = wipe σ ws ∧ tt σ2 H2 fun b H3 =>
        if b = true then te σ2 H3 fun y H4 => ∃ acc, H4 D = some (.lst acc) ∧ acc.length < sizeLine ∧ Nx (upd H4 D (.lst (acc ++ [y]))) else Nx H3) := by
  refine lc_wk (n := zs.length) (Y := fun i q => ∀ z, zs[i]? = some z → Z z q) (Fl zs r L) (fun i acc L' e => e.1 ▸ hw acc) h ⟨rfl, rfl⟩ (fun i acc L' hi e z hz => ?_) (fun acc L' H e h => ?_)
  · obtain ⟨rfl, rfl⟩ := e
    have e1 : zs.take (i + 1) = zs.take i ++ [z] := by rw [List.take_add_one, hz]; rfl
    refine hs i z _ hz (fun d hd => ⟨rfl, ?_⟩) (fun hd => ⟨rfl, ?_⟩) ?_
    · rw [e1, List.flatMap_append, List.flatMap_cons, hd]; rfl
    · rw [e1, List.flatMap_append, List.flatMap_cons, hd, List.flatMap_nil, List.append_nil, List.append_nil]
    · have := flat_len r hr (zs.take i)
      rw [List.length_take] at this
      omega
  · obtain ⟨rfl, rfl⟩ := e
    rw [List.take_length] at h
    exact hd H h
theorem flat_map {α : Type} (f : α → PyData) : ∀ zs : List α, zs.flatMap (fun z => [f z]) = zs.map f
  | [] => rfl
  | z :: zs => by rw [List.flatMap_cons, List.map_cons, flat_map f zs]; rfl
theorem ims_bl {bs : List Bool} (h : ImAll K H xs (bs.map PyData.bool)) : xs = bs.map V.bl := by
  induction bs generalizing xs with
  | nil => cases h; rfl
  | cons b bs ih =>
    cases h with
    | cons a r => cases im_bl a; rw [ih r]; rfl
theorem ims_int {ns : List Int} (h : ImAll K H xs (ns.map PyData.int)) : xs = ns.map V.int := by
  induction ns generalizing xs with
  | nil => cases h; rfl
  | cons b bs ih =>
    cases h with
    | cons a r => cases im_int a; rw [ih r]; rfl
theorem ims_str {ns : List Str} (h : ImAll K H xs (ns.map PyData.str)) : xs = ns.map V.str := by
  induction ns generalizing xs with
  | nil => cases h; rfl
  | cons b bs ih =>
    cases h with
    | cons a r => cases im_str a; rw [ih r]; rfl
theorem Sep.sqi {ns : List Int} (h : Sep L H) (m : ld a (ns.map PyData.int) ∈ L) : SqL K H a (ns.map V.int) := by
  obtain ⟨xs, h1, h2⟩ := h.ldm m
  cases ims_int h2
  exact sql_of h1
theorem k_allS {α : Type} {zs : List α} {f : α → Bool} (h : Sep L H) (m : ld a (zs.map fun z => PyData.bool (f z)) ∈ L) (q : Q (.bl (zs.all f)) H) : rAll K [.ref a] H Q := by
  obtain ⟨xs, h1, h2⟩ := h.ldm m
  have e : (zs.map fun z => PyData.bool (f z)) = (zs.map f).map PyData.bool := by rw [List.map_map]; rfl
  rw [e] at h2
  cases ims_bl h2
  refine k_all (sql_of h1) ?_
  have e2 : ((zs.map f).all id) = zs.all f := by rw [List.all_map]; rfl
  rw [e2]
  exact q
theorem k_anyS {α : Type} {zs : List α} {f : α → Bool} (h : Sep L H) (m : ld a (zs.map fun z => PyData.bool (f z)) ∈ L) (q : Q (.bl (zs.any f)) H) : rAny K [.ref a] H Q := by
  obtain ⟨xs, h1, h2⟩ := h.ldm m
  have e : (zs.map fun z => PyData.bool (f z)) = (zs.map f).map PyData.bool := by rw [List.map_map]; rfl
  rw [e] at h2
  cases ims_bl h2
  refine k_any (sql_of h1) ?_
  have e2 : ((zs.map f).any id) = zs.any f := by rw [List.any_map]; rfl
  rw [e2]
  exact q
end
end Ls
namespace Ls
open PySem PySem.Spec PyProof.Rows L2
section
variable {K : PySem.W.Frag} {A B : As K} {L L' M N : List (As K)} {H H' : Hp} {a p l d c : Addr} {o u : HO} {v x y : V} {e : PyData} {vs xs ys : List V} {ds es : List PyData} {Q : VK} {E : XK} {σ : L2.St} {i j : Int} {n : Nat} {b : Bool}
/-- the draws' dict, whatever its state -/
def dr (d : Addr) : As K := ⟨fun _ s H => ∃ c, (∀ b, s b ↔ b = d ∨ b = c) ∧ Draw K H d c, fun ⟨c, e, n, r, s, ns, h1, h2, h3⟩ k _ => ⟨c, e, n, r, s, ns, (k d ((e d).mpr (.inl rfl))).trans h1, (k c ((e c).mpr (.inr rfl))).trans h2, h3⟩, fun ⟨c, e, n, r, s, ns, h1, h2, h3⟩ b z => by
  rcases (e b).mp z with rfl | rfl
  · exact ⟨_, h1, rfl⟩
  · exact ⟨_, h2, rfl⟩, fun h _ => h⟩
theorem Sep.draw (h : Sep L H) (m : dr d ∈ L) : ∃ c, Draw K H d c ∧ ∀ H', Keep d H H' → Draw K H' d c → Sep L H' := by
  obtain ⟨W, s, r, ⟨c, e, D⟩, dj, al, k⟩ := h.at m
  refine ⟨c, D, fun H' kp D' => k ⟨c, e, D'⟩ dj (fun a z => ?_) ⟨D.tp kp, fun a f e2 => kp a _ (D.ne e2 (by intro kvs z; cases z)) e2⟩⟩
  obtain ⟨o, ho, _⟩ := al a z
  rw [ho]
  exact kp a o (fun y => dj a ((e a).mpr (.inl y)) z) ho
theorem Sep.drawNew (h : Sep L H) (hd : H d = none) (hc : H c = none) (s : Same H H') (D : Draw K H' d c) : Sep (dr d :: L) H' := by
  obtain ⟨W, q0, f, z0⟩ := h
  have free : ∀ b, H b = none → ¬ q0 b := fun b hb y => by
    obtain ⟨o, ho, _⟩ := z0.al b y
    rw [hb] at ho
    cases ho
  have fw : ∀ b o, W b o → H b ≠ none := fun b o y e => by
    rw [(f b o y).1] at e
    cases e
  refine ⟨W, fun b => (b = d ∨ b = c) ∨ q0 b, fun b o y => ⟨s _ _ (f b o y).1, (f b o y).2.1, fun z => ?_⟩, fun b => b = d ∨ b = c, q0, fun b x y => ?_, fun b => Iff.rfl, ⟨c, fun b => Iff.rfl, D⟩, z0.st (fun a y => ?_) (Tq.same s)⟩
  · rcases z with (rfl | rfl) | z
    · exact fw _ _ y hd
    · exact fw _ _ y hc
    · exact (f b o y).2.2 z
  · rcases x with rfl | rfl
    · exact free _ hd y
    · exact free _ hc y
  · obtain ⟨o, ho, _⟩ := z0.al a y
    rw [s _ _ ho, ho]
theorem use_pickS {many : Int} (h : Sep L H) (m : dr d ∈ L) (h1 : 0 < many) (h2 : many < 2 ^ 200) (q : ∀ r H', Sep L H' → 0 ≤ r → r < many → Q (.int r) H') : spPick K ([.ref d, .int many] ++ []) H Q E := by
  obtain ⟨c, D, k⟩ := h.draw m
  exact use_pick D h1 h2 fun r H' k1 D1 r0 r1 => q r H' (k H' k1 D1) r0 r1
theorem use_beginS {ns : List Int} (h : Sep L H) (hs : SqL K H a (ns.map V.int)) (hl : ns.length ≤ 63) (q : ∀ d H', Sep (dr d :: L) H' → Q (.ref d) H') : spBegin K ([.ref a] ++ []) H Q E :=
  ⟨a, ns, rfl, hs, hl, fun d c H' hd hc s D => q d H' (h.drawNew hd hc s D)⟩
theorem use_ofD (h : Sep L H) (m : dr d ∈ L) (m2 : ld l ds ∈ L) (h1 : 0 < ds.length) (h2 : ds.length < 2 ^ 100) (q : ∀ e x H', e ∈ ds → Sep (im x e :: L) H' → Q x H') : spOf K ([.ref d, .ref l] ++ []) H Q E := by
  obtain ⟨xs, g1, g2⟩ := h.ldm m2
  have hl := g2.length
  obtain ⟨c, D, k⟩ := h.draw m
  refine use_of D (sql_of g1) (by omega) (by omega) fun x H' k1 D1 hx => ?_
  obtain ⟨i, hi⟩ := List.getElem?_of_mem hx
  obtain ⟨e, he, hm⟩ := g2.get hi
  exact q e x H' (List.mem_of_getElem? he) (Sep.im_iff.mpr ⟨hm.mono (D.tp k1), k H' k1 D1⟩)
def isI : PyData → Bool
  | .int _ => true
  | _ => false
def isS : PyData → Bool
  | .str _ => true
  | _ => false
theorem use_ofI (h : Sep L H) (m : dr d ∈ L) (m2 : ld l ds ∈ L) (hi : ds.all isI = true) (h1 : 0 < ds.length) (h2 : ds.length < 2 ^ 100) (q : ∀ n H', PyData.int n ∈ ds → Sep L H' → Q (.int n) H') : spOf K ([.ref d, .ref l] ++ []) H Q E := by
  refine use_ofD h m m2 h1 h2 fun e x H' he h' => ?_
  obtain ⟨a, h'⟩ := Sep.im_iff.mp h'
  have z := List.all_eq_true.mp hi e he
  cases e with
  | int n => cases im_int a; exact q n H' he h'.tail
  | _ => cases z
theorem use_ofS (h : Sep L H) (m : dr d ∈ L) (m2 : ld l ds ∈ L) (hi : ds.all isS = true) (h1 : 0 < ds.length) (h2 : ds.length < 2 ^ 100) (q : ∀ n H', PyData.str n ∈ ds → Sep L H' → Q (.str n) H') : spOf K ([.ref d, .ref l] ++ []) H Q E := by
  refine use_ofD h m m2 h1 h2 fun e x H' he h' => ?_
  obtain ⟨a, h'⟩ := Sep.im_iff.mp h'
  have z := List.all_eq_true.mp hi e he
  cases e with
  | str n => cases im_str a; exact q n H' he h'.tail
  | _ => cases z
theorem al_I (h : Sep L H) (hp : H p = none) (e : upd H p (.tup xs) = H') (t : DatAll L xs ds) : Sep (im (.ref p) (.tuple ds) :: L) H' := e ▸ h.newI hp t
theorem al_T (h : Sep L H) (hp : H p = none) (e : upd H p (.tup xs) = H') : Sep (tu p xs :: L) H' := e ▸ h.newT hp
theorem al_L (h : Sep L H) (hp : H p = none) (e : upd H p (.lst xs) = H') (t : DatAll L xs ds) : Sep (ld p ds :: L) H' := e ▸ h.newD hp t
theorem al_O (h : Sep L H) (hp : H p = none) (e : upd H p o = H') (n : Nt o = true) : Sep (ob p o :: L) H' := e ▸ h.new hp n
theorem k_joinS {te : TE} (Iv : V → List (As K) → Prop) (h : te σ H fun v H => ∃ L, Iv v L ∧ Sep L H) (k : ∀ v L H', Iv v L → Sep L H' → Q v H') : tJ te σ H Q :=
  k_join (fun v H => ∃ L, Iv v L ∧ Sep L H) h fun v H' ⟨L, iv, h⟩ => k v L H' iv h
end
end Ls
namespace Ls
open PySem PySem.Spec PyProof.Rows L2
section
variable {K : PySem.W.Frag} {L : List (As K)} {H : Hp} {a : Addr} {xs : List V} {ds : List PyData} {R : Addr → Prop}
theorem k_itlD (h : Sep L H) (m : ld a ds ∈ L) (q : R a) : ∃ b, V.ref a = .ref b ∧ (∃ xs, SqL K H b xs) ∧ R b := by
  obtain ⟨xs, h1, _⟩ := h.ldm m
  exact ⟨a, rfl, ⟨xs, sql_of h1⟩, q⟩
theorem k_itlO (h : Sep L H) (m : ob a (.lst xs) ∈ L) (q : R a) : ∃ b, V.ref a = .ref b ∧ (∃ xs, SqL K H b xs) ∧ R b := ⟨a, rfl, ⟨xs, sql_of (h.obm m)⟩, q⟩
theorem k_ittI (h : Sep L H) (m : im (.ref a) (.tuple ds) ∈ L) (q : R a) : ∃ b, V.ref a = .ref b ∧ (∃ xs, SqT K H b xs) ∧ R b := by
  obtain ⟨a', xs, e, h1, h2⟩ := im_tup (h.imm m)
  cases e
  exact ⟨a, rfl, ⟨xs, h1⟩, q⟩
end
end Ls
namespace Ls
open PySem PySem.Spec PyProof.Rows L2
def gFld (K : PySem.W.Frag) (to : TE) (f : Str) : TG := fun v σ H R => to σ H fun x H2 => ∃ a C dx fs, x = .ref a ∧ H2 a = some (.ins C dx fs) ∧ Cls K C ∧ NoAttr K C f ∧ fs.length < 1000 ∧ R σ (upd H2 a (.ins C dx (putF f v fs)))
def tMethN (C : Addr) (m : Str) (n j : Nat) (sp : Sp) (gV : List V → List V → List V) (E : XK) (ta : TE) (t tk : TA) : TE := fun σ H Q => ta σ H fun x H1 => ∃ a dx fs, x = .ref a ∧ H1 a = some (.ins C dx fs) ∧ fs.lookup m = none ∧
  t σ H1 fun vs H2 => tk σ H2 fun zs H3 => vs.length + 1 = n ∧ zs.length = j ∧ sp (gV (.ref a :: vs) zs) H3 Q E
theorem enum_newT (l : Addr) (its : Array Value) (n : Nat) (od : Option Addr) (sl : Array (Option Value)) :
    Meets (Builtin.«enumerate.__new__» ⟨[.type "enumerate", .ref l], []⟩) (fun _ R s => s.heap.get? l = some { cls := .type "tuple", dict := od, data := .seq its n, slots := sl } ∧
      R (.ok (.ret (.ref (s.heap.push { cls := .type "tuple_iterator", data := .fields #[.ref l, .int 0 0] }).objs.size)))
        { s with heap := (s.heap.push { cls := .type "tuple_iterator", data := .fields #[.ref l, .int 0 0] }).push { cls := .type "enumerate", data := .fields #[.none, .bool false, .ref s.heap.objs.size, rawInt 0, .none, .none] } }) :=
  .of_wp fun prog w A R s z => by
    obtain ⟨h0, gn, dw, tk, os⟩ := s; obtain ⟨hl, z⟩ := z
    have hsb := sub_enumerate
    have hT : Heap.IsTuple (Shared.heap ⟨h0, gn, dw, tk, os⟩) l its := ⟨_, hl, rfl, n, rfl⟩
    wp_walk using AutoSeq1.wpAny_loadPart' hl
    refine wpAny_stack_any fun stk => wpAny_pure ?_
    split
    · rename_i c _ _ _ _ _
      cases (c == Value.type "enumerate")
      · wp_walk using AutoSeq1.wpAny_loadPart' hl, wpAny_pyIter_tuple hT
        exact ⟨_, rfl, z⟩
      · wp_walk using AutoSeq1.wpAny_loadPart' hl, wpAny_pyIter_tuple hT
        exact ⟨_, rfl, z⟩
    · wp_walk using AutoSeq1.wpAny_loadPart' hl, wpAny_pyIter_tuple hT
      exact ⟨_, rfl, z⟩
section
variable {P : Program} {w : World} {A : Around} {E : Value → Shared → Prop} {s : Shared}
theorem call_enumT {l : Addr} {its : Array Value} {Q : Value → Shared → Prop} (hT : s.heap.IsTuple l its)
    (k : ∀ h2, IsEnum h2 (s.heap.objs.size + 1) s.heap.objs.size 0 .none → h2.IsTupleIter s.heap.objs.size l 0 → h2.objs.size = s.heap.objs.size + 2 →
      (∀ b o, s.heap.get? b = some o → h2.get? b = some o) → Q (.ref (s.heap.objs.size + 1)) { s with heap := h2 }) :
    wpAny (model P w) A (call (.type "enumerate") [.ref l]) Q E s := by
  obtain ⟨⟨oc, od, dt, sl⟩, hl, hc, n, hd⟩ := hT
  replace hc : oc = .type "tuple" := hc
  replace hd : dt = .seq its n := hd
  subst hc hd
  refine callType_new F.called_enumerate (by decide) (F.typeCall_enumerate_1 _) (F.newCall_enumerate_1 _) (fun ob => F.args_object_init_2 ob _) F.entry_enumerate_new (enum_newT l its n od sl) ⟨hl, ?_⟩
  have sz : (s.heap.push { cls := .type "tuple_iterator", data := .fields #[.ref l, .int 0 0] }).objs.size = s.heap.objs.size + 1 := Heap.size_push ..
  show _ ∧ _
  rw [sz]
  have en : IsEnum ((s.heap.push { cls := .type "tuple_iterator", data := .fields #[.ref l, .int 0 0] }).push
      { cls := .type "enumerate", data := .fields #[.none, .bool false, .ref s.heap.objs.size, rawInt 0, .none, .none] }) (s.heap.objs.size + 1) s.heap.objs.size 0 .none := by
    have z := Heap.get?_push_size (s.heap.push { cls := .type "tuple_iterator", data := .fields #[.ref l, .int 0 0] }) (o := { cls := .type "enumerate", data := .fields #[.none, .bool false, .ref s.heap.objs.size, rawInt 0, .none, .none] }) rfl
    rw [sz] at z
    exact z
  exact ⟨⟨_, en, rfl⟩, k _ en ⟨_, Heap.get?_push_of_some _ (Heap.get?_push_size _ rfl), rfl, rfl⟩ (by rw [Heap.size_push, sz]) fun b o x => Heap.get?_push_of_some _ (Heap.get?_push_of_some _ x)⟩
end
/-- the tuple at a, each item in a new pair -/
def IteT (K : PySem.W.Frag) (a : Addr) : It :=
  ⟨fun i H => ∃ (xs : List V) (x : V), SqT K H a xs ∧ xs[i]? = some x, fun i H v H' => ∃ T x, v = .ref T ∧ H T = none ∧ H' = upd H T (.tup [.int (i : Nat), x]) ∧ ∀ xs, SqT K H a xs → xs[i]? = some x, fun i H => ∃ xs : List V, SqT K H a xs ∧ xs.length ≤ i⟩
theorem turn_enumT {P : Program} {w : World} {K : PySem.W.Frag} {elts : List Expr} {kk : Nat} {tpos : Pos} (a e it : Addr) :
    Turn P w K (.Tuple elts kk tpos) (IteT K a) [e, it] e (fun i h => (∃ old, IsEnum h e it ((i : Nat) : Int) old) ∧ h.IsTupleIter it a i ∧ e ≠ it ∧ a ≠ it) where
  mem := List.mem_cons_self
  obj := fun i h st b hb => by
    obtain ⟨⟨old, hen⟩, ⟨o, ho, hc, hd⟩, _⟩ := st
    rcases List.mem_cons.mp hb with rfl | hb
    · exact ⟨_, hen, fun v q => nomatch q⟩
    · rw [List.mem_singleton.mp hb]; exact ⟨o, ho, fun v q => by rw [hd] at q; cases q⟩
  keep := fun i h h' st k => let ⟨⟨old, hen⟩, hi, hne, ha⟩ := st; ⟨⟨old, k e List.mem_cons_self _ hen⟩, hi.at fun o q => k it (List.mem_cons_of_mem _ List.mem_cons_self) o q, hne, ha⟩
  item := by
    intro X hP hw hK hc i pins s σ H E I hf st hg
    subst hP hw hK
    obtain ⟨⟨old, hen⟩, hit, hne, hat⟩ := st
    obtain ⟨xs, x, hq, hx⟩ := hg
    obtain ⟨its, rv, p, hz⟩ := I.tuple hq
    obtain ⟨u, hu, ru⟩ := rv.get hx
    have pT : s.heap.IsTuple a its.toArray := p
    have sze : e < s.heap.objs.size := Heap.lt_size hen
    have szi : it < s.heap.objs.size := by obtain ⟨_, q, _⟩ := hit; exact Heap.lt_size q
    have iL : i < its.length := (List.getElem?_eq_some_iff.mp hu).1
    refine wpAny_pyNext_enum_itemD (Draws.tuple (A := X.A.in1) (by exact I.ok.hd hc) it a hat its.toArray) hen ⟨hit, pT⟩ (by simpa using iL) hne (by
      intro z
      rcases List.mem_cons.mp z with z | z
      · exact hne z
      · obtain rfl := List.mem_singleton.mp z
        obtain ⟨oo, q1, q2, _⟩ := pT
        rw [show s.heap.get? e = _ from hen] at q1
        cases q1
        injection q2 with q3
        exact absurd q3 (by decide)) fun v h' tk hP ho hst hT hsz hk => ?_
    have ev : v = u := by
      have z : its.toArray[i]? = some v := hP
      rw [List.getElem?_toArray, hu] at z
      exact (Option.some.inj z).symm
    subst ev
    refine ⟨_, rfl, wpAny_letOwnedTupleGo_enum (s := { s with heap := h', toks := tk + 1 }) ho fun h'' hen2 sb => ?_⟩
    have hT2 : h''.get? s.heap.objs.size = some { cls := .type "tuple", data := .seq #[.int i tk, v] } := (sb.2 _ (Nat.ne_of_gt sze)).trans hT
    have new : ObjOk X.prog X.w (upd H s.heap.objs.size (.tup [.int (i : Nat), x])) h'' s.heap.objs.size (.tup [.int (i : Nat), x]) :=
      ⟨by show 2 ≤ sizeLine; decide, [.int i tk, v], .cons ⟨_, rfl⟩ (.cons ru .nil), ⟨_, hT2, rfl, _, rfl⟩⟩
    have I1 : Inv X pins σ (upd H s.heap.objs.size (.tup [.int (i : Nat), x])) { s with heap := h'', toks := tk + 1 } :=
      I.turnedNew (ch := [e, it]) (fun b ob hb q => (sb.2 b (fun z => hb (by rw [z]; exact List.mem_cons_self))).trans (hk b ob (fun z => hb (by rw [z]; exact List.mem_cons_self)) (fun z => hb (by rw [z]; exact List.mem_cons_of_mem _ List.mem_cons_self)) q)) hf (Nat.le_refl _) new
    refine ⟨.ref s.heap.objs.size, _, I1, rfl, ⟨_, x, rfl, I.hok.fresh (Nat.le_refl _), rfl, fun ys hy => by rw [I.tuple_inj hy hq]; exact hx⟩, ⟨⟨v, ?_⟩, hst.1.at fun o q => (sb.2 it (Ne.symm hne)).trans q, hne, hat⟩, fun b hb => ?_⟩
    · rw [show ((i + 1 : Nat) : Int) = (i : Int) + 1 by omega]; exact hen2
    · have hb2 : b < s.heap.objs.size := by
        rcases List.mem_cons.mp hb with z | z
        · rw [z]; exact sze
        · rw [List.mem_singleton.mp z]; exact szi
      rw [upd_ne (Nat.ne_of_lt hb2)]
      exact (hf b hb).1
  done := by
    intro X hP hw hK hc i pins s σ H E I hf st hg
    subst hP hw hK
    obtain ⟨⟨old, hen⟩, hit, hne, hat⟩ := st
    obtain ⟨xs, hq, hx⟩ := hg
    obtain ⟨its, rv, p, hz⟩ := I.tuple hq
    obtain ⟨f0, f1, f2, f3, f4, f5⟩ := hf it (List.mem_cons_of_mem _ List.mem_cons_self)
    have ll := rv.length
    have pT : s.heap.IsTuple a its.toArray := p
    have D : Draws X.prog X.w X.A.in1 it [it, a] i (fun _ _ => True) (fun j h => j = i ∧ h.IsTupleIter it a i ∧ h.IsTuple a its.toArray) :=
      { live := fun _ _ st => let ⟨o, ho, _⟩ := st.2.1; ⟨o, ho⟩
        frame := fun _ _ _ st hk => ⟨st.1, st.2.1.at fun o q => hk it List.mem_cons_self o q, st.2.2.at fun o q => hk a (List.mem_cons_of_mem _ List.mem_cons_self) o q⟩
        item := fun j _ _ _ hj st _ => absurd st.1 (Nat.ne_of_lt hj)
        done := fun _ _ _ st k => wpAny_nextOf_tuple_end (by exact I.ok.hd hc) st.2.1 st.2.2 (by simp; omega) k }
    exact wpAny_pyNext_enum_endD D hen ⟨rfl, hit, pT⟩ fun h' eb => ⟨rfl, I.turned (t' := s.toks) (fun b o hb q => eb b o hb q) f0 f1 f3 f4 f5⟩
  self := fun A i s Q E st h => let ⟨⟨_, hen⟩, _⟩ := st; wpAny_pyIter_enum hen h
/-- a list's or a tuple's items, each in a new pair -/
def iEnumU (K : PySem.W.Frag) (ta : TA) : TI := fun σ H R => ta σ H fun vs H1 => ∃ a, vs = [.ref a] ∧ ((∃ xs, SqL K H1 a xs ∧ R (Ite K a) H1) ∨ ∃ xs, SqT K H1 a xs ∧ R (IteT K a) H1)
theorem pi_enumU {X : Cx} {e : Expr} {ta : TA} {p pos tpos : Pos} {elts : List Expr} {kk : Nat} (K : PySem.W.Frag) (hK : X.K = K) (hg : Gl X "enumerate") (hm : X.mg "enumerate" = none) (ha : PA X [e] ta) (hs : starEach [e] X.env = [(false, eval e X.env)] := by rfl) :
    PI X (.Tuple elts kk tpos) (.Call (.Name "enumerate" p) [e] [] pos) (iEnumU K ta) := by
  subst hK
  refine ⟨fun pins s σ H R I h => ?_⟩
  refine Call_ (ld_blt I hg hm boot_enumerate (PyProof.Rows.callWith_type1 (thn (ha.run pos pins s σ H _ I h) fun us s1 ⟨vs, H1, I1, r1, q1⟩ => ?_) hs rfl))
  obtain ⟨a, ex, q⟩ := q1
  subst ex
  cases r1 with
  | cons r rr =>
    cases rr
    cases r
    have ge : ∀ b, b ∈ [s1.heap.objs.size + 1, s1.heap.objs.size] → s1.heap.objs.size ≤ b := fun b hb => by
      rcases List.mem_cons.mp hb with z | z
      · rw [z]; exact Nat.le_add_right _ _
      · rw [List.mem_singleton.mp z]; exact Nat.le_refl _
    rcases q with ⟨xs, hq, q⟩ | ⟨xs, hq, q⟩
    · obtain ⟨its, rv, p', hz⟩ := I1.list hq
      refine call_enumerate_list p'.isList fun h' he hit hsz hk => wpAny_pyIter_enum he ?_
      have I2 : Inv X pins σ H1 { s1 with heap := h' } := I1.kept (t' := s1.toks) hk
      exact ⟨s1.heap.objs.size + 1, [s1.heap.objs.size + 1, s1.heap.objs.size], _, _, H1, rfl, I2, turn_enum a (s1.heap.objs.size + 1) s1.heap.objs.size, ⟨⟨.none, he⟩, hit, Nat.succ_ne_self _⟩, fun b hb => I1.fpOk (ge b hb) (I1.hok.fresh (ge b hb)), q⟩
    · obtain ⟨its, rv, p', hz⟩ := I1.tuple hq
      have pT : s1.heap.IsTuple a its.toArray := p'
      have la : a < s1.heap.objs.size := by obtain ⟨_, q, _⟩ := pT; exact Heap.lt_size q
      refine call_enumT pT fun h' he hit hsz hk => wpAny_pyIter_enum he ?_
      have I2 : Inv X pins σ H1 { s1 with heap := h' } := I1.kept (t' := s1.toks) hk
      exact ⟨s1.heap.objs.size + 1, [s1.heap.objs.size + 1, s1.heap.objs.size], _, _, H1, rfl, I2, turn_enumT a (s1.heap.objs.size + 1) s1.heap.objs.size, ⟨⟨.none, he⟩, hit, Nat.succ_ne_self _, Nat.ne_of_lt la⟩, fun b hb => I1.fpOk (ge b hb) (I1.hok.fresh (ge b hb)), q⟩
def tJoinU (K : PySem.W.Frag) (to te : TE) : TE := tM1 (fun x xs H Q => ∃ a p, ∃ ys : List Str, x = .str a ∧ xs = [.ref p] ∧ (SqL K H p (ys.map V.str) ∨ SqT K H p (ys.map V.str)) ∧ (ys.map (·.length)).sum + ys.length * a.length ≤ 16777216 ∧ Q (.str (Txt.join a ys)) H) to te
theorem pe_joinU {X : Cx} {o e : Expr} {to te : TE} {apos pos : Pos} (K : PySem.W.Frag) (hK : X.K = K) (ho : PE X o to) (he : PE X e te) (hs : starEach [e] X.env = [(false, eval e X.env)] := by rfl) (hb : attributeBase o "join" X.env (eval o X.env) = eval o X.env := by rfl) (hl : (apos.endLine == pos.line) = true := by rfl) :
    PE X (.Call (.Attribute o "join" apos) [e] [] pos) (tJoinU K to te) := by
  subst hK
  exact L2.pe_join ho he hs hb hl
end Ls
namespace Ls
open PySem PySem.Spec PyProof.Rows L2
section
variable {K : PySem.W.Frag} {A B : As K} {L L' M N : List (As K)} {H H' : Hp} {a p l dx C : Addr} {o u : HO} {v x y : V} {d e : PyData} {vs xs ys : List V} {ds es : List PyData} {Q : VK} {D : Ends} {σ : L2.St} {i j : Int} {n : Nat} {b : Bool} {fs gs : List (Str × V)} {f m : Str} {sp : Sp} {E : XK} {dvs : List V} {ta te tv : TE} {t tk : TA}
def inst (a C : Addr) (fs : List (Str × V)) : As K := ⟨fun _ s H => ∃ dx, (∀ b, s b ↔ b = a ∨ b = dx) ∧ H a = some (.ins C dx fs) ∧ H dx = some (.own a), fun ⟨dx, e, h1, h2⟩ k _ => ⟨dx, e, (k a ((e a).mpr (.inl rfl))).trans h1, (k dx ((e dx).mpr (.inr rfl))).trans h2⟩, fun ⟨dx, e, h1, h2⟩ b z => by
  rcases (e b).mp z with rfl | rfl
  · exact ⟨_, h1, rfl⟩
  · exact ⟨_, h2, rfl⟩, fun h _ => h⟩
theorem Sep.insm (h : Sep L H) (m : inst a C fs ∈ L) : ∃ dx, H a = some (.ins C dx fs) := by
  obtain ⟨W, s, ⟨dx, _, h1, _⟩, _⟩ := h.the m
  exact ⟨dx, h1⟩
theorem Sep.setI (h : Sep (inst a C fs :: L) H) (e : H a = some (.ins C dx fs)) : Sep (inst a C gs :: L) (upd H a (.ins C dx gs)) := by
  obtain ⟨W, s, r, ⟨dx', es, h1, h2⟩, dj, _, k⟩ := h.hd
  rw [e] at h1
  cases h1
  have ne : dx ≠ a := fun z => by
    rw [z, e] at h2
    cases h2
  exact k (s' := s) ⟨dx, es, upd_same, by rw [upd_ne ne]; exact h2⟩ dj (fun b z => upd_ne fun y => dj b ((es b).mpr (.inl y)) z) (tp_upd e rfl)
theorem Sep.setIR (h : Sep L H) (r : Rep L (inst a C fs) (inst a C gs) M) (e : H a = some (.ins C dx fs)) : Sep M (upd H a (.ins C dx gs)) := by
  obtain ⟨N, h1, h2⟩ := Sep.rep r
  exact h2 _ ((h1 _ h).setI e)
theorem Sep.newInst (h : Sep L H) (ha : H a = none) (hd : H dx = none) (ne : dx ≠ a) : Sep (inst a C fs :: L) (upd (upd H dx (.own a)) a (.ins C dx fs)) := by
  have h1 := h.new (o := .own a) hd rfl
  have ha' : upd H dx (.own a) a = none := by rw [upd_ne (Ne.symm ne)]; exact ha
  have h2 := h1.new (o := .ins C dx fs) ha' rfl
  obtain ⟨W, s, f, s1, s2, dj, un, ⟨e1, g1, _⟩, t1, t2, dj2, un2, ⟨e2, g2, _⟩, h3⟩ := h2
  refine ⟨W, s, f, fun b => s1 b ∨ t1 b, t2, fun b x y => ?_, fun b => ?_, ⟨dx, fun b => ?_, g1, g2⟩, h3⟩
  · rcases x with x | x
    · exact dj b x ((un2 b).mpr (.inr y))
    · exact dj2 b x y
  · rw [un b, un2 b, or_assoc]
  · show s1 b ∨ t1 b ↔ _
    rw [e1 b, e2 b]
theorem k_fldt {R : V → Prop} (h : ∃ dx, H a = some (.ins C dx fs)) (c : Cls K C) (n : NoAttr K C f) (e : fs.lookup f = some v) (q : R v) : ∃ a' C' dx fs v', V.ref a = .ref a' ∧ H a' = some (.ins C' dx fs) ∧ Cls K C' ∧ NoAttr K C' f ∧ fs.lookup f = some v' ∧ R v' := by
  obtain ⟨dx, h⟩ := h
  exact ⟨a, C, dx, fs, v, rfl, h, c, n, e, q⟩
theorem k_fld (h : ta σ H fun x H1 => ∃ a C dx fs v, x = .ref a ∧ H1 a = some (.ins C dx fs) ∧ Cls K C ∧ NoAttr K C f ∧ fs.lookup f = some v ∧ Q v H1) : tFld K ta f σ H Q := h
theorem k_fldS {R : V → Prop} (h : Sep L H) (m : inst a C fs ∈ L) (c : Cls K C) (n : NoAttr K C f) (e : fs.lookup f = some v) (q : R v) : ∃ a' C' dx fs v', V.ref a = .ref a' ∧ H a' = some (.ins C' dx fs) ∧ Cls K C' ∧ NoAttr K C' f ∧ fs.lookup f = some v' ∧ R v' := k_fldt (h.insm m) c n e q
theorem k_sfld (h : tv σ H fun y H1 => ta σ H1 fun x H2 => ∃ a C dx fs, x = .ref a ∧ H2 a = some (.ins C dx fs) ∧ Cls K C ∧ NoAttr K C f ∧ fs.length < 1000 ∧ D.nx σ (upd H2 a (.ins C dx (putF f y fs)))) : sFld K ta tv f D σ H := h
theorem k_gfld {R : L2.St → Hp → Prop} (h : ta σ H fun x H2 => ∃ a C dx fs, x = .ref a ∧ H2 a = some (.ins C dx fs) ∧ Cls K C ∧ NoAttr K C f ∧ fs.length < 1000 ∧ R σ (upd H2 a (.ins C dx (putF f v fs)))) : gFld K ta f v σ H R := h
theorem k_putS' {R : Hp → Prop} (h : Sep L H) (r : Rep L (inst a C fs) (inst a C gs) M) (c : Cls K C) (n : NoAttr K C f) (hl : fs.length < 1000) (e : putF f y fs = gs) (q : ∀ H', Sep M H' → R H') : ∃ a' C' dx fs, V.ref a = .ref a' ∧ H a' = some (.ins C' dx fs) ∧ Cls K C' ∧ NoAttr K C' f ∧ fs.length < 1000 ∧ R (upd H a' (.ins C' dx (putF f y fs))) := by
  obtain ⟨dx, h1⟩ := h.insm r.mem
  subst e
  exact ⟨a, C, dx, fs, rfl, h1, c, n, hl, q _ (h.setIR r h1)⟩
theorem k_sfldaug {rd : V → V → Hp → VK → Prop} (h : ta σ H fun x H1 => ∃ a C dx fs v, x = .ref a ∧ H1 a = some (.ins C dx fs) ∧ Cls K C ∧ NoAttr K C f ∧ fs.lookup f = some v ∧
  tv σ H1 fun y H2 => rd v y H2 fun z H3 => ∃ dx' fs', H3 a = some (.ins C dx' fs') ∧ fs'.length < 1000 ∧ D.nx σ (upd H3 a (.ins C dx' (putF f z fs')))) : sFldAug K ta tv rd f D σ H := h
theorem k_augS {R : Hp → Prop} (h : Sep L H) (r : Rep L (inst a C fs) (inst a C gs) M) (hl : fs.length < 1000) (e : putF f y fs = gs) (q : ∀ H', Sep M H' → R H') : ∃ dx' fs', H a = some (.ins C dx' fs') ∧ fs'.length < 1000 ∧ R (upd H a (.ins C dx' (putF f y fs'))) := by
  obtain ⟨dx, h1⟩ := h.insm r.mem
  subst e
  exact ⟨dx, fs, h1, hl, q _ (h.setIR r h1)⟩
theorem k_inadd {R : V → Hp → Prop} (q : R (.int (i + j)) H) : rAdd (.int i) (.int j) H R := ⟨i, j, rfl, rfl, q⟩
theorem k_insub {R : V → Hp → Prop} (q : R (.int (i - j)) H) : rSub (.int i) (.int j) H R := ⟨i, j, rfl, rfl, q⟩
theorem k_meth (h : ta σ H fun x H1 => ∃ a dx fs, x = .ref a ∧ H1 a = some (.ins C dx fs) ∧ fs.lookup m = none ∧ t σ H1 fun vs H2 => sp (x :: (vs ++ dvs)) H2 Q E) : tMeth C m sp dvs E ta t σ H Q := h
theorem k_methN {gV : List V → List V → List V} {jn : Nat} (h : ta σ H fun x H1 => ∃ a dx fs, x = .ref a ∧ H1 a = some (.ins C dx fs) ∧ fs.lookup m = none ∧
  t σ H1 fun vs H2 => tk σ H2 fun zs H3 => vs.length + 1 = n ∧ zs.length = jn ∧ sp (gV (.ref a :: vs) zs) H3 Q E) : tMethN C m n jn sp gV E ta t tk σ H Q := h
theorem k_recv {R : Addr → Prop} (h : ∃ dx fs, H a = some (.ins C dx fs) ∧ fs.lookup m = none) (q : R a) : ∃ a' dx fs, V.ref a = .ref a' ∧ H a' = some (.ins C dx fs) ∧ fs.lookup m = none ∧ R a' := by
  obtain ⟨dx, fs, h1, h2⟩ := h
  exact ⟨a, dx, fs, rfl, h1, h2, q⟩
theorem k_recvI {R : Addr → Prop} (h : Sep L H) (w : inst a C fs ∈ L) (e : fs.lookup m = none) (q : R a) : ∃ a' dx fs, V.ref a = .ref a' ∧ H a' = some (.ins C dx fs) ∧ fs.lookup m = none ∧ R a' := by
  obtain ⟨dx, h1⟩ := h.insm w
  exact k_recv ⟨dx, fs, h1, e⟩ q
theorem k_make (h : t σ H fun vs H1 => ∀ x dx, H1 x = none → H1 dx = none → dx ≠ x → sp (.ref x :: (vs ++ dvs)) (upd (upd H1 dx (.own x)) x (.ins C dx [])) (fun v H2 => v = .non ∧ Q (.ref x) H2) E) : tMake C sp dvs E t σ H Q := h
def Lets (L : List (As K)) (C : Addr) (w : Str) (E : XK) : Prop := ∀ d H', Sep (ob d (.xd [("word", .str w)]) :: L) H' → E (.ref C) (some d) H'
end
end Ls
namespace Ls
open PySem PySem.Spec PyProof.Rows L2
section
variable {K : PySem.W.Frag} {L : List (As K)} {H H' : Hp} {xs : List V} {ds : List PyData} {o : HO} {kvs : List (Key × V)}
def updT (H : Hp) (p : Addr) (xs : List V) : Hp := upd H p (.tup xs)
def updL (H : Hp) (p : Addr) (xs : List V) : Hp := upd H p (.lst xs)
def updK (H : Hp) (p : Addr) (kvs : List (Key × V)) : Hp := upd H p (.dK kvs)
theorem updT_eq (p : Addr) : upd H p (.tup xs) = updT H p xs := rfl
theorem updL_eq (p : Addr) : upd H p (.lst xs) = updL H p xs := rfl
theorem updK_eq (p : Addr) : upd H p (.dK kvs) = updK H p kvs := rfl
variable {p : Addr}
theorem ar_I (h : Sep L H) (hp : H p = none) (e : updT H p xs = H') (t : DatAll L xs ds) : Sep (im (.ref p) (.tuple ds) :: L) H' := al_I h hp e t
theorem ar_T (h : Sep L H) (hp : H p = none) (e : updT H p xs = H') : Sep (tu p xs :: L) H' := al_T h hp e
theorem ar_L (h : Sep L H) (hp : H p = none) (e : updL H p xs = H') (t : DatAll L xs ds) : Sep (ld p ds :: L) H' := al_L h hp e t
theorem ar_O (h : Sep L H) (hp : H p = none) (e : updL H p xs = H') : Sep (ob p (.lst xs) :: L) H' := al_O h hp e rfl
theorem ar_K (h : Sep L H) (hp : H p = none) (e : updK H p kvs = H') : Sep (ob p (.dK kvs) :: L) H' := al_O h hp e rfl
end
end Ls
namespace Ls
theorem andThen {a b : Prop} (h : a) (k : a → b) : b := k h
end Ls
namespace Ls
open PySem PySem.Spec PyProof.Rows L2
section
variable {X : Cx}
theorem kSF {st : Stmt} {ta tv : TE} {f : Str} (K : PySem.W.Frag) (hK : X.K = K) (h : PS X st (sFld X.K ta tv f)) : PS X st (sFld K ta tv f) := hK ▸ h
/-- the items of a list or a tuple -/
def iSeqU (K : PySem.W.Frag) (te : TE) : TI := fun σ H R => te σ H fun x H1 => ∃ a, x = .ref a ∧ (((∃ xs, SqL K H1 a xs) ∧ R (Itl K a) H1) ∨ ((∃ xs, SqT K H1 a xs) ∧ R (Itt K a) H1))
theorem pi_seqU {tg e : Expr} {te : TE} (K : PySem.W.Frag) (hK : X.K = K) (he : PE X e te) : PI X tg e (iSeqU K te) := by
  subst hK
  refine ⟨fun pins s σ H R I h => ?_⟩
  refine thn (he.run pins s σ H _ I h) fun v s1 ⟨x, H1, I1, r1, a, ex, q⟩ => ?_
  subst ex
  obtain rfl : v = Value.ref a := r1
  have fp : ∀ b ∈ [s1.heap.objs.size], FpOk X pins H1 b := fun b hb => by
    rw [List.mem_singleton.mp hb]
    exact I1.fpOk (Nat.le_refl _) (I1.hok.fresh (Nat.le_refl _))
  rcases q with ⟨⟨xs, hq⟩, q⟩ | ⟨⟨xs, hq⟩, q⟩
  · obtain ⟨its, rv, p, hz⟩ := I1.list hq
    refine wpAny_pyIter_list p.isList ?_
    exact ⟨s1.heap.objs.size, [s1.heap.objs.size], _, _, H1, rfl, I1.kept (t' := s1.toks) fun b o z => Heap.get?_push_of_some _ z, turn_list a _, ⟨_, Heap.get?_push_size _ rfl, rfl, rfl⟩, fp, q⟩
  · obtain ⟨its, rv, p, hz⟩ := I1.tuple hq
    refine wpAny_pyIter_tuple (show s1.heap.IsTuple a its.toArray from p) ?_
    exact ⟨s1.heap.objs.size, [s1.heap.objs.size], _, _, H1, rfl, I1.kept (t' := s1.toks) fun b o z => Heap.get?_push_of_some _ z, turn_tuple a _, ⟨_, Heap.get?_push_size _ rfl, rfl, rfl⟩, fp, q⟩
end
end Ls
namespace Ls
open PySem PySem.Spec PyProof.Rows L2
section
variable {K : PySem.W.Frag} {A B : As K} {L L' M N : List (As K)} {H H' : Hp} {a p l dx C : Addr} {o u : HO} {v x y : V} {d e : PyData} {vs xs ys : List V} {ds es : List PyData} {Q : VK} {D : Ends} {σ : L2.St} {i j : Int} {n : Nat} {b : Bool} {ta te tv to : TE} {t tk : TA}
theorem k_joinU (h : to σ H fun x H1 => (∃ a, x = .str a) ∧ te σ H1 fun y H2 => ∃ a p, ∃ ys : List Str, x = .str a ∧ [y] = [.ref p] ∧ (SqL K H2 p (ys.map V.str) ∨ SqT K H2 p (ys.map V.str)) ∧ (ys.map (·.length)).sum + ys.length * a.length ≤ 16777216 ∧ Q (.str (Txt.join a ys)) H2) : tJoinU K to te σ H Q := h
theorem k_strX {z : Str} {P : Prop} (h : P) : (∃ a, V.str z = .str a) ∧ P := ⟨⟨z, rfl⟩, h⟩
theorem k_glueS {z : Str} {zs : List Str} {R : Str → List Str → Prop} (h : Sep L H) (m : ld p (zs.map PyData.str) ∈ L) (hl : (zs.map (·.length)).sum + zs.length * z.length ≤ 16777216) (q : R z zs) : ∃ a p', ∃ ys : List Str, V.str z = .str a ∧ [V.ref p] = [.ref p'] ∧ (SqL K H p' (ys.map V.str) ∨ SqT K H p' (ys.map V.str)) ∧ (ys.map (·.length)).sum + ys.length * a.length ≤ 16777216 ∧ R a ys := by
  obtain ⟨xs, h1, h2⟩ := h.ldm m
  cases ims_str h2
  exact ⟨z, p, zs, rfl, rfl, .inl (sql_of h1), hl, q⟩
theorem k_iseq {te : TE} {R : It → Hp → Prop} (h : te σ H fun x H1 => ∃ a, x = .ref a ∧ (((∃ xs, SqL K H1 a xs) ∧ R (Itl K a) H1) ∨ ((∃ xs, SqT K H1 a xs) ∧ R (Itt K a) H1))) : iSeqU K te σ H R := h
theorem k_seqD {R R' : Addr → Prop} (h : Sep L H) (m : ld a ds ∈ L) (q : R a) : ∃ b, V.ref a = .ref b ∧ (((∃ xs, SqL K H b xs) ∧ R b) ∨ ((∃ xs, SqT K H b xs) ∧ R' b)) := by
  obtain ⟨xs, h1, _⟩ := h.ldm m
  exact ⟨a, rfl, .inl ⟨⟨xs, sql_of h1⟩, q⟩⟩
theorem k_seqO {R R' : Addr → Prop} (h : Sep L H) (m : ob a (.lst xs) ∈ L) (q : R a) : ∃ b, V.ref a = .ref b ∧ (((∃ xs, SqL K H b xs) ∧ R b) ∨ ((∃ xs, SqT K H b xs) ∧ R' b)) :=
  ⟨a, rfl, .inl ⟨⟨xs, sql_of (h.obm m)⟩, q⟩⟩
theorem k_seqI {R R' : Addr → Prop} (h : Sep L H) (m : im (.ref a) (.tuple ds) ∈ L) (q : R' a) : ∃ b, V.ref a = .ref b ∧ (((∃ xs, SqL K H b xs) ∧ R b) ∨ ((∃ xs, SqT K H b xs) ∧ R' b)) := by
  obtain ⟨a', xs, e, h1, h2⟩ := im_tup (h.imm m)
  cases e
  exact ⟨a, rfl, .inr ⟨⟨xs, h1⟩, q⟩⟩
theorem k_enum {R : It → Hp → Prop} (h : t σ H fun vs H1 => ∃ a, vs = [.ref a] ∧ ((∃ xs, SqL K H1 a xs ∧ R (Ite K a) H1) ∨ ∃ xs, SqT K H1 a xs ∧ R (IteT K a) H1)) : iEnumU K t σ H R := h
theorem k_enD {R R' : Addr → Prop} (h : Sep L H) (m : ld a ds ∈ L) (q : R a) : ∃ b, [V.ref a] = [.ref b] ∧ ((∃ xs, SqL K H b xs ∧ R b) ∨ ∃ xs, SqT K H b xs ∧ R' b) := by
  obtain ⟨xs, h1, _⟩ := h.ldm m
  exact ⟨a, rfl, .inl ⟨xs, sql_of h1, q⟩⟩
theorem k_enO {R R' : Addr → Prop} (h : Sep L H) (m : ob a (.lst xs) ∈ L) (q : R a) : ∃ b, [V.ref a] = [.ref b] ∧ ((∃ xs, SqL K H b xs ∧ R b) ∨ ∃ xs, SqT K H b xs ∧ R' b) := ⟨a, rfl, .inl ⟨xs, sql_of (h.obm m), q⟩⟩
theorem k_enI {R R' : Addr → Prop} (h : Sep L H) (m : im (.ref a) (.tuple ds) ∈ L) (q : R' a) : ∃ b, [V.ref a] = [.ref b] ∧ ((∃ xs, SqL K H b xs ∧ R b) ∨ ∃ xs, SqT K H b xs ∧ R' b) := by
  obtain ⟨a', xs, e, h1, h2⟩ := im_tup (h.imm m)
  cases e
  exact ⟨a, rfl, .inr ⟨xs, h1, q⟩⟩
theorem wk_enI {α : Type} {zs : List α} {f : α → PyData} (m : im (.ref a) (.tuple (zs.map f)) ∈ L) : Wk (IteT K a) L zs.length fun i q => ∀ z T, zs[i]? = some z → q (.ref T) [im (.ref T) (.tuple [.int (i : Nat), f z])] where
  go := fun i H hi h => by
    obtain ⟨a', xs, e, h1, h2⟩ := im_tup (h.imm m)
    cases e
    have hx : i < xs.length := by rw [h2.length, List.length_map]; exact hi
    exact ⟨xs, xs[i], h1, List.getElem?_eq_getElem hx⟩
  yl := fun i H x H' R hi h ⟨T, v, e, hT, e2, y⟩ q => by
    subst e e2
    obtain ⟨a', xs, e, h1, h2⟩ := im_tup (h.imm m)
    cases e
    obtain ⟨d, hd, hm⟩ := h2.get (y xs h1)
    rw [List.getElem?_map] at hd
    obtain ⟨z, hz, rfl⟩ := Option.map_eq_some_iff.mp hd
    refine q z T hz _ (Sep.im_iff.mpr ⟨?_, h.same (same_new hT)⟩)
    exact .tup (sqt_of upd_same) (.cons (.int _) (.cons (hm.mono (Tp.new hT)) .nil))
  st := fun H h => by
    obtain ⟨a', xs, e, h1, h2⟩ := im_tup (h.imm m)
    cases e
    exact ⟨xs, h1, by rw [h2.length, List.length_map]; exact Nat.le_refl _⟩
theorem wk_enD {α : Type} {zs : List α} {f : α → PyData} (m : ld a (zs.map f) ∈ L) : Wk (Ite K a) L zs.length fun i q => ∀ z T, zs[i]? = some z → q (.ref T) [im (.ref T) (.tuple [.int (i : Nat), f z])] where
  go := fun i H hi h => by
    obtain ⟨xs, h1, h2⟩ := h.ldm m
    have hx : i < xs.length := by rw [h2.length, List.length_map]; exact hi
    exact ⟨xs, xs[i], sql_of h1, List.getElem?_eq_getElem hx⟩
  yl := fun i H x H' R hi h ⟨T, v, e, hT, e2, y⟩ q => by
    subst e e2
    obtain ⟨xs, h1, h2⟩ := h.ldm m
    obtain ⟨d, hd, hm⟩ := h2.get (y xs (sql_of h1))
    rw [List.getElem?_map] at hd
    obtain ⟨z, hz, rfl⟩ := Option.map_eq_some_iff.mp hd
    refine q z T hz _ (Sep.im_iff.mpr ⟨?_, h.same (same_new hT)⟩)
    exact .tup (sqt_of upd_same) (.cons (.int _) (.cons (hm.mono (Tp.new hT)) .nil))
  st := fun H h => by
    obtain ⟨xs, h1, h2⟩ := h.ldm m
    exact ⟨xs, sql_of h1, by rw [h2.length, List.length_map]; exact Nat.le_refl _⟩
theorem k_tupleS (h : Sep L H) (m : ld a ds ∈ L) (q : ∀ p H', Sep (im (.ref p) (.tuple ds) :: L) H' → Q (.ref p) H') : rTupleU K [.ref a] H Q := by
  obtain ⟨xs, h1, h2⟩ := h.ldm m
  refine ⟨a, xs, rfl, .inl ⟨sql_of h1, fun p hp => q p _ (Sep.im_iff.mpr ⟨?_, h.same (same_new hp)⟩)⟩⟩
  exact .tup (sqt_of upd_same) (h2.mono (Tp.new hp))
theorem k_listS (h : Sep L H) (m : ld a ds ∈ L) (q : ∀ p H', Sep (ld p ds :: L) H' → Q (.ref p) H') : rListU K [.ref a] H Q := by
  obtain ⟨xs, h1, h2⟩ := h.ldm m
  refine ⟨a, xs, rfl, .inl (sql_of h1), fun p hp => q p _ ?_⟩
  have z := (h.newD (p := p) (xs := []) (ds := []) hp .nil).setD (xs := xs) (es := ds) (h2.mono (Tp.new hp))
  have e : upd (upd H p (.lst [])) p (.lst xs) = upd H p (.lst xs) := by
    funext b
    by_cases hb : b = p
    · rw [hb, upd_same, upd_same]
    · rw [upd_ne hb, upd_ne hb, upd_ne hb]
  rw [e] at z
  exact z
theorem k_listO (h : Sep L H) (m : ob a (.lst xs) ∈ L) (q : ∀ p H', Sep (ob p (.lst xs) :: L) H' → Q (.ref p) H') : rListU K [.ref a] H Q := ⟨a, xs, rfl, .inl (sql_of (h.obm m)), fun p hp => q p _ (h.new hp rfl)⟩
theorem k_sumS {α : Type} {zs : List α} {f : α → Int} (h : Sep L H) (m : ld a (zs.map fun z => PyData.int (f z)) ∈ L) (q : Q (.int (zs.map f).sum) H) : rSum K [.ref a] H Q := by
  obtain ⟨xs, h1, h2⟩ := h.ldm m
  have e : (zs.map fun z => PyData.int (f z)) = (zs.map f).map PyData.int := by rw [List.map_map]; rfl
  rw [e] at h2
  cases ims_int h2
  exact ⟨_, _, rfl, sql_of h1, q⟩
end
end Ls
namespace Ls
open PySem PySem.Spec PyProof.Rows L2
section
variable {K : PySem.W.Frag} {A B : As K} {L L' M N : List (As K)} {H H' : Hp} {a p l : Addr} {v x y : V} {d e : PyData} {vs xs ys : List V} {ds es : List PyData} {Q : VK} {σ : L2.St} {i j : Int} {n : Nat}
theorem k_min2 (q : Q (.int (if j < i then j else i)) H) : rMinU K [.int i, .int j] H Q := .inl ⟨i, j, rfl, q⟩
theorem k_max2 (q : Q (.int (if j > i then j else i)) H) : rMaxU K [.int i, .int j] H Q := .inl ⟨i, j, rfl, q⟩
theorem k_addD (h : Sep L H) (m : ld a ds ∈ L) (m2 : ld l es ∈ L) (hl : ds.length + es.length ≤ sizeLine) (q : ∀ p H', Sep (ld p (ds ++ es) :: L) H' → Q (.ref p) H') : rAddU K (.ref a) (.ref l) H Q := by
  obtain ⟨xs, h1, h2⟩ := h.ldm m
  obtain ⟨ys, h3, h4⟩ := h.ldm m2
  refine k_addL h1 h3 (by rw [h2.length, h4.length]; exact hl) fun p hp => q p _ ?_
  have z := (h.newD (p := p) (xs := []) (ds := []) hp .nil).setD (xs := xs ++ ys) (es := ds ++ es) ((h2.app h4).mono (Tp.new hp))
  have e : upd (upd H p (.lst [])) p (.lst (xs ++ ys)) = upd H p (.lst (xs ++ ys)) := by
    funext b
    by_cases hb : b = p
    · rw [hb, upd_same, upd_same]
    · rw [upd_ne hb, upd_ne hb, upd_ne hb]
  rw [e] at z
  exact z
theorem mem_dec {α : Type} [DecidableEq α] (z w : α) (zs : List α) {b : Bool} (h : b = decide (w = z)) : (b || decide (z ∈ zs)) = decide (z ∈ w :: zs) := by
  subst h
  by_cases e : w = z
  · subst e
    rw [decide_eq_true rfl, Bool.true_or]
    exact (decide_eq_true List.mem_cons_self).symm
  · rw [decide_eq_false e, Bool.false_or]
    exact decide_eq_decide.mpr ⟨List.mem_cons_of_mem _, fun m => (List.mem_cons.mp m).resolve_left fun y => e y.symm⟩
theorem inV_str (z : Str) : ∀ zs : List Str, inV (.str z) (zs.map V.str) = decide (z ∈ zs)
  | [] => rfl
  | w :: zs => by
    have ih := inV_str z zs
    unfold inV at ih ⊢
    rw [List.map_cons, List.any_cons, ih]
    exact mem_dec _ _ _ (by rw [Bool.eq_iff_iff, decide_eq_true_eq]; exact beq_iff_eq)
theorem inV_int (z : Int) : ∀ zs : List Int, inV (.int z) (zs.map V.int) = decide (z ∈ zs)
  | [] => rfl
  | w :: zs => by
    have ih := inV_int z zs
    unfold inV at ih ⊢
    rw [List.map_cons, List.any_cons, ih]
    exact mem_dec _ _ _ (by rw [Bool.eq_iff_iff, decide_eq_true_eq]; exact beq_iff_eq)
theorem flat_strs (zs : List Str) : (zs.map V.str).all flatV = true := by
  rw [List.all_map, List.all_eq_true]
  intro z _
  rfl
theorem flat_ints (zs : List Int) : (zs.map V.int).all flatV = true := by
  rw [List.all_map, List.all_eq_true]
  intro z _
  rfl
theorem k_inS {z : Str} {zs : List Str} (h : Sep L H) (m : ld p (zs.map PyData.str) ∈ L) (q : Q (.bl (decide (z ∈ zs))) H) : rInU K (.str z) (.ref p) H Q := by
  obtain ⟨xs, h1, h2⟩ := h.ldm m
  cases ims_str h2
  exact .inl ⟨p, _, rfl, .inl (sql_of h1), rfl, flat_strs zs, by rw [if_neg (by decide), inV_str]; exact q⟩
theorem k_notinS {z : Str} {zs : List Str} (h : Sep L H) (m : ld p (zs.map PyData.str) ∈ L) (q : Q (.bl (!decide (z ∈ zs))) H) : rNotInU K (.str z) (.ref p) H Q := by
  obtain ⟨xs, h1, h2⟩ := h.ldm m
  cases ims_str h2
  exact .inl ⟨p, _, rfl, .inl (sql_of h1), rfl, flat_strs zs, by rw [if_pos rfl, inV_str]; exact q⟩
theorem k_inI {z : Int} {zs : List Int} (h : Sep L H) (m : ld p (zs.map PyData.int) ∈ L) (q : Q (.bl (decide (z ∈ zs))) H) : rInU K (.int z) (.ref p) H Q := by
  obtain ⟨xs, h1, h2⟩ := h.ldm m
  cases ims_int h2
  exact .inl ⟨p, _, rfl, .inl (sql_of h1), rfl, flat_ints zs, by rw [if_neg (by decide), inV_int]; exact q⟩
theorem k_notinI {z : Int} {zs : List Int} (h : Sep L H) (m : ld p (zs.map PyData.int) ∈ L) (q : Q (.bl (!decide (z ∈ zs))) H) : rNotInU K (.int z) (.ref p) H Q := by
  obtain ⟨xs, h1, h2⟩ := h.ldm m
  cases ims_int h2
  exact .inl ⟨p, _, rfl, .inl (sql_of h1), rfl, flat_ints zs, by rw [if_pos rfl, inV_int]; exact q⟩
end
end Ls
namespace Ls
open PySem PySem.Spec PyProof.Rows L2
def tChain3 (r r' r'' : R2) (ta tb tc td : TE) : TE := fun σ H Q => ta σ H fun x H1 => tb σ H1 fun y H2 => r x y H2 fun z H3 => ∃ k, z = .bl k ∧
  (if k = true then tc σ H3 fun v H4 => r' y v H4 fun z2 H5 => ∃ k2, z2 = .bl k2 ∧ (if k2 = true then td σ H5 fun w H6 => r'' v w H6 Q else Q (.bl false) H5) else Q (.bl false) H3)
section
variable {X : Cx} {a b c d : Expr} {pos : Pos} {o1 o2 o3 : CmpOp} {r r' r'' : R2} {ta tb tc td : TE}
theorem pt_chain3 (h1 : OpR X (compareOp o1) r) (h2 : OpR X (compareOp o2) r') (h3 : OpR X (compareOp o3) r'') (ha : PE X a ta) (hb : PE X b tb) (hc : PE X c tc) (hd : PE X d td)
    (hm : lastMarks [o1, o2, o3] [b, c, d] = false := by with_unfolding_all rfl) : PT X (.Compare a [o1, o2, o3] [b, c, d] pos) (tTest (tChain3 r r' r'' ta tb tc td)) := by
  refine ⟨fun pins s σ H Q I h => ?_⟩
  refine isTrue_chain (thn (ha.run pins s σ H _ I h) fun v s1 ⟨x, H1, I1, r1, q1⟩ => test_link (thn (hb.run pins s1 σ H1 _ I1 q1) fun u s2 ⟨y, H2, I2, r2, q2⟩ =>
    thn (h1 pins s2 σ H2 x y v u _ I2 r1 r2 q2) fun e s3 ⟨z, H3, I3, r3, k, ez, q3⟩ => ?_)) hm
  subst ez
  cases r3
  refine wpAny_truthy_bool ?_
  cases k with
  | false =>
    obtain ⟨k', e', q'⟩ := q3
    cases e'
    exact ite_ff ⟨H3, I3, q'⟩
  | true =>
    refine ite_tt (test_link (thn (hc.run pins s3 σ H3 _ I3 q3) fun u4 s4 ⟨y4, H4, I4, r4, q4⟩ => thn (h2 pins s4 σ H4 y y4 u u4 _ I4 r2 r4 q4) fun e5 s5 ⟨z5, H5, I5, r5, k5, ez5, q5⟩ => ?_))
    subst ez5
    cases r5
    refine wpAny_truthy_bool ?_
    cases k5 with
    | false =>
      obtain ⟨k', e', q'⟩ := q5
      cases e'
      exact ite_ff ⟨H5, I5, q'⟩
    | true =>
      refine ite_tt (test_last (thn (hd.run pins s5 σ H5 _ I5 q5) fun u6 s6 ⟨y6, H6, I6, r6, q6⟩ => thn (h3 pins s6 σ H6 y4 y6 u4 u6 _ I6 r4 r6 q6) fun e7 s7 ⟨z7, H7, I7, r7, k7, ez7, q7⟩ => ?_))
      subst ez7
      cases r7
      exact wpAny_truthy_bool ⟨H7, I7, q7⟩
end
theorem k_chain3 {r r' r'' : R2} {ta tb tc td : TE} {σ : L2.St} {H : Hp} {Q : VK} (h : ta σ H fun x H1 => tb σ H1 fun y H2 => r x y H2 fun z H3 => ∃ k, z = .bl k ∧
  (if k = true then tc σ H3 fun v H4 => r' y v H4 fun z2 H5 => ∃ k2, z2 = .bl k2 ∧ (if k2 = true then td σ H5 fun w H6 => r'' v w H6 Q else Q (.bl false) H5) else Q (.bl false) H3)) : tChain3 r r' r'' ta tb tc td σ H Q := h
end Ls
namespace Ls
open PySem PySem.Spec PyProof.Rows L2
section
variable {K : PySem.W.Frag} {A B : As K} {L L' M N : List (As K)} {H H' : Hp} {a p l dx C : Addr} {o u : HO} {v x y : V} {d e : PyData} {vs xs ys : List V} {ds es : List PyData} {Q : VK} {D : Ends} {σ : L2.St} {i j : Int} {n : Nat} {b : Bool} {ta te tv to : TE} {t tk : TA} {fs : List (Str × V)}
/-- an instance that never changes any more -/
def fzI (a C : Addr) (fs : List (Str × V)) : As K := persW (fun W _ => ∃ dx, W a (.ins C dx fs) ∧ W dx (.own a)) (fun _ _ _ _ h => h) fun _ _ _ e ⟨dx, h1, h2⟩ => ⟨dx, e _ _ h1, e _ _ h2⟩
instance : Dup (fzI (K := K) a C fs) := ⟨fun z => z.1⟩
theorem Sep.fzIm (h : Sep L H) (m : fzI a C fs ∈ L) : ∃ dx, H a = some (.ins C dx fs) := by
  obtain ⟨W, s, ⟨_, dx, h1, h2⟩, f⟩ := h.the m
  exact ⟨dx, (f _ _ h1).1⟩
theorem Sep.freezeI (h : Sep (inst a C fs :: L) H) : Sep (fzI a C fs :: L) H := by
  obtain ⟨W, s, f, s1, s2, d, u, ⟨dx, e, h1, h2⟩, h3⟩ := h
  refine ⟨fun b x => W b x ∨ (b = a ∧ x = .ins C dx fs) ∨ (b = dx ∧ x = .own a), s2, fun b x z => ?_, fun _ => False, s2, fun _ z => z.elim, fun b => ⟨.inr, fun z => z.elim False.elim id⟩, ⟨fun _ z => z, dx, .inr (.inl ⟨rfl, rfl⟩), .inr (.inr ⟨rfl, rfl⟩)⟩, h3.mo fun b x z => .inl z⟩
  rcases z with z | ⟨rfl, rfl⟩ | ⟨rfl, rfl⟩
  · exact ⟨(f b x z).1, (f b x z).2.1, fun y => (f b x z).2.2 ((u b).mpr (.inr y))⟩
  · exact ⟨h1, rfl, fun y => d b ((e b).mpr (.inl rfl)) y⟩
  · exact ⟨h2, rfl, fun y => d b ((e b).mpr (.inr rfl)) y⟩
theorem k_istr {R : It → Hp → Prop} (h : te σ H fun v H1 => ∃ x, v = .str x ∧ R (Its x) H1) : iStr te σ H R := h
theorem k_istX {z : Str} {R : Str → Prop} (h : R z) : ∃ x, V.str z = .str x ∧ R x := ⟨z, rfl, h⟩
theorem wk_str {z : Str} : Wk (Its z) L z.cps.toList.length fun i q => ∀ c, z.cps.toList[i]? = some c → (fun (c : Nat) q => q (V.str ⟨#[c]⟩) ([] : List (As K))) c q where
  go := fun i H hi h => by rw [Array.length_toList] at hi; exact hi
  yl := fun i H x H' R hi h ⟨e, c, hc, ev⟩ q => by
    subst e ev
    exact q c (by rw [Array.getElem?_toList]; exact hc) _ h
  st := fun H h => by rw [Array.length_toList]; exact Nat.le_refl _
theorem k_inSg {c : Nat} {z : Str} (q : Q (.bl (decide (c ∈ z.cps.toList))) H) : rInU K (.str ⟨#[c]⟩) (.str z) H Q := .inr (.inr ⟨c, z, rfl, rfl, q⟩)
def cutD (ds : List PyData) (lo hi : Option Int) : List PyData := (ds.drop (HT.sIx ds.length 0 lo)).take (HT.sIx ds.length ds.length hi - HT.sIx ds.length 0 lo)
theorem ImAll.cut (h : ImAll K H xs ds) (lo hi : Option Int) : ImAll K H (cutV xs lo hi) (cutD ds lo hi) := by
  unfold cutV cutD
  rw [h.length]
  exact (h.drop _).take _
theorem cutD_to {i : Int} (h : 0 ≤ i) : cutD ds none (some i) = ds.take i.toNat := by
  obtain ⟨k, rfl⟩ := Int.eq_ofNat_of_zero_le h
  show (ds.drop 0).take (HT.sIx ds.length ds.length (some (k : Int)) - 0) = _
  rw [HT.sIx_nat, List.drop_zero, Nat.sub_zero, Int.toNat_natCast]
  by_cases hk : k ≤ ds.length
  · rw [Nat.min_eq_left hk]
  · rw [Nat.min_eq_right (by omega), List.take_of_length_le (Nat.le_refl _), List.take_of_length_le (by omega)]
theorem cutD_from {i : Int} (h : 0 ≤ i) : cutD ds (some i) none = ds.drop i.toNat := by
  obtain ⟨k, rfl⟩ := Int.eq_ofNat_of_zero_le h
  show (ds.drop (HT.sIx ds.length 0 (some (k : Int)))).take (ds.length - HT.sIx ds.length 0 (some (k : Int))) = _
  rw [HT.sIx_nat, Int.toNat_natCast]
  by_cases hk : k ≤ ds.length
  · rw [Nat.min_eq_left hk]
    exact List.take_of_length_le (by rw [List.length_drop]; omega)
  · rw [Nat.min_eq_right (by omega), List.drop_of_length_le (Nat.le_refl _), List.drop_of_length_le (by omega), List.take_nil]
theorem k_slI {lo hi : Option Int} (h : Sep L H) (m : im (.ref a) (.tuple ds) ∈ L) (q : ∀ p H', Sep (im (.ref p) (.tuple (cutD ds lo hi)) :: L) H' → Q (.ref p) H') : rSlU K (.ref a) lo hi H Q := by
  obtain ⟨a', xs, e, h1, h2⟩ := im_tup (h.imm m)
  cases e
  refine .inr (.inl ⟨a, xs, rfl, h1, fun w => ?_, fun _ p hp => ?_⟩)
  · refine q a H (Sep.im_iff.mpr ⟨?_, h⟩)
    have e : cutD ds lo hi = ds := by
      unfold cutD
      rw [← h2.length, w.1, w.2, List.drop_zero, Nat.sub_zero, h2.length, List.take_length]
    rw [e]
    exact h.imm m
  · exact q p _ (Sep.im_iff.mpr ⟨.tup (sqt_of upd_same) ((ImAll.cut h2 lo hi).mono (Tp.new hp)), h.same (same_new hp)⟩)
theorem k_slD {lo hi : Option Int} (h : Sep L H) (m : ld a ds ∈ L) (q : ∀ p H', Sep (ld p (cutD ds lo hi) :: L) H' → Q (.ref p) H') : rSlU K (.ref a) lo hi H Q := by
  obtain ⟨xs, h1, h2⟩ := h.ldm m
  refine k_slL (sql_of h1) fun p hp => q p _ ?_
  have z := (h.newD (p := p) (xs := []) (ds := []) hp .nil).setD (xs := cutV xs lo hi) (es := cutD ds lo hi) ((ImAll.cut h2 lo hi).mono (Tp.new hp))
  have e : upd (upd H p (.lst [])) p (.lst (cutV xs lo hi)) = upd H p (.lst (cutV xs lo hi)) := by
    funext b
    by_cases hb : b = p
    · rw [hb, upd_same, upd_same]
    · rw [upd_ne hb, upd_ne hb, upd_ne hb]
  rw [e] at z
  exact z
theorem k_slO {lo hi : Option Int} (h : Sep L H) (m : ob a (.lst xs) ∈ L) (q : ∀ p H', Sep (ob p (.lst (cutV xs lo hi)) :: L) H' → Q (.ref p) H') : rSlU K (.ref a) lo hi H Q := k_slL (sql_of (h.obm m)) fun p hp => q p _ (h.new hp rfl)
theorem k_fldF {R : V → Prop} {f : Str} (h : Sep L H) (m : fzI a C fs ∈ L) (c : Cls K C) (n : NoAttr K C f) (e : fs.lookup f = some v) (q : R v) : ∃ a' C' dx fs v', V.ref a = .ref a' ∧ H a' = some (.ins C' dx fs) ∧ Cls K C' ∧ NoAttr K C' f ∧ fs.lookup f = some v' ∧ R v' := k_fldt (h.fzIm m) c n e q
theorem k_recvF {R : Addr → Prop} {f : Str} (h : Sep L H) (w : fzI a C fs ∈ L) (e : fs.lookup f = none) (q : R a) : ∃ a' dx fs, V.ref a = .ref a' ∧ H a' = some (.ins C dx fs) ∧ fs.lookup f = none ∧ R a' := by
  obtain ⟨dx, h1⟩ := h.fzIm w
  exact k_recv ⟨dx, fs, h1, e⟩ q
theorem k_non {P : Prop} (h : P) : V.non = .non ∧ P := ⟨rfl, h⟩
end
end Ls
namespace Ls
open PySem PySem.Spec PyProof.Rows L2 C8
end Ls
namespace Ls
open PySem PySem.Spec PyProof.Rows L2
section
variable {K : PySem.W.Frag} {A B : As K} {L L' M N : List (As K)} {H H' : Hp} {a p l dx C : Addr} {o u : HO} {v x y w : V} {d e : PyData} {vs xs ys : List V} {ds es : List PyData} {Q : VK} {σ : L2.St} {i j n : Nat} {b : Bool}
instance : Dup (all ([] : List (As K))) := ⟨fun z a => z a⟩
instance [i : Dup A] [j : Dup (all L)] : Dup (all (A :: L)) := ⟨fun ⟨s1, s2, d, u, h1, h2⟩ a z => ((u a).mp z).elim (i.no h1 a) (j.no (A := all L) h2 a)⟩
/-- the parts of two lists, each by each -/
def al2 {α : Type} (f : V → α → As K) (vs : List V) (xs : List α) : As K := all (pr (vs.length = xs.length) :: List.zipWith f vs xs)
section
variable {α : Type} {f : V → α → As K} {zs ws : List α} {z : α}
theorem Sep.al2_iff : Sep (al2 f vs zs :: L) H ↔ vs.length = zs.length ∧ Sep (List.zipWith f vs zs ++ L) H := by
  unfold al2
  rw [Sep.all_iff, List.cons_append, Sep.pr_iff]
theorem zip_erase : ∀ {vs : List V} {zs : List α} {i : Nat}, vs[i]? = some v → zs[i]? = some z → (List.zipWith f vs zs).Perm (f v z :: List.zipWith f (vs.eraseIdx i) (zs.eraseIdx i))
  | v' :: vs, z' :: zs, 0, h1, h2 => by
    cases h1
    cases h2
    exact .refl _
  | v' :: vs, z' :: zs, i + 1, h1, h2 => (List.Perm.cons _ (zip_erase (i := i) h1 h2)).trans (.swap _ _ _)
theorem Sep.cls (h : Sep (f v z :: al2 f (vs.eraseIdx i) (zs.eraseIdx i) :: L) H) (h1 : vs[i]? = some v) (h2 : i < zs.length) : Sep (al2 f vs (zs.set i z) :: L) H := by
  have l1 := (List.getElem?_eq_some_iff.mp h1).1
  obtain ⟨e, g⟩ := Sep.al2_iff.mp (h.perm (.swap _ _ _))
  rw [List.length_eraseIdx_of_lt l1, List.length_eraseIdx_of_lt h2] at e
  refine Sep.al2_iff.mpr ⟨by rw [List.length_set]; omega, ?_⟩
  have p := zip_erase (f := f) h1 (List.getElem?_set_self (a := z) h2)
  rw [List.eraseIdx_set_eq] at p
  exact (g.perm List.perm_middle).perm (p.symm.append_right L)
theorem Sep.snoc (h : Sep (f v z :: al2 f vs zs :: L) H) : Sep (al2 f (vs ++ [v]) (zs ++ [z]) :: L) H := by
  obtain ⟨e, g⟩ := Sep.al2_iff.mp (h.perm (.swap _ _ _))
  refine Sep.al2_iff.mpr ⟨by rw [List.length_append, List.length_append, e]; rfl, ?_⟩
  rw [List.zipWith_append e]
  show Sep (List.zipWith f vs zs ++ [f v z] ++ L) H
  rw [List.append_assoc]
  exact g
instance [i : ∀ v z, Dup (f v z)] : Dup (al2 f vs zs) := by
  have : ∀ (vs : List V) (zs : List α), Dup (all (List.zipWith f vs zs)) := by
    intro vs
    induction vs with
    | nil => intro zs; exact inferInstanceAs (Dup (all []))
    | cons v vs ih =>
      intro zs
      cases zs with
      | nil => exact inferInstanceAs (Dup (all []))
      | cons z zs =>
        have := ih zs
        exact inferInstanceAs (Dup (all (f v z :: List.zipWith f vs zs)))
  have := this vs zs
  exact inferInstanceAs (Dup (all (pr _ :: List.zipWith f vs zs)))
end
end
end Ls
namespace Ls
open PySem PySem.Spec PyProof.Rows L2
end Ls
namespace Ls
open PySem PySem.Spec PyProof.Rows L2
def rEqZ (K : PySem.W.Frag) : R2 := fun x y H Q => rEqU K x y H Q ∨ ∃ a b xs, x = .ref a ∧ y = .ref b ∧ H a = some (.lst xs) ∧ H b = some (.lst []) ∧ Q (.bl (decide (xs = []))) H
def rNeZ (K : PySem.W.Frag) : R2 := fun x y H Q => rNeU K x y H Q ∨ ∃ a b xs, x = .ref a ∧ y = .ref b ∧ H a = some (.lst xs) ∧ H b = some (.lst []) ∧ Q (.bl (!decide (xs = []))) H
section
variable {X : Cx}
theorem op_eqZ (K : PySem.W.Frag) (hK : X.K = K) (hu : X.A.units + 66 < cLine) : OpR X (compareOp .Eq) (rEqZ K) := by
  subst hK
  refine OpR.or (op_eqU0 hu) ?_
  intro pins s σ H x y v u Q I rx ry h
  obtain ⟨a, b, xs, rfl, rfl, ha, hb, q⟩ := h
  by_cases e : xs = []
  · subst e
    refine op_eqD (by omega) pins s σ H (.ref a) (.ref b) v u Q I rx ry ⟨.list [], .list [], .lst (sql_of ha) .nil, .lst (sql_of hb) .nil, by decide, by decide, ?_⟩
    exact q
  · cases rx
    cases ry
    obtain ⟨its, n, r, e1, _⟩ := I.lst ha
    obtain ⟨its2, n2, r2, e2, _⟩ := I.lst hb
    rw [decide_eq_false e] at q
    have hl := r.length
    have hl2 := r2.length
    have hx : xs.length ≠ 0 := fun z => e (List.eq_nil_of_length_eq_zero z)
    refine SeqAt.RcAt.lists_lengths (A := X.A) (s := s) (items := its.toArray) (items2 := its2.toArray) ⟨_, e1, rfl, n, rfl⟩ ⟨_, e2, rfl, n2, rfl⟩ ?_ (by omega) X.prog X.w X.xe _ ⟨.bl false, H, I, rfl, q⟩
    rw [List.size_toArray, List.size_toArray, ← hl, ← hl2]
    simpa using hx
theorem op_neZ (K : PySem.W.Frag) (hK : X.K = K) (hu : X.A.units + 66 < cLine) : OpR X (compareOp .NotEq) (rNeZ K) := by
  subst hK
  refine OpR.or (op_neU0 hu) ?_
  intro pins s σ H x y v u Q I rx ry h
  obtain ⟨a, b, xs, rfl, rfl, ha, hb, q⟩ := h
  by_cases e : xs = []
  · subst e
    refine op_neD (by omega) pins s σ H (.ref a) (.ref b) v u Q I rx ry ⟨.list [], .list [], .lst (sql_of ha) .nil, .lst (sql_of hb) .nil, by decide, by decide, ?_⟩
    exact q
  · cases rx
    cases ry
    obtain ⟨its, n, r, e1, _⟩ := I.lst ha
    obtain ⟨its2, n2, r2, e2, _⟩ := I.lst hb
    rw [decide_eq_false e] at q
    have hl := r.length
    have hl2 := r2.length
    have hx : xs.length ≠ 0 := fun z => e (List.eq_nil_of_length_eq_zero z)
    refine SeqAt.RcNeAt.lists_lengths (A := X.A) (s := s) (items := its.toArray) (items2 := its2.toArray) ⟨_, e1, rfl, n, rfl⟩ ⟨_, e2, rfl, n2, rfl⟩ ?_ (by omega) X.prog X.w X.xe _ ⟨.bl true, H, I, rfl, q⟩
    rw [List.size_toArray, List.size_toArray, ← hl, ← hl2]
    simpa using hx
end
end Ls
namespace Ls
open PySem PySem.Spec PyProof.Rows L2
section
variable {K : PySem.W.Frag} {A B : As K} {L L' M N : List (As K)} {H H' : Hp} {a p l dx C : Addr} {o u : HO} {v x y w : V} {d e : PyData} {vs xs ys : List V} {ds es : List PyData} {Q : VK} {σ : L2.St} {i j n : Nat} {k : Int} {b : Bool}
theorem Sep.ldem (h : Sep L H) (m : ld p [] ∈ L) : H p = some (.lst []) := by
  obtain ⟨xs, h1, h2⟩ := h.ldm m
  cases h2
  exact h1
theorem k_eqzO (h : Sep L H) (m : ob a (.lst xs) ∈ L) (m2 : ld p [] ∈ L) (q : Q (.bl (decide (xs = []))) H) : rEqZ K (.ref a) (.ref p) H Q := .inr ⟨a, p, xs, rfl, rfl, h.obm m, h.ldem m2, q⟩
theorem k_nezO (h : Sep L H) (m : ob a (.lst xs) ∈ L) (m2 : ld p [] ∈ L) (q : Q (.bl (!decide (xs = []))) H) : rNeZ K (.ref a) (.ref p) H Q := .inr ⟨a, p, xs, rfl, rfl, h.obm m, h.ldem m2, q⟩
theorem imall_nil (h : ImAll K H xs ds) : decide (xs = []) = decide (ds = []) := by
  cases h <;> rfl
theorem k_eqzD (h : Sep L H) (m : ld a ds ∈ L) (m2 : ld p [] ∈ L) (q : Q (.bl (decide (ds = []))) H) : rEqZ K (.ref a) (.ref p) H Q := by
  obtain ⟨xs, h1, h2⟩ := h.ldm m
  exact .inr ⟨a, p, xs, rfl, rfl, h1, h.ldem m2, by rw [imall_nil h2]; exact q⟩
theorem k_nezD (h : Sep L H) (m : ld a ds ∈ L) (m2 : ld p [] ∈ L) (q : Q (.bl (!decide (ds = []))) H) : rNeZ K (.ref a) (.ref p) H Q := by
  obtain ⟨xs, h1, h2⟩ := h.ldm m
  exact .inr ⟨a, p, xs, rfl, rfl, h1, h.ldem m2, by rw [imall_nil h2]; exact q⟩
theorem k_popAtO (h : Sep L H) (r : Rep L (ob a (.lst xs)) (ob a (.lst (xs.eraseIdx i))) M) (e : xs[i]? = some v) (hb : i < 1000000) (q : ∀ H', Sep M H' → Q v H') : rPopAt (.ref a) [.int (i : Nat)] H Q := by
  have hi := (List.getElem?_eq_some_iff.mp e).1
  refine ⟨a, xs, (i : Nat), i, v, rfl, rfl, h.obm r.mem, by omega, by omega, ?_, e, q _ (h.setR r rfl)⟩
  have := (ixN_seq (n := xs.length) (i := (i : Int)) (j := i) ?_).1
  · exact this
  · unfold ixN
    rw [if_pos (by omega), if_pos (by omega)]
    rfl
theorem k_popO (h : Sep L H) (r : Rep L (ob a (.lst xs)) (ob a (.lst xs.dropLast)) M) (e : xs[xs.length - 1]? = some v) (q : ∀ H', Sep M H' → Q v H') : rPop (.ref a) [] H Q :=
  ⟨a, xs, v, rfl, rfl, h.obm r.mem, e, q _ (h.setR r rfl)⟩
theorem ImAll.dropLast (h : ImAll K H xs ds) : ImAll K H xs.dropLast ds.dropLast := by
  rw [List.dropLast_eq_take, List.dropLast_eq_take, h.length]
  exact h.take _
theorem k_extO (h : Sep L H) (r : Rep L (ob a (.lst xs)) (ob a (.lst (xs ++ ys))) M) (m : ob p (.lst ys) ∈ L) (hl : xs.length + ys.length ≤ sizeLine) (q : ∀ H', Sep M H' → Q .non H') : rExtend (.ref a) [.ref p] H Q :=
  ⟨a, p, xs, ys, rfl, rfl, h.obm r.mem, h.obm m, hl, q _ (h.setR r rfl)⟩
theorem k_setO {R : Hp → Prop} (h : Sep L H) (r : Rep L (ob a (.lst xs)) (ob a (.lst (xs.set j v))) M) (e : ixN xs.length k = some j) (q : ∀ H', Sep M H' → R H') : rSetL (.ref a) (.int k) v H R :=
  ⟨a, xs, k, j, rfl, rfl, h.obm r.mem, e, q _ (h.setR r rfl)⟩
theorem ixN_nat {n j : Nat} (h : j < n) : ixN n (j : Int) = some j := by
  unfold ixN
  rw [if_pos (by omega), if_pos (by omega)]
  rfl
theorem k_madeT {sp : Sp} {Qf : Addr → VK} {E : XK} (h : Sep L H) (q : ∀ x H', Sep (inst x C [] :: L) H' → sp (.ref x :: vs) H' (Qf x) E) : ∀ x dx, H x = none → H dx = none → dx ≠ x → sp (.ref x :: vs) (upd (upd H dx (.own x)) x (.ins C dx [])) (Qf x) E := fun x dx hx hd ne => q x _ (h.newInst hx hd ne)
theorem k_asg2 {te : TE} {g1 g2 : TG} {D : Ends} (h : te σ H fun x H1 => g1 x σ H1 fun σ1 H2 => g2 x σ1 H2 D.nx) : tAsg2 te g1 g2 D σ H := h
theorem k_putG {α β γ : Type} {g : α → β → Hp → γ → Prop} {z1 : α} {z2 : β} {z3 : γ} {f : Str} {fs gs : List (Str × V)} (h : Sep L H) (r : Rep L (inst a C fs) (inst a C gs) M) (c : Cls K C) (n : NoAttr K C f) (hl : fs.length < 1000) (e : putF f y fs = gs) (q : ∀ H', Sep M H' → g z1 z2 H' z3) : ∃ a' C' dx fs, V.ref a = .ref a' ∧ H a' = some (.ins C' dx fs) ∧ Cls K C' ∧ NoAttr K C' f ∧ fs.length < 1000 ∧ g z1 z2 (upd H a' (.ins C' dx (putF f y fs))) z3 := k_putS' (R := fun H => g z1 z2 H z3) h r c n hl e q
theorem k_fldA {R : Addr → Addr → V → Prop} {f : Str} {fs : List (Str × V)} (h : Sep L H) (m : inst a C fs ∈ L) (c : Cls K C) (n : NoAttr K C f) (e : fs.lookup f = some v) (q : R a C v) : ∃ a' C' dx fs v', V.ref a = .ref a' ∧ H a' = some (.ins C' dx fs) ∧ Cls K C' ∧ NoAttr K C' f ∧ fs.lookup f = some v' ∧ R a' C' v' := by
  obtain ⟨dx, h1⟩ := h.insm m
  exact ⟨a, C, dx, fs, v, rfl, h1, c, n, e, q⟩
theorem k_slTu {lo hi : Option Int} (h : Sep L H) (m : tu a xs ∈ L) (q : ∀ p H', Sep (tu p (cutV xs lo hi) :: L) H' → Q (.ref p) H') : rSlU K (.ref a) lo hi H Q := by
  have h1 := h.tum m
  refine .inr (.inl ⟨a, xs, rfl, h1, fun w => ?_, fun _ p hp => ?_⟩)
  · refine q a H (Sep.tu_iff.mpr ⟨?_, h⟩)
    have e : cutV xs lo hi = xs := by
      unfold cutV
      rw [w.1, w.2, List.drop_zero, Nat.sub_zero, List.take_length]
    rw [e]
    exact h1
  · exact q p _ (Sep.tu_iff.mpr ⟨sqt_of upd_same, h.same (same_new hp)⟩)
end
end Ls
namespace Ls
open PySem PySem.Spec PyProof.Rows L2
section
variable {K : PySem.W.Frag} {A B : As K} {L L' M N : List (As K)} {H H' : Hp} {a p l dx C : Addr} {v x y w : V} {vs us : List V} {Q : VK} {σ : L2.St} {i j n : Nat} {b : Bool} {α β : Type} {zs ws : List α} {J : It} {g : TG} {tt : TT} {te : TE} {wi : List Nat} {D : Addr} {Qd : Hp → Prop} {Y : Nat → (V → List (As K) → Prop) → Prop}
theorem k_aug {k : Nat} {te : TE} {ti : TIp} {D : Ends} (e : σ[k]? = some (some x)) (h : te σ H fun y H1 => ti x y H1 fun z H2 => D.nx (σ.set k (some z)) H2) : tAug k te ti D σ H := ⟨x, e, h⟩
theorem k_ipI {f : Int → Int → Int} {i j : Int} (q : Q (.int (f i j)) H) : ipI f (.int i) (.int j) H Q := ⟨i, j, rfl, rfl, q⟩
theorem k_makeK {gV : List V → List V → List V} {m : Nat} {sp : Sp} {E : XK} {t tk : TA} (h : t σ H fun vs H1 => tk σ H1 fun zs H2 => vs.length = n ∧ zs.length = m ∧ ∀ x dx, H2 x = none → H2 dx = none → dx ≠ x →
  sp (gV (.ref x :: vs) zs) (upd (upd H2 dx (.own x)) x (.ins C dx [])) (fun v H3 => v = .non ∧ Q (.ref x) H3) E) : tMakeK C n m sp gV E t tk σ H Q := h
theorem k_gsub {to ti : TE} {t : TSet} {R : L2.St → Hp → Prop} (h : to σ H fun o H1 => ti σ H1 fun i H2 => t o i v H2 fun H3 => R σ H3) : gSub to ti t v σ H R := h
end
end Ls
namespace Ls
open PySem PySem.Spec PyProof.Rows L2
end Ls
namespace Ls
open PySem PySem.Spec PyProof.Rows L2
abbrev Kp (fp : List Addr) (h h' : Heap) : Prop := ∀ c o, c ∉ fp → h.get? c = some o → h'.get? c = some o
section
variable {fp gp : List Addr} {h h1 h' : Heap} {a : Addr} {o : Obj}
theorem Kp.sb (s : Heap.SameBut a h h') : Kp [a] h h' := fun c u n e => (s.2 c fun z => n (by rw [z]; exact List.mem_singleton.mpr rfl)).trans e
theorem Kp.eb (s : Heap.ExtBut a h h') : Kp [a] h h' := fun c u n e => s c u (fun z => n (by rw [z]; exact List.mem_singleton.mpr rfl)) e
theorem Kp.tr (x : Kp fp h h1) (y : Kp gp h1 h') : Kp (fp ++ gp) h h' := fun c u n e => y c u (fun z => n (List.mem_append_right _ z)) (x c u (fun z => n (List.mem_append_left _ z)) e)
theorem Kp.less (x : Kp fp h h') (s : ∀ b ∈ fp, b ∈ gp) : Kp gp h h' := fun c u n e => x c u (fun z => n (s c z)) e
theorem Kp.ps : Kp [] h (h.push o) := fun c u _ e => Heap.get?_push_of_some _ e
end
def IsIt (b : Bool) (h : Heap) (it l : Addr) (k : Nat) : Prop := match b with
  | true => h.IsListIter it l k
  | false => h.IsTupleIter it l k
def IsSq (b : Bool) (h : Heap) (l : Addr) (xs : Array Value) : Prop := match b with
  | true => h.IsList l xs
  | false => h.IsTuple l xs
abbrev ZipG (h : Heap) (z TI TO : Addr) (f0 f1 : Value) : Prop := h.get? z = some { cls := .type "zip", dict := none, data := .fields #[f0, f1, .bool false, .ref TI, .ref TO], slots := #[] }
def OkF (f0 f1 : Value) : Prop := (f0 = .none ∧ f1 = .bool false) ∨ ∃ (T : Addr) (f : Bool), f0 = rawInt T ∧ f1 = .bool f
def ZipS (h : Heap) (z TI TO : Addr) : Prop := ∃ f0 f1, ZipG h z TI TO f0 f1 ∧ OkF f0 f1
section
variable {prog : Program} {w : World} {A : Around} {E : Value → Shared → Prop} {s : Shared} {b : Bool} {h h' : Heap} {it l z TI TO i1 i2 l1 l2 : Addr} {k : Nat} {xs ys : Array Value} {x y : Value} {α β : Type}
theorem IsIt.bt (c : IsIt b h it l k) (e : ∀ o, h.get? it = some o → h'.get? it = some o) : IsIt b h' it l k := by
  cases b
  · exact Heap.IsTupleIter.at (h := h) c e
  · exact Heap.IsListIter.at (h := h) c e
theorem IsSq.bt (c : IsSq b h l xs) (e : ∀ o, h.get? l = some o → h'.get? l = some o) : IsSq b h' l xs := by
  cases b
  · obtain ⟨o, g, r⟩ := (show h.IsTuple l xs from c)
    exact (⟨o, e o g, r⟩ : h'.IsTuple l xs)
  · obtain ⟨o, g, r⟩ := (show h.IsList l xs from c)
    exact (⟨o, e o g, r⟩ : h'.IsList l xs)
theorem nx_item {Q : Value → Shared → Prop} (c : IsIt b s.heap it l k) (d : IsSq b s.heap l xs) (hx : xs[k]? = some x) (q : ∀ h', IsIt b h' it l (k + 1) → Heap.SameBut it s.heap h' → Q x { s with heap := h' }) : wpAny (model prog w) A (Builtin.SmallTypes.nextOf (.ref it)) Q E s := by
  cases b
  · exact RZ.nextOf_tuple_item c d hx q
  · exact wpAny_nextOf_list_item c d hx q
theorem nx_end {Q : Value → Shared → Prop} (hh : A.handled = none) (c : IsIt b s.heap it l k) (d : IsSq b s.heap l xs) (hx : xs[k]? = none) (q : ∀ h' e, Heap.ExtBut it s.heap h' → (∃ o, h'.get? e = some o ∧ o.cls = .type "StopIteration") → E (.ref e) { s with heap := h' }) : wpAny (model prog w) A (Builtin.SmallTypes.nextOf (.ref it)) Q E s := by
  cases b
  · exact RZ.nextOf_tuple_end hh c d hx q
  · exact wpAny_nextOf_list_end hh c d hx q
/-- a field is read, an item list is read, a field is set -/
theorem bF {M : Model} {a : Addr} {o : Obj} {vs : Array Value} {i : Nat} {v : Value} {f : Value → Sem β} {Q : β → Shared → Prop} (g : s.heap.get? a = some o) (hd : o.data = .fields vs) (hi : vs[i]? = some v) (q : wpAny M A (f v) Q E s) : wpAny M A (field (.ref a) i >>= f) Q E s := wpAny_bind (wpAny_field g hd hi q)
theorem bI {M : Model} {a : Addr} {o : Obj} {vs : Array Value} {n : Nat} {f : Option (Array Value) → Sem β} {Q : β → Shared → Prop} (g : s.heap.get? a = some o) (hd : o.data = .seq vs n) (q : wpAny M A (f (some vs)) Q E s) : wpAny M A (seqItems? (.ref a) >>= f) Q E s := wpAny_bind (wpAny_seqItems g hd q)
theorem alive_is {T : Addr} {Q : Option Obj → Shared → Prop} (q : Q (s.heap.get? T) s) : wpAny (model prog w) A (loadIfAlive T) Q E s := fun _ _ _ => q
/-- whether its tuple is free: either may be -/
theorem own_free {f0 f1 : Value} {Q : Bool → Shared → Prop} (g : ZipG s.heap z TI TO f0 f1) (ok : OkF f0 f1) (q1 : Q true s) (q2 : ∀ h' g0 g1, ZipG h' z TI TO g0 g1 → OkF g0 g1 → Heap.SameBut z s.heap h' → Q false { s with heap := h' }) : wpAny (model prog w) A (Builtin.SmallTypes.ownedTupleIsFree (.ref z)) Q E s := by
  unfold Builtin.SmallTypes.ownedTupleIsFree
  rcases ok with ⟨rfl, rfl⟩ | ⟨T, f, rfl, rfl⟩
  · exact bF g rfl (v := .none) rfl (wpAny_pure q1)
  · refine bF g rfl (v := rawInt T) rfl ?_
    show wpAny _ _ (loadIfAlive ((T : Int).toNat) >>= fun r => _) Q E s
    rw [Int.toNat_natCast]
    refine wpAny_bind (alive_is ?_)
    cases hT : s.heap.get? T with
    | none =>
      simp only [Option.isNone_none, if_true]
      exact wpAny_pure q1
    | some oT =>
      simp only [Option.isNone_some, Bool.false_eq_true, if_false]
      refine bF g rfl (v := .bool f) rfl ?_
      cases f with
      | true =>
        rw [if_neg (by exact Bool.false_ne_true)]
        exact wpAny_pure (q2 s.heap _ _ g (.inr ⟨T, true, rfl, rfl⟩) (Heap.SameBut.refl _ _))
      | false =>
        rw [if_pos (by rfl)]
        exact wpAny_bind (wpAny_setField_rec g (by simp) fun h1 g1 s1 => wpAny_pure (q2 h1 _ _ g1 (.inr ⟨T, true, rfl, rfl⟩) s1))
/-- a zip's turn -/
theorem ez_item {Q : Value → Shared → Prop} (D : ZipApart z TI TO i1 i2 l1 l2) (hz : ZipS s.heap z TI TO) (hI : IsPair s.heap TI (.ref i1) (.ref i2)) (hO : ∃ a b, IsPair s.heap TO a b) (c1 : IsIt b s.heap i1 l1 k) (c2 : IsIt b s.heap i2 l2 k) (d1 : IsSq b s.heap l1 xs) (d2 : IsSq b s.heap l2 ys)
    (hx : xs[k]? = some x) (hy : ys[k]? = some y)
    (q : ∀ h', ZipS h' z TI TO → (∃ a b, IsPair h' TO a b) → IsIt b h' i1 l1 (k + 1) → IsIt b h' i2 l2 (k + 1) → IsPair h' s.heap.objs.size x y → h'.objs.size = s.heap.objs.size + 1 → Kp [z, TO, i1, i2] s.heap h' → Q (.ref s.heap.objs.size) { s with heap := h' }) :
    wpAny (model prog w) A (Builtin.«zip.__next__» ⟨[.ref z], []⟩) (fun r s' => ∃ v, r = .done (.ret v) ∧ Q v s') E s := by
  obtain ⟨f0, f1, g, ok⟩ := hz
  obtain ⟨p1, p2, gO⟩ := hO
  have lz : z < s.heap.objs.size := Heap.lt_size g
  refine bF g rfl (i := 2) (v := .bool false) rfl ?_
  refine bF g rfl (i := 3) (v := .ref TI) rfl ?_
  refine bI hI rfl ?_
  refine wpAny_bind (m := Builtin.SmallTypes.ownedTupleIsFree (.ref z)) (own_free g ok ?_ fun h1 g0 g1 z1 ok1 s1 => ?_)
  · simp only [if_true]
    refine wpAny_bind (wpAny_rule ?_)
    refine bF g rfl (i := 4) (v := .ref TO) rfl ?_
    refine wpAny_bind (wpAny_setField_rec g (by simp) fun h1 z1 s1 => ?_)
    replace z1 : ZipG h1 z TI TO .ellipsis f1 := z1
    have k1 : Kp [z] s.heap h1 := .sb s1
    refine wpAny_bind ?_
    simp only [List.zipIdx_cons, List.zipIdx_nil, List.forIn_cons, List.forIn_nil]
    refine wpAny_bind (wpAny_bind (wpAny_onRaise ?_))
    refine wpAny_bind (m := Builtin.SmallTypes.nextOf (.ref i1)) (nx_item (s := { s with heap := h1 }) (c1.bt fun o e => k1 _ o (by simp [D.i1z]) e) (d1.bt fun o e => k1 _ o (by simp [D.l1z]) e) hx fun h2 e2 s2 => wpAny_pure ?_)
    have k2 : Kp [z, i1] s.heap h2 := k1.tr (.sb s2)
    refine bI (k2 _ _ (by simp [D.TOz, D.TOi1]) gO) rfl ?_
    refine wpAny_bind (wpAny_updateSeq_pair (k2 _ _ (by simp [D.TOz, D.TOi1]) gO) fun h3 o3 s3 => ?_)
    replace o3 : IsPair h3 TO x p2 := o3
    have k3 : Kp [z, i1, TO] s.heap h3 := k2.tr (.sb s3)
    refine wpAny_bind (wpAny_letGo (wpAny_pure ?_))
    refine wpAny_bind (wpAny_bind (wpAny_onRaise ?_))
    refine wpAny_bind (m := Builtin.SmallTypes.nextOf (.ref i2)) (nx_item (s := { s with heap := h3 }) (c2.bt fun o e => k3 _ o (by simp [D.i2z, D.i12.symm, D.TOi2.symm]) e) (d2.bt fun o e => k3 _ o (by simp [D.l2z, D.l2i1, D.l2TO]) e) hy fun h4 e4 s4 => wpAny_pure ?_)
    have o4 : IsPair h4 TO x p2 := s4.extBut _ _ D.TOi2 o3
    refine bI o4 rfl ?_
    refine wpAny_bind (wpAny_updateSeq_pair o4 fun h5 o5 s5 => ?_)
    replace o5 : IsPair h5 TO x y := o5
    refine wpAny_bind (wpAny_letGo (wpAny_pure (wpAny_pure ?_)))
    refine bI o5 rfl ?_
    refine wpAny_bind (wpAny_newTuple ?_)
    have sz : h5.objs.size = s.heap.objs.size := by rw [s5.1, s4.1, s3.1, s2.1, s1.1]
    have k5 : Kp [z, i1, TO, i2] s.heap h5 := ((k3.tr (.sb s4)).tr (.sb s5)).less (by simp)
    have z5 : ZipG h5 z TI TO .ellipsis f1 := (((Kp.sb s2).tr (.sb s3)).tr ((Kp.sb s4).tr (.sb s5))) _ _ (by simp [D.i1z.symm, D.TOz.symm, D.i2z.symm]) z1
    have e5 : IsIt b h5 i1 l1 (k + 1) := e2.bt fun o e => (((Kp.sb s3).tr (.sb s4)).tr (.sb s5)) _ o (by simp [D.TOi1.symm, D.i12]) e
    have f5 : IsIt b h5 i2 l2 (k + 1) := e4.bt fun o e => (Kp.sb s5) _ o (by simp [D.TOi2.symm]) e
    clear s1 s2 s3 s4 s5 k1 k2 k3 z1 e2 e4 o3 o4
    have lz5 : z < h5.objs.size := by rw [sz]; exact lz
    refine wpAny_bind (m := Builtin.SmallTypes.ownedTupleHandOut (.ref z) (.ref h5.objs.size)) ?_
    unfold Builtin.SmallTypes.ownedTupleHandOut
    refine wpAny_bind (wpAny_setField_rec (s := { s with heap := h5.push _ }) (Kp.ps _ _ (by simp) z5) (by simp) fun h7 z7 s7 => ?_)
    replace z7 : ZipG h7 z TI TO (rawInt h5.objs.size) f1 := z7
    refine wpAny_setField_rec (s := { s with heap := h7 }) z7 (by simp) fun h8 z8 s8 => ?_
    replace z8 : ZipG h8 z TI TO (rawInt h5.objs.size) (.bool false) := z8
    have k8 : Kp [z, z] h5 h8 := (Kp.ps.tr (.sb s7)).tr (.sb s8)
    have k8' : Kp [z, z] _ h8 := (Kp.sb s7).tr (.sb s8)
    have p8 : IsPair h8 h5.objs.size x y := k8' _ _ (by simp [Nat.ne_of_gt lz5]) (Heap.get?_push_size _ rfl)
    have n8 : h8.objs.size = h5.objs.size + 1 := by rw [s8.1, s7.1, Heap.size_push]
    refine wpAny_pure ⟨_, rfl, ?_⟩
    rw [sz] at z8 p8 n8
    show Q (.ref h5.objs.size) _
    rw [sz]
    exact q h8 ⟨_, _, z8, .inr ⟨_, _, rfl, rfl⟩⟩ ⟨x, y, k8 _ _ (by simp [D.TOz]) o5⟩ (e5.bt fun o e => k8 _ o (by simp [D.i1z]) e) (f5.bt fun o e => k8 _ o (by simp [D.i2z]) e) p8 n8 ((k5.tr k8).less (by simp))
  · simp only [Bool.false_eq_true, if_false]
    have k1 : Kp [z] s.heap h1 := .sb s1
    refine wpAny_bind ?_
    rw [← Array.forIn_toList]
    simp only [List.forIn_cons, List.forIn_nil]
    refine wpAny_bind (wpAny_bind (wpAny_holding ?_))
    refine wpAny_bind (m := Builtin.SmallTypes.nextOf (.ref i1)) (nx_item (s := { s with heap := h1 }) (c1.bt fun o e => k1 _ o (by simp [D.i1z]) e) (d1.bt fun o e => k1 _ o (by simp [D.l1z]) e) hx fun h2 e2 s2 => wpAny_pure (wpAny_pure ?_))
    have k2 : Kp [z, i1] s.heap h2 := k1.tr (.sb s2)
    refine wpAny_bind (wpAny_bind (wpAny_holding ?_))
    refine wpAny_bind (m := Builtin.SmallTypes.nextOf (.ref i2)) (nx_item (s := { s with heap := h2 }) (c2.bt fun o e => k2 _ o (by simp [D.i2z, D.i12.symm]) e) (d2.bt fun o e => k2 _ o (by simp [D.l2z, D.l2i1]) e) hy fun h3 e3 s3 => wpAny_pure (wpAny_pure (wpAny_pure ?_)))
    refine wpAny_bind (m := newTuple [x, y]) (wpAny_newTuple (wpAny_pure ⟨_, rfl, ?_⟩))
    have sz : h3.objs.size = s.heap.objs.size := by rw [s3.1, s2.1, s1.1]
    have k3 : Kp [z, i1, i2] s.heap h3 := k2.tr (.sb s3)
    have z3 : ZipG h3 z TI TO g0 g1 := ((Kp.sb s2).tr (.sb s3)) _ _ (by simp [D.i1z.symm, D.i2z.symm]) z1
    have e4 : IsIt b h3 i1 l1 (k + 1) := e2.bt fun o e => (Kp.sb s3) _ o (by simp [D.i12]) e
    have p3 : IsPair (h3.push { cls := .type "tuple", data := .seq #[x, y] }) h3.objs.size x y := Heap.get?_push_size _ rfl
    have n3 : (h3.push { cls := .type "tuple", data := .seq #[x, y] }).objs.size = h3.objs.size + 1 := Heap.size_push ..
    have pp : ∀ c o, h3.get? c = some o → (h3.push { cls := .type "tuple", data := .seq #[x, y] }).get? c = some o := fun c o e => Kp.ps _ _ (by simp) e
    show Q (.ref h3.objs.size) _
    rw [sz] at p3 n3 ⊢
    exact q _ ⟨_, _, pp _ _ z3, ok1⟩ ⟨p1, p2, pp _ _ (k3 _ _ (by simp [D.TOz, D.TOi1, D.TOi2]) gO)⟩ (e4.bt fun o e => pp _ o e) (e3.bt fun o e => pp _ o e) p3 n3 ((k3.tr .ps).less (by simp))
theorem ez_end {Q : Fin → Shared → Prop} (hh : A.handled = none) (D : ZipApart z TI TO i1 i2 l1 l2) (hz : ZipS s.heap z TI TO) (hI : IsPair s.heap TI (.ref i1) (.ref i2)) (hO : ∃ a b, IsPair s.heap TO a b) (c1 : IsIt b s.heap i1 l1 k) (c2 : IsIt b s.heap i2 l2 k) (d1 : IsSq b s.heap l1 xs) (d2 : IsSq b s.heap l2 ys)
    (hn : xs[k]? = none ∨ ys[k]? = none) (q : ∀ h' e, Kp [z, TO, i1, i2] s.heap h' → (∃ o, h'.get? e = some o ∧ o.cls = .type "StopIteration") → E (.ref e) { s with heap := h' }) :
    wpAny (model prog w) A (Builtin.«zip.__next__» ⟨[.ref z], []⟩) Q E s := by
  obtain ⟨f0, f1, g, ok⟩ := hz
  obtain ⟨p1, p2, gO⟩ := hO
  refine bF g rfl (i := 2) (v := .bool false) rfl ?_
  refine bF g rfl (i := 3) (v := .ref TI) rfl ?_
  refine bI hI rfl ?_
  refine wpAny_bind (m := Builtin.SmallTypes.ownedTupleIsFree (.ref z)) (own_free g ok ?_ fun h1 g0 g1 z1 ok1 s1 => ?_)
  · simp only [if_true]
    refine wpAny_bind (wpAny_rule ?_)
    refine bF g rfl (i := 4) (v := .ref TO) rfl ?_
    refine wpAny_bind (wpAny_setField_rec g (by simp) fun h1 z1 s1 => ?_)
    replace z1 : ZipG h1 z TI TO .ellipsis f1 := z1
    have k1 : Kp [z] s.heap h1 := .sb s1
    refine wpAny_bind ?_
    simp only [List.zipIdx_cons, List.zipIdx_nil, List.forIn_cons, List.forIn_nil]
    refine wpAny_bind (wpAny_bind (wpAny_onRaise ?_))
    have b1 := c1.bt (h' := h1) fun o e => k1 _ o (by simp [D.i1z]) e
    have j1 := d1.bt (h' := h1) fun o e => k1 _ o (by simp [D.l1z]) e
    cases hx : xs[k]? with
    | none =>
      refine wpAny_bind (m := Builtin.SmallTypes.nextOf (.ref i1)) (nx_end (s := { s with heap := h1 }) hh b1 j1 hx fun h2 e x2 he => ?_)
      obtain ⟨oe, ge, ce⟩ := he
      have z2 : ZipG h2 z TI TO .ellipsis f1 := x2 _ _ D.i1z.symm z1
      have ne : e ≠ z := fun u => by
        subst u
        rw [z2] at ge
        cases ge
        simp at ce
      refine wpAny_setField_rec (s := { s with heap := h2 }) z2 (by simp) fun h3 _ s3 => q h3 e (((k1.tr (.eb x2)).tr (.sb s3)).less (by simp)) ⟨oe, Kp.sb s3 _ _ (by simp [ne]) ge, ce⟩
    | some x =>
      have hy : ys[k]? = none := by
        rcases hn with u | u
        · rw [hx] at u; cases u
        · exact u
      refine wpAny_bind (m := Builtin.SmallTypes.nextOf (.ref i1)) (nx_item (s := { s with heap := h1 }) b1 j1 hx fun h2 e2 s2 => wpAny_pure ?_)
      have k2 : Kp [z, i1] s.heap h2 := k1.tr (.sb s2)
      refine bI (k2 _ _ (by simp [D.TOz, D.TOi1]) gO) rfl ?_
      refine wpAny_bind (wpAny_updateSeq_pair (k2 _ _ (by simp [D.TOz, D.TOi1]) gO) fun h3 o3 s3 => ?_)
      have k3 : Kp [z, i1, TO] s.heap h3 := k2.tr (.sb s3)
      refine wpAny_bind (wpAny_letGo (wpAny_pure ?_))
      refine wpAny_bind (wpAny_bind (wpAny_onRaise ?_))
      refine wpAny_bind (m := Builtin.SmallTypes.nextOf (.ref i2)) (nx_end (s := { s with heap := h3 }) hh (c2.bt fun o e => k3 _ o (by simp [D.i2z, D.i12.symm, D.TOi2.symm]) e) (d2.bt fun o e => k3 _ o (by simp [D.l2z, D.l2i1, D.l2TO]) e) hy fun h4 e x4 he => ?_)
      obtain ⟨oe, ge, ce⟩ := he
      have z4 : ZipG h4 z TI TO .ellipsis f1 := (((Kp.sb s2).tr (.sb s3)).tr (.eb x4)) _ _ (by simp [D.i1z.symm, D.TOz.symm, D.i2z.symm]) z1
      have ne : e ≠ z := fun u => by
        subst u
        rw [z4] at ge
        cases ge
        simp at ce
      refine wpAny_setField_rec (s := { s with heap := h4 }) z4 (by simp) fun h5 _ s5 => q h5 e (((k3.tr (.eb x4)).tr (.sb s5)).less (by simp)) ⟨oe, Kp.sb s5 _ _ (by simp [ne]) ge, ce⟩
  · simp only [Bool.false_eq_true, if_false]
    have k1 : Kp [z] s.heap h1 := .sb s1
    refine wpAny_bind ?_
    rw [← Array.forIn_toList]
    simp only [List.forIn_cons, List.forIn_nil]
    refine wpAny_bind (wpAny_bind (wpAny_holding ?_))
    have b1 := c1.bt (h' := h1) fun o e => k1 _ o (by simp [D.i1z]) e
    have j1 := d1.bt (h' := h1) fun o e => k1 _ o (by simp [D.l1z]) e
    cases hx : xs[k]? with
    | none =>
      exact wpAny_bind (m := Builtin.SmallTypes.nextOf (.ref i1)) (nx_end (s := { s with heap := h1 }) hh b1 j1 hx fun h2 e x2 he => q h2 e ((k1.tr (.eb x2)).less (by simp)) he)
    | some x =>
      have hy : ys[k]? = none := by
        rcases hn with u | u
        · rw [hx] at u; cases u
        · exact u
      refine wpAny_bind (m := Builtin.SmallTypes.nextOf (.ref i1)) (nx_item (s := { s with heap := h1 }) b1 j1 hx fun h2 e2 s2 => wpAny_pure (wpAny_pure ?_))
      have k2 : Kp [z, i1] s.heap h2 := k1.tr (.sb s2)
      refine wpAny_bind (wpAny_bind (wpAny_holding ?_))
      exact wpAny_bind (m := Builtin.SmallTypes.nextOf (.ref i2)) (nx_end (s := { s with heap := h2 }) hh (c2.bt fun o e => k2 _ o (by simp [D.i2z, D.i12.symm]) e) (d2.bt fun o e => k2 _ o (by simp [D.l2z, D.l2i1]) e) hy fun h3 e x3 he => q h3 e ((k2.tr (.eb x3)).less (by simp)) he)
theorem zz_item {Q : Value → Shared → Prop} (D : ZipApart z TI TO i1 i2 l1 l2) (hz : ZipS s.heap z TI TO) (hI : IsPair s.heap TI (.ref i1) (.ref i2)) (hO : ∃ a b, IsPair s.heap TO a b) (c1 : IsIt b s.heap i1 l1 k) (c2 : IsIt b s.heap i2 l2 k) (d1 : IsSq b s.heap l1 xs) (d2 : IsSq b s.heap l2 ys)
    (hx : xs[k]? = some x) (hy : ys[k]? = some y)
    (q : ∀ h', ZipS h' z TI TO → (∃ a b, IsPair h' TO a b) → IsIt b h' i1 l1 (k + 1) → IsIt b h' i2 l2 (k + 1) → IsPair h' s.heap.objs.size x y → h'.objs.size = s.heap.objs.size + 1 → Kp [z, TO, i1, i2] s.heap h' → Q (.ref s.heap.objs.size) { s with heap := h' }) :
    wpAny (model prog w) A (Builtin.SmallTypes.nextOf (.ref z)) Q E s := by
  have T : s.TypeIs (.ref z) "zip" := by
    obtain ⟨f0, f1, g, _⟩ := hz
    exact ⟨_, g, rfl⟩
  unfold Builtin.SmallTypes.nextOf
  refine wpAny_bind (wpAny_callSpecial?_slot (name := Str.ofString "__next__") T F.slot_zip_next (wpAny_call_entry F.slot_zip_next T F.entry_zip_next ?_ (F.args_zip_next_1 _)))
  exact ez_item (Q := fun v s' => wpAny _ _ (pure v) _ _ s') D hz hI hO c1 c2 d1 d2 hx hy fun h' u1 u2 u3 u4 u5 u6 u7 => wpAny_pure (q h' u1 u2 u3 u4 u5 u6 u7)
theorem zz_end {Q : Value → Shared → Prop} (hh : A.handled = none) (D : ZipApart z TI TO i1 i2 l1 l2) (hz : ZipS s.heap z TI TO) (hI : IsPair s.heap TI (.ref i1) (.ref i2)) (hO : ∃ a b, IsPair s.heap TO a b) (c1 : IsIt b s.heap i1 l1 k) (c2 : IsIt b s.heap i2 l2 k) (d1 : IsSq b s.heap l1 xs) (d2 : IsSq b s.heap l2 ys)
    (hn : xs[k]? = none ∨ ys[k]? = none) (q : ∀ h' e, Kp [z, TO, i1, i2] s.heap h' → (∃ o, h'.get? e = some o ∧ o.cls = .type "StopIteration") → E (.ref e) { s with heap := h' }) :
    wpAny (model prog w) A (Builtin.SmallTypes.nextOf (.ref z)) Q E s := by
  have T : s.TypeIs (.ref z) "zip" := by
    obtain ⟨f0, f1, g, _⟩ := hz
    exact ⟨_, g, rfl⟩
  unfold Builtin.SmallTypes.nextOf
  refine wpAny_bind (wpAny_callSpecial?_slot (name := Str.ofString "__next__") T F.slot_zip_next (wpAny_call_entry F.slot_zip_next T F.entry_zip_next ?_ (F.args_zip_next_1 _)))
  exact ez_end hh D hz hI hO c1 c2 d1 d2 hn q
theorem en_item {e : Addr} {old : Value} {Q : Value → Shared → Prop} (De : e ≠ z ∧ e ≠ TO ∧ e ≠ i1 ∧ e ≠ i2) (he : IsEnum s.heap e z (k : Nat) old) (D : ZipApart z TI TO i1 i2 l1 l2) (hz : ZipS s.heap z TI TO) (hI : IsPair s.heap TI (.ref i1) (.ref i2)) (hO : ∃ a b, IsPair s.heap TO a b) (c1 : IsIt b s.heap i1 l1 k) (c2 : IsIt b s.heap i2 l2 k) (d1 : IsSq b s.heap l1 xs) (d2 : IsSq b s.heap l2 ys)
    (hx : xs[k]? = some x) (hy : ys[k]? = some y)
    (q : ∀ h1 h', IsPair h1 s.heap.objs.size x y → h1.objs.size = s.heap.objs.size + 1 → Kp [z, TO, i1, i2] s.heap h1 → IsEnumOut h' e z ((k : Nat) + 1) (.ref s.heap.objs.size) (s.heap.objs.size + 1) → ZipS h' z TI TO → (∃ a b, IsPair h' TO a b) → IsIt b h' i1 l1 (k + 1) → IsIt b h' i2 l2 (k + 1) → IsPair h' s.heap.objs.size x y → h'.get? (s.heap.objs.size + 1) = some { cls := .type "tuple", data := .seq #[.int (k : Nat) s.toks, .ref s.heap.objs.size] } →
      Kp [e] h1 h' → Q (.ref (s.heap.objs.size + 1)) { s with heap := h', toks := s.toks + 1 }) :
    wpAny (model prog w) A (Builtin.«enumerate.__next__» ⟨[.ref e], []⟩) (fun r s' => ∃ v, r = .done (.ret v) ∧ Q v s') E s := by
  obtain ⟨n1, n2, n3, n4⟩ := De
  have le : e < s.heap.objs.size := Heap.lt_size he
  have lTO : TO < s.heap.objs.size := by
    obtain ⟨a, b, g⟩ := hO
    exact Heap.lt_size g
  refine bF he rfl (i := 2) (v := .ref z) rfl ?_
  refine wpAny_bind (m := Builtin.SmallTypes.nextOf (.ref z)) (zz_item D hz hI hO c1 c2 d1 d2 hx hy fun h1 z1 O1 e1 f1 p1 m1 k1 => ?_)
  have he1 : IsEnum h1 e z (k : Nat) old := k1 _ _ (by simp [n1, n2, n3, n4]) he
  refine bF (s := { s with heap := h1 }) he1 rfl (i := 3) (v := rawInt (k : Nat)) rfl ?_
  refine bF (s := { s with heap := h1 }) he1 rfl (i := 4) (v := .none) rfl ?_
  refine wpAny_bind (m := mkInt (k : Nat)) (wpAny_mkInt ?_)
  refine wpAny_bind (m := setField (.ref e) 3 (rawInt ((k : Nat) + 1))) (wpAny_setField_rec (s := { s with heap := h1, toks := s.toks + 1 }) he1 (by simp) fun h2 he2 s2 => ?_)
  replace he2 : IsEnum h2 e z ((k : Nat) + 1) old := he2
  refine wpAny_bind (m := setField (.ref e) 4 .none) (wpAny_setField_rec (s := { s with heap := h2, toks := s.toks + 1 }) he2 (by simp) fun h3 he3 s3 => ?_)
  replace he3 : IsEnum h3 e z ((k : Nat) + 1) old := he3
  have m3 : h3.objs.size = s.heap.objs.size + 1 := by rw [s3.1, s2.1, m1]
  refine wpAny_bind (m := newTuple [.int (k : Nat) s.toks, .ref s.heap.objs.size]) (wpAny_newTuple (s := { s with heap := h3, toks := s.toks + 1 }) ?_)
  generalize hh4 : h3.push { cls := .type "tuple", data := .seq [Value.int (k : Nat) s.toks, Value.ref s.heap.objs.size].toArray } = h4
  have t4 : h4.get? (s.heap.objs.size + 1) = some { cls := .type "tuple", data := .seq #[.int (k : Nat) s.toks, .ref s.heap.objs.size] } := by
    rw [← hh4, ← m3]
    exact Heap.get?_push_size _ rfl
  have kp : Kp [] h3 h4 := by rw [← hh4]; exact .ps
  have he4 : IsEnum h4 e z ((k : Nat) + 1) old := kp _ _ (by simp) he3
  refine wpAny_bind (m := Builtin.SmallTypes.ownedTupleIsFree (.ref e)) ?_
  unfold Builtin.SmallTypes.ownedTupleIsFree
  refine bF (s := { s with heap := h4, toks := s.toks + 1 }) he4 rfl (v := .none) rfl (wpAny_pure ?_)
  simp only [if_true]
  refine wpAny_bind (wpAny_rule ?_)
  refine bF (s := { s with heap := h4, toks := s.toks + 1 }) he4 rfl (i := 5) (v := old) rfl ?_
  refine wpAny_bind (wpAny_setField_rec (s := { s with heap := h4, toks := s.toks + 1 }) he4 (by simp) fun h5 he5 s5 => ?_)
  replace he5 : IsEnum h5 e z ((k : Nat) + 1) (.ref s.heap.objs.size) := he5
  rw [show ({ s with heap := h3, toks := s.toks + 1 } : Shared).heap.objs.size = s.heap.objs.size + 1 from m3]
  refine wpAny_bind (m := Builtin.SmallTypes.ownedTupleHandOut (.ref e) (.ref (s.heap.objs.size + 1))) ?_
  unfold Builtin.SmallTypes.ownedTupleHandOut
  refine wpAny_bind (wpAny_setField_rec (s := { s with heap := h5, toks := s.toks + 1 }) he5 (by simp) fun h6 he6 s6 => ?_)
  replace he6 : IsEnumOut h6 e z ((k : Nat) + 1) (.ref s.heap.objs.size) (s.heap.objs.size + 1) := he6
  refine wpAny_setField_rec (s := { s with heap := h6, toks := s.toks + 1 }) he6 (by simp) fun h7 he7 s7 => ?_
  replace he7 : IsEnumOut h7 e z ((k : Nat) + 1) (.ref s.heap.objs.size) (s.heap.objs.size + 1) := he7
  have ka : Kp [e, e, e] h4 h7 := ((Kp.sb s5).tr (.sb s6)).tr (.sb s7)
  have kb : Kp [e, e, e, e, e] h1 h7 := (((Kp.sb s2).tr (.sb s3)).tr kp).tr ka
  have nn : ∀ a, a ≠ e → ∀ o, h1.get? a = some o → h7.get? a = some o := fun a n o g => kb a o (by simp [n]) g
  obtain ⟨g0, g1, gz, gk⟩ := z1
  obtain ⟨a, c, go⟩ := O1
  refine wpAny_bind (wpAny_letGo (wpAny_pure ⟨_, rfl, q h1 h7 p1 m1 k1 he7 ⟨g0, g1, nn _ n1.symm _ gz, gk⟩ ⟨a, c, nn _ n2.symm _ go⟩ (e1.bt (nn _ n3.symm)) (f1.bt (nn _ n4.symm)) (nn _ (Nat.ne_of_gt le) _ p1) (ka _ _ (by simp [Nat.ne_of_gt (Nat.lt_succ_of_lt le)]) t4) (kb.less (by simp))⟩))
theorem en_end {e : Addr} {old : Value} {Q : Fin → Shared → Prop} (hh : A.handled = none) (he : IsEnum s.heap e z (k : Nat) old) (D : ZipApart z TI TO i1 i2 l1 l2) (hz : ZipS s.heap z TI TO) (hI : IsPair s.heap TI (.ref i1) (.ref i2)) (hO : ∃ a b, IsPair s.heap TO a b) (c1 : IsIt b s.heap i1 l1 k) (c2 : IsIt b s.heap i2 l2 k) (d1 : IsSq b s.heap l1 xs) (d2 : IsSq b s.heap l2 ys)
    (hn : xs[k]? = none ∨ ys[k]? = none) (q : ∀ h' e, Kp [z, TO, i1, i2] s.heap h' → (∃ o, h'.get? e = some o ∧ o.cls = .type "StopIteration") → E (.ref e) { s with heap := h' }) :
    wpAny (model prog w) A (Builtin.«enumerate.__next__» ⟨[.ref e], []⟩) Q E s := by
  refine bF he rfl (i := 2) (v := .ref z) rfl ?_
  exact wpAny_bind (m := Builtin.SmallTypes.nextOf (.ref z)) (zz_end hh D hz hI hO c1 c2 d1 d2 hn q)
theorem pn_item {e : Addr} {old : Value} {Q : Option Value → Shared → Prop} (De : e ≠ z ∧ e ≠ TO ∧ e ≠ i1 ∧ e ≠ i2) (he : IsEnum s.heap e z (k : Nat) old) (D : ZipApart z TI TO i1 i2 l1 l2) (hz : ZipS s.heap z TI TO) (hI : IsPair s.heap TI (.ref i1) (.ref i2)) (hO : ∃ a b, IsPair s.heap TO a b) (c1 : IsIt b s.heap i1 l1 k) (c2 : IsIt b s.heap i2 l2 k) (d1 : IsSq b s.heap l1 xs) (d2 : IsSq b s.heap l2 ys)
    (hx : xs[k]? = some x) (hy : ys[k]? = some y)
    (q : ∀ h1 h', IsPair h1 s.heap.objs.size x y → h1.objs.size = s.heap.objs.size + 1 → Kp [z, TO, i1, i2] s.heap h1 → IsEnumOut h' e z ((k : Nat) + 1) (.ref s.heap.objs.size) (s.heap.objs.size + 1) → ZipS h' z TI TO → (∃ a b, IsPair h' TO a b) → IsIt b h' i1 l1 (k + 1) → IsIt b h' i2 l2 (k + 1) → IsPair h' s.heap.objs.size x y → h'.get? (s.heap.objs.size + 1) = some { cls := .type "tuple", data := .seq #[.int (k : Nat) s.toks, .ref s.heap.objs.size] } →
      Kp [e] h1 h' → Q (some (.ref (s.heap.objs.size + 1))) { s with heap := h', toks := s.toks + 1 }) :
    wpAny (model prog w) A (pyNext (.ref e)) Q E s := by
  have T : s.TypeIs (.ref e) "enumerate" := ⟨_, he, rfl⟩
  unfold pyNext
  refine wpAny_bind (wpAny_attempt (wpAny_callSpecial?_slot (name := Str.ofString "__next__") T F.slot_enumerate_next (wpAny_call_entry F.slot_enumerate_next T F.entry_enumerate_next ?_ (F.args_enumerate_next_1 _))))
  exact en_item (Q := fun v s' => wpAny _ _ (pure _) _ _ s') De he D hz hI hO c1 c2 d1 d2 hx hy fun h1 h' w1 w2 w3 u1 u2 u3 u4 u5 u6 u7 u8 => wpAny_pure (q h1 h' w1 w2 w3 u1 u2 u3 u4 u5 u6 u7 u8)
theorem pn_end {e : Addr} {old : Value} {Q : Option Value → Shared → Prop} (hh : A.handled = none) (he : IsEnum s.heap e z (k : Nat) old) (D : ZipApart z TI TO i1 i2 l1 l2) (hz : ZipS s.heap z TI TO) (hI : IsPair s.heap TI (.ref i1) (.ref i2)) (hO : ∃ a b, IsPair s.heap TO a b) (c1 : IsIt b s.heap i1 l1 k) (c2 : IsIt b s.heap i2 l2 k) (d1 : IsSq b s.heap l1 xs) (d2 : IsSq b s.heap l2 ys)
    (hn : xs[k]? = none ∨ ys[k]? = none) (q : ∀ h', Kp [z, TO, i1, i2] s.heap h' → Q none { s with heap := h' }) : wpAny (model prog w) A (pyNext (.ref e)) Q E s := by
  have T : s.TypeIs (.ref e) "enumerate" := ⟨_, he, rfl⟩
  unfold pyNext
  refine wpAny_bind (wpAny_attempt (wpAny_callSpecial?_slot (name := Str.ofString "__next__") T F.slot_enumerate_next (wpAny_call_entry F.slot_enumerate_next T F.entry_enumerate_next ?_ (F.args_enumerate_next_1 _))))
  refine en_end hh he D hz hI hO c1 c2 d1 d2 hn fun h' u ku hu => ?_
  obtain ⟨o, g, c⟩ := hu
  exact wpAny_bind (wpAny_isInstance (T := "StopIteration") (b := true) ⟨o, g, c⟩ isSubtype_stop (wpAny_pure (q _ ku)))
end
def Sqb (b : Bool) (K : PySem.W.Frag) (H : Hp) (a : Addr) (xs : List V) : Prop := match b with
  | true => SqL K H a xs
  | false => SqT K H a xs
def Itez (b : Bool) (K : PySem.W.Frag) (a c : Addr) : It :=
  ⟨fun i H => ∃ (xs ys : List V) (x y : V), Sqb b K H a xs ∧ Sqb b K H c ys ∧ xs[i]? = some x ∧ ys[i]? = some y,
    fun i H v H' => ∃ T U x y, v = .ref T ∧ U ≠ T ∧ H U = none ∧ H T = none ∧ H' = upd (upd H U (.tup [x, y])) T (.tup [.int (i : Nat), .ref U]) ∧ (∀ xs, Sqb b K H a xs → xs[i]? = some x) ∧ ∀ ys, Sqb b K H c ys → ys[i]? = some y,
    fun i H => ∃ xs ys : List V, Sqb b K H a xs ∧ Sqb b K H c ys ∧ (xs.length ≤ i ∨ ys.length ≤ i)⟩
section
variable {X : Cx} {pins : List (Addr × Obj)} {σ : L2.St} {H : Hp} {s : Shared} {b : Bool} {a : Addr} {xs ys : List V}
theorem inv_sq (I : Inv X pins σ H s) (h : Sqb b X.K H a xs) : ∃ its : List Value, Vals xs its ∧ IsSq b s.heap a its.toArray := by
  cases b with
  | true =>
    obtain ⟨its, r, p, _⟩ := I.list h
    exact ⟨its, r, p.isList⟩
  | false =>
    obtain ⟨its, r, p, _⟩ := I.tuple h
    exact ⟨its, r, p⟩
theorem inv_inj (I : Inv X pins σ H s) (h : Sqb b X.K H a xs) (h2 : Sqb b X.K H a ys) : xs = ys := by
  cases b with
  | true => exact I.list_inj h h2
  | false => exact I.tuple_inj h h2
end
def EzS (b : Bool) (e z TI TO i1 i2 l1 l2 : Addr) (i : Nat) (h : Heap) : Prop := (∃ old, IsEnum h e z (i : Nat) old) ∧ ZipS h z TI TO ∧ IsPair h TI (.ref i1) (.ref i2) ∧ (∃ a b, IsPair h TO a b) ∧ IsIt b h i1 l1 i ∧ IsIt b h i2 l2 i
theorem it_obj {b : Bool} {h : Heap} {it l : Addr} {k : Nat} (c : IsIt b h it l k) : ∃ o, h.get? it = some o ∧ ∀ v, o.data ≠ .cell v := by
  cases b
  · obtain ⟨o, g, _, d⟩ := (show h.IsTupleIter it l k from c)
    exact ⟨o, g, fun v q => by rw [d] at q; cases q⟩
  · obtain ⟨o, g, _, d⟩ := (show h.IsListIter it l k from c)
    exact ⟨o, g, fun v q => by rw [d] at q; cases q⟩
theorem turn_ez {P : Program} {w : World} {K : PySem.W.Frag} {elts : List Expr} {kk : Nat} {tpos : Pos} {b : Bool} {e z TI TO i1 i2 l1 l2 : Addr} (D : ZipApart z TI TO i1 i2 l1 l2) (De : e ≠ z ∧ e ≠ TO ∧ e ≠ i1 ∧ e ≠ i2) (DI : TI ≠ e) :
    Turn P w K (.Tuple elts kk tpos) (Itez b K l1 l2) [e, z, TI, TO, i1, i2] e (EzS b e z TI TO i1 i2 l1 l2) where
  mem := List.mem_cons_self
  obj := fun i h st c hc => by
    obtain ⟨⟨old, he⟩, ⟨g0, g1, gz, _⟩, hI, ⟨p, q, hO⟩, c1, c2⟩ := st
    simp only [List.mem_cons, List.not_mem_nil, or_false] at hc
    rcases hc with rfl | rfl | rfl | rfl | rfl | rfl
    · exact ⟨_, he, fun v u => nomatch u⟩
    · exact ⟨_, gz, fun v u => nomatch u⟩
    · exact ⟨_, hI, fun v u => nomatch u⟩
    · exact ⟨_, hO, fun v u => nomatch u⟩
    · exact it_obj c1
    · exact it_obj c2
  keep := fun i h h' st k => by
    obtain ⟨⟨old, he⟩, ⟨g0, g1, gz, gk⟩, hI, ⟨p, q, hO⟩, c1, c2⟩ := st
    exact ⟨⟨old, k e (by simp) _ he⟩, ⟨g0, g1, k z (by simp) _ gz, gk⟩, k TI (by simp) _ hI, ⟨p, q, k TO (by simp) _ hO⟩, c1.bt (k i1 (by simp)), c2.bt (k i2 (by simp))⟩
  item := by
    intro X hP hw hK hc i pins s σ H E I hf st hg
    subst hP hw hK
    obtain ⟨⟨old, he⟩, hz, hI, hO, c1, c2⟩ := st
    obtain ⟨xs, ys, x, y, q1, q2, hx, hy⟩ := hg
    obtain ⟨us, r1, d1⟩ := inv_sq I q1
    obtain ⟨vs, r2, d2⟩ := inv_sq I q2
    obtain ⟨u, hu, ru⟩ := r1.get hx
    obtain ⟨v, hv, rv⟩ := r2.get hy
    have le : e < s.heap.objs.size := Heap.lt_size he
    have lz : z < s.heap.objs.size := by
      obtain ⟨_, _, g, _⟩ := hz
      exact Heap.lt_size g
    have lI : TI < s.heap.objs.size := Heap.lt_size hI
    have lO : TO < s.heap.objs.size := by
      obtain ⟨_, _, g⟩ := hO
      exact Heap.lt_size g
    have li1 : i1 < s.heap.objs.size := by
      obtain ⟨o, g, _⟩ := it_obj c1
      exact Heap.lt_size g
    have li2 : i2 < s.heap.objs.size := by
      obtain ⟨o, g, _⟩ := it_obj c2
      exact Heap.lt_size g
    refine pn_item De he D hz hI hO c1 c2 d1 d2 (x := u) (y := v) (by simpa using hu) (by simpa using hv) fun h1 h2 p1 m1 k1 he2 hz2 hO2 e2 f2 p2 t2 k2 => ?_
    refine ⟨_, rfl, wpAny_letOwnedTupleGo_enum (s := { s with heap := h2, toks := s.toks + 1 }) he2 fun h3 he3 s3 => ?_⟩
    have k3 : Kp [e] h2 h3 := .sb s3
    have k13 : Kp [e] h1 h3 := (k2.tr k3).less (by simp)
    have hN : H s.heap.objs.size = none := I.hok.fresh (Nat.le_refl _)
    have hM : H (s.heap.objs.size + 1) = none := I.hok.fresh (Nat.le_succ _)
    have new1 : ObjOk X.prog X.w (upd H s.heap.objs.size (.tup [x, y])) h1 s.heap.objs.size (.tup [x, y]) := ⟨by show 2 ≤ sizeLine; decide, [u, v], .cons ru (.cons rv .nil), ⟨_, p1, rfl, _, rfl⟩⟩
    have I1 : Inv X pins σ (upd H s.heap.objs.size (.tup [x, y])) { s with heap := h1, toks := s.toks } := I.turnedNew (ch := [z, TO, i1, i2]) (fun c o n g => k1 c o n g) (fun c m => hf c (by simp only [List.mem_cons, List.not_mem_nil, or_false] at m ⊢; rcases m with m | m | m | m <;> simp [m])) (Nat.le_refl _) new1
    have t3 : h3.get? (s.heap.objs.size + 1) = some { cls := .type "tuple", data := .seq #[.int (i : Nat) s.toks, .ref s.heap.objs.size] } := k3 _ _ (by simp [Nat.ne_of_gt (Nat.lt_succ_of_lt le)]) t2
    have new2 : ObjOk X.prog X.w (upd (upd H s.heap.objs.size (.tup [x, y])) (s.heap.objs.size + 1) (.tup [.int (i : Nat), .ref s.heap.objs.size])) h3 (s.heap.objs.size + 1) (.tup [.int (i : Nat), .ref s.heap.objs.size]) :=
      ⟨by show 2 ≤ sizeLine; decide, [.int (i : Nat) s.toks, .ref s.heap.objs.size], .cons ⟨_, rfl⟩ (.cons rfl .nil), ⟨_, t3, rfl, _, rfl⟩⟩
    have fe : FpOk X pins (upd H s.heap.objs.size (.tup [x, y])) e := by
      obtain ⟨a1, a2⟩ := hf e (by simp)
      exact ⟨by rw [upd_ne (Nat.ne_of_lt le)]; exact a1, a2⟩
    have I2 : Inv X pins σ _ { s with heap := h3, toks := s.toks + 1 } := I1.turnedNew (ch := [e]) (t' := s.toks + 1) (fun c o n g => k13 c o n g) (fun c m => by rw [List.mem_singleton.mp m]; exact fe) (by show h1.objs.size ≤ _; omega) new2
    obtain ⟨g0, g1, gz, gk⟩ := hz2
    obtain ⟨a0, b0, gO⟩ := hO2
    have nn : ∀ c, c ≠ e → ∀ o, h2.get? c = some o → h3.get? c = some o := fun c n o g => k3 c o (by simp [n]) g
    refine ⟨.ref (s.heap.objs.size + 1), _, I2, rfl, ⟨_, s.heap.objs.size, x, y, rfl, Nat.ne_of_lt (Nat.lt_succ_self _), hN, hM, rfl, fun l hl => by rw [inv_inj I hl q1]; exact hx, fun l hl => by rw [inv_inj I hl q2]; exact hy⟩, ⟨⟨.ref s.heap.objs.size, ?_⟩, ⟨g0, g1, nn _ De.1.symm _ gz, gk⟩, ?_, ⟨a0, b0, nn _ De.2.1.symm _ gO⟩, e2.bt (nn _ De.2.2.1.symm), f2.bt (nn _ De.2.2.2.symm)⟩, fun c m => ?_⟩
    · rw [show ((i + 1 : Nat) : Int) = (i : Nat) + 1 by omega]
      exact he3
    · exact k13 _ _ (by simp [DI]) (k1 _ _ (by simp [D.TIz, D.TITO, D.TIi1, D.TIi2]) hI)
    · have lc : c < s.heap.objs.size := by
        simp only [List.mem_cons, List.not_mem_nil, or_false] at m
        rcases m with rfl | rfl | rfl | rfl | rfl | rfl <;> assumption
      rw [upd_ne (Nat.ne_of_lt (Nat.lt_succ_of_lt lc)), upd_ne (Nat.ne_of_lt lc)]
      exact (hf c m).1
  done := by
    intro X hP hw hK hc i pins s σ H E I hf st hg
    subst hP hw hK
    obtain ⟨⟨old, he⟩, hz, hI, hO, c1, c2⟩ := st
    obtain ⟨xs, ys, q1, q2, hn⟩ := hg
    obtain ⟨us, r1, d1⟩ := inv_sq I q1
    obtain ⟨vs, r2, d2⟩ := inv_sq I q2
    have n1 := r1.length
    have n2 := r2.length
    refine pn_end (I.ok.hd hc) he D hz hI hO c1 c2 d1 d2 ?_ fun h' k => ⟨rfl, I.turnedL (t' := s.toks) (ch := [z, TO, i1, i2]) (fun c o n g => k c o n g) (fun c m => hf c (by simp only [List.mem_cons, List.not_mem_nil, or_false] at m ⊢; rcases m with m | m | m | m <;> simp [m]))⟩
    rcases hn with h | h
    · exact .inl (by simp; omega)
    · exact .inr (by simp; omega)
  self := fun A i s Q E st h => by
    obtain ⟨⟨old, he⟩, _⟩ := st
    exact wpAny_pyIter_enum he h
theorem meets_enumZ (z TI TO : Addr) : Meets (Builtin.«enumerate.__new__» ⟨[.type "enumerate", .ref z], []⟩) (fun _ R s => IsZip s.heap z TI TO .none ∧ R (.ok (.ret (.ref s.heap.objs.size))) { s with heap := s.heap.push { cls := .type "enumerate", data := .fields #[.none, .bool false, .ref z, rawInt 0, .none, .none] } }) :=
  .of_wp fun prog w A R s h => by
    obtain ⟨hp, g, d, tk, os⟩ := s
    obtain ⟨hz, h⟩ := h
    have u := sub_enumerate
    have hz : IsZip (Shared.heap ⟨hp, g, d, tk, os⟩) z TI TO .none := hz
    wp_walk using wpAny_pyIter_zip hz
    refine wpAny_stack_any fun st => wpAny_pure ?_
    split
    · rename_i c _ _ _ _ _
      cases (c == Value.type "enumerate") <;> (wp_walk using wpAny_pyIter_zip hz; exact ⟨_, rfl, h⟩)
    · wp_walk using wpAny_pyIter_zip hz
      exact ⟨_, rfl, h⟩
section
variable {prog : Program} {w : World} {A : Around} {E : Value → Shared → Prop} {s : Shared} {b : Bool} {z TI TO a c : Addr} {xs ys : Array Value}
theorem call_enumZ {Q : Value → Shared → Prop} (hz : IsZip s.heap z TI TO .none) (q : ∀ h', IsEnum h' s.heap.objs.size z 0 .none → Kp [] s.heap h' → Q (.ref s.heap.objs.size) { s with heap := h' }) : wpAny (model prog w) A (call (.type "enumerate") [.ref z]) Q E s := by
  refine callType_new F.called_enumerate (by decide) (F.typeCall_enumerate_1 _) (F.newCall_enumerate_1 _) (fun obj => F.args_object_init_2 obj _) F.entry_enumerate_new (meets_enumZ z TI TO) ⟨hz, ?_⟩
  have g : IsEnum (s.heap.push { cls := .type "enumerate", data := .fields #[.none, .bool false, .ref z, rawInt 0, .none, .none] }) s.heap.objs.size z 0 .none := Heap.get?_push_size _ rfl
  exact ⟨⟨_, g, rfl⟩, q _ g .ps⟩
theorem call_zipB {Q : Value → Shared → Prop} (d1 : IsSq b s.heap a xs) (d2 : IsSq b s.heap c ys)
    (q : ∀ h', IsZip h' (s.heap.objs.size + 4) (s.heap.objs.size + 2) (s.heap.objs.size + 3) .none → IsPair h' (s.heap.objs.size + 2) (.ref s.heap.objs.size) (.ref (s.heap.objs.size + 1)) → IsPair h' (s.heap.objs.size + 3) .none .none → IsIt b h' s.heap.objs.size a 0 → IsIt b h' (s.heap.objs.size + 1) c 0 →
      h'.objs.size = s.heap.objs.size + 5 → Kp [] s.heap h' → Q (.ref (s.heap.objs.size + 4)) { s with heap := h' }) : wpAny (model prog w) A (call (.type "zip") [.ref a, .ref c]) Q E s := by
  cases b
  · exact RZ.call_zipT d1 d2 fun h' u1 u2 u3 u4 u5 u6 u7 => q h' u1 u2 u3 u4 u5 u6 fun c o _ e => u7 c o e
  · exact call_zip_2 d1 d2 fun h' u1 u2 u3 u4 u5 u6 u7 => q h' u1 u2 u3 u4 u5 u6 fun c o _ e => u7 c o e
theorem sq_lt (d : IsSq b s.heap a xs) : a < s.heap.objs.size := by
  cases b
  · obtain ⟨o, g, _⟩ := (show s.heap.IsTuple a xs from d)
    exact Heap.lt_size g
  · obtain ⟨o, g, _⟩ := (show s.heap.IsList a xs from d)
    exact Heap.lt_size g
end
def iEz (K : PySem.W.Frag) (ta : TA) : TI := fun σ H R => ta σ H fun vs H1 => ∃ a c b xs ys, vs = [V.ref a, V.ref c] ∧ Sqb b K H1 a xs ∧ Sqb b K H1 c ys ∧ R (Itez b K a c) H1
theorem pi_ez {X : Cx} {e1 e2 : Expr} {ta : TA} {p pz posz pos tpos : Pos} {elts : List Expr} {kk : Nat} (K : PySem.W.Frag) (hK : X.K = K) (hg : Gl X "enumerate") (hm : X.mg "enumerate" = none) (hg2 : Gl X "zip") (hm2 : X.mg "zip" = none) (ha : PA X [e1, e2] ta)
    (hs : starEach [Expr.Call (.Name "zip" pz) [e1, e2] [] posz] X.env = [(false, eval (.Call (.Name "zip" pz) [e1, e2] [] posz) X.env)] := by rfl)
    (hs2 : starEach [e1, e2] X.env = (false, eval e1 X.env) :: starEach [e2] X.env := by rfl) (hpl : (backTo posz (starEach [e2] X.env)).any (·.1) = false := by rfl) :
    PI X (.Tuple elts kk tpos) (.Call (.Name "enumerate" p) [.Call (.Name "zip" pz) [e1, e2] [] posz] [] pos) (iEz K ta) := by
  subst hK
  refine ⟨fun pins s σ H R I h => ?_⟩
  refine Call_ (ld_blt I hg hm boot_enumerate (PyProof.Rows.callWith_type1 ?_ hs rfl))
  rw [hs]
  refine Calls.spliced_cons (Call_ (ld_blt I hg2 hm2 PyProof.Rows.boot_zip (PyProof.Rows.callWith_type1 (thn (ha.run posz pins s σ H _ I h) fun us s1 ⟨vs, H1, I1, r1, q1⟩ => ?_) hs2 hpl)))
  obtain ⟨a, c, b, xs, ys, ev, q1, q2, q⟩ := q1
  subst ev
  cases r1 with
  | cons r rr =>
    cases rr with
    | cons r' rr =>
      cases rr
      cases r
      cases r'
      obtain ⟨us, _, d1⟩ := inv_sq I1 q1
      obtain ⟨vs, _, d2⟩ := inv_sq I1 q2
      refine call_zipB d1 d2 fun h1 gz gI gO t1 t2 sz k1 => Calls.spliced_nil ?_
      refine call_enumZ (s := { s1 with heap := h1 }) gz fun h2 ge k2 => wpAny_pyIter_enum ge ?_
      have I2 : Inv X pins σ H1 { s1 with heap := h2 } := I1.kept (t' := s1.toks) fun b u g => k2 b u (by simp) (k1 b u (by simp) g)
      have nn : ∀ c o, h1.get? c = some o → h2.get? c = some o := fun c o g => k2 c o (by simp) g
      have es : ({ s1 with heap := h1 } : Shared).heap.objs.size = s1.heap.objs.size + 5 := sz
      rw [es] at ge ⊢
      have D := PySem.W.ktu_apart s1.heap.objs.size a c (sq_lt d1) (sq_lt d2)
      refine ⟨s1.heap.objs.size + 5, [s1.heap.objs.size + 5, s1.heap.objs.size + 4, s1.heap.objs.size + 2, s1.heap.objs.size + 3, s1.heap.objs.size, s1.heap.objs.size + 1], _, _, H1, rfl, I2, turn_ez D ⟨by simp, by simp, by simp, by simp⟩ (by simp), ⟨⟨.none, ge⟩, ⟨.none, .bool false, nn _ _ gz, .inl ⟨rfl, rfl⟩⟩, nn _ _ gI, ⟨.none, .none, nn _ _ gO⟩, t1.bt (nn _), t2.bt (nn _)⟩, fun x hx => ?_, q⟩
      have hle : s1.heap.objs.size ≤ x := by
        simp only [List.mem_cons, List.not_mem_nil, or_false] at hx
        rcases hx with z | z | z | z | z | z <;> (rw [z]; first | exact Nat.le_refl _ | exact Nat.le_add_right _ _)
      exact I1.fpOk hle (I1.hok.fresh hle)
end Ls
namespace Ls
open PySem PySem.Spec PyProof.Rows L2
section
variable {K : PySem.W.Frag} {L : List (As K)} {H : Hp} {a c : Addr} {ds es : List PyData} {σ : L2.St} {t : TA}
theorem k_ez {R : It → Hp → Prop} (h : t σ H fun vs H1 => ∃ a c b xs ys, vs = [V.ref a, V.ref c] ∧ Sqb b K H1 a xs ∧ Sqb b K H1 c ys ∧ R (Itez b K a c) H1) : iEz K t σ H R := h
theorem k_ezI {R : Bool → Addr → Addr → Prop} (h : Sep L H) (m1 : im (.ref a) (.tuple ds) ∈ L) (m2 : im (.ref c) (.tuple es) ∈ L) (q : R false a c) : ∃ a' c' b xs ys, [V.ref a, V.ref c] = [V.ref a', V.ref c'] ∧ Sqb b K H a' xs ∧ Sqb b K H c' ys ∧ R b a' c' := by
  obtain ⟨a', xs, e, h1, _⟩ := im_tup (h.imm m1)
  cases e
  obtain ⟨c', ys, e, h2, _⟩ := im_tup (h.imm m2)
  cases e
  exact ⟨a, c, false, xs, ys, rfl, h1, h2, q⟩
end
end Ls
namespace Ls
open PySem PySem.Spec PyProof.Rows L2
end Ls
namespace Ls
open PySem PySem.Spec PyProof.Rows L2
section
variable {K : PySem.W.Frag} {L M : List (As K)} {H : Hp} {a : Addr} {kvs kws : List (Key × V)} {k : Str} {v w : V} {xs : List V} {ds es : List PyData} {i : Int} {j : Nat}
theorem k_getD {R : V → Prop} (h : Sep L H) (m : ob a (.dK kvs) ∈ L) (e : valV kvs (.inr k) = some v) (q : R v) : ∃ b w, V.ref a = .ref b ∧ DGet H b (.str k) (some w) ∧ R w := k_getS (h.obm m) e q
theorem ImAll.put {d : PyData} : ∀ {xs : List V} {ds : List PyData} {j : Nat}, ImAll K H xs ds → Im K H v d → ImAll K H (xs.set j v) (ds.set j d)
  | _, _, _, .nil, _ => .nil
  | _, _, 0, .cons _ b, t => .cons t b
  | _, _, _ + 1, .cons a b, t => .cons a (ImAll.put b t)
theorem ImAll.eraseD : ∀ {xs : List V} {ds : List PyData} {j : Nat}, ImAll K H xs ds → ImAll K H (xs.eraseIdx j) (ds.eraseIdx j)
  | _, _, _, .nil => .nil
  | _, _, 0, .cons _ b => b
  | _, _, _ + 1, .cons a b => .cons a (ImAll.eraseD b)
theorem erase_map {α β : Type} (f : α → β) : ∀ (ns : List α) (j : Nat), (ns.eraseIdx j).map f = (ns.map f).eraseIdx j
  | [], _ => rfl
  | _ :: _, 0 => rfl
  | n :: ns, j + 1 => congrArg (f n :: ·) (erase_map f ns j)
theorem put_new {k : Key} {v : V} {kvs : List (Key × V)} (h : (kvs.any fun kv => decide (kv.1 = k)) = false) : putK kvs k v = kvs ++ [(k, v)] := by
  unfold putK
  rw [h]
  exact if_neg Bool.false_ne_true
/-- an item of a list of data -/
theorem k_setD {R : Hp → Prop} {d : PyData} (h : Sep L H) (r : Rep L (ld a ds) (ld a (ds.set j d)) M) (t : Dat L v d) (e : ixN ds.length i = some j) (q : ∀ H', Sep M H' → R H') : rSetL (.ref a) (.int i) v H R := by
  obtain ⟨xs, h1, h2⟩ := h.ldm r.mem
  exact ⟨a, xs, i, j, rfl, rfl, h1, by rw [h2.length]; exact e, q _ (h.setDR r (h2.put (t.is h)))⟩
end
end Ls
namespace Ls
open PySem PySem.Spec PyProof.Rows L2
section
variable {K : PySem.W.Frag} {L : List (As K)} {H : Hp} {Q : VK} {a C : Addr} {sp : Sp} {E : XK} {fs : List (Str × V)} {σ : L2.St} {t te : TE} {ts : List TE} {acc z : Str} {i : Int} {n : Nat}
theorem log_lt {n : Nat} (h : n < 10 ^ 100) : n.log2 < 1920 := by
  by_cases e : n = 0
  · subst e
    decide
  · rw [Nat.log2_lt e]
    exact Nat.lt_of_lt_of_le h (by decide)
theorem num_len {k : Nat} (hk : 0 < k) (h : i.natAbs < 10 ^ k) : (Str.ofString (toString i)).length ≤ k + 1 := by
  have := int_text_length_le10 hk h
  rw [PySem.ofString_length]
  exact this
end
end Ls
namespace Ls
open PySem PySem.Spec PyProof.Rows L2 LamX
section
variable {K : PySem.W.Frag}
/-- the tables of T are one's own; what they tell bears its name -/
def tabsA (T : List (Addr × Str)) : As K := ⟨fun _ s H => (∀ a, s a ↔ ∃ p ∈ T, p.1 = a) ∧ Tabs T H, fun ⟨e, t⟩ k q => ⟨e, fun p hp => by
  obtain ⟨ps, h1, h2, h3⟩ := t p hp
  refine ⟨ps, (k p.1 ((e p.1).mpr ⟨p, hp, rfl⟩)).trans h1, h2, fun pos cv hc => ?_⟩
  obtain ⟨c, e1, e2⟩ := h3 pos cv hc
  exact ⟨c, e1, q.2 _ _ e2⟩⟩, fun ⟨e, t⟩ a z => by
  obtain ⟨p, hp, rfl⟩ := (e a).mp z
  obtain ⟨ps, h1, _⟩ := t p hp
  exact ⟨_, h1, rfl⟩, fun h _ => h⟩
/-- it owns no table -/
class NoTb (A : As K) : Prop where
  no : ∀ {W : Fz} {s : Addr → Prop} {H : Hp}, A.ok W s H → ∀ a, s a → ∀ ps, H a ≠ some (.tbl ps)
variable {A B : As K} {L L' M N : List (As K)} {H H' : Hp} {a p l d c C : Addr} {v x y : V} {e : PyData} {vs xs ys : List V} {ds es : List PyData} {T : List (Addr × Str)}
instance {P : Fz → Hp → Prop} {h k} : NoTb (persW (K := K) P h k) := ⟨fun z a q => (z.1 a q).elim⟩
instance {v d} : NoTb (im (K := K) v d) := ⟨fun z a q => (z.1 a q).elim⟩
instance {v d} : NoTb (ims (K := K) v d) := ⟨fun z a q => (z.1 a q).elim⟩
instance {v d} : NoTb (tu (K := K) v d) := ⟨fun z a q => (z.1 a q).elim⟩
instance {P} : NoTb (pr (K := K) P) := ⟨fun z a q => (z.1 a q).elim⟩
theorem notb_ob {o : HO} (n : ∀ ps, o ≠ .tbl ps) : NoTb (ob (K := K) a o) := ⟨fun ⟨e, h, _⟩ b q ps z => by
  obtain rfl := (e b).mp q
  rw [h] at z
  exact n ps (Option.some.inj z)⟩
instance {xs} : NoTb (ob (K := K) a (.lst xs)) := notb_ob fun ps z => by cases z
instance {kvs} : NoTb (ob (K := K) a (.dK kvs)) := notb_ob fun ps z => by cases z
instance {kvs} : NoTb (ob (K := K) a (.xd kvs)) := notb_ob fun ps z => by cases z
instance {ds} : NoTb (ld (K := K) a ds) := ⟨fun ⟨e, xs, h, _⟩ b q ps z => by
  obtain rfl := (e b).mp q
  rw [h] at z
  cases z⟩
instance {fs} : NoTb (inst (K := K) a C fs) := ⟨fun ⟨dx, e, h1, h2⟩ b q ps z => by
  rcases (e b).mp q with rfl | rfl
  · rw [h1] at z
    cases z
  · rw [h2] at z
    cases z⟩
instance : NoTb (dr (K := K) d) := ⟨fun ⟨c, e, n, r, s, ns, h1, h2, h3⟩ b q ps z => by
  rcases (e b).mp q with rfl | rfl
  · rw [h1] at z
    cases z
  · rw [h2] at z
    cases z⟩
instance {α : Type} {f : α → As K} [h : ∀ x, NoTb (f x)] : NoTb (ex f) := ⟨fun ⟨x, z⟩ => (h x).no z⟩
/-- none of them owns a table -/
class NoTbs (L : List (As K)) : Prop where
  no : ∀ {W : Fz} {s : Addr → Prop} {H : Hp}, Hld W L s H → ∀ a, s a → ∀ ps, H a ≠ some (.tbl ps)
instance : NoTbs ([] : List (As K)) := ⟨fun z a q => (z a q).elim⟩
instance [i : NoTb A] [j : NoTbs L] : NoTbs (A :: L) := ⟨fun ⟨s1, s2, d, u, h1, h2⟩ a z => ((u a).mp z).elim (i.no h1 a) (j.no h2 a)⟩
instance [i : NoTbs L] : NoTb (all L) := ⟨fun z => i.no z⟩
instance {α : Type} {f : V → α → As K} [i : ∀ v z, NoTb (f v z)] {zs : List α} : NoTb (al2 f vs zs) := by
  have : ∀ (vs : List V) (zs : List α), NoTbs (List.zipWith f vs zs) := by
    intro vs
    induction vs with
    | nil => intro zs; exact inferInstanceAs (NoTbs [])
    | cons v vs ih =>
      intro zs
      cases zs with
      | nil => exact inferInstanceAs (NoTbs [])
      | cons z zs =>
        have := ih zs
        exact inferInstanceAs (NoTbs (f v z :: List.zipWith f vs zs))
  have := this vs zs
  exact inferInstanceAs (NoTb (all (pr _ :: List.zipWith f vs zs)))
theorem Sep.tabs (h : Sep (tabsA T :: L) H) : Tabs T H := by
  obtain ⟨W, s, ⟨_, h1⟩, _⟩ := h.the List.mem_cons_self
  exact h1
theorem sqt_extN (e : ExtN H H') : Tp K H H' := fun a xs q => by
  rcases q with (q | ⟨z, q⟩) | q
  · exact .inl (.inl (e _ _ q (fun ps z => by cases z)))
  · exact .inl (.inr ⟨z, e _ _ q (fun ps z => by cases z)⟩)
  · exact .inr q
end
end Ls
namespace Ls
open PySem PySem.Spec PyProof.Rows L2 LamX
section
variable {K : PySem.W.Frag} {L M : List (As K)} {H H' H1 : Hp} {T : List (Addr × Str)} {σ : L2.St} {Q : VK}
/-- a lambda was made: the tables of T have grown, all else stands -/
theorem Sep.tabsN [i : NoTbs L] (h : Sep (tabsA T :: L) H) (e : ExtN H H1) (t : Tabs T H1) : Sep (tabsA T :: L) H1 := by
  obtain ⟨W, s, f, s1, s2, d, u, ⟨e1, t1⟩, h2⟩ := h
  have no := i.no h2
  refine ⟨W, s, fun a o z => ⟨e _ _ (f a o z).1 fun ps q => ?_, (f a o z).2⟩, s1, s2, d, u, ⟨e1, t⟩, h2.st (fun a z => ?_) ⟨sqt_extN e, fun a g z => e _ _ z fun ps q => by cases q⟩⟩
  · have := (f a o z).2.1
    rw [q] at this
    cases this
  · obtain ⟨o, ho, _⟩ := h2.al a z
    rw [ho]
    exact e _ _ ho fun ps q => no a z ps (by rw [ho, q])
theorem k_lamS {TT : (XK → Hp → VK → Prop) → Hp → VK → Prop} {t : XK → TE} [NoTbs M] (h : Sep L H) (r : Rem L (tabsA T) M) (q : ∀ H1, Sep (tabsA T :: M) H1 → TT (fun E H' Q' => t E σ H' Q') H1 Q) : tLam T TT t σ H Q :=
  ⟨(h.rem r).tabs, fun H1 e tb => q H1 ((h.rem r).tabsN e tb)⟩
/-- the law's start: the tables stand empty -/
theorem Sep.tabs0 (h : ∀ p ∈ T, H p.1 = some (.tbl #[])) : Sep [tabsA (K := K) T] H := by
  refine ⟨fun _ _ => False, fun a => ∃ p ∈ T, p.1 = a, fun a o z => z.elim, fun a => ∃ p ∈ T, p.1 = a, fun _ => False, fun a x y => y, fun a => ⟨.inl, fun z => z.elim id False.elim⟩, ⟨fun a => Iff.rfl, fun p hp => ?_⟩, fun a z => z⟩
  exact ⟨#[], h p hp, trivial, fun pos cv e => by cases e⟩
end
end Ls
namespace Ls
open PySem PySem.Spec PyProof.Rows L2 LamX
section
variable {K : PySem.W.Frag} {L M : List (As K)} {H H' H1 : Hp} {σ : L2.St} {d C : Addr} {o : HO} {w : Str} {E : XK}
theorem Sep.newAt (h : Sep L H) (hn : H d = none) (s : Same H H') (hd : H' d = some o) (n : Nt o = true) : Sep (ob d o :: L) H' := by
  obtain ⟨W, q, f, h⟩ := h
  have ne : ∀ b, q b → b ≠ d := fun b z y => by
    obtain ⟨x, hx, _⟩ := h.al b z
    rw [y, hn] at hx
    cases hx
  have nw : ∀ b x, W b x → b ≠ d := fun b x z y => by
    have := (f b x z).1
    rw [y, hn] at this
    cases this
  exact ⟨W, fun b => b = d ∨ q b, fun b x z => ⟨s _ _ (f b x z).1, (f b x z).2.1, fun y => y.elim (nw b x z) (f b x z).2.2⟩, fun b => b = d, q, fun b x y => ne b y x, fun b => Iff.rfl, ⟨fun b => Iff.rfl, hd, n⟩, h.st (fun b z => by
    obtain ⟨x, hx, _⟩ := h.al b z
    rw [s _ _ hx, hx]) (Tq.same s)⟩
/-- raise C(): what is let out -/
theorem raise_lets (T : OexC K C) (no : PySem.W.findIn K (.ref C) "word" = some none) (h : Sep L H) (q : Lets L C w E) : tMkO C (spInit0 K w) [] tNil σ H fun cls d H' => E cls d H' :=
  k_raise T no fun d H2 hn s hd => q d H2 (h.newAt hn s hd rfl)
theorem Lets.sub (q : Lets M C w E) (s : Sub L M) : Lets L C w E := fun d H' h => q d H' (Sub.ok (Sub.cons s) h)
end
end Ls
namespace Ls
open PySem PySem.Spec PyProof.Rows L2 LamX PySem.W
end Ls
namespace Ls
open PySem PySem.Spec PyProof.Rows L2 PySem.W
end Ls
namespace Ls
open PySem PySem.Spec PyProof.Rows L2
def tSortSet (K : PySem.W.Frag) (ta : TE) : TE := fun σ H Q => ta σ H fun x H1 => ∃ (l : Addr) (ns : List Int), x = .ref l ∧ SqL K H1 l (ns.map V.int) ∧ ns.length < 60 ∧ ∀ (ms : List Int) (p : Addr), ms.Pairwise (· < ·) → (∀ k : Int, k ∈ ms ↔ k ∈ ns) → H1 p = none → Q (.ref p) (upd H1 p (.lst (ms.map V.int)))
theorem k_sortset {K : PySem.W.Frag} {σ : L2.St} {H : Hp} {Q : VK} {ta : TE} (h : ta σ H fun x H1 => ∃ (l : Addr) (ns : List Int), x = .ref l ∧ SqL K H1 l (ns.map V.int) ∧ ns.length < 60 ∧ ∀ (ms : List Int) (p : Addr), ms.Pairwise (· < ·) → (∀ k : Int, k ∈ ms ↔ k ∈ ns) → H1 p = none → Q (.ref p) (upd H1 p (.lst (ms.map V.int)))) : tSortSet K ta σ H Q := h
theorem k_listrg {σ : L2.St} {H : Hp} {Q : VK} {te : L2.St → Hp → (Int → Int → Hp → Prop) → Prop} (h : te σ H fun a b H1 => RgOk a b ∧ ∀ q, H1 q = none → Q (.ref q) (upd H1 q (.lst (rgV a b)))) : tLstRg te σ H Q := h
theorem k_rg1 {σ : L2.St} {H : Hp} {ta : TE} {R : Int → Int → Hp → Prop} (h : ta σ H fun x H1 => ∃ n, x = .int n ∧ R 0 n H1) : tRg1 ta σ H R := h
end Ls
namespace Ls
open PySem PySem.Spec PyProof.Rows L2
end Ls
namespace Ls
open PySem PySem.Spec PyProof.Rows L2
theorem Walks.from {prog : Program} {w : World} {A : Around} {I : Addr} {fp wr : List Addr} {n : Nat} {P : Nat → Value → Prop} {St : Nat → Heap → Prop} (W : Walks prog w A I fp wr n P St) (k : Nat) (hk : k ≤ n) :
    Walks prog w A I fp wr (n - k) (fun i => P (k + i)) (fun i => St (k + i)) where
  sub := W.sub
  frame := fun i => W.frame (k + i)
  item := fun i s Q E hi st hQ => W.item (k + i) s Q E (by omega) st hQ
  done := fun s Q E st hQ => W.done s Q E (by
    have e : k + (n - k) = n := by omega
    rw [e] at st
    exact st) hQ
  self := fun i => W.self (k + i)
theorem vals_dropK : ∀ (k : Nat) {xs : List V} {us : List Value}, Vals xs us → Vals (xs.drop k) (us.drop k)
  | 0, _, _, r => r
  | k + 1, _, _, .nil => .nil
  | k + 1, _, _, .cons _ r => vals_dropK k r
theorem vals_takeK {v : V} {u : Value} (q : RelV v u) : ∀ (k : Nat) {xs : List V} {us : List Value}, Vals xs us → Vals (xs.take k ++ [v]) (us.take k ++ [u])
  | 0, _, _, _ => .cons q .nil
  | k + 1, _, _, .nil => .cons q .nil
  | k + 1, _, _, .cons z r => .cons z (vals_takeK q k r)
section
variable {prog : Program} {w : World} {A : Around} {E : Value → Shared → Prop} {s : Shared}
theorem unpack_star {t : Addr} {items : Array Value} {k : Nat} {Q : List Value → Shared → Prop} (hh : A.handled = none) (ht : IsTup s.heap t items) (hk : k ≤ items.size) (hz : items.size ≤ sizeLine)
    (hQ : ∀ (h' : Heap) (tk : Nat), (∀ b o, s.heap.get? b = some o → h'.get? b = some o) → Q (items.toList.take k ++ [.ref h'.objs.size]) { s with heap := h'.push { cls := .type "list", data := .seq (items.toList.drop k).toArray }, toks := tk }) :
    wpAny (model prog w) A (unpackItems (.ref t) (k + 1) (some k)) Q E s := by
  have hlt : t < s.heap.objs.size := by obtain ⟨o, ho, _⟩ := ht; exact Heap.lt_size ho
  have hne : t ≠ s.heap.objs.size := Nat.ne_of_lt hlt
  unfold unpackItems
  refine wpAny_bind ?_
  unfold notIterableAtAll
  refine wpAny_bind (wpAny_specialOf ht.typeIs slot_tuple_iter.lookup ?_)
  refine wpAny_pure ?_
  simp only [Bool.false_eq_true, if_false]
  refine wpAny_bind (wpAny_holding (iter_tuple ht ?_))
  refine wpAny_bind (wpAny_holding (draw_tuple hne k 0 _ _ ⟨_, Heap.get?_push_size _ rfl, rfl, rfl⟩ (ht.push _) (by omega) fun h₁ hit₁ hs₁ => ?_))
  rw [List.drop_zero, if_neg (by rw [List.length_take, Array.length_toList]; omega)]
  have ht₁ : IsTup h₁ t items := (ht.push _).extBut hs₁.extBut hne
  have hsz : s.heap.objs.size < h₁.objs.size := by
    obtain ⟨o, ho, _⟩ := hit₁
    exact Heap.lt_size ho
  refine wpAny_bind (wpAny_holding (wpAny_collect_iter (T := "tuple_iterator") (.inr (.inr (.inr rfl))) ((Walks.from (Walks.tuple (A := A.in1) (by simp [hh]) s.heap.objs.size t hne items) k hk).toS) (fun i s st => st.1.typeIs) ⟨by rw [Nat.zero_add] at hit₁; exact hit₁, ht₁⟩ (fun b hb => ?_) List.mem_cons_self (fun s' acc mv hac => ?_) (by omega)))
  · rcases List.mem_cons.mp hb with rfl | hb
    · exact hsz
    · rw [List.mem_singleton.mp hb]
      exact Nat.lt_trans hlt hsz
  have he : acc.toList = items.toList.drop k := by
    apply List.ext_getElem?
    intro j
    rw [List.getElem?_drop, Array.getElem?_toList, Array.getElem?_toList]
    by_cases hj : j < acc.size
    · have := hac.2 j acc[j] (Array.getElem?_eq_getElem hj)
      rw [Array.getElem?_eq_getElem hj]
      exact this.symm
    · rw [Array.getElem?_eq_none (by omega), Array.getElem?_eq_none (by have := hac.1; omega)]
  have e0 : k + 1 - 1 - k = 0 := by omega
  simp only [e0, Nat.not_lt_zero, if_false, Nat.sub_zero, List.take_length, List.drop_length, List.append_nil]
  obtain ⟨h', g', d', tk', os'⟩ := s'
  have eg : g' = s.gens := mv.gens
  have ed : d' = s.drawn := mv.drawn
  have eo : os' = s.os := mv.os
  subst eg ed eo
  refine wpAny_bind (wpAny_newObj_type (wpAny_pure ?_) ?_)
  · rw [he]
    exact hQ h' tk' fun b o hb => mv.heap b o (fun m => Nat.ne_of_lt (Heap.lt_size hb) (List.mem_singleton.mp m)) (hs₁.2 b (Nat.ne_of_lt (Heap.lt_size hb)) ▸ Heap.get?_push_of_some _ hb)
  · show (acc.toList.toArray).size ≤ sizeLine
    rw [he, List.size_toArray, List.length_drop, Array.length_toList]
    omega
end
def gTupS (K : PySem.W.Frag) (k : Nat) (t : TGs) : TG := fun v σ H Q => ∃ a xs, v = .ref a ∧ SqT K H a xs ∧ k ≤ xs.length ∧ xs.length ≤ 1000 ∧ ∀ q, H q = none → t (xs.take k ++ [.ref q]) σ (upd H q (.lst (xs.drop k))) Q
section
variable {X : Cx} {pos : Pos}
theorem pgs_star {e : Expr} {es : List Expr} {p : Pos} {t : TG} {u : TGs} (h1 : PG X e t) (h2 : PGs X es u)
    (hs : (assignEach (.Starred e p :: es) X.env).map (·.2) = assign e X.env :: (assignEach es X.env).map (·.2) := by rfl) : PGs X (.Starred e p :: es) (gCons t u) := by
  refine ⟨fun pins s σ H vs us Q I r h => ?_⟩
  obtain ⟨v, vr, e1, h⟩ := h
  subst e1
  cases r with
  | cons r rr =>
    rw [hs]
    refine assignInOrder_cons (thn (h1.run pins s σ H _ _ _ I r h) fun _ s1 ⟨σ1, H1, I1, q1⟩ => ?_)
    exact h2.run pins s1 σ1 H1 _ _ Q I1 rr q1
theorem pg_tupS {es : List Expr} {k : Nat} {t : TGs} {n : Nat} (K : PySem.W.Frag) (hK : X.K = K) (h : PGs X es t) (hc : X.calm = true := by rfl)
    (hn : (assignEach es X.env).length = n + 1 := by rfl) (hst : (assignEach es X.env).findIdx? (·.1) = some n := by rfl) : PG X (.Tuple es k pos) (gTupS K n t) := by
  subst hK
  refine ⟨fun pins s σ H v u Q I r hw => ?_⟩
  obtain ⟨a, xs, e1, hq, hl, hl2, hw⟩ := hw
  subst e1
  cases r
  obtain ⟨its, rv, ht, hz⟩ := I.tuple hq
  have hlen : its.toArray.size = xs.length := by rw [List.size_toArray, rv.length]
  rw [assign_Tuple]
  refine wpAny_bind (wpAny_standAt ?_)
  unfold unpack
  rw [hn, hst]
  refine wpAny_bind (wpAny_holding (unpack_star (I.ok.hd hc) ht (by omega) (by rw [hlen]; exact hz) fun h' tk hk => ?_))
  have I1 : Inv X pins σ H { s with heap := h', toks := tk } := I.kept hk
  have hf : H h'.objs.size = none := I1.hok.fresh (Nat.le_refl _)
  have I2 : Inv X pins σ (upd H h'.objs.size (.lst (xs.drop n))) { s with heap := h'.push { cls := .type "list", data := .seq (its.drop n).toArray }, toks := tk } :=
    I1.laid (t' := tk) (fun b u e => Heap.get?_push_of_some _ e) (Nat.le_refl _) ⟨by rw [List.length_drop]; omega, its.drop n, 0, vals_dropK n rv, Heap.get?_push_size _ rfl⟩
  exact h.run pins _ σ _ (xs.take n ++ [.ref h'.objs.size]) _ Q I2 (by
    rw [List.toList_toArray]
    exact vals_takeK (v := .ref h'.objs.size) rfl n rv) (hw _ hf)
end
end Ls
namespace Ls
open PySem PySem.Spec PyProof.Rows L2 LamX
section
variable {K : PySem.W.Frag} {L M : List (As K)} {H H' H1 : Hp} {T : List (Addr × Str)} {σ : L2.St} {Q : VK} {q : Str} {LO : Addr → Addr → HO} {f : Addr}
/-- a lambda stands at f -/
def lamA (q : Str) (LO : Addr → Addr → HO) (f : Addr) : As K := pers (fun H => ∃ (c' : Addr) (φ : Heap → Prop), LO f c' = .ext φ ∧ H f = some (.ext φ) ∧ H c' = some (CodeO c' q)) fun _ _ t ⟨c', φ, e, h1, h2⟩ => ⟨c', φ, e, t.2 _ _ h1, t.2 _ _ h2⟩
instance : NoTb (lamA (K := K) q LO f) := ⟨fun z a q => (z.1 a q).elim⟩
instance : Dup (lamA (K := K) q LO f) := ⟨fun z => z.1⟩
theorem Sep.pers {P : Hp → Prop} {h : ∀ H H', Tq K H H' → P H → P H'} (s : Sep L H) (p : P H) : Sep (pers P h :: L) H := by
  obtain ⟨W, q, f, z⟩ := s
  exact ⟨W, q, f, fun _ => False, q, fun a x => x.elim, fun a => ⟨.inr, fun x => x.elim False.elim id⟩, ⟨fun a x => x, p⟩, z⟩
end
end Ls
namespace Ls
open PySem PySem.Spec PyProof.Rows L2 LamX
end Ls
namespace Ls
open PySem PySem.Spec PyProof.Rows L2
end Ls
namespace Ls
open PySem PySem.Spec PyProof.Rows L2
def spInitA (K : PySem.W.Frag) (f w : Str) : Sp := fun vs H Q _ => ∃ (a C : Addr) (y : V), vs = [.ref a, y] ∧ OexC K C ∧ PySem.W.findIn K (.ref C) "word" = some none ∧ PySem.W.findIn K (.ref C) f = some none ∧ H a = some (exo a C none) ∧ ∀ dx, H dx = none → dx ≠ a → Q .non (upd (upd (upd H dx (exd dx [("word", .str w)])) a (exo a C (some dx))) dx (exd dx [(f, y), ("word", .str w)]))
section
variable {K : PySem.W.Frag} {L M : List (As K)} {H : Hp} {C : Addr} {f w : Str} {y : V} {E : XK}
theorem k_raiseA {Q : XK} (T : OexC K C) (no : PySem.W.findIn K (.ref C) "word" = some none) (nf : PySem.W.findIn K (.ref C) f = some none) (q : ∀ d H', H d = none → Same H H' → H' d = some (.xd [(f, y), ("word", .str w)]) → Q (.ref C) (some d) H') :
    [y].length ≤ 1000 ∧ ∀ a, H a = none → spInitA K f w (.ref a :: ([y] ++ [])) (upd H a (exo a C none)) (fun v H2 => v = .non ∧ ∃ (d : Addr) (fs : List (Str × V)), H2 a = some (exo a C (some d)) ∧ H2 d = some (exd d fs) ∧ H d = none ∧ Q (.ref C) (some d) (upd (del H2 a) d (.xd fs))) (fun _ _ _ => False) := by
  refine ⟨by show 1 ≤ 1000; decide, fun a ha => ⟨a, C, y, rfl, T, no, nf, upd_same, fun dx hdx na => ⟨rfl, dx, [(f, y), ("word", .str w)], ?_, upd_same, ?_, ?_⟩⟩⟩
  · rw [upd_ne (Ne.symm na)]
    exact upd_same
  · rw [upd_ne na] at hdx
    exact hdx
  · have hd : H dx = none := by
      rw [upd_ne na] at hdx
      exact hdx
    refine q dx _ hd (fun b o hb => ?_) upd_same
    have b1 : b ≠ dx := ne_of_none hb hd
    have b2 : b ≠ a := ne_of_none hb ha
    rw [upd_ne b1, del_ne b2, upd_ne b1, upd_ne b2, upd_ne b1, upd_ne b2]
    exact hb
theorem k_mk {sp : Sp} {ta : TA} {σ : L2.St} {Q : XK} (h : ta σ H fun vs H1 => vs.length ≤ 1000 ∧ ∀ a, H1 a = none → sp (.ref a :: (vs ++ [])) (upd H1 a (exo a C none)) (fun v H2 => v = .non ∧ ∃ (d : Addr) (fs : List (Str × V)), H2 a = some (exo a C (some d)) ∧ H2 d = some (exd d fs) ∧ H1 d = none ∧ Q (.ref C) (some d) (upd (del H2 a) d (.xd fs))) (fun _ _ _ => False)) : tMkO C sp [] ta σ H Q := h
/-- what is let out of a raise C(y) -/
def LetsA (L : List (As K)) (C : Addr) (f w : Str) (y : V) (E : XK) : Prop := ∀ d H', Ls.Sep (ob d (.xd [(f, y), ("word", .str w)]) :: L) H' → E (.ref C) (some d) H'
theorem LetsA.sub (q : LetsA M C f w y E) (s : Sub L M) : LetsA L C f w y E := fun d H' h => q d H' (Sub.ok (Sub.cons s) h)
theorem raise_letsA {i : Int} (T : OexC K C) (no : PySem.W.findIn K (.ref C) "word" = some none) (nf : PySem.W.findIn K (.ref C) f = some none) (h : Sep L H) (q : LetsA L C f w (.int i) E) :
    [V.int i].length ≤ 1000 ∧ ∀ a, H a = none → spInitA K f w (.ref a :: ([V.int i] ++ [])) (upd H a (exo a C none)) (fun v H2 => v = .non ∧ ∃ (d : Addr) (fs : List (Str × V)), H2 a = some (exo a C (some d)) ∧ H2 d = some (exd d fs) ∧ H d = none ∧ E (.ref C) (some d) (upd (del H2 a) d (.xd fs))) (fun _ _ _ => False) :=
  k_raiseA T no nf fun d H2 hn s hd => q d H2 (h.newAt hn s hd rfl)
end
section
variable {K : PySem.W.Frag} {L : List (As K)} {a c : Addr}
/-- enumerate(zip(a, b)) of two tuples of any lengths -/
theorem wk_ezM {α β : Type} {zs : List α} {us : List β} {f : α → PyData} {g : β → PyData} (m1 : im (.ref a) (.tuple (zs.map f)) ∈ L) (m2 : im (.ref c) (.tuple (us.map g)) ∈ L) :
    Wk (Itez false K a c) L (min zs.length us.length) fun i q => ∀ z u T, zs[i]? = some z → us[i]? = some u → q (.ref T) [im (.ref T) (.tuple [.int (i : Nat), .tuple [f z, g u]])] where
  go := fun i H hi h => by
    obtain ⟨a', xs, e, h1, k1⟩ := im_tup (h.imm m1)
    cases e
    obtain ⟨c', ys, e, h2, k2⟩ := im_tup (h.imm m2)
    cases e
    have b1 : i < xs.length := by rw [k1.length, List.length_map]; omega
    have b2 : i < ys.length := by rw [k2.length, List.length_map]; omega
    exact ⟨xs, ys, xs[i], ys[i], h1, h2, List.getElem?_eq_getElem b1, List.getElem?_eq_getElem b2⟩
  yl := fun i H x H' R hi h ⟨T, U, v, w, e, nUT, hU, hT, e2, y1, y2⟩ q => by
    subst e e2
    obtain ⟨a', xs, e, h1, k1⟩ := im_tup (h.imm m1)
    cases e
    obtain ⟨c', ys, e, h2, k2⟩ := im_tup (h.imm m2)
    cases e
    obtain ⟨d, hd, hm⟩ := k1.get (y1 xs h1)
    rw [List.getElem?_map] at hd
    obtain ⟨z, hz, rfl⟩ := Option.map_eq_some_iff.mp hd
    obtain ⟨d2, hd2, hm2⟩ := k2.get (y2 ys h2)
    rw [List.getElem?_map] at hd2
    obtain ⟨u, hu, rfl⟩ := Option.map_eq_some_iff.mp hd2
    have hT2 : upd H U (.tup [v, w]) T = none := by rw [upd_ne nUT.symm]; exact hT
    have hS1 : Sep (im (.ref U) (.tuple [f z, g u]) :: L) (upd H U (.tup [v, w])) := Sep.im_iff.mpr ⟨.tup (sqt_of upd_same) (.cons (hm.mono (Tp.new hU)) (.cons (hm2.mono (Tp.new hU)) .nil)), h.same (same_new hU)⟩
    have imU := hS1.imm List.mem_cons_self
    have hS : Sep L (upd H U (.tup [v, w])) := h.same (same_new hU)
    refine q z u T hz hu _ (Sep.im_iff.mpr ⟨?_, hS.same (same_new hT2)⟩)
    exact .tup (sqt_of upd_same) (.cons (.int _) (.cons (imU.mono (Tp.new hT2)) .nil))
  st := fun H h => by
    obtain ⟨a', xs, e, h1, k1⟩ := im_tup (h.imm m1)
    cases e
    obtain ⟨c', ys, e, h2, k2⟩ := im_tup (h.imm m2)
    cases e
    refine ⟨xs, ys, h1, h2, ?_⟩
    rw [k1.length, k2.length, List.length_map, List.length_map]
    omega
end
end Ls
namespace Ls
open PySem PySem.Spec PyProof.Rows L2
section
variable {K : PySem.W.Frag} {L M : List (As K)} {H : Hp} {a : Addr} {y : V} {d e : PyData} {ds : List PyData} {Q : VK} {i : Int} {j : Nat}
def rInsU : V → List V → Hp → VK → Prop := fun x vs H Q => ∃ (l : Addr) (xs : List V) (i : Int) (y : V), x = .ref l ∧ vs = [.int i, y] ∧ H l = some (.lst xs) ∧ xs.length < sizeLine ∧ 0 ≤ i ∧ i < 2 ^ 63 ∧
    Q .non (upd H l (.lst (xs.take i.toNat ++ [y] ++ xs.drop i.toNat)))
theorem mt_insU {X : Cx} : MtR X "list.insert" rInsU := mt_insert
/-- xs.insert(i, y) -/
theorem k_insD (h : Sep L H) (r : Rep L (ld a ds) (ld a (ds.take i.toNat ++ [d] ++ ds.drop i.toNat)) M) (t : Dat L y d) (h0 : 0 ≤ i) (hi : i < 2 ^ 63) (hl : ds.length < sizeLine) (q : ∀ H', Sep M H' → Q .non H') :
    rInsU (.ref a) [.int i, y] H Q := by
  obtain ⟨xs, h1, h2⟩ := h.ldm r.mem
  exact ⟨a, xs, i, y, rfl, rfl, h1, by rw [h2.length]; exact hl, h0, hi, q _ (h.setDR r (((ImAll.take _ h2).app (.cons (t.is h) .nil)).app (ImAll.drop _ h2)))⟩
/-- xs.pop(i), what comes out left aside -/
theorem k_popAtD (h : Sep L H) (r : Rep L (ld a ds) (ld a (ds.eraseIdx j)) M) (e : ds[j]? = some d) (hb : j < 1000000) (q : ∀ v H', Sep M H' → Q v H') : rPopAt (.ref a) [.int (j : Nat)] H Q := by
  obtain ⟨xs, h1, h2⟩ := h.ldm r.mem
  obtain ⟨v, hv, _⟩ := h2.getD e
  have hi := (List.getElem?_eq_some_iff.mp hv).1
  refine ⟨a, xs, (j : Nat), j, v, rfl, rfl, h1, by omega, by omega, ?_, hv, q _ _ (h.setDR r (ImAll.eraseD h2))⟩
  have := (ixN_seq (n := xs.length) (i := (j : Int)) (j := j) ?_).1
  · exact this
  · unfold ixN
    rw [if_pos (by omega), if_pos (by omega)]
    rfl
/-- list(t) of a tuple of data -/
theorem k_listI (h : Sep L H) (m : im (.ref a) (.tuple ds) ∈ L) (q : ∀ p H', Sep (ld p ds :: L) H' → Q (.ref p) H') : rListU K [.ref a] H Q := by
  obtain ⟨a', xs, e', h1, h2⟩ := im_tup (h.imm m)
  cases e'
  refine ⟨a, xs, rfl, .inr h1, fun p hp => q p _ ?_⟩
  have z := (h.newD (p := p) (xs := []) (ds := []) hp .nil).setD (xs := xs) (es := ds) (h2.mono (Tp.new hp))
  have e : upd (upd H p (.lst [])) p (.lst xs) = upd H p (.lst xs) := by
    funext b
    by_cases hb : b = p
    · rw [hb, upd_same, upd_same]
    · rw [upd_ne hb, upd_ne hb, upd_ne hb]
  rw [e] at z
  exact z
end
theorem use_sameD {K : PySem.W.Frag} {L : List (As K)} {H : Hp} {x y : V} {d : PyData} {n : Nat} {Q : VK} {E : XK} (h : Ls.Sep L H) (a : Dl L x d) (b : Dl L y d) (o : OkD n d) (q : ∀ H', Ls.Sep L H' → Q (.bl true) H') : spSame K n [x, y] H Q E := ⟨x, y, d, rfl, a.is h, b.is h, o, fun H' s => q H' (h.same s)⟩
end Ls
namespace Ls
open PySem PySem.Spec PyProof.Rows L2
section
variable {K : PySem.W.Frag} {L M : List (As K)} {H : Hp} {a l : Addr} {ds es : List PyData} {Q : VK}
theorem k_slStr {z : Str} {lo hi : Option Int} (hz : z.length ≤ sizeLine) (q : Q (.str (cutS z lo hi)) H) : rSlU K (.str z) lo hi H Q := .inr (.inr ⟨z, rfl, hz, q⟩)
end
end Ls
namespace Ls
open PySem PySem.Spec PyProof.Rows L2
end Ls
namespace Ls
open PySem PySem.Spec PyProof.Rows L2
section
variable {K : PySem.W.Frag} {L M : List (As K)} {H : Hp} {a l : Addr} {xs : List V} {ds es : List PyData} {d : PyData} {σ : L2.St} {Q : VK} {i : Int}
/-- a list of data that never changes once made -/
def fzl (a : Addr) (ds : List PyData) : As K := persW (fun W H => ∃ xs, W a (.lst xs) ∧ ImAll K H xs ds) (fun _ _ _ t ⟨xs, h1, h2⟩ => ⟨xs, h1, h2.mono t.1⟩) fun _ _ _ e ⟨xs, h1, h2⟩ => ⟨xs, e _ _ h1, h2⟩
instance : Dup (fzl (K := K) a ds) := ⟨fun z => z.1⟩
end
end Ls
namespace Ls
open PySem PySem.Spec PyProof.Rows L2
section
variable {X : Cx} {e : Expr} {te : TE}
theorem kRevL (K : PySem.W.Frag) (hK : X.K = K) (h : PE X e (tRevL X.K te)) : PE X e (tRevL K te) := hK ▸ h
end
section
variable {K : PySem.W.Frag} {L M : List (As K)} {H : Hp} {a l : Addr} {ds : List PyData} {Q : VK}
theorem ImAll.rev {H : Hp} : ∀ {xs : List V} {ds : List PyData}, ImAll K H xs ds → ImAll K H xs.reverse ds.reverse
  | _, _, .nil => .nil
  | _, _, .cons a r => by
    rw [List.reverse_cons, List.reverse_cons]
    exact (ImAll.rev r).app (.cons a .nil)
end
end Ls
namespace Ls
open PySem PySem.Spec PyProof.Rows L2
section
variable {K : PySem.W.Frag} {A : As K} {L M : List (As K)} {H H' : Hp} {a l p : Addr} {xs vs : List V} {ds es : List PyData} {d e : PyData} {v x y : V} {σ : L2.St} {Q : VK} {i : Int} {W W' : Fz} {s : Addr → Prop}
mutual
inductive Fm (K : PySem.W.Frag) (W : Fz) (H : Hp) : V → PyData → Prop
  | im {v : V} {d : PyData} : Im K H v d → Fm K W H v d
  | tup {a : Addr} {xs : List V} {ds : List PyData} : SqT K H a xs → FmAll K W H xs ds → Fm K W H (.ref a) (.tuple ds)
  | lst {a : Addr} {xs : List V} {ds : List PyData} : W a (.lst xs) → FmAll K W H xs ds → Fm K W H (.ref a) (.list ds)
inductive FmAll (K : PySem.W.Frag) (W : Fz) (H : Hp) : List V → List PyData → Prop
  | nil : FmAll K W H [] []
  | cons {v : V} {d : PyData} {vs : List V} {ds : List PyData} : Fm K W H v d → FmAll K W H vs ds → FmAll K W H (v :: vs) (d :: ds)
end
mutual
theorem Fm.mono (t : Tp K H H') (k : ∀ a o, W a o → W' a o) : ∀ {v : V} {d : PyData}, Fm K W H v d → Fm K W' H' v d
  | _, _, .im h => .im (h.mono t)
  | _, _, .tup h1 h2 => .tup (t _ _ h1) (FmAll.mono t k h2)
  | _, _, .lst h1 h2 => .lst (k _ _ h1) (FmAll.mono t k h2)
theorem FmAll.mono (t : Tp K H H') (k : ∀ a o, W a o → W' a o) : ∀ {vs : List V} {ds : List PyData}, FmAll K W H vs ds → FmAll K W' H' vs ds
  | _, _, .nil => .nil
  | _, _, .cons h1 h2 => .cons (Fm.mono t k h1) (FmAll.mono t k h2)
end
mutual
theorem Fm.dp (f : ∀ a o, W a o → H a = some o) : ∀ {v : V} {d : PyData}, Fm K W H v d → Dp K H v d
  | _, _, .im h => h.dp
  | _, _, .tup h1 h2 => .tup h1 (FmAll.dp f h2)
  | _, _, .lst h1 h2 => .lst (sql_of (f _ _ h1)) (FmAll.dp f h2)
theorem FmAll.dp (f : ∀ a o, W a o → H a = some o) : ∀ {vs : List V} {ds : List PyData}, FmAll K W H vs ds → DpAll K H vs ds
  | _, _, .nil => .nil
  | _, _, .cons h1 h2 => .cons (Fm.dp f h1) (FmAll.dp f h2)
end
theorem FmAll.length : ∀ {vs : List V} {ds : List PyData}, FmAll K W H vs ds → vs.length = ds.length
  | _, _, .nil => rfl
  | _, _, .cons _ h => congrArg (· + 1) h.length
theorem FmAll.app : ∀ {vs ws : List V} {ds es : List PyData}, FmAll K W H vs ds → FmAll K W H ws es → FmAll K W H (vs ++ ws) (ds ++ es)
  | _, _, _, _, .nil, h => h
  | _, _, _, _, .cons a b, h => .cons a (b.app h)
theorem FmAll.get : ∀ {vs : List V} {ds : List PyData} {i : Nat} {v : V} {d : PyData}, FmAll K W H vs ds → vs[i]? = some v → ds[i]? = some d → Fm K W H v d
  | _, _, 0, _, _, .cons a _, h1, h2 => by
    cases h1
    cases h2
    exact a
  | _, _, i + 1, _, _, .cons _ b, h1, h2 => b.get (i := i) h1 h2
  | _, _, i, _, _, .nil, h1, _ => by cases i <;> cases h1
def fd (v : V) (d : PyData) : As K := persW (fun W H => Fm K W H v d) (fun _ _ _ t h => h.mono t.1 fun _ _ z => z) fun _ _ _ e h => h.mono Tp.refl e
def fds (vs : List V) (ds : List PyData) : As K := persW (fun W H => FmAll K W H vs ds) (fun _ _ _ t h => h.mono t.1 fun _ _ z => z) fun _ _ _ e h => h.mono Tp.refl e
instance : Dup (fd (K := K) v d) := ⟨fun z => z.1⟩
instance : Dup (fds (K := K) vs ds) := ⟨fun z => z.1⟩
theorem Hld.mem : ∀ {L : List (As K)} {s : Addr → Prop}, Hld W L s H → A ∈ L → ∃ s', A.ok W s' H
  | B :: L, _, ⟨s1, s2, _, _, h1, h2⟩, m => by
    rcases List.mem_cons.mp m with rfl | m
    · exact ⟨s1, h1⟩
    · exact Hld.mem h2 m
theorem Sep.fdm (h : Sep L H) (m : Ls.fd v d ∈ L) : ∃ W, Fm K W H v d ∧ ∀ a o, W a o → H a = some o := by
  obtain ⟨W, s, ⟨_, h1⟩, f⟩ := h.the m
  exact ⟨W, h1, fun a o z => (f a o z).1⟩
theorem Sep.fdsm (h : Sep L H) (m : Ls.fds vs ds ∈ L) : ∃ W, FmAll K W H vs ds ∧ ∀ a o, W a o → H a = some o := by
  obtain ⟨W, s, ⟨_, h1⟩, f⟩ := h.the m
  exact ⟨W, h1, fun a o z => (f a o z).1⟩
theorem Sep.fdsLen (h : Sep L H) (m : Ls.fds vs ds ∈ L) : vs.length = ds.length := by
  obtain ⟨W, h1, _⟩ := h.fdsm m
  exact h1.length
/-- a value's data, lists too -/
inductive Df (L : List (As K)) : V → PyData → Prop
  | dat {v : V} {d : PyData} : Dat L v d → Df L v d
  | ld {a : Addr} {ds : List PyData} : ld a ds ∈ L → Df L (.ref a) (.list ds)
  | fd {v : V} {d : PyData} : fd v d ∈ L → Df L v d
  | ob {a : Addr} {vs : List V} {ds : List PyData} : Ls.ob a (.lst vs) ∈ L → fds vs ds ∈ L → Df L (.ref a) (.list ds)
theorem Df.is (h : Sep L H) (t : Df L v d) : Dp K H v d := by
  cases t with
  | dat t => exact (t.is h).dp
  | ld m => exact (Dl.ld m).is h
  | fd m =>
    obtain ⟨W, h1, f⟩ := h.fdm m
    exact h1.dp f
  | ob m n =>
    obtain ⟨W, h1, f⟩ := h.fdsm n
    exact .lst (sql_of (h.obm m)) (h1.dp f)
theorem fd_lst (h : Sep L H) (m : Ls.fd (.ref a) (.list ds) ∈ L) : ∃ xs, H a = some (.lst xs) ∧ Sep (Ls.fds xs ds :: L) H := by
  obtain ⟨W, s, f, h⟩ := h
  obtain ⟨_, _, h1⟩ := h.mem m
  cases h1 with
  | im z => cases z
  | lst h1 h2 =>
    refine ⟨_, (f _ _ h1).1, ?_⟩
    exact ⟨W, s, f, fun _ => False, s, fun _ z => z.elim, fun a => ⟨.inr, fun z => z.elim False.elim id⟩, ⟨fun _ z => z, h2⟩, h⟩
theorem k_lenF (h : Sep L H) (m : Ls.fd (.ref a) (.list ds) ∈ L) (q : Q (.int ds.length) H) : rLenU K [.ref a] H Q := by
  obtain ⟨xs, h1, h2⟩ := fd_lst h m
  have := h2.fdsLen List.mem_cons_self
  exact k_lenL (sql_of h1) (by rw [this]; exact q)
theorem k_tyF {P : Prop} (h : Sep L H) (m : Ls.fd (.ref a) (.list ds) ∈ L) (q : P) : tyV K "list" (.ref a) H ∧ P := by
  obtain ⟨xs, h1, _⟩ := fd_lst h m
  exact k_tyL (sql_of h1) q
theorem k_eqF {n m : Nat} (h : Sep L H) (t : Df L x d) (t2 : Df L y e) (o1 : OkD n d) (o2 : OkD m e) (hn : n ≤ 64) (hm : m ≤ 64) (q : Q (.bl (PyData.eqv d e)) H) : rEqU K x y H Q := k_eqD (t.is h) (t2.is h) (o1.shaped hn) (o2.shaped hm) q
end
end Ls
namespace Ls
open PySem PySem.Spec PyProof.Rows L2 LamX PySem.W
section
variable {K : PySem.W.Frag} {L M : List (As K)} {H H' : Hp} {a l p : Addr} {xs vs : List V} {ds es : List PyData} {d e : PyData} {v x y : V} {σ : L2.St} {Q : VK} {i : Int} {T : List (Addr × Str)}
theorem k_seqF {R R' : Addr → Prop} (h : Ls.Sep L H) (m : fd (.ref a) (.list ds) ∈ L) (q : R a) : ∃ b, V.ref a = .ref b ∧ (((∃ xs, SqL K H b xs) ∧ R b) ∨ ((∃ xs, SqT K H b xs) ∧ R' b)) := by
  obtain ⟨xs, h1, _⟩ := fd_lst h m
  exact ⟨a, rfl, .inl ⟨⟨xs, sql_of h1⟩, q⟩⟩
theorem k_extD (h : Ls.Sep L H) (r : Rep L (ld a ds) (ld a (ds ++ es)) M) (m : ld p es ∈ L) (hl : ds.length + es.length ≤ sizeLine) (q : ∀ H', Ls.Sep M H' → Q .non H') : rExtend (.ref a) [.ref p] H Q := by
  obtain ⟨xs, h1, h2⟩ := h.ldm r.mem
  obtain ⟨ys, h3, h4⟩ := h.ldm m
  exact ⟨a, p, xs, ys, rfl, rfl, h1, h3, by rw [h2.length, h4.length]; exact hl, q _ (h.setDR r (h2.app h4))⟩
theorem Sep.newImA (h : Ls.Sep L H) (hp : H p = none) (h2 : ImAll K H xs ds) : Ls.Sep (ld p ds :: L) (upd H p (.lst xs)) := by
  have z := (h.newD (p := p) (xs := []) (ds := []) hp .nil).setD (xs := xs) (es := ds) (h2.mono (Tp.new hp))
  have e : upd (upd H p (.lst [])) p (.lst xs) = upd H p (.lst xs) := by
    funext b
    by_cases hb : b = p
    · rw [hb, upd_same, upd_same]
    · rw [upd_ne hb, upd_ne hb, upd_ne hb]
  rw [e] at z
  exact z
end
end Ls
namespace Ls
open PySem PySem.Spec PyProof.Rows L2
end Ls
namespace Ls
open PySem PySem.Spec PyProof.Rows L2
end Ls
namespace Ls
open PySem PySem.Spec PyProof.Rows L2
/-- a promise of a def that calls itself: at nought none -/
def recSp (f : Nat → Sp) : Nat → Sp
  | 0 => fun _ _ _ _ => False
  | n + 1 => f n
structure TabK (K : PySem.W.Frag) (w : World) (d : Addr) (kvs : List (Str × V)) : Prop where
  kd : ∃ es n, KDict K w d es n
  yes : ∀ z v, kvs.lookup z = some v → ∃ u, PySem.W.nsIn K d z = some (some u) ∧ RelV v u
  no : ∀ z, kvs.lookup z = none → PySem.W.nsIn K d z = some none
def rInT (d : Addr) (kvs : List (Str × V)) : R2 := fun x y H Q => ∃ z, x = .str z ∧ y = .ref d ∧ Q (.bl (kvs.lookup z).isSome) H
def rNotInT (d : Addr) (kvs : List (Str × V)) : R2 := fun x y H Q => ∃ z, x = .str z ∧ y = .ref d ∧ Q (.bl (!(kvs.lookup z).isSome)) H
def rIxT (d : Addr) (kvs : List (Str × V)) : R2 := fun x y H Q => ∃ z v, x = .ref d ∧ y = .str z ∧ kvs.lookup z = some v ∧ Q v H
section
variable {X : Cx} {d : Addr} {kvs : List (Str × V)}
theorem op_notinT (T : TabK X.K X.w d kvs) : OpR X (compareOp .NotIn) (rNotInT d kvs) := by
  intro pins s σ H x y v u Q I rx ry h
  obtain ⟨z, rfl, rfl, q⟩ := h
  obtain ⟨es, n, D⟩ := T.kd
  cases e : kvs.lookup z with
  | none => exact op_notIn_kd D pins s σ H _ _ v u Q I rx ry ⟨z, none, rfl, rfl, T.no z e, by rw [e] at q; exact q⟩
  | some y =>
    obtain ⟨u0, h1, _⟩ := T.yes z y e
    exact op_notIn_kd D pins s σ H _ _ v u Q I rx ry ⟨z, some u0, rfl, rfl, h1, by rw [e] at q; exact q⟩
theorem ix_T (T : TabK X.K X.w d kvs) : IxR X (rIxT d kvs) := by
  intro value slice pins s σ H x y v u Q I rx ry h hs
  obtain ⟨z, r, rfl, rfl, e, q⟩ := h
  obtain ⟨es, n, D⟩ := T.kd
  obtain ⟨u0, h1, h2⟩ := T.yes z r e
  exact ix_kdict value slice pins s σ H _ _ v u Q I rx ry ⟨d, z, r, rfl, rfl, ⟨es, n, u0, D.at_, D.lit, h1, h2⟩, q⟩ hs
end
section
variable {d : Addr} {kvs : List (Str × V)} {z : Str} {H : Hp} {Q : VK} {v : V}
theorem k_inTb (q : Q (.bl (kvs.lookup z).isSome) H) : rInT d kvs (.str z) (.ref d) H Q := ⟨z, rfl, rfl, q⟩
theorem k_notinTb (q : Q (.bl (!(kvs.lookup z).isSome)) H) : rNotInT d kvs (.str z) (.ref d) H Q := ⟨z, rfl, rfl, q⟩
theorem k_ixTb (e : kvs.lookup z = some v) (q : Q v H) : rIxT d kvs (.ref d) (.str z) H Q := ⟨z, v, rfl, rfl, e, q⟩
end
section
open He
variable {fa : List Fa} {fn : List DefD} {ts : List Tab} {w : World} {K : PySem.W.Frag}
theorem tab_eq (c : SaysT fa fn ts w K) (i : Nat) {t : Tab} (h : ts[i]? = some t := by rfl) : dicW K (t.1 K) = some (keysIn w.params t.2) := by
  have e : ts.map (fun t => dicW K (t.1 K)) = ts.map fun t => some (keysIn w.params t.2) := congrArg (fun z : AlT => z.2) c
  have e2 : (ts.map fun t => dicW K (t.1 K))[i]? = (ts.map fun t => some (keysIn w.params t.2))[i]? := by rw [e]
  rw [List.getElem?_map, List.getElem?_map, h] at e2
  exact Option.some.inj e2
theorem dicW_lk {a : Addr} {r : List (Option (Str × Int))} (h : dicW K a = some r) : ∃ es n, K.lookup a = some ⟨.type "dict", none, .dict es n, #[]⟩ ∧ es.toList.map He.keyOf = r := by
  unfold dicW at h
  split at h
  · rename_i c es m sl hl
    split at h
    · rename_i hb
      obtain ⟨z1, z2⟩ := ba hb
      obtain ⟨z3, z4⟩ := ba z2
      have e1 : c = "dict" := of_decide_eq_true z1
      have e2 : sl = #[] := Array.isEmpty_iff.mp z3
      subst e1 e2
      exact ⟨es, m, hl, Option.some.inj h⟩
    · cases h
  · cases h
theorem find_no {z : Str} {P : Params} : ∀ {es : List DictEntry} {ks : List Str}, es.map He.keyOf = keysIn P ks → z ∉ ks → es.find? (·.key.isStr z) = none ∧ es.any (·.refKey) = false
  | [], _, _, _ => ⟨rfl, rfl⟩
  | e :: r, [], h, _ => by cases h
  | e :: r, k :: ks, h, hz => by
    have h1 : He.keyOf e :: r.map He.keyOf = some (k, PyData.keyHash P k) :: keysIn P ks := h
    injection h1 with h2 h3
    obtain ⟨i1, i2⟩ := find_no h3 (fun m => hz (List.mem_cons_of_mem _ m))
    unfold He.keyOf at h2
    split at h2
    · rename_i x t q
      have h4 := (Prod.mk.inj (Option.some.inj h2)).1
      have ne : x ≠ z := fun y => hz (by rw [← y, h4]; exact List.mem_cons_self)
      have f1 : e.key.isStr z = false := by
        rw [q]
        show decide (x = z) = false
        exact decide_eq_false ne
      have f2 : e.refKey = false := by
        unfold DictEntry.refKey
        rw [q]
      exact ⟨by rw [List.find?_cons, f1]; exact i1, by rw [List.any_cons, f2, i2]; rfl⟩
    · cases h2
theorem lookup_mem {z : Str} {v : V} : ∀ {kvs : List (Str × V)}, kvs.lookup z = some v → (z, v) ∈ kvs
  | [], h => by cases h
  | (k, x) :: r, h => by
    by_cases e : z = k
    · subst e
      rw [List.lookup_cons, beq_self_eq_true] at h
      cases h
      exact List.mem_cons_self
    · rw [List.lookup_cons, beq_false_of_ne e] at h
      exact List.mem_cons_of_mem _ (lookup_mem h)
theorem lookup_no {z : Str} : ∀ {kvs : List (Str × V)}, kvs.lookup z = none → z ∉ kvs.map (·.1)
  | [], _, m => by cases m
  | (k, x) :: r, h, m => by
    by_cases e : z = k
    · subst e
      rw [List.lookup_cons, beq_self_eq_true] at h
      cases h
    · rw [List.lookup_cons, beq_false_of_ne e] at h
      rcases List.mem_cons.mp m with y | y
      · exact e y
      · exact lookup_no h y
theorem tabK_of {a : Addr} {dvs : List (Str × Dv)} (h : dicW K a = some (keysIn w.params (dvs.map (·.1)))) (hv : valsB K a dvs = true) : TabK K w a (dvs.map fun q => (q.1, q.2.v K)) := by
  refine ⟨dicW_ok h, fun z v e => ?_, fun z e => ?_⟩
  · obtain ⟨q, hq, e2⟩ := List.mem_map.mp (lookup_mem e)
    obtain ⟨u, h1, h2⟩ := valsB_ok hv hq
    cases e2
    exact ⟨u, h1, h2⟩
  · have hn := lookup_no e
    rw [List.map_map] at hn
    obtain ⟨es, n, hl, he⟩ := dicW_lk h
    obtain ⟨h1, h2⟩ := find_no he hn
    unfold PySem.W.nsIn
    rw [hl]
    simp only [h1, h2, Bool.false_eq_true, if_false]
end
end Ls
namespace Ls
open PySem PySem.Spec PyProof.Rows L2 LamX
section
variable {K : PySem.W.Frag} {v : V} {d : PyData} {vs : List V} {ds : List PyData}
instance : NoTb (fd (K := K) v d) := ⟨fun z a q => (z.1 a q).elim⟩
instance : NoTb (fds (K := K) vs ds) := ⟨fun z a q => (z.1 a q).elim⟩
end
end Ls
namespace Ls
open PySem PySem.Spec PyProof.Rows L2 LamX
end Ls
namespace Ls
open PySem PySem.Spec PyProof.Rows L2 LamX PySem.W
section
variable {K : PySem.W.Frag} {L M N : List (As K)} {H H' : Hp} {a l p D : Addr} {xs vs : List V} {ds es : List PyData} {d e : PyData} {v x y z : V} {σ : L2.St} {Q : VK} {n j : Nat}
def Lg (Iv : Nat → List (As K) → Prop) (i : Nat) : Hp → Prop := fun H => ∃ L, Iv i L ∧ Ls.Sep L H
theorem it_wk {J : It} {Y : Nat → (V → List (As K) → Prop) → Prop} {B : (Hp → Prop) → V → Hp → Prop} {Qd : Hp → Prop} (Iv : Nat → List (As K) → Prop) (hw : ∀ i L, Iv i L → Wk J L n Y) (h : Ls.Sep L H) (h0 : Iv 0 L)
    (hs : ∀ i L, i < n → Iv i L → Y i fun v M => ∀ H, Ls.Sep (M ++ L) H → B (Lg Iv (i + 1)) v H) (hd : ∀ L H, Iv n L → Ls.Sep L H → Qd H) :
    ∃ W : Nat → Nat → Hp → Prop, (∃ m, W 0 m H) ∧ ∀ i m H, W i m H → (J.stop i H ∧ Qd H) ∨ (J.go i H ∧ ∃ Nx : Hp → Prop, (∀ H', Nx H' → ∃ m', m' < m ∧ W (i + 1) m' H') ∧ ∀ x H', J.yld i H x H' → B Nx x H') := by
  refine ⟨fun i m H => m = n - i ∧ i ≤ n ∧ Lg Iv i H, ⟨n, by simp, Nat.zero_le _, L, h0, h⟩, ?_⟩
  rintro i m H ⟨rfl, hi, L, iv, h⟩
  by_cases hlt : i < n
  · refine .inr ⟨(hw i L iv).go i H hlt h, Lg Iv (i + 1), fun H' p => ⟨n - (i + 1), by omega, rfl, hlt, p⟩, fun x H' y => ?_⟩
    exact (hw i L iv).yl i H x H' (fun v H2 => B (Lg Iv (i + 1)) v H2) hlt h y (hs i L hlt iv)
  · have e : i = n := by omega
    subst e
    exact .inl ⟨(hw i L iv).st H h, hd L H iv h⟩
theorem it_keep {Iv : Nat → List (As K) → Prop} {acc : List PyData} (h : Ls.Sep N H) (t : Dat N y d) (s : Sub N (ld D acc :: L)) (hl : acc.length < sizeLine) (iv : Iv j (ld D (acc ++ [d]) :: L)) : ∃ zs, H D = some (.lst zs) ∧ zs.length < sizeLine ∧ Lg Iv j (upd H D (.lst (zs ++ [y]))) := by
  have g := s.ok h
  obtain ⟨zs, h1, h2⟩ := g.ldm List.mem_cons_self
  exact ⟨zs, h1, by rw [h2.length]; exact hl, _, iv, g.setD (h2.snoc (t.is h))⟩
theorem it_skip {Iv : Nat → List (As K) → Prop} (h : Ls.Sep N H) (s : Sub N L) (iv : Iv j L) : Lg Iv j H := ⟨_, iv, s.ok h⟩
theorem k_lc2 {wi wi1 : TI} {g g1 : TG} {tt tt1 : TT} {te : TE} {vs vs1 : List Nat} (h : wi σ H fun J H1 => ∀ D, H1 D = none → ∃ W : Nat → Nat → Hp → Prop, (∃ m, W 0 m (upd H1 D (.lst []))) ∧ ∀ i m H, W i m H →
  (J.stop i H ∧ Q (.ref D) H) ∨ (J.go i H ∧ ∃ Nx : Hp → Prop, (∀ H', Nx H' → ∃ m', m' < m ∧ W (i + 1) m' H') ∧ ∀ x H', J.yld i H x H' → g x (wipe σ vs) H' fun σ2 H2 => wipe σ2 vs = wipe σ vs ∧ tt σ2 H2 fun b H3 =>
    if b = true then wi1 σ2 H3 fun J1 H4 => ∃ W1 : Nat → Nat → Hp → Prop, (∃ m, W1 0 m H4) ∧ ∀ j k H, W1 j k H →
      (J1.stop j H ∧ Nx H) ∨ (J1.go j H ∧ ∃ Nx1 : Hp → Prop, (∀ H', Nx1 H' → ∃ k', k' < k ∧ W1 (j + 1) k' H') ∧ ∀ x H', J1.yld j H x H' → g1 x (wipe σ2 vs1) H' fun σ3 H5 => wipe σ3 vs1 = wipe σ2 vs1 ∧ tt1 σ3 H5 fun b H6 =>
        if b = true then te σ3 H6 fun y H7 => ∃ acc, H7 D = some (.lst acc) ∧ acc.length < sizeLine ∧ Nx1 (upd H7 D (.lst (acc ++ [y]))) else Nx1 H6)
    else Nx H3)) : tLc2 wi g tt wi1 g1 tt1 te vs vs1 σ H Q := h
theorem all_str (zs : List Str) : (zs.map PyData.str).all isS = true := by
  rw [List.all_eq_true]
  intro d hd
  obtain ⟨z, _, rfl⟩ := List.mem_map.mp hd
  rfl
theorem k_gtupStar {tg : TGs} {R : L2.St → Hp → Prop} (h : Ls.Sep L H) (m : im (.ref a) (.tuple ds) ∈ L) (hn : n ≤ ds.length) (hl : ds.length ≤ 1000) (q : GvAll (K := K) (ds.take n) fun vs M => ∀ p H', Ls.Sep (ld p (ds.drop n) :: (M ++ L)) H' → tg (vs ++ [.ref p]) σ H' R) : gTupS K n tg (.ref a) σ H R := by
  obtain ⟨a', xs, e, h1, h2⟩ := im_tup (h.imm m)
  cases e
  obtain ⟨M, h3, h4⟩ := q.go (ImAll.take n h2) h
  refine ⟨a, xs, rfl, h1, by rw [h2.length]; exact hn, by rw [h2.length]; exact hl, fun p hp => h3 p _ (Sep.newImA h4 hp ((ImAll.drop n h2)))⟩
theorem k_maxI {ns : List Int} (h : Ls.Sep L H) (m : ld a (ns.map .int) ∈ L) (h0 : ns ≠ []) (q : ∀ i, i ∈ ns → (∀ k ∈ ns, k ≤ i) → Q (.int i) H) : rMaxU K [V.ref a] H Q :=
  .inr ⟨a, ns, rfl, h.sqi m, List.length_pos_iff.mpr h0, fun i hi hm => q i hi hm⟩
end
end Ls
namespace Ls
open PySem PySem.Spec PyProof.Rows L2
section
variable {K : PySem.W.Frag} {L M : List (As K)} {H : Hp} {Q : VK} {a p : Addr} {v : V} {d : PyData} {ds : List PyData} {i : Int} {z x y u : Str}
theorem k_ixG (h : Sep L H) (m : im (.ref a) (.tuple ds) ∈ L) (e : atI ds i = some d) (q : ∀ v, Sep (im v d :: L) H → Q v H) : rIx K (.ref a) (.int i) H Q := by
  obtain ⟨a', xs, e', h1, h2⟩ := im_tup (h.imm m)
  cases e'
  obtain ⟨v, hv, hd⟩ := atI_all h2 e
  exact k_ixT h1 hv (q v (Sep.im_iff.mpr ⟨hd, h⟩))
theorem k_isiM {T : String} {b : Bool} (h : Sep L H) (m : im v d ∈ L) (e : kitB (tyn d) T = some b) (q : Q (.bl b) H) : rIsi K [v, .ty T] H Q := k_isi (h.imm m).dp rfl e q
theorem im_isRef (h : Sep L H) (m : im v (.tuple ds) ∈ L) : ∃ a, v = .ref a := by
  obtain ⟨a', xs, e', h1, h2⟩ := im_tup (h.imm m)
  exact ⟨a', e'⟩
theorem im_isStr (h : Sep L H) (m : im v (.str z) ∈ L) : v = .str z := by
  cases h.imm m
  rfl
theorem im_isInt (h : Sep L H) (m : im v (.int i) ∈ L) : v = .int i := by
  cases h.imm m
  rfl
theorem k_inSt {zs : List Str} (h : Sep L H) (m : im (.ref p) (.tuple (zs.map PyData.str)) ∈ L) (q : Q (.bl (decide (z ∈ zs))) H) : rInU K (.str z) (.ref p) H Q := by
  obtain ⟨a', xs, e', h1, h2⟩ := im_tup (h.imm m)
  cases e'
  cases ims_str h2
  exact .inl ⟨p, _, rfl, .inr h1, rfl, flat_strs zs, by rw [if_neg (by decide), inV_str]; exact q⟩
theorem k_ninSt {zs : List Str} (h : Sep L H) (m : im (.ref p) (.tuple (zs.map PyData.str)) ∈ L) (q : Q (.bl (!decide (z ∈ zs))) H) : rNotInU K (.str z) (.ref p) H Q := by
  obtain ⟨a', xs, e', h1, h2⟩ := im_tup (h.imm m)
  cases e'
  cases ims_str h2
  exact .inl ⟨p, _, rfl, .inr h1, rfl, flat_strs zs, by rw [if_pos rfl, inV_str]; exact q⟩
theorem k_inS2 (h : Sep L H) (m : im (.ref p) (.tuple [.str x, .str y]) ∈ L) (q : Q (.bl (decide (z ∈ [x, y]))) H) : rInU K (.str z) (.ref p) H Q := k_inSt (zs := [x, y]) h m q
theorem k_inS3 (h : Sep L H) (m : im (.ref p) (.tuple [.str x, .str y, .str u]) ∈ L) (q : Q (.bl (decide (z ∈ [x, y, u]))) H) : rInU K (.str z) (.ref p) H Q := k_inSt (zs := [x, y, u]) h m q
theorem k_ninS2 (h : Sep L H) (m : im (.ref p) (.tuple [.str x, .str y]) ∈ L) (q : Q (.bl (!decide (z ∈ [x, y]))) H) : rNotInU K (.str z) (.ref p) H Q := k_ninSt (zs := [x, y]) h m q
theorem k_ninS3 (h : Sep L H) (m : im (.ref p) (.tuple [.str x, .str y, .str u]) ∈ L) (q : Q (.bl (!decide (z ∈ [x, y, u]))) H) : rNotInU K (.str z) (.ref p) H Q := k_ninSt (zs := [x, y, u]) h m q
end
section
variable {K : PySem.W.Frag} {L M : List (As K)} {H : Hp} {Q : VK} {a : Addr} {ds : List PyData} {i : Int} {z : Str}
theorem k_isSS (q : Q (.bl true) H) : rIsi K [.str z, .ty "str"] H Q := k_isi (.str z) rfl kt_str_str q
theorem k_isSI (q : Q (.bl false) H) : rIsi K [.str z, .ty "int"] H Q := k_isi (.str z) rfl kt_str_int q
theorem k_isST (q : Q (.bl false) H) : rIsi K [.str z, .ty "tuple"] H Q := k_isi (.str z) rfl kt_str_tuple q
theorem k_isIS (q : Q (.bl false) H) : rIsi K [.int i, .ty "str"] H Q := k_isi (.int i) rfl kt_int_str q
theorem k_isII (q : Q (.bl true) H) : rIsi K [.int i, .ty "int"] H Q := k_isi (.int i) rfl kt_int_int q
theorem k_isIT (q : Q (.bl false) H) : rIsi K [.int i, .ty "tuple"] H Q := k_isi (.int i) rfl kt_int_tuple q
theorem k_isTS (h : Sep L H) (m : im (.ref a) (.tuple ds) ∈ L) (q : Q (.bl false) H) : rIsi K [.ref a, .ty "str"] H Q := k_isi (h.imm m).dp rfl kt_tuple_str q
theorem k_isTI (h : Sep L H) (m : im (.ref a) (.tuple ds) ∈ L) (q : Q (.bl false) H) : rIsi K [.ref a, .ty "int"] H Q := k_isi (h.imm m).dp rfl kt_tuple_int q
theorem k_isTT (h : Sep L H) (m : im (.ref a) (.tuple ds) ∈ L) (q : Q (.bl true) H) : rIsi K [.ref a, .ty "tuple"] H Q := k_isi (h.imm m).dp rfl kt_tuple_tuple q
end
section
variable {K : PySem.W.Frag} {L : List (As K)} {H : Hp} {Q : VK} {a l : Addr} {ds es : List PyData}
/-- the sum of two tuples of data -/
theorem k_addIA (h : Sep L H) (m : im (.ref a) (.tuple ds) ∈ L) (m2 : im (.ref l) (.tuple es) ∈ L) (hl : ds.length + es.length ≤ sizeLine) (q : ∀ p H', Sep (im (.ref p) (.tuple (ds ++ es)) :: L) H' → Q (.ref p) H') : rAddU K (.ref a) (.ref l) H Q := by
  have i1 := h.imm m
  have i2 := h.imm m2
  obtain ⟨a', xs, e, h1, k1⟩ := im_tup i1
  cases e
  obtain ⟨a', ys, e, h2, k2⟩ := im_tup i2
  cases e
  refine k_addT h1 h2 (by rw [k1.length, k2.length]; exact hl) (fun e => ?_) (fun _ e => ?_) fun p hp => q p _ (Sep.im_iff.mpr ⟨.tup (sqt_of upd_same) ((k1.app k2).mono (Tp.new hp)), h.same (same_new hp)⟩)
  · subst e
    cases k1
    exact q l H (Sep.im_iff.mpr ⟨i2, h⟩)
  · subst e
    cases k2
    exact q a H (Sep.im_iff.mpr ⟨by rw [List.append_nil]; exact i1, h⟩)
end
theorem at00 {α : Type} (x : α) (r : List α) : atI (x :: r) 0 = some x := by
  show atI (x :: r) ((0 : Nat) : Int) = some x
  exact atI_nat rfl
theorem at01 {α : Type} (x y : α) (r : List α) : atI (x :: y :: r) 1 = some y := by
  show atI (x :: y :: r) ((1 : Nat) : Int) = some y
  exact atI_nat rfl
theorem at02 {α : Type} (x y z : α) (r : List α) : atI (x :: y :: z :: r) 2 = some z := by
  show atI (x :: y :: z :: r) ((2 : Nat) : Int) = some z
  exact atI_nat rfl
end Ls
namespace Ls
open PySem PySem.Spec PyProof.Rows L2
inductive Jp where
  | en (b : Bool)
  | go (n : Int)
deriving DecidableEq
def jD : Jp → PyData
  | .en b => .bool b
  | .go n => .int n
def jV : Jp → V
  | .en b => .bl b
  | .go n => .int n
section
variable {M : Model} {A : Around} {E : Value → Shared → Prop} {s : Shared} {Q : Value → Shared → Prop}
theorem is_bb {a b : Bool} (h : Q (.bool (decide (a = b))) s) : wpAny M A (compareOp .Is (.bool a) (.bool b)) Q E s := by
  cases a <;> cases b <;> exact wpAny_pure h
theorem is_ib {n : Int} {t : Tok} {b : Bool} (h : Q (.bool false) s) : wpAny M A (compareOp .Is (.int n t) (.bool b)) Q E s := wpAny_pure h
end
def rIsBv : R2 := fun x y H Q => ∃ j b, x = jV j ∧ y = .bl b ∧ Q (.bl (decide (j = .en b))) H
def rNotBv : R2 := fun x y H Q => ∃ j b, x = jV j ∧ y = .bl b ∧ Q (.bl (!decide (j = .en b))) H
theorem en_dec {a b : Bool} : decide (Jp.en a = .en b) = decide (a = b) := by cases a <;> cases b <;> decide
theorem go_dec {n : Int} {b : Bool} : decide (Jp.go n = .en b) = false := decide_eq_false fun z => by cases z
section
variable {X : Cx}
theorem op_isBv : OpR X (compareOp .Is) rIsBv := by
  intro pins s σ H x y v u Q I rx ry h
  obtain ⟨j, b, rfl, rfl, q⟩ := h
  cases (show u = Value.bool b from ry)
  cases j with
  | en a =>
    cases (show v = Value.bool a from rx)
    rw [en_dec] at q
    exact is_bb ⟨.bl (decide (a = b)), H, I, rfl, q⟩
  | go n =>
    obtain ⟨t, rfl⟩ := (show ∃ t, v = Value.int n t from rx)
    rw [go_dec] at q
    exact is_ib ⟨.bl false, H, I, rfl, q⟩
end
section
variable {K : PySem.W.Frag} {L : List (As K)} {H : Hp} {Q : VK} {a : Addr} {v x : V} {b : Bool} {d : PyData} {ds : List PyData} {σ : L2.St}
theorem k_isBv {j : Jp} (q : Q (.bl (decide (j = .en b))) H) : rIsBv (jV j) (.bl b) H Q := ⟨j, b, rfl, rfl, q⟩
theorem k_isBb {a : Bool} (q : Q (.bl (decide (a = b))) H) : rIsBv (.bl a) (.bl b) H Q := ⟨.en a, b, rfl, rfl, by rw [en_dec]; exact q⟩
theorem k_notBv {j : Jp} (q : Q (.bl (!decide (j = .en b))) H) : rNotBv (jV j) (.bl b) H Q := ⟨j, b, rfl, rfl, q⟩
theorem k_notBb {a : Bool} (q : Q (.bl (!decide (a = b))) H) : rNotBv (.bl a) (.bl b) H Q := ⟨.en a, b, rfl, rfl, by rw [en_dec]; exact q⟩
theorem jV_im (j : Jp) : Im K H (jV j) (jD j) := by
  cases j with
  | en b => exact .bl b
  | go n => exact .int n
theorem im_jV {j : Jp} (h : Im K H v (jD j)) : v = jV j := by
  cases j with
  | en b => cases im_bl h; rfl
  | go n => cases im_int h; rfl
theorem Dat.j (j : Jp) : Dat L (jV j) (jD j) := by
  cases j with
  | en b => exact .bl b
  | go n => exact .int n
/-- a row: a leaf and two jumps -/
abbrev RowW := PyData × Jp × Jp
abbrev rwD (r : RowW) : PyData := .tuple [r.1, jD r.2.1, jD r.2.2]
theorem k_grow {tg : TGs} {R : L2.St → Hp → Prop} {r : RowW} (h : Sep L H) (m : im (.ref a) (rwD r) ∈ L) (q : ∀ v, Sep (im v r.1 :: L) H → tg [v, jV r.2.1, jV r.2.2] σ H R) : gTup K 3 tg (.ref a) σ H R := by
  obtain ⟨a', xs, e, h1, h2⟩ := im_tup (h.imm m)
  cases e
  cases h2 with
  | cons g1 h2 => cases h2 with
    | cons g2 h2 => cases h2 with
      | cons g3 h2 =>
        cases h2
        cases im_jV g2
        cases im_jV g3
        exact k_gtup h1 rfl (q _ (Sep.im_iff.mpr ⟨g1, h⟩))
end
end Ls
namespace Ls
open PySem PySem.Spec PyProof.Rows L2
mutual
def plD : PyData → Bool
  | .str _ => true
  | .int _ => true
  | .none => true
  | .tuple ds => plDs ds
  | .list ds => plDs ds
  | _ => false
def plDs : List PyData → Bool
  | [] => true
  | d :: ds => plD d && plDs ds
end
mutual
theorem eqv_pl : ∀ (d e : PyData), plD d = true → plD e = true → (PyData.eqv d e = true ↔ d = e)
  | .str x, e, h1, h2 => by
    cases e <;> simp_all [plD, PyData.eqv]
  | .int x, e, h1, h2 => by
    cases e <;> simp_all [plD, PyData.eqv]
  | .none, e, h1, h2 => by
    cases e <;> simp_all [plD, PyData.eqv]
  | .tuple ds, e, h1, h2 => by
    cases e with
    | tuple es =>
      simp only [plD] at h1 h2
      simp only [PyData.eqv, PyData.tuple.injEq]
      exact eqvs_pl ds es h1 h2
    | _ => simp_all [plD, PyData.eqv]
  | .list ds, e, h1, h2 => by
    cases e with
    | list es =>
      simp only [plD] at h1 h2
      simp only [PyData.eqv, PyData.list.injEq]
      exact eqvs_pl ds es h1 h2
    | _ => simp_all [plD, PyData.eqv]
  | .bool b, _, h1, _ => by simp [plD] at h1
  | .dict b, _, h1, _ => by simp [plD] at h1
theorem eqvs_pl : ∀ (ds es : List PyData), plDs ds = true → plDs es = true → (PyData.eqvAll ds es = true ↔ ds = es)
  | [], [], _, _ => by simp [PyData.eqvAll]
  | [], _ :: _, _, _ => by simp [PyData.eqvAll]
  | _ :: _, [], _, _ => by simp [PyData.eqvAll]
  | d :: ds, e :: es, h1, h2 => by
    simp only [plDs, Bool.and_eq_true] at h1 h2
    simp only [PyData.eqvAll, Bool.and_eq_true, List.cons.injEq]
    rw [eqv_pl d e h1.1 h2.1, eqvs_pl ds es h1.2 h2.2]
end
theorem plDs_all {ds : List PyData} (h : ∀ d ∈ ds, plD d = true) : plDs ds = true := by
  induction ds with
  | nil => rfl
  | cons d ds ih =>
    simp only [plDs, Bool.and_eq_true]
    exact ⟨h d List.mem_cons_self, ih fun e he => h e (List.mem_cons_of_mem _ he)⟩
theorem eqv_plF {d e : PyData} (h1 : plD d = true) (h2 : plD e = true) (h : d ≠ e) : PyData.eqv d e = false := Bool.eq_false_iff.mpr fun z => h ((eqv_pl d e h1 h2).mp z)
theorem eqv_plT {d : PyData} (h1 : plD d = true) : PyData.eqv d d = true := (eqv_pl d d h1 h1).mpr rfl
end Ls
namespace Ls
open PySem PySem.Spec PyProof.Rows L2
theorem wk_tuJ {K : PySem.W.Frag} {L : List (As K)} {a : Addr} {js : List Jp} (m : tu a (js.map jV) ∈ L) : Wk (Itt K a) L js.length fun i q => ∀ z, js[i]? = some z → q (jV z) [] := by
  have w := wk_tu m
  rw [List.length_map] at w
  refine w.mono fun i q hi k v hv => ?_
  rw [List.getElem?_map] at hv
  obtain ⟨z, hz, rfl⟩ := Option.map_eq_some_iff.mp hv
  exact k z hz
end Ls
namespace Ls
open PySem PySem.Spec PyProof.Rows L2
end Ls
namespace Ls
open PySem PySem.Spec PyProof.Rows L2 TL
end Ls
namespace Ls
open PySem PySem.Spec PyProof.Rows L2
end Ls
namespace Ls
open PySem PySem.Spec PyProof.Rows L2
end Ls
namespace Ls
open PySem PySem.Spec PyProof.Rows L2 PySem.W.KOpn
end Ls
namespace Ls
open PySem PySem.Spec PyProof.Rows L2
end Ls
namespace Ls
open PySem PySem.Spec PyProof.Rows L2
section
variable {K : PySem.W.Frag} {L M : List (As K)} {H : Hp} {Q : VK} {a : Addr} {v : V} {d : PyData} {ds : List PyData}
theorem imAll_set : ∀ {vs : List V} {ds : List PyData} (j : Nat), ImAll K H vs ds → Im K H v d → ImAll K H (vs.set j v) (ds.set j d)
  | _, _, j, .nil, _ => by cases j <;> exact .nil
  | _, _, 0, .cons h r, m => .cons m r
  | _, _, j + 1, .cons h r, m => .cons h (imAll_set j r m)
theorem k_setLd {k : Int} {j : Nat} {R : Hp → Prop} (h : Ls.Sep L H) (r : Rep L (ld a ds) (ld a (ds.set j d)) M) (t : Dat L v d) (e : ixN ds.length k = some j) (q : ∀ H', Ls.Sep M H' → R H') : rSetL (.ref a) (.int k) v H R := by
  obtain ⟨xs, h1, h2⟩ := h.ldm r.mem
  exact ⟨a, xs, k, j, rfl, rfl, h1, by rw [h2.length]; exact e, q _ (Ls.Sep.setDR h r (imAll_set j h2 (t.is h)))⟩
end
end Ls
namespace Ls
open PySem PySem.Spec PyProof.Rows L2
mutual
def nkD : PyData → NestedKey
  | .bool b => .num (if b = true then 1 else 0)
  | .int i => .num i
  | .str x => .text x
  | .tuple ds => .tup (nkDs ds)
  | _ => .none
def nkDs : List PyData → List NestedKey
  | [] => []
  | d :: ds => nkD d :: nkDs ds
end
section
variable {X : Cx} {pins : List (Addr × Obj)} {σ : L2.St} {H : Hp} {s : Shared}
mutual
theorem nested_of (I : Inv X pins σ H s) : ∀ {v : V} {d : PyData}, Im X.K H v d → ∀ u : Value, RelV v u → NestedIs s.heap (nkD d) u
  | _, _, .non, u, r => by
    obtain rfl : u = Value.none := r
    simp only [nkD]
    exact .none
  | _, _, .bl b, u, r => by
    obtain rfl : u = Value.bool b := r
    simp only [nkD]
    exact .bool rfl
  | _, _, .int i, u, r => by
    obtain ⟨t, rfl⟩ := r
    simp only [nkD]
    exact .int i t
  | _, _, .str x, u, r => by
    obtain ⟨t, rfl⟩ := r
    simp only [nkD]
    exact .text x t
  | _, _, .tup (a := a) h hs, u, r => by
    obtain rfl : u = Value.ref a := r
    simp only [nkD]
    obtain ⟨its, rv, ⟨o, ho, hc, n, hd⟩, _⟩ := I.tuple h
    exact .tup ho hc hd (nesteds_of I hs its rv)
theorem nesteds_of (I : Inv X pins σ H s) : ∀ {vs : List V} {ds : List PyData}, ImAll X.K H vs ds → ∀ us : List Value, Vals vs us → NestedAll s.heap (nkDs ds) us
  | _, _, .nil, us, r => by
    cases r
    simp only [nkDs]
    exact .nil
  | _, _, .cons h hs, us, r => by
    cases r with
    | cons r rs =>
      simp only [nkDs]
      exact .cons (nested_of I h _ r) (nesteds_of I hs _ rs)
end
/-- a key, where its tuple stands, what stands at it -/
abbrev KdL := List (NestedKey × Addr × V)
def KdV (kvs : KdL) (xs : List (NestedKey × Addr × Value)) : Prop := Paired (fun (p : NestedKey × Addr × V) (q : NestedKey × Addr × Value) => p.1 = q.1 ∧ p.2.1 = q.2.1 ∧ RelV p.2.2 q.2.2) kvs xs
def kdF (kvs : KdL) (k : NestedKey) : Option V := (kvs.find? fun x => decide (x.1 = k)).map (·.2.2)
def KeyO (P : Program) (w : World) (q : Addr) (kvs : KdL) : HO := .ext fun h => (q == sysModules) = false ∧ ∃ xs o es ep, KdV kvs xs ∧ h.get? q = some o ∧ o.ExactDict ∧ o.data = .dict es ep ∧ es.toList = xs.map (entryOfKey (nestedKind P w)) ∧ (xs.map (·.1)).Nodup
/-- such a dict, or an empty one -/
def KdAt (P : Program) (w : World) (H : Hp) (q : Addr) (kvs : KdL) : Prop := H q = some (KeyO P w q kvs) ∨ (kvs = [] ∧ H q = some (.dK []))
/-- its keys stand -/
def KdOk (K : PySem.W.Frag) (H : Hp) (kvs : KdL) : Prop := ∀ x ∈ kvs, ∃ d, Im K H (.ref x.2.1) d ∧ nkD d = x.1 ∧ x.1.depth ≤ 8
theorem kdV_at : ∀ {kvs : KdL} {xs : List (NestedKey × Addr × Value)} {k : NestedKey}, KdV kvs xs → RelO (kdF kvs k) ((atKey xs k).map (·.2))
  | _, _, _, .nil => by unfold kdF atKey; exact True.intro
  | p :: kvs, q :: xs, k, .cons r rs => by
    have ih := kdV_at (k := k) rs
    obtain ⟨e1, e2, e3⟩ := r
    unfold kdF atKey at ih ⊢
    rw [List.find?_cons, List.find?_cons, e1]
    by_cases e : q.1 = k
    · rw [decide_eq_true e]
      exact e3
    · rw [decide_eq_false e]
      exact ih
theorem kdV_ok (I : Inv X pins σ H s) {kvs : KdL} {xs : List (NestedKey × Addr × Value)} (ok : KdOk X.K H kvs) (r : KdV kvs xs) : ∀ x ∈ xs, (nestedKind X.prog X.w).is s.heap x.1 x.2.1 := by
  unfold KdV at r
  induction r with
  | nil => intro x hx; cases hx
  | @cons p q ps qs hq t ih =>
    intro x hx
    rcases List.mem_cons.mp hx with e | hx
    · subst e
      obtain ⟨d, h1, h2, h3⟩ := ok p List.mem_cons_self
      refine ⟨?_, by rw [← hq.1]; exact h3⟩
      rw [← hq.1, ← hq.2.1, ← h2]
      exact nested_of I h1 _ rfl
    · exact ih (fun y hy => ok y (List.mem_cons_of_mem _ hy)) x hx
theorem kdAt_rd (I : Inv X pins σ H s) {q : Addr} {kvs : KdL} (h : KdAt X.prog X.w H q kvs) (ok : KdOk X.K H kvs) : (q == sysModules) = false ∧ ∃ xs, KdV kvs xs ∧ s.heap.DictOfH (nestedKind X.prog X.w) q xs := by
  rcases h with e | ⟨rfl, e⟩
  · obtain ⟨⟨z, xs, o, es, ep, r, h1, h2, h3, h4, h5⟩, _, _⟩ := I.hok q _ e
    exact ⟨z, xs, r, o, es, ep, h1, h2, h3, h4, kdV_ok I ok r, h5⟩
  · obtain ⟨z, hd, vs, rel, o, es, ep, h1, h2, h3, h4, h5⟩ := dk_of I.hok e
    refine ⟨hd, [], .nil, o, es, ep, h1, h2, h3, ?_, fun x hx => absurd hx (by simp), List.nodup_nil⟩
    have e1 : vs = [] := by
      have := rel.length
      exact List.length_eq_zero_iff.mp this.symm
    subst e1
    have hz : es.toList = [] := List.length_eq_zero_iff.mp h5.1.length
    rw [hz]
    rfl
theorem kdF_none {kvs : KdL} {xs : List (NestedKey × Addr × Value)} {k : NestedKey} (r : KdV kvs xs) (h : atKey xs k = none) : kdF kvs k = none := by
  have e := kdV_at (k := k) r
  rw [h] at e
  cases q : kdF kvs k with
  | none => rfl
  | some x =>
    rw [q] at e
    exact False.elim e
end
def tSetdK (K : PySem.W.Frag) (P : Program) (w : World) (td ty tx : TE) : TE := fun σ H Q => td σ H fun x H1 => ∃ (q : Addr) (kv0 : KdL), x = .ref q ∧ KdAt P w H1 q kv0 ∧ KdOk K H1 kv0 ∧ ty σ H1 fun y H2 => tx σ H2 fun z H3 => ∃ (kvs : KdL) (b : Addr) (d : PyData),
  KdAt P w H3 q kvs ∧ KdOk K H3 kvs ∧ y = .ref b ∧ Im K H3 (.ref b) d ∧ (nkD d).depth ≤ 8 ∧ kvs.length < 100000 ∧ (∀ v, kdF kvs (nkD d) = some v → Q v H3) ∧ (kdF kvs (nkD d) = none → Q z (upd H3 q (KeyO P w q (kvs ++ [(nkD d, b, z)]))))
section
variable {X : Cx} {o e f : Expr} {apos cpos : Pos} {td ty tx : TE}
theorem pe_setdK (hu : X.A.units + 66 < cLine) (ho : PE X o td) (he : PE X e ty) (hf : PE X f tx) (m : M2 X o "setdefault" apos e f cpos) : PE X (.Call (.Attribute o "setdefault" apos) [e, f] [] cpos) (tSetdK X.K X.prog X.w td ty tx) := by
  refine ⟨fun pins s σ H Q I h => ?_⟩
  refine wpAny_Call_method m.base m.few m.line PySem.F.plainAttrs_dict PySem.F.slot_dict_setdefault PySem.F.type_dict_setdefault (thn (ho.run pins s σ H _ I h) fun u s1 ⟨x, H1, I1, rx, q, kv0, ex, d0, ok0, q1⟩ => ?_)
  subst ex
  obtain rfl : u = Value.ref q := rx
  obtain ⟨hd0, xs0, _, dd0⟩ := kdAt_rd I1 d0 ok0
  refine ⟨dd0.typeIs, fun b z => ?_, ?_⟩
  · cases z
    obtain ⟨ob, _, _, h1, h2, _⟩ := dd0
    exact ⟨ob, h1, h2.2.1⟩
  rw [m.trees]
  refine Calls.callWith_builtin rfl (Calls.evalArgs_plain (Calls.spliced_cons (thn (he.run pins s1 σ H1 _ I1 q1) fun iv s2 ⟨y, H2, I2, ry, q2⟩ => Calls.spliced_cons (thn (hf.run pins s2 σ H2 _ I2 q2) fun jv s3 ⟨z, H3, I3, rz, q3⟩ => Calls.spliced_nil ?_))))
  obtain ⟨kvs, b, d, da, ok, ey, hi, dp, hl, w1, w2⟩ := q3
  subst ey
  obtain rfl : iv = Value.ref b := ry
  obtain ⟨hd, xs, rel, dd⟩ := kdAt_rd I3 da ok
  have hl2 : xs.length = kvs.length := (Paired.length rel).symm
  have hsz : xs.length ≤ sizeLine := by rw [hl2, sizeLine_eq]; omega
  refine call_setdefault_heap (knd := nestedKind X.prog X.w) (hsz := hsz) (show X.A.in1.units + 8 < cLine by rw [Around.in1_units]; omega) ⟨nested_of I3 hi _ rfl, dp⟩ hd dd (fun p hp => ?_) fun hn h' dd' hs => ?_
  · have e := kdV_at (k := nkD d) rel
    rw [hp] at e
    cases hv : kdF kvs (nkD d) with
    | none => rw [hv] at e; exact False.elim e
    | some v0 =>
      rw [hv] at e
      exact ⟨v0, H3, I3.tok _, e, w1 v0 hv⟩
  · obtain ⟨o', es, ep, h1, h2, h3, h4, h5, h6⟩ := dd'
    rw [storedH_new hn] at h4 h6
    have mu : Mut (H3 q) := by
      rcases da with e | ⟨_, e⟩ <;> rw [e] <;> exact True.intro
    exact ⟨z, _, I3.write (o := KeyO X.prog X.w q (kvs ++ [(nkD d, b, z)])) mu (.inl rfl) (fun b' u hb hu => (hs.2 b' hb).trans hu) ⟨_, h1⟩
      ⟨⟨hd, xs ++ [(nkD d, b, jv)], o', es, ep, Paired.snoc rel ⟨rfl, rfl, rz⟩, h1, h2, h3, h4, h6⟩, ⟨_, h1⟩, fun a1 a2 ⟨z1, ys, o1, e1, p1, r1, g1, g2, g3, g4, g5⟩ k => ⟨z1, ys, o1, e1, p1, r1, k _ g1, g2, g3, g4, g5⟩⟩, rz, w2 (kdF_none rel hn)⟩
theorem kSetK (K : PySem.W.Frag) (P : Program) (w : World) (hK : X.K = K) (hP : X.prog = P) (hw : X.w = w) (h : PE X e (tSetdK X.K X.prog X.w td ty tx)) : PE X e (tSetdK K P w td ty tx) := by
  subst hK hP hw
  exact h
/-- a loop over a range that goes by steps, told of the heap itself -/
theorem for_itc {lo c : Int} {n : Nat} {g : TG} {tb : TS} {D : Ends} {σ : L2.St} {H : Hp} (Iv : Nat → L2.St → Hp → Prop) (h0 : Iv 0 σ H)
    (hs : ∀ i σ H, i < n → Iv i σ H → g (.int (lo + (i : Nat) * c)) σ H fun σ2 H2 => tb { D with nx := Iv (i + 1), ct := Iv (i + 1), bk := D.nx } σ2 H2) (hd : ∀ σ H, Iv n σ H → D.nx σ H) :
    ∃ W : Nat → Nat → L2.St → Hp → Prop, (∃ m, W 0 m σ H) ∧ ∀ i m σ H, W i m σ H →
      ((Itc lo c n).stop i H ∧ D.nx σ H) ∨ ((Itc lo c n).go i H ∧ ∃ N : L2.St → Hp → Prop, (∀ σ' H', N σ' H' → ∃ m', m' < m ∧ W (i + 1) m' σ' H') ∧ ∀ x H', (Itc lo c n).yld i H x H' → g x σ H' fun σ2 H2 => tb { D with nx := N, ct := N, bk := D.nx } σ2 H2) := by
  refine ⟨fun i m σ H => m = n - i ∧ i ≤ n ∧ Iv i σ H, ⟨n, by simp, Nat.zero_le _, h0⟩, ?_⟩
  rintro i m σ H ⟨rfl, hi, iv⟩
  by_cases hlt : i < n
  · refine .inr ⟨hlt, Iv (i + 1), fun σ' H' p => ⟨n - (i + 1), by omega, rfl, hlt, p⟩, fun x H' y => ?_⟩
    obtain ⟨rfl, rfl⟩ := y
    exact hs i σ _ hlt iv
  · have e : i = n := by omega
    subst e
    exact .inl ⟨Nat.le_refl _, hd σ H iv⟩
end
end Ls
namespace Ls
open PySem PySem.Spec PyProof.Rows L2
end Ls
namespace Lw
open PySem PySem.Spec PyProof.Rows L2 Ls
structure Env (K : PySem.W.Frag) (mg : Str → Option Value) (w : World) where
  C_Kind : Addr
  g_Kind : mg "Kind" = some (.ref C_Kind)
  cl_Kind : Cls K C_Kind
  na_Kind_name : NoAttr K C_Kind "name"
  na_Kind_fields : NoAttr K C_Kind "fields"
  a_law : Addr
  fd_law : FuncData
  F_law : FunD K "law" "law" (defArgs s_law) (defBody s_law) (defScope s_law) [] [] a_law fd_law
  g_law : mg "law" = some (.ref a_law)
  a__law_begin : Addr
  fd__law_begin : FuncData
  F__law_begin : FunD K "_law_begin" "_law_begin" (defArgs s__law_begin) (defBody s__law_begin) (defScope s__law_begin) [] [] a__law_begin fd__law_begin
  g__law_begin : mg "_law_begin" = some (.ref a__law_begin)
  a__law_same : Addr
  fd__law_same : FuncData
  F__law_same : FunD K "_law_same" "_law_same" (defArgs s__law_same) (defBody s__law_same) (defScope s__law_same) [] [] a__law_same fd__law_same
  g__law_same : mg "_law_same" = some (.ref a__law_same)
  a__law_kind_of : Addr
  fd__law_kind_of : FuncData
  F__law_kind_of : FunD K "_law_kind_of" "_law_kind_of" (defArgs s__law_kind_of) (defBody s__law_kind_of) (defScope s__law_kind_of) [] [] a__law_kind_of fd__law_kind_of
  g__law_kind_of : mg "_law_kind_of" = some (.ref a__law_kind_of)
  a__law_some_way : Addr
  fd__law_some_way : FuncData
  F__law_some_way : FunD K "_law_some_way" "_law_some_way" (defArgs s__law_some_way) (defBody s__law_some_way) (defScope s__law_some_way) [] [] a__law_some_way fd__law_some_way
  g__law_some_way : mg "_law_some_way" = some (.ref a__law_some_way)
  a__law_kept_way : Addr
  fd__law_kept_way : FuncData
  F__law_kept_way : FunD K "_law_kept_way" "_law_kept_way" (defArgs s__law_kept_way) (defBody s__law_kept_way) (defScope s__law_kept_way) [] [] a__law_kept_way fd__law_kept_way
  g__law_kept_way : mg "_law_kept_way" = some (.ref a__law_kept_way)
  a__law_way_ok : Addr
  fd__law_way_ok : FuncData
  F__law_way_ok : FunD K "_law_way_ok" "_law_way_ok" (defArgs s__law_way_ok) (defBody s__law_way_ok) (defScope s__law_way_ok) [] [] a__law_way_ok fd__law_way_ok
  g__law_way_ok : mg "_law_way_ok" = some (.ref a__law_way_ok)
  a__law_values : Addr
  fd__law_values : FuncData
  F__law_values : FunD K "_law_values" "_law_values" (defArgs s__law_values) (defBody s__law_values) (defScope s__law_values) [] [] a__law_values fd__law_values
  g__law_values : mg "_law_values" = some (.ref a__law_values)
  do_Kind___init___0 : Addr
  a_Kind___init__ : Addr
  fd_Kind___init__ : FuncData
  F_Kind___init__ : FunD K "__init__" "Kind.__init__" (defArgs s_Kind___init__) (defBody s_Kind___init__) (defScope s_Kind___init__) [.ref do_Kind___init___0] [] a_Kind___init__ fd_Kind___init__
  mk_Kind : Mk K C_Kind a_Kind___init__
  a__law_pick : Addr
  fd__law_pick : FuncData
  F__law_pick : FunD K "_law_pick" "_law_pick" (defArgs s__law_pick) (defBody s__law_pick) (defScope s__law_pick) [] [] a__law_pick fd__law_pick
  g__law_pick : mg "_law_pick" = some (.ref a__law_pick)
  a__law_bent_way : Addr
  fd__law_bent_way : FuncData
  F__law_bent_way : FunD K "_law_bent_way" "_law_bent_way" (defArgs s__law_bent_way) (defBody s__law_bent_way) (defScope s__law_bent_way) [] [] a__law_bent_way fd__law_bent_way
  g__law_bent_way : mg "_law_bent_way" = some (.ref a__law_bent_way)
  a__law_bent_values : Addr
  fd__law_bent_values : FuncData
  F__law_bent_values : FunD K "_law_bent_values" "_law_bent_values" (defArgs s__law_bent_values) (defBody s__law_bent_values) (defScope s__law_bent_values) [] [] a__law_bent_values fd__law_bent_values
  g__law_bent_values : mg "_law_bent_values" = some (.ref a__law_bent_values)
  a__law_values_word : Addr
  fd__law_values_word : FuncData
  F__law_values_word : FunD K "_law_values_word" "_law_values_word" (defArgs s__law_values_word) (defBody s__law_values_word) (defScope s__law_values_word) [] [] a__law_values_word fd__law_values_word
  g__law_values_word : mg "_law_values_word" = some (.ref a__law_values_word)
  a__law_walked : Addr
  fd__law_walked : FuncData
  F__law_walked : FunD K "_law_walked" "_law_walked" (defArgs s__law_walked) (defBody s__law_walked) (defScope s__law_walked) [] [] a__law_walked fd__law_walked
  g__law_walked : mg "_law_walked" = some (.ref a__law_walked)
  a_is_way : Addr
  fd_is_way : FuncData
  F_is_way : FunD K "is_way" "is_way" (defArgs s_is_way) (defBody s_is_way) (defScope s_is_way) [] [] a_is_way fd_is_way
  g_is_way : mg "is_way" = some (.ref a_is_way)
  a__law_ask : Addr
  fd__law_ask : FuncData
  F__law_ask : FunD K "_law_ask" "_law_ask" (defArgs s__law_ask) (defBody s__law_ask) (defScope s__law_ask) [] [] a__law_ask fd__law_ask
  g__law_ask : mg "_law_ask" = some (.ref a__law_ask)
  a_run : Addr
  fd_run : FuncData
  F_run : FunD K "run" "run" (defArgs s_run) (defBody s_run) (defScope s_run) [] [] a_run fd_run
  g_run : mg "run" = some (.ref a_run)
  a_steps : Addr
  fd_steps : FuncData
  F_steps : FunD K "steps" "steps" (defArgs s_steps) (defBody s_steps) (defScope s_steps) [] [] a_steps fd_steps
  g_steps : mg "steps" = some (.ref a_steps)
  a_shorter : Addr
  fd_shorter : FuncData
  F_shorter : FunD K "shorter" "shorter" (defArgs s_shorter) (defBody s_shorter) (defScope s_shorter) [] [] a_shorter fd_shorter
  g_shorter : mg "shorter" = some (.ref a_shorter)
  a__law_fields : Addr
  fd__law_fields : FuncData
  F__law_fields : FunD K "_law_fields" "_law_fields" (defArgs s__law_fields) (defBody s__law_fields) (defScope s__law_fields) [] [] a__law_fields fd__law_fields
  g__law_fields : mg "_law_fields" = some (.ref a__law_fields)
  a__law_word : Addr
  fd__law_word : FuncData
  F__law_word : FunD K "_law_word" "_law_word" (defArgs s__law_word) (defBody s__law_word) (defScope s__law_word) [] [] a__law_word fd__law_word
  g__law_word : mg "_law_word" = some (.ref a__law_word)
  a__law_names_of : Addr
  fd__law_names_of : FuncData
  F__law_names_of : FunD K "_law_names_of" "_law_names_of" (defArgs s__law_names_of) (defBody s__law_names_of) (defScope s__law_names_of) [] [] a__law_names_of fd__law_names_of
  g__law_names_of : mg "_law_names_of" = some (.ref a__law_names_of)
  a__law_test : Addr
  fd__law_test : FuncData
  F__law_test : FunD K "_law_test" "_law_test" (defArgs s__law_test) (defBody s__law_test) (defScope s__law_test) [] [] a__law_test fd__law_test
  g__law_test : mg "_law_test" = some (.ref a__law_test)
  a_made : Addr
  fd_made : FuncData
  F_made : FunD K "made" "made" (defArgs s_made) (defBody s_made) (defScope s_made) [] [] a_made fd_made
  g_made : mg "made" = some (.ref a_made)
  a__law_ended : Addr
  fd__law_ended : FuncData
  F__law_ended : FunD K "_law_ended" "_law_ended" (defArgs s__law_ended) (defBody s__law_ended) (defScope s__law_ended) [] [] a__law_ended fd__law_ended
  g__law_ended : mg "_law_ended" = some (.ref a__law_ended)
  a__law_test_ok : Addr
  fd__law_test_ok : FuncData
  F__law_test_ok : FunD K "_law_test_ok" "_law_test_ok" (defArgs s__law_test_ok) (defBody s__law_test_ok) (defScope s__law_test_ok) [] [] a__law_test_ok fd__law_test_ok
  g__law_test_ok : mg "_law_test_ok" = some (.ref a__law_test_ok)
  a__law_value : Addr
  fd__law_value : FuncData
  F__law_value : FunD K "_law_value" "_law_value" (defArgs s__law_value) (defBody s__law_value) (defScope s__law_value) [] [] a__law_value fd__law_value
  g__law_value : mg "_law_value" = some (.ref a__law_value)
  a_is_name : Addr
  fd_is_name : FuncData
  F_is_name : FunD K "is_name" "is_name" (defArgs s_is_name) (defBody s_is_name) (defScope s_is_name) [] [] a_is_name fd_is_name
  g_is_name : mg "is_name" = some (.ref a_is_name)
  a_look_field : Addr
  fd_look_field : FuncData
  F_look_field : FunD K "look_field" "look_field" (defArgs s_look_field) (defBody s_look_field) (defScope s_look_field) [] [] a_look_field fd_look_field
  g_look_field : mg "look_field" = some (.ref a_look_field)
  a__law_of : Addr
  fd__law_of : FuncData
  F__law_of : FunD K "_law_of" "_law_of" (defArgs s__law_of) (defBody s__law_of) (defScope s__law_of) [] [] a__law_of fd__law_of
  g__law_of : mg "_law_of" = some (.ref a__law_of)
  a__law_far : Addr
  fd__law_far : FuncData
  F__law_far : FunD K "_law_far" "_law_far" (defArgs s__law_far) (defBody s__law_far) (defScope s__law_far) [] [] a__law_far fd__law_far
  g__law_far : mg "_law_far" = some (.ref a__law_far)
  a__law_bent_test : Addr
  fd__law_bent_test : FuncData
  F__law_bent_test : FunD K "_law_bent_test" "_law_bent_test" (defArgs s__law_bent_test) (defBody s__law_bent_test) (defScope s__law_bent_test) [] [] a__law_bent_test fd__law_bent_test
  g__law_bent_test : mg "_law_bent_test" = some (.ref a__law_bent_test)
  a__law_passes : Addr
  fd__law_passes : FuncData
  F__law_passes : FunD K "_law_passes" "_law_passes" (defArgs s__law_passes) (defBody s__law_passes) (defScope s__law_passes) [] [] a__law_passes fd__law_passes
  g__law_passes : mg "_law_passes" = some (.ref a__law_passes)
  a_is_end : Addr
  fd_is_end : FuncData
  F_is_end : FunD K "is_end" "is_end" (defArgs s_is_end) (defBody s_is_end) (defScope s_is_end) [] [] a_is_end fd_is_end
  g_is_end : mg "is_end" = some (.ref a_is_end)
  a_row_fits : Addr
  fd_row_fits : FuncData
  F_row_fits : FunD K "row_fits" "row_fits" (defArgs s_row_fits) (defBody s_row_fits) (defScope s_row_fits) [] [] a_row_fits fd_row_fits
  g_row_fits : mg "row_fits" = some (.ref a_row_fits)
  a_look_way : Addr
  fd_look_way : FuncData
  F_look_way : FunD K "look_way" "look_way" (defArgs s_look_way) (defBody s_look_way) (defScope s_look_way) [] [] a_look_way fd_look_way
  g_look_way : mg "look_way" = some (.ref a_look_way)
  a_Kind_need : Addr
  fd_Kind_need : FuncData
  F_Kind_need : FunD K "need" "Kind.need" (defArgs s_Kind_need) (defBody s_Kind_need) (defScope s_Kind_need) [] [] a_Kind_need fd_Kind_need
  m_Kind_need : Meth K C_Kind "need" a_Kind_need
  a_walked : Addr
  fd_walked : FuncData
  F_walked : FunD K "walked" "walked" (defArgs s_walked) (defBody s_walked) (defScope s_walked) [] [] a_walked fd_walked
  g_walked : mg "walked" = some (.ref a_walked)
  a_joined : Addr
  fd_joined : FuncData
  F_joined : FunD K "joined" "joined" (defArgs s_joined) (defBody s_joined) (defScope s_joined) [] [] a_joined fd_joined
  g_joined : mg "joined" = some (.ref a_joined)
  a_led : Addr
  fd_led : FuncData
  F_led : FunD K "led" "led" (defArgs s_led) (defBody s_led) (defScope s_led) [] [] a_led fd_led
  g_led : mg "led" = some (.ref a_led)
  a_reached : Addr
  fd_reached : FuncData
  F_reached : FunD K "reached" "reached" (defArgs s_reached) (defBody s_reached) (defScope s_reached) [] [] a_reached fd_reached
  g_reached : mg "reached" = some (.ref a_reached)
  a__law_words : Addr
  fd__law_words : FuncData
  F__law_words : FunD K "_law_words" "_law_words" (defArgs s__law_words) (defBody s__law_words) (defScope s__law_words) [] [] a__law_words fd__law_words
  g__law_words : mg "_law_words" = some (.ref a__law_words)
  a__law_bound : Addr
  fd__law_bound : FuncData
  F__law_bound : FunD K "_law_bound" "_law_bound" (defArgs s__law_bound) (defBody s__law_bound) (defScope s__law_bound) [] [] a__law_bound fd__law_bound
  g__law_bound : mg "_law_bound" = some (.ref a__law_bound)
  a__law_tree : Addr
  fd__law_tree : FuncData
  F__law_tree : FunD K "_law_tree" "_law_tree" (defArgs s__law_tree) (defBody s__law_tree) (defScope s__law_tree) [] [] a__law_tree fd__law_tree
  g__law_tree : mg "_law_tree" = some (.ref a__law_tree)
  a__law_parts : Addr
  fd__law_parts : FuncData
  F__law_parts : FunD K "_law_parts" "_law_parts" (defArgs s__law_parts) (defBody s__law_parts) (defScope s__law_parts) [] [] a__law_parts fd__law_parts
  g__law_parts : mg "_law_parts" = some (.ref a__law_parts)
  a__law_leaf : Addr
  fd__law_leaf : FuncData
  F__law_leaf : FunD K "_law_leaf" "_law_leaf" (defArgs s__law_leaf) (defBody s__law_leaf) (defScope s__law_leaf) [] [] a__law_leaf fd__law_leaf
  g__law_leaf : mg "_law_leaf" = some (.ref a__law_leaf)
  a_look_test : Addr
  fd_look_test : FuncData
  F_look_test : FunD K "look_test" "look_test" (defArgs s_look_test) (defBody s_look_test) (defScope s_look_test) [] [] a_look_test fd_look_test
  g_look_test : mg "look_test" = some (.ref a_look_test)
  a_put_rows : Addr
  fd_put_rows : FuncData
  F_put_rows : FunD K "put_rows" "put_rows" (defArgs s_put_rows) (defBody s_put_rows) (defScope s_put_rows) [] [] a_put_rows fd_put_rows
  g_put_rows : mg "put_rows" = some (.ref a_put_rows)
  a_turned : Addr
  fd_turned : FuncData
  F_turned : FunD K "turned" "turned" (defArgs s_turned) (defBody s_turned) (defScope s_turned) [] [] a_turned fd_turned
  g_turned : mg "turned" = some (.ref a_turned)
  a__law_shape_ok : Addr
  fd__law_shape_ok : FuncData
  F__law_shape_ok : FunD K "_law_shape_ok" "_law_shape_ok" (defArgs s__law_shape_ok) (defBody s__law_shape_ok) (defScope s__law_shape_ok) [] [] a__law_shape_ok fd__law_shape_ok
  g__law_shape_ok : mg "_law_shape_ok" = some (.ref a__law_shape_ok)
  a__law_deep : Addr
  fd__law_deep : FuncData
  F__law_deep : FunD K "_law_deep" "_law_deep" (defArgs s__law_deep) (defBody s__law_deep) (defScope s__law_deep) [] [] a__law_deep fd__law_deep
  g__law_deep : mg "_law_deep" = some (.ref a__law_deep)
  a__law_odd_name : Addr
  fd__law_odd_name : FuncData
  F__law_odd_name : FunD K "_law_odd_name" "_law_odd_name" (defArgs s__law_odd_name) (defBody s__law_odd_name) (defScope s__law_odd_name) [] [] a__law_odd_name fd__law_odd_name
  g__law_odd_name : mg "_law_odd_name" = some (.ref a__law_odd_name)
  a_is_test : Addr
  fd_is_test : FuncData
  F_is_test : FunD K "is_test" "is_test" (defArgs s_is_test) (defBody s_is_test) (defScope s_is_test) [] [] a_is_test fd_is_test
  g_is_test : mg "is_test" = some (.ref a_is_test)
  a_leaves_in : Addr
  fd_leaves_in : FuncData
  F_leaves_in : FunD K "leaves_in" "leaves_in" (defArgs s_leaves_in) (defBody s_leaves_in) (defScope s_leaves_in) [] [] a_leaves_in fd_leaves_in
  g_leaves_in : mg "leaves_in" = some (.ref a_leaves_in)
  a_leaf_holds : Addr
  fd_leaf_holds : FuncData
  F_leaf_holds : FunD K "leaf_holds" "leaf_holds" (defArgs s_leaf_holds) (defBody s_leaf_holds) (defScope s_leaf_holds) [] [] a_leaf_holds fd_leaf_holds
  g_leaf_holds : mg "leaf_holds" = some (.ref a_leaf_holds)
  a__law_number : Addr
  fd__law_number : FuncData
  F__law_number : FunD K "_law_number" "_law_number" (defArgs s__law_number) (defBody s__law_number) (defScope s__law_number) [] [] a__law_number fd__law_number
  g__law_number : mg "_law_number" = some (.ref a__law_number)
  a__law_leaf_ok : Addr
  fd__law_leaf_ok : FuncData
  F__law_leaf_ok : FunD K "_law_leaf_ok" "_law_leaf_ok" (defArgs s__law_leaf_ok) (defBody s__law_leaf_ok) (defScope s__law_leaf_ok) [] [] a__law_leaf_ok fd__law_leaf_ok
  g__law_leaf_ok : mg "_law_leaf_ok" = some (.ref a__law_leaf_ok)
  a_parts_of : Addr
  fd_parts_of : FuncData
  F_parts_of : FunD K "parts_of" "parts_of" (defArgs s_parts_of) (defBody s_parts_of) (defScope s_parts_of) [] [] a_parts_of fd_parts_of
  g_parts_of : mg "parts_of" = some (.ref a_parts_of)
  a_Kind_place_of : Addr
  fd_Kind_place_of : FuncData
  F_Kind_place_of : FunD K "place_of" "Kind.place_of" (defArgs s_Kind_place_of) (defBody s_Kind_place_of) (defScope s_Kind_place_of) [] [] a_Kind_place_of fd_Kind_place_of
  m_Kind_place_of : Meth K C_Kind "place_of" a_Kind_place_of
  a__law_is_name : Addr
  fd__law_is_name : FuncData
  F__law_is_name : FunD K "_law_is_name" "_law_is_name" (defArgs s__law_is_name) (defBody s__law_is_name) (defScope s__law_is_name) [] [] a__law_is_name fd__law_is_name
  g__law_is_name : mg "_law_is_name" = some (.ref a__law_is_name)
  a_is_leaf : Addr
  fd_is_leaf : FuncData
  F_is_leaf : FunD K "is_leaf" "is_leaf" (defArgs s_is_leaf) (defBody s_is_leaf) (defScope s_is_leaf) [] [] a_is_leaf fd_is_leaf
  g_is_leaf : mg "is_leaf" = some (.ref a_is_leaf)
  fi_ScribeError : Addr
  fdi_ScribeError : FuncData
  FI_ScribeError : FunD K "__init__" "ScribeError.__init__" (defArgs s_ScribeError___init__) (defBody s_ScribeError___init__) (defScope s_ScribeError___init__) [] [] fi_ScribeError fdi_ScribeError
  fi_BadTest : Addr
  fdi_BadTest : FuncData
  FI_BadTest : FunD K "__init__" "BadTest.__init__" (defArgs s_BadTest___init__) (defBody s_BadTest___init__) (defScope s_BadTest___init__) [] [] fi_BadTest fdi_BadTest
  fi_BadWay : Addr
  fdi_BadWay : FuncData
  FI_BadWay : FunD K "__init__" "BadWay.__init__" (defArgs s_BadWay___init__) (defBody s_BadWay___init__) (defScope s_BadWay___init__) [] [] fi_BadWay fdi_BadWay
  fi_BadValue : Addr
  fdi_BadValue : FuncData
  FI_BadValue : FunD K "__init__" "BadValue.__init__" (defArgs s_BadValue___init__) (defBody s_BadValue___init__) (defScope s_BadValue___init__) [] [] fi_BadValue fdi_BadValue
  C_ScribeError : Addr
  g_ScribeError : mg "ScribeError" = some (.ref C_ScribeError)
  C_BadTest : Addr
  g_BadTest : mg "BadTest" = some (.ref C_BadTest)
  C_BadWay : Addr
  g_BadWay : mg "BadWay" = some (.ref C_BadWay)
  C_BadValue : Addr
  g_BadValue : mg "BadValue" = some (.ref C_BadValue)
  C_Missing : Addr
  g_Missing : mg "Missing" = some (.ref C_Missing)
  r_ScribeError : ClX.CRead K C_ScribeError (.type "type")
  v_ScribeError : ClX.CVal K C_ScribeError (.type "type") "__init__" (.ref fi_ScribeError) (.ref fi_ScribeError)
  o_BadTest : OexC K C_BadTest
  i_BadTest : PySem.W.findIn K (.ref C_BadTest) "__init__" = some (some (.ref fi_BadTest))
  t_BadTest : PySem.W.typeIn K (.ref fi_BadTest) = some (.type "function")
  w_BadTest : PySem.W.findIn K (.ref C_BadTest) "word" = some none
  x_BadTest : XfC K C_BadTest
  e_BadTest_BadValue : PySem.W.exmOne K (.ref C_BadTest) (.ref C_BadValue) = some false
  e_BadTest_ScribeError : PySem.W.exmOne K (.ref C_BadTest) (.ref C_ScribeError) = some true
  e_BadTest_Missing : PySem.W.exmOne K (.ref C_BadTest) (.ref C_Missing) = some false
  o_BadWay : OexC K C_BadWay
  i_BadWay : PySem.W.findIn K (.ref C_BadWay) "__init__" = some (some (.ref fi_BadWay))
  t_BadWay : PySem.W.typeIn K (.ref fi_BadWay) = some (.type "function")
  w_BadWay : PySem.W.findIn K (.ref C_BadWay) "word" = some none
  x_BadWay : XfC K C_BadWay
  e_BadWay_BadValue : PySem.W.exmOne K (.ref C_BadWay) (.ref C_BadValue) = some false
  e_BadWay_ScribeError : PySem.W.exmOne K (.ref C_BadWay) (.ref C_ScribeError) = some true
  e_BadWay_Missing : PySem.W.exmOne K (.ref C_BadWay) (.ref C_Missing) = some false
  o_BadValue : OexC K C_BadValue
  i_BadValue : PySem.W.findIn K (.ref C_BadValue) "__init__" = some (some (.ref fi_BadValue))
  t_BadValue : PySem.W.typeIn K (.ref fi_BadValue) = some (.type "function")
  w_BadValue : PySem.W.findIn K (.ref C_BadValue) "word" = some none
  x_BadValue : XfC K C_BadValue
  f_BadValue : PySem.W.findIn K (.ref C_BadValue) "at" = some none
  e_BadValue_BadValue : PySem.W.exmOne K (.ref C_BadValue) (.ref C_BadValue) = some true
  e_BadValue_ScribeError : PySem.W.exmOne K (.ref C_BadValue) (.ref C_ScribeError) = some true
  e_BadValue_Missing : PySem.W.exmOne K (.ref C_BadValue) (.ref C_Missing) = some false
  vei : PySem.W.findCls K (.type "ValueError") (.type "type") "__init__" = some (.val (.builtin "ValueError.__init__"))
  n_ValueError : mg "ValueError" = none
  n_range : mg "range" = none
  n_list : mg "list" = none
  n_isinstance : mg "isinstance" = none
  n_bool : mg "bool" = none
  n_int : mg "int" = none
  n_str : mg "str" = none
  n_all : mg "all" = none
  n_tuple : mg "tuple" = none
  n_len : mg "len" = none
  n_enumerate : mg "enumerate" = none
  n_min : mg "min" = none
  n_any : mg "any" = none
  n_zip : mg "zip" = none
  n_reversed : mg "reversed" = none
  n_sorted : mg "sorted" = none
  n_sum : mg "sum" = none
  n_max : mg "max" = none
  c_MOST_FIELDS : ∃ u, mg "MOST_FIELDS" = some u ∧ RelV (.int 4) u
  c_LONGEST : ∃ u, mg "LONGEST" = some u ∧ RelV (.int 8) u
  c_LETTERS : ∃ u, mg "LETTERS" = some u ∧ RelV (.str "abcdefghijklmnopqrstuvwxyz") u
  c_LIMIT : ∃ u, mg "LIMIT" = some u ∧ RelV (.int 999999) u
  c_MOST_PARTS : ∃ u, mg "MOST_PARTS" = some u ∧ RelV (.int 15) u
  c_DEEPEST : ∃ u, mg "DEEPEST" = some u ∧ RelV (.int 5) u
  D_WITHIN : Addr
  g_WITHIN : mg "WITHIN" = some (.ref D_WITHIN)
  t_WITHIN : TabK K w D_WITHIN [("not", .int 1), ("and", .int 2), ("or", .int 2)]
section
variable {K : PySem.W.Frag} {mg : Str → Option Value} {w : World}
theorem bI_ScribeError (E : Env K mg w) : Binds K E.fdi_ScribeError ["self", "word"] [] := E.FI_ScribeError.bindsN fun _ _ _ _ _ _ us hl => match us, hl with | [_, _], _ => rfl
theorem bI_BadWay (E : Env K mg w) : Binds K E.fdi_BadWay ["self"] [] := E.FI_BadWay.bindsN fun _ _ _ _ _ _ us hl => match us, hl with | [_], _ => rfl
theorem bI_BadValue (E : Env K mg w) : Binds K E.fdi_BadValue ["self", "at"] [] := E.FI_BadValue.bindsN fun _ _ _ _ _ _ us hl => match us, hl with | [_, _], _ => rfl
theorem b__law_begin (E : Env K mg w) : Binds K E.fd__law_begin ["_law_script"] [] := E.F__law_begin.bindsN fun _ _ _ _ _ _ us hl => match us, hl with | [_], _ => rfl
theorem b__law_same (E : Env K mg w) : Binds K E.fd__law_same ["_law_found", "_law_due"] [] := E.F__law_same.bindsN fun _ _ _ _ _ _ us hl => match us, hl with | [_, _], _ => rfl
theorem b__law_kind_of (E : Env K mg w) : Binds K E.fd__law_kind_of ["_law_d"] [] := E.F__law_kind_of.bindsN fun _ _ _ _ _ _ us hl => match us, hl with | [_], _ => rfl
theorem b__law_some_way (E : Env K mg w) : Binds K E.fd__law_some_way ["_law_d", "_law_title", "_law_fields_here"] [] := E.F__law_some_way.bindsN fun _ _ _ _ _ _ us hl => match us, hl with | [_, _, _], _ => rfl
theorem b__law_kept_way (E : Env K mg w) : Binds K E.fd__law_kept_way ["_law_way"] [] := E.F__law_kept_way.bindsN fun _ _ _ _ _ _ us hl => match us, hl with | [_], _ => rfl
theorem b__law_way_ok (E : Env K mg w) : Binds K E.fd__law_way_ok ["_law_way"] [] := E.F__law_way_ok.bindsN fun _ _ _ _ _ _ us hl => match us, hl with | [_], _ => rfl
theorem b__law_values (E : Env K mg w) : Binds K E.fd__law_values ["_law_d", "_law_fields_here"] [] := E.F__law_values.bindsN fun _ _ _ _ _ _ us hl => match us, hl with | [_, _], _ => rfl
theorem b_Kind___init__ (E : Env K mg w) : Binds K E.fd_Kind___init__ ["self", "name", "fields"] [] := by
  obtain ⟨ds, v, b⟩ := E.F_Kind___init__.binds1 (ps := ["self", "name", "fields"]) 3 1 (by simp) (by rfl) fun _ _ _ _ _ _ _ us its h1 h2 => match us, its, h1, h2 with | [_, _, _], [_], _, _ => ⟨_, rfl, rfl⟩
  cases v
  exact b
theorem b__law_pick (E : Env K mg w) : Binds K E.fd__law_pick ["_law_d", "_law_many"] [] := E.F__law_pick.bindsN fun _ _ _ _ _ _ us hl => match us, hl with | [_, _], _ => rfl
theorem b__law_bent_way (E : Env K mg w) : Binds K E.fd__law_bent_way ["_law_d", "_law_way"] [] := E.F__law_bent_way.bindsN fun _ _ _ _ _ _ us hl => match us, hl with | [_, _], _ => rfl
theorem b__law_bent_values (E : Env K mg w) : Binds K E.fd__law_bent_values ["_law_d", "_law_fields_here", "_law_values_here"] [] := E.F__law_bent_values.bindsN fun _ _ _ _ _ _ us hl => match us, hl with | [_, _, _], _ => rfl
theorem b__law_values_word (E : Env K mg w) : Binds K E.fd__law_values_word ["_law_fields_here", "_law_values_here"] [] := E.F__law_values_word.bindsN fun _ _ _ _ _ _ us hl => match us, hl with | [_, _], _ => rfl
theorem b__law_walked (E : Env K mg w) : Binds K E.fd__law_walked ["_law_way", "_law_title", "_law_fields_here", "_law_values_here"] [] := E.F__law_walked.bindsN fun _ _ _ _ _ _ us hl => match us, hl with | [_, _, _, _], _ => rfl
theorem b_is_way (E : Env K mg w) : Binds K E.fd_is_way ["way"] [] := E.F_is_way.bindsN fun _ _ _ _ _ _ us hl => match us, hl with | [_], _ => rfl
theorem b__law_ask (E : Env K mg w) : Binds K E.fd__law_ask ["_law_ask_here"] [] := E.F__law_ask.bindsN fun _ _ _ _ _ _ us hl => match us, hl with | [_], _ => rfl
theorem b_run (E : Env K mg w) : Binds K E.fd_run ["way", "kind", "values"] [] := E.F_run.bindsN fun _ _ _ _ _ _ us hl => match us, hl with | [_, _, _], _ => rfl
theorem b_steps (E : Env K mg w) : Binds K E.fd_steps ["way", "kind", "values"] [] := E.F_steps.bindsN fun _ _ _ _ _ _ us hl => match us, hl with | [_, _, _], _ => rfl
theorem b_shorter (E : Env K mg w) : Binds K E.fd_shorter ["way"] [] := E.F_shorter.bindsN fun _ _ _ _ _ _ us hl => match us, hl with | [_], _ => rfl
theorem b__law_fields (E : Env K mg w) : Binds K E.fd__law_fields ["_law_d", "_law_many"] [] := E.F__law_fields.bindsN fun _ _ _ _ _ _ us hl => match us, hl with | [_, _], _ => rfl
theorem b__law_word (E : Env K mg w) : Binds K E.fd__law_word ["_law_d"] [] := E.F__law_word.bindsN fun _ _ _ _ _ _ us hl => match us, hl with | [_], _ => rfl
theorem b__law_names_of (E : Env K mg w) : Binds K E.fd__law_names_of ["_law_d", "_law_fields_here"] [] := E.F__law_names_of.bindsN fun _ _ _ _ _ _ us hl => match us, hl with | [_, _], _ => rfl
theorem b__law_test (E : Env K mg w) : Binds K E.fd__law_test ["_law_d", "_law_names", "_law_kinds"] [] := E.F__law_test.bindsN fun _ _ _ _ _ _ us hl => match us, hl with | [_, _, _], _ => rfl
theorem b_made (E : Env K mg w) : Binds K E.fd_made ["test"] [] := E.F_made.bindsN fun _ _ _ _ _ _ us hl => match us, hl with | [_], _ => rfl
theorem b__law_ended (E : Env K mg w) : Binds K E.fd__law_ended ["_law_jump"] [] := E.F__law_ended.bindsN fun _ _ _ _ _ _ us hl => match us, hl with | [_], _ => rfl
theorem b__law_test_ok (E : Env K mg w) : Binds K E.fd__law_test_ok ["_law_test_here"] [] := E.F__law_test_ok.bindsN fun _ _ _ _ _ _ us hl => match us, hl with | [_], _ => rfl
theorem b__law_value (E : Env K mg w) : Binds K E.fd__law_value ["_law_d", "_law_field"] [] := E.F__law_value.bindsN fun _ _ _ _ _ _ us hl => match us, hl with | [_, _], _ => rfl
theorem b_is_name (E : Env K mg w) : Binds K E.fd_is_name ["text"] [] := E.F_is_name.bindsN fun _ _ _ _ _ _ us hl => match us, hl with | [_], _ => rfl
theorem b_look_field (E : Env K mg w) : Binds K E.fd_look_field ["field", "names"] [] := E.F_look_field.bindsN fun _ _ _ _ _ _ us hl => match us, hl with | [_, _], _ => rfl
theorem b__law_of (E : Env K mg w) : Binds K E.fd__law_of ["_law_d", "_law_things"] [] := E.F__law_of.bindsN fun _ _ _ _ _ _ us hl => match us, hl with | [_, _], _ => rfl
theorem b__law_far (E : Env K mg w) : Binds K E.fd__law_far ["_law_d"] [] := E.F__law_far.bindsN fun _ _ _ _ _ _ us hl => match us, hl with | [_], _ => rfl
theorem b__law_bent_test (E : Env K mg w) : Binds K E.fd__law_bent_test ["_law_d", "_law_test_here"] [] := E.F__law_bent_test.bindsN fun _ _ _ _ _ _ us hl => match us, hl with | [_, _], _ => rfl
theorem b__law_passes (E : Env K mg w) : Binds K E.fd__law_passes ["_law_test_here", "_law_title", "_law_fields_here", "_law_values_here"] [] := E.F__law_passes.bindsN fun _ _ _ _ _ _ us hl => match us, hl with | [_, _, _, _], _ => rfl
theorem b_is_end (E : Env K mg w) : Binds K E.fd_is_end ["jump"] [] := E.F_is_end.bindsN fun _ _ _ _ _ _ us hl => match us, hl with | [_], _ => rfl
theorem b_row_fits (E : Env K mg w) : Binds K E.fd_row_fits ["row", "at", "many"] [] := E.F_row_fits.bindsN fun _ _ _ _ _ _ us hl => match us, hl with | [_, _, _], _ => rfl
theorem b_look_way (E : Env K mg w) : Binds K E.fd_look_way ["way"] [] := E.F_look_way.bindsN fun _ _ _ _ _ _ us hl => match us, hl with | [_], _ => rfl
theorem b_Kind_need (E : Env K mg w) : Binds K E.fd_Kind_need ["self", "values"] [] := E.F_Kind_need.bindsN fun _ _ _ _ _ _ us hl => match us, hl with | [_, _], _ => rfl
theorem b_walked (E : Env K mg w) : Binds K E.fd_walked ["way", "kind", "values"] [] := E.F_walked.bindsN fun _ _ _ _ _ _ us hl => match us, hl with | [_, _, _], _ => rfl
theorem b_joined (E : Env K mg w) : Binds K E.fd_joined ["rows"] [] := E.F_joined.bindsN fun _ _ _ _ _ _ us hl => match us, hl with | [_], _ => rfl
theorem b_led (E : Env K mg w) : Binds K E.fd_led ["jump", "heads"] [] := E.F_led.bindsN fun _ _ _ _ _ _ us hl => match us, hl with | [_, _], _ => rfl
theorem b_reached (E : Env K mg w) : Binds K E.fd_reached ["start", "rows", "heads"] [] := E.F_reached.bindsN fun _ _ _ _ _ _ us hl => match us, hl with | [_, _, _], _ => rfl
theorem b__law_words (E : Env K mg w) : Binds K E.fd__law_words ["_law_d", "_law_many"] [] := E.F__law_words.bindsN fun _ _ _ _ _ _ us hl => match us, hl with | [_, _], _ => rfl
theorem b__law_bound (E : Env K mg w) : Binds K E.fd__law_bound ["_law_d"] [] := E.F__law_bound.bindsN fun _ _ _ _ _ _ us hl => match us, hl with | [_], _ => rfl
theorem b__law_tree (E : Env K mg w) : Binds K E.fd__law_tree ["_law_d", "_law_deep_here", "_law_names", "_law_kinds"] [] := E.F__law_tree.bindsN fun _ _ _ _ _ _ us hl => match us, hl with | [_, _, _, _], _ => rfl
theorem b__law_parts (E : Env K mg w) : Binds K E.fd__law_parts ["_law_test_here"] [] := E.F__law_parts.bindsN fun _ _ _ _ _ _ us hl => match us, hl with | [_], _ => rfl
theorem b__law_leaf (E : Env K mg w) : Binds K E.fd__law_leaf ["_law_d", "_law_names", "_law_kinds"] [] := E.F__law_leaf.bindsN fun _ _ _ _ _ _ us hl => match us, hl with | [_, _, _], _ => rfl
theorem b_look_test (E : Env K mg w) : Binds K E.fd_look_test ["test"] [] := E.F_look_test.bindsN fun _ _ _ _ _ _ us hl => match us, hl with | [_], _ => rfl
theorem b_put_rows (E : Env K mg w) : Binds K E.fd_put_rows ["test", "yes", "no", "rows"] [] := E.F_put_rows.bindsN fun _ _ _ _ _ _ us hl => match us, hl with | [_, _, _, _], _ => rfl
theorem b_turned (E : Env K mg w) : Binds K E.fd_turned ["jump", "many"] [] := E.F_turned.bindsN fun _ _ _ _ _ _ us hl => match us, hl with | [_, _], _ => rfl
theorem b__law_shape_ok (E : Env K mg w) : Binds K E.fd__law_shape_ok ["_law_test_here"] [] := E.F__law_shape_ok.bindsN fun _ _ _ _ _ _ us hl => match us, hl with | [_], _ => rfl
theorem b__law_deep (E : Env K mg w) : Binds K E.fd__law_deep ["_law_test_here"] [] := E.F__law_deep.bindsN fun _ _ _ _ _ _ us hl => match us, hl with | [_], _ => rfl
theorem b__law_odd_name (E : Env K mg w) : Binds K E.fd__law_odd_name ["_law_d", "_law_text"] [] := E.F__law_odd_name.bindsN fun _ _ _ _ _ _ us hl => match us, hl with | [_, _], _ => rfl
theorem b_is_test (E : Env K mg w) : Binds K E.fd_is_test ["test"] [] := E.F_is_test.bindsN fun _ _ _ _ _ _ us hl => match us, hl with | [_], _ => rfl
theorem b_leaves_in (E : Env K mg w) : Binds K E.fd_leaves_in ["test"] [] := E.F_leaves_in.bindsN fun _ _ _ _ _ _ us hl => match us, hl with | [_], _ => rfl
theorem b_leaf_holds (E : Env K mg w) : Binds K E.fd_leaf_holds ["leaf", "kind", "values"] [] := E.F_leaf_holds.bindsN fun _ _ _ _ _ _ us hl => match us, hl with | [_, _, _], _ => rfl
theorem b__law_number (E : Env K mg w) : Binds K E.fd__law_number ["_law_d"] [] := E.F__law_number.bindsN fun _ _ _ _ _ _ us hl => match us, hl with | [_], _ => rfl
theorem b__law_leaf_ok (E : Env K mg w) : Binds K E.fd__law_leaf_ok ["_law_test_here"] [] := E.F__law_leaf_ok.bindsN fun _ _ _ _ _ _ us hl => match us, hl with | [_], _ => rfl
theorem b_parts_of (E : Env K mg w) : Binds K E.fd_parts_of ["test", "deep"] [] := E.F_parts_of.bindsN fun _ _ _ _ _ _ us hl => match us, hl with | [_, _], _ => rfl
theorem b_Kind_place_of (E : Env K mg w) : Binds K E.fd_Kind_place_of ["self", "field"] [] := E.F_Kind_place_of.bindsN fun _ _ _ _ _ _ us hl => match us, hl with | [_, _], _ => rfl
theorem b__law_is_name (E : Env K mg w) : Binds K E.fd__law_is_name ["_law_text"] [] := E.F__law_is_name.bindsN fun _ _ _ _ _ _ us hl => match us, hl with | [_], _ => rfl
theorem b_is_leaf (E : Env K mg w) : Binds K E.fd_is_leaf ["test"] [] := E.F_is_leaf.bindsN fun _ _ _ _ _ _ us hl => match us, hl with | [_], _ => rfl
end
end Lw
namespace Ls
open PySem PySem.Spec PyProof.Rows L2
def lq_law : Str := ("law" : Str) ++ (".<locals>." : Str)
def spLaw (K : PySem.W.Frag) (T : List (Addr × Str)) : Sp := fun vs H Q _ => ∃ (a : Addr) (ns : List Int), vs = [.ref a] ∧ (∀ p ∈ T, H p.1 = some (.tbl #[])) ∧ SqL K H a (ns.map V.int) ∧ ns.length ≤ 63 ∧ ∀ H', Q (.bl true) H'
end Ls
namespace Lw
open PySem PySem.Spec PyProof.Rows L2 Ls
abbrev OkLaw : Prop := ∀ {P : Program} {w : World} {K : PySem.W.Frag} {mg : Str → Option Value} {base : Heap} (E : Env K mg w) {c Pt : Addr} {T : List (Addr × Str)} (hc : E.fd_law.code = .ref c) (TB : LamX.TabB base mg c Pt) (hmT : (Pt, lq_law ++ ("<lambda>" : Str)) ∈ T) (huT : ∀ p ∈ T, p.1 = Pt → p.2 = lq_law ++ ("<lambda>" : Str)), FnOk P w K mg base (L2.CX P w) 20 E.a_law E.fd_law ["_law_script"] (spLaw K T)
end Lw
section
namespace Lw
open PySem PySem.Spec PyProof.Rows L2 Ls LamX
theorem facts {K : PySem.W.Frag} {h : Heap} {w : World} {mg : Str → Option Value} (X : K.In h) (G : h.Ns mainGlobals mg) (y : He.SaysX Lh.fa Lh.fn Lh.tbs Lh.tfs Lh.exB w h K) : ∃ E : Env K mg w, E.a_law = He.ga K "law" := by
  have c := y.t.d
  have hb := y.more
  obtain ⟨fd_law, F_law⟩ := c.def_ 0 (d := Lh.d_law) rfl
  obtain ⟨fd__law_begin, F__law_begin⟩ := c.def_ 1 (d := Lh.d__law_begin) rfl
  obtain ⟨fd__law_same, F__law_same⟩ := c.def_ 2 (d := Lh.d__law_same) rfl
  obtain ⟨fd__law_kind_of, F__law_kind_of⟩ := c.def_ 3 (d := Lh.d__law_kind_of) rfl
  obtain ⟨fd__law_some_way, F__law_some_way⟩ := c.def_ 4 (d := Lh.d__law_some_way) rfl
  obtain ⟨fd__law_kept_way, F__law_kept_way⟩ := c.def_ 5 (d := Lh.d__law_kept_way) rfl
  obtain ⟨fd__law_way_ok, F__law_way_ok⟩ := c.def_ 6 (d := Lh.d__law_way_ok) rfl
  obtain ⟨fd__law_values, F__law_values⟩ := c.def_ 7 (d := Lh.d__law_values) rfl
  obtain ⟨fd_Kind___init__, F_Kind___init__⟩ := c.def_ 8 (d := Lh.d_Kind___init__) rfl
  obtain ⟨fd__law_pick, F__law_pick⟩ := c.def_ 9 (d := Lh.d__law_pick) rfl
  obtain ⟨fd__law_bent_way, F__law_bent_way⟩ := c.def_ 10 (d := Lh.d__law_bent_way) rfl
  obtain ⟨fd__law_bent_values, F__law_bent_values⟩ := c.def_ 11 (d := Lh.d__law_bent_values) rfl
  obtain ⟨fd__law_values_word, F__law_values_word⟩ := c.def_ 12 (d := Lh.d__law_values_word) rfl
  obtain ⟨fd__law_walked, F__law_walked⟩ := c.def_ 13 (d := Lh.d__law_walked) rfl
  obtain ⟨fd_is_way, F_is_way⟩ := c.def_ 14 (d := Lh.d_is_way) rfl
  obtain ⟨fd__law_ask, F__law_ask⟩ := c.def_ 15 (d := Lh.d__law_ask) rfl
  obtain ⟨fd_run, F_run⟩ := c.def_ 16 (d := Lh.d_run) rfl
  obtain ⟨fd_steps, F_steps⟩ := c.def_ 17 (d := Lh.d_steps) rfl
  obtain ⟨fd_shorter, F_shorter⟩ := c.def_ 18 (d := Lh.d_shorter) rfl
  obtain ⟨fd__law_fields, F__law_fields⟩ := c.def_ 19 (d := Lh.d__law_fields) rfl
  obtain ⟨fd__law_word, F__law_word⟩ := c.def_ 20 (d := Lh.d__law_word) rfl
  obtain ⟨fd__law_names_of, F__law_names_of⟩ := c.def_ 21 (d := Lh.d__law_names_of) rfl
  obtain ⟨fd__law_test, F__law_test⟩ := c.def_ 22 (d := Lh.d__law_test) rfl
  obtain ⟨fd_made, F_made⟩ := c.def_ 23 (d := Lh.d_made) rfl
  obtain ⟨fd__law_ended, F__law_ended⟩ := c.def_ 24 (d := Lh.d__law_ended) rfl
  obtain ⟨fd__law_test_ok, F__law_test_ok⟩ := c.def_ 25 (d := Lh.d__law_test_ok) rfl
  obtain ⟨fd__law_value, F__law_value⟩ := c.def_ 26 (d := Lh.d__law_value) rfl
  obtain ⟨fd_is_name, F_is_name⟩ := c.def_ 27 (d := Lh.d_is_name) rfl
  obtain ⟨fd_look_field, F_look_field⟩ := c.def_ 28 (d := Lh.d_look_field) rfl
  obtain ⟨fd__law_of, F__law_of⟩ := c.def_ 29 (d := Lh.d__law_of) rfl
  obtain ⟨fd__law_far, F__law_far⟩ := c.def_ 30 (d := Lh.d__law_far) rfl
  obtain ⟨fd__law_bent_test, F__law_bent_test⟩ := c.def_ 31 (d := Lh.d__law_bent_test) rfl
  obtain ⟨fd__law_passes, F__law_passes⟩ := c.def_ 32 (d := Lh.d__law_passes) rfl
  obtain ⟨fd_is_end, F_is_end⟩ := c.def_ 33 (d := Lh.d_is_end) rfl
  obtain ⟨fd_row_fits, F_row_fits⟩ := c.def_ 34 (d := Lh.d_row_fits) rfl
  obtain ⟨fd_look_way, F_look_way⟩ := c.def_ 35 (d := Lh.d_look_way) rfl
  obtain ⟨fd_Kind_need, F_Kind_need⟩ := c.def_ 36 (d := Lh.d_Kind_need) rfl
  obtain ⟨fd_walked, F_walked⟩ := c.def_ 37 (d := Lh.d_walked) rfl
  obtain ⟨fd_joined, F_joined⟩ := c.def_ 38 (d := Lh.d_joined) rfl
  obtain ⟨fd_led, F_led⟩ := c.def_ 39 (d := Lh.d_led) rfl
  obtain ⟨fd_reached, F_reached⟩ := c.def_ 40 (d := Lh.d_reached) rfl
  obtain ⟨fd__law_words, F__law_words⟩ := c.def_ 41 (d := Lh.d__law_words) rfl
  obtain ⟨fd__law_bound, F__law_bound⟩ := c.def_ 42 (d := Lh.d__law_bound) rfl
  obtain ⟨fd__law_tree, F__law_tree⟩ := c.def_ 43 (d := Lh.d__law_tree) rfl
  obtain ⟨fd__law_parts, F__law_parts⟩ := c.def_ 44 (d := Lh.d__law_parts) rfl
  obtain ⟨fd__law_leaf, F__law_leaf⟩ := c.def_ 45 (d := Lh.d__law_leaf) rfl
  obtain ⟨fd_look_test, F_look_test⟩ := c.def_ 46 (d := Lh.d_look_test) rfl
  obtain ⟨fd_put_rows, F_put_rows⟩ := c.def_ 47 (d := Lh.d_put_rows) rfl
  obtain ⟨fd_turned, F_turned⟩ := c.def_ 48 (d := Lh.d_turned) rfl
  obtain ⟨fd__law_shape_ok, F__law_shape_ok⟩ := c.def_ 49 (d := Lh.d__law_shape_ok) rfl
  obtain ⟨fd__law_deep, F__law_deep⟩ := c.def_ 50 (d := Lh.d__law_deep) rfl
  obtain ⟨fd__law_odd_name, F__law_odd_name⟩ := c.def_ 51 (d := Lh.d__law_odd_name) rfl
  obtain ⟨fd_is_test, F_is_test⟩ := c.def_ 52 (d := Lh.d_is_test) rfl
  obtain ⟨fd_leaves_in, F_leaves_in⟩ := c.def_ 53 (d := Lh.d_leaves_in) rfl
  obtain ⟨fd_leaf_holds, F_leaf_holds⟩ := c.def_ 54 (d := Lh.d_leaf_holds) rfl
  obtain ⟨fd__law_number, F__law_number⟩ := c.def_ 55 (d := Lh.d__law_number) rfl
  obtain ⟨fd__law_leaf_ok, F__law_leaf_ok⟩ := c.def_ 56 (d := Lh.d__law_leaf_ok) rfl
  obtain ⟨fd_parts_of, F_parts_of⟩ := c.def_ 57 (d := Lh.d_parts_of) rfl
  obtain ⟨fd_Kind_place_of, F_Kind_place_of⟩ := c.def_ 58 (d := Lh.d_Kind_place_of) rfl
  obtain ⟨fd__law_is_name, F__law_is_name⟩ := c.def_ 59 (d := Lh.d__law_is_name) rfl
  obtain ⟨fd_is_leaf, F_is_leaf⟩ := c.def_ 60 (d := Lh.d_is_leaf) rfl
  obtain ⟨fdi_ScribeError, FI_ScribeError⟩ := c.def_ 61 (d := Lh.d_ScribeError___init__) rfl
  obtain ⟨fdi_BadTest, FI_BadTest⟩ := c.def_ 62 (d := Lh.d_BadTest___init__) rfl
  obtain ⟨fdi_BadWay, FI_BadWay⟩ := c.def_ 63 (d := Lh.d_BadWay___init__) rfl
  obtain ⟨fdi_BadValue, FI_BadValue⟩ := c.def_ 64 (d := Lh.d_BadValue___init__) rfl
  refine ⟨{
    do_Kind___init___0 := He.dflAt ("Kind", some "__init__") 0 K
    C_Kind := He.ga K "Kind", g_Kind := He.glo_ok X G (c.fact 0 (f := .glo "Kind") rfl), cl_Kind := He.cls_ok (c.fact 1 (f := .cls "Kind") rfl)
    na_Kind_name := He.noat_ok (c.fact 2 (f := .noat "Kind" "name") rfl)
    na_Kind_fields := He.noat_ok (c.fact 3 (f := .noat "Kind" "fields") rfl)
    a_law := He.ga K "law", fd_law := fd_law, F_law := F_law, g_law := He.glo_ok X G (c.fact 4 (f := .glo "law") rfl)
    a__law_begin := He.ga K "_law_begin", fd__law_begin := fd__law_begin, F__law_begin := F__law_begin, g__law_begin := He.glo_ok X G (c.fact 5 (f := .glo "_law_begin") rfl)
    a__law_same := He.ga K "_law_same", fd__law_same := fd__law_same, F__law_same := F__law_same, g__law_same := He.glo_ok X G (c.fact 6 (f := .glo "_law_same") rfl)
    a__law_kind_of := He.ga K "_law_kind_of", fd__law_kind_of := fd__law_kind_of, F__law_kind_of := F__law_kind_of, g__law_kind_of := He.glo_ok X G (c.fact 7 (f := .glo "_law_kind_of") rfl)
    a__law_some_way := He.ga K "_law_some_way", fd__law_some_way := fd__law_some_way, F__law_some_way := F__law_some_way, g__law_some_way := He.glo_ok X G (c.fact 8 (f := .glo "_law_some_way") rfl)
    a__law_kept_way := He.ga K "_law_kept_way", fd__law_kept_way := fd__law_kept_way, F__law_kept_way := F__law_kept_way, g__law_kept_way := He.glo_ok X G (c.fact 9 (f := .glo "_law_kept_way") rfl)
    a__law_way_ok := He.ga K "_law_way_ok", fd__law_way_ok := fd__law_way_ok, F__law_way_ok := F__law_way_ok, g__law_way_ok := He.glo_ok X G (c.fact 10 (f := .glo "_law_way_ok") rfl)
    a__law_values := He.ga K "_law_values", fd__law_values := fd__law_values, F__law_values := F__law_values, g__law_values := He.glo_ok X G (c.fact 11 (f := .glo "_law_values") rfl)
    a_Kind___init__ := He.ma K (He.ga K "Kind") "__init__", fd_Kind___init__ := fd_Kind___init__, F_Kind___init__ := F_Kind___init__
    mk_Kind := He.mkr_ok (c.fact 12 (f := .mkr "Kind") rfl)
    a__law_pick := He.ga K "_law_pick", fd__law_pick := fd__law_pick, F__law_pick := F__law_pick, g__law_pick := He.glo_ok X G (c.fact 13 (f := .glo "_law_pick") rfl)
    a__law_bent_way := He.ga K "_law_bent_way", fd__law_bent_way := fd__law_bent_way, F__law_bent_way := F__law_bent_way, g__law_bent_way := He.glo_ok X G (c.fact 14 (f := .glo "_law_bent_way") rfl)
    a__law_bent_values := He.ga K "_law_bent_values", fd__law_bent_values := fd__law_bent_values, F__law_bent_values := F__law_bent_values, g__law_bent_values := He.glo_ok X G (c.fact 15 (f := .glo "_law_bent_values") rfl)
    a__law_values_word := He.ga K "_law_values_word", fd__law_values_word := fd__law_values_word, F__law_values_word := F__law_values_word, g__law_values_word := He.glo_ok X G (c.fact 16 (f := .glo "_law_values_word") rfl)
    a__law_walked := He.ga K "_law_walked", fd__law_walked := fd__law_walked, F__law_walked := F__law_walked, g__law_walked := He.glo_ok X G (c.fact 17 (f := .glo "_law_walked") rfl)
    a_is_way := He.ga K "is_way", fd_is_way := fd_is_way, F_is_way := F_is_way, g_is_way := He.glo_ok X G (c.fact 18 (f := .glo "is_way") rfl)
    a__law_ask := He.ga K "_law_ask", fd__law_ask := fd__law_ask, F__law_ask := F__law_ask, g__law_ask := He.glo_ok X G (c.fact 19 (f := .glo "_law_ask") rfl)
    a_run := He.ga K "run", fd_run := fd_run, F_run := F_run, g_run := He.glo_ok X G (c.fact 20 (f := .glo "run") rfl)
    a_steps := He.ga K "steps", fd_steps := fd_steps, F_steps := F_steps, g_steps := He.glo_ok X G (c.fact 21 (f := .glo "steps") rfl)
    a_shorter := He.ga K "shorter", fd_shorter := fd_shorter, F_shorter := F_shorter, g_shorter := He.glo_ok X G (c.fact 22 (f := .glo "shorter") rfl)
    a__law_fields := He.ga K "_law_fields", fd__law_fields := fd__law_fields, F__law_fields := F__law_fields, g__law_fields := He.glo_ok X G (c.fact 23 (f := .glo "_law_fields") rfl)
    a__law_word := He.ga K "_law_word", fd__law_word := fd__law_word, F__law_word := F__law_word, g__law_word := He.glo_ok X G (c.fact 24 (f := .glo "_law_word") rfl)
    a__law_names_of := He.ga K "_law_names_of", fd__law_names_of := fd__law_names_of, F__law_names_of := F__law_names_of, g__law_names_of := He.glo_ok X G (c.fact 25 (f := .glo "_law_names_of") rfl)
    a__law_test := He.ga K "_law_test", fd__law_test := fd__law_test, F__law_test := F__law_test, g__law_test := He.glo_ok X G (c.fact 26 (f := .glo "_law_test") rfl)
    a_made := He.ga K "made", fd_made := fd_made, F_made := F_made, g_made := He.glo_ok X G (c.fact 27 (f := .glo "made") rfl)
    a__law_ended := He.ga K "_law_ended", fd__law_ended := fd__law_ended, F__law_ended := F__law_ended, g__law_ended := He.glo_ok X G (c.fact 28 (f := .glo "_law_ended") rfl)
    a__law_test_ok := He.ga K "_law_test_ok", fd__law_test_ok := fd__law_test_ok, F__law_test_ok := F__law_test_ok, g__law_test_ok := He.glo_ok X G (c.fact 29 (f := .glo "_law_test_ok") rfl)
    a__law_value := He.ga K "_law_value", fd__law_value := fd__law_value, F__law_value := F__law_value, g__law_value := He.glo_ok X G (c.fact 30 (f := .glo "_law_value") rfl)
    a_is_name := He.ga K "is_name", fd_is_name := fd_is_name, F_is_name := F_is_name, g_is_name := He.glo_ok X G (c.fact 31 (f := .glo "is_name") rfl)
    a_look_field := He.ga K "look_field", fd_look_field := fd_look_field, F_look_field := F_look_field, g_look_field := He.glo_ok X G (c.fact 32 (f := .glo "look_field") rfl)
    a__law_of := He.ga K "_law_of", fd__law_of := fd__law_of, F__law_of := F__law_of, g__law_of := He.glo_ok X G (c.fact 33 (f := .glo "_law_of") rfl)
    a__law_far := He.ga K "_law_far", fd__law_far := fd__law_far, F__law_far := F__law_far, g__law_far := He.glo_ok X G (c.fact 34 (f := .glo "_law_far") rfl)
    a__law_bent_test := He.ga K "_law_bent_test", fd__law_bent_test := fd__law_bent_test, F__law_bent_test := F__law_bent_test, g__law_bent_test := He.glo_ok X G (c.fact 35 (f := .glo "_law_bent_test") rfl)
    a__law_passes := He.ga K "_law_passes", fd__law_passes := fd__law_passes, F__law_passes := F__law_passes, g__law_passes := He.glo_ok X G (c.fact 36 (f := .glo "_law_passes") rfl)
    a_is_end := He.ga K "is_end", fd_is_end := fd_is_end, F_is_end := F_is_end, g_is_end := He.glo_ok X G (c.fact 37 (f := .glo "is_end") rfl)
    a_row_fits := He.ga K "row_fits", fd_row_fits := fd_row_fits, F_row_fits := F_row_fits, g_row_fits := He.glo_ok X G (c.fact 38 (f := .glo "row_fits") rfl)
    a_look_way := He.ga K "look_way", fd_look_way := fd_look_way, F_look_way := F_look_way, g_look_way := He.glo_ok X G (c.fact 39 (f := .glo "look_way") rfl)
    a_Kind_need := He.ma K (He.ga K "Kind") "need", fd_Kind_need := fd_Kind_need, F_Kind_need := F_Kind_need
    m_Kind_need := He.meth_ok (c.fact 40 (f := .meth "Kind" "need") rfl)
    a_walked := He.ga K "walked", fd_walked := fd_walked, F_walked := F_walked, g_walked := He.glo_ok X G (c.fact 41 (f := .glo "walked") rfl)
    a_joined := He.ga K "joined", fd_joined := fd_joined, F_joined := F_joined, g_joined := He.glo_ok X G (c.fact 42 (f := .glo "joined") rfl)
    a_led := He.ga K "led", fd_led := fd_led, F_led := F_led, g_led := He.glo_ok X G (c.fact 43 (f := .glo "led") rfl)
    a_reached := He.ga K "reached", fd_reached := fd_reached, F_reached := F_reached, g_reached := He.glo_ok X G (c.fact 44 (f := .glo "reached") rfl)
    a__law_words := He.ga K "_law_words", fd__law_words := fd__law_words, F__law_words := F__law_words, g__law_words := He.glo_ok X G (c.fact 45 (f := .glo "_law_words") rfl)
    a__law_bound := He.ga K "_law_bound", fd__law_bound := fd__law_bound, F__law_bound := F__law_bound, g__law_bound := He.glo_ok X G (c.fact 46 (f := .glo "_law_bound") rfl)
    a__law_tree := He.ga K "_law_tree", fd__law_tree := fd__law_tree, F__law_tree := F__law_tree, g__law_tree := He.glo_ok X G (c.fact 47 (f := .glo "_law_tree") rfl)
    a__law_parts := He.ga K "_law_parts", fd__law_parts := fd__law_parts, F__law_parts := F__law_parts, g__law_parts := He.glo_ok X G (c.fact 48 (f := .glo "_law_parts") rfl)
    a__law_leaf := He.ga K "_law_leaf", fd__law_leaf := fd__law_leaf, F__law_leaf := F__law_leaf, g__law_leaf := He.glo_ok X G (c.fact 49 (f := .glo "_law_leaf") rfl)
    a_look_test := He.ga K "look_test", fd_look_test := fd_look_test, F_look_test := F_look_test, g_look_test := He.glo_ok X G (c.fact 50 (f := .glo "look_test") rfl)
    a_put_rows := He.ga K "put_rows", fd_put_rows := fd_put_rows, F_put_rows := F_put_rows, g_put_rows := He.glo_ok X G (c.fact 51 (f := .glo "put_rows") rfl)
    a_turned := He.ga K "turned", fd_turned := fd_turned, F_turned := F_turned, g_turned := He.glo_ok X G (c.fact 52 (f := .glo "turned") rfl)
    a__law_shape_ok := He.ga K "_law_shape_ok", fd__law_shape_ok := fd__law_shape_ok, F__law_shape_ok := F__law_shape_ok, g__law_shape_ok := He.glo_ok X G (c.fact 53 (f := .glo "_law_shape_ok") rfl)
    a__law_deep := He.ga K "_law_deep", fd__law_deep := fd__law_deep, F__law_deep := F__law_deep, g__law_deep := He.glo_ok X G (c.fact 54 (f := .glo "_law_deep") rfl)
    a__law_odd_name := He.ga K "_law_odd_name", fd__law_odd_name := fd__law_odd_name, F__law_odd_name := F__law_odd_name, g__law_odd_name := He.glo_ok X G (c.fact 55 (f := .glo "_law_odd_name") rfl)
    a_is_test := He.ga K "is_test", fd_is_test := fd_is_test, F_is_test := F_is_test, g_is_test := He.glo_ok X G (c.fact 56 (f := .glo "is_test") rfl)
    a_leaves_in := He.ga K "leaves_in", fd_leaves_in := fd_leaves_in, F_leaves_in := F_leaves_in, g_leaves_in := He.glo_ok X G (c.fact 57 (f := .glo "leaves_in") rfl)
    a_leaf_holds := He.ga K "leaf_holds", fd_leaf_holds := fd_leaf_holds, F_leaf_holds := F_leaf_holds, g_leaf_holds := He.glo_ok X G (c.fact 58 (f := .glo "leaf_holds") rfl)
    a__law_number := He.ga K "_law_number", fd__law_number := fd__law_number, F__law_number := F__law_number, g__law_number := He.glo_ok X G (c.fact 59 (f := .glo "_law_number") rfl)
    a__law_leaf_ok := He.ga K "_law_leaf_ok", fd__law_leaf_ok := fd__law_leaf_ok, F__law_leaf_ok := F__law_leaf_ok, g__law_leaf_ok := He.glo_ok X G (c.fact 60 (f := .glo "_law_leaf_ok") rfl)
    a_parts_of := He.ga K "parts_of", fd_parts_of := fd_parts_of, F_parts_of := F_parts_of, g_parts_of := He.glo_ok X G (c.fact 61 (f := .glo "parts_of") rfl)
    a_Kind_place_of := He.ma K (He.ga K "Kind") "place_of", fd_Kind_place_of := fd_Kind_place_of, F_Kind_place_of := F_Kind_place_of
    m_Kind_place_of := He.meth_ok (c.fact 62 (f := .meth "Kind" "place_of") rfl)
    a__law_is_name := He.ga K "_law_is_name", fd__law_is_name := fd__law_is_name, F__law_is_name := F__law_is_name, g__law_is_name := He.glo_ok X G (c.fact 63 (f := .glo "_law_is_name") rfl)
    a_is_leaf := He.ga K "is_leaf", fd_is_leaf := fd_is_leaf, F_is_leaf := F_is_leaf, g_is_leaf := He.glo_ok X G (c.fact 64 (f := .glo "is_leaf") rfl)
    n_range := He.free_ok X G (c.fact 65 (f := .free "range") rfl)
    n_list := He.free_ok X G (c.fact 66 (f := .free "list") rfl)
    n_isinstance := He.free_ok X G (c.fact 67 (f := .free "isinstance") rfl)
    n_bool := He.free_ok X G (c.fact 68 (f := .free "bool") rfl)
    n_int := He.free_ok X G (c.fact 69 (f := .free "int") rfl)
    n_str := He.free_ok X G (c.fact 70 (f := .free "str") rfl)
    n_all := He.free_ok X G (c.fact 71 (f := .free "all") rfl)
    n_tuple := He.free_ok X G (c.fact 72 (f := .free "tuple") rfl)
    n_len := He.free_ok X G (c.fact 73 (f := .free "len") rfl)
    n_enumerate := He.free_ok X G (c.fact 74 (f := .free "enumerate") rfl)
    n_min := He.free_ok X G (c.fact 75 (f := .free "min") rfl)
    n_any := He.free_ok X G (c.fact 76 (f := .free "any") rfl)
    n_zip := He.free_ok X G (c.fact 77 (f := .free "zip") rfl)
    n_reversed := He.free_ok X G (c.fact 78 (f := .free "reversed") rfl)
    n_sorted := He.free_ok X G (c.fact 79 (f := .free "sorted") rfl)
    n_sum := He.free_ok X G (c.fact 80 (f := .free "sum") rfl)
    n_max := He.free_ok X G (c.fact 81 (f := .free "max") rfl)
    n_ValueError := He.free_ok X G (c.fact 82 (f := .free "ValueError") rfl)
    c_MOST_FIELDS := by
      obtain ⟨t, e⟩ := He.int_ok X G (c.fact 83 (f := .int "MOST_FIELDS" 4) rfl)
      exact ⟨_, e, ⟨t, rfl⟩⟩
    c_LONGEST := by
      obtain ⟨t, e⟩ := He.int_ok X G (c.fact 84 (f := .int "LONGEST" 8) rfl)
      exact ⟨_, e, ⟨t, rfl⟩⟩
    c_LETTERS := by
      obtain ⟨t, e⟩ := He.str_ok X G (c.fact 85 (f := .str "LETTERS" "abcdefghijklmnopqrstuvwxyz") rfl)
      exact ⟨_, e, ⟨t, rfl⟩⟩
    c_LIMIT := by
      obtain ⟨t, e⟩ := He.int_ok X G (c.fact 86 (f := .int "LIMIT" 999999) rfl)
      exact ⟨_, e, ⟨t, rfl⟩⟩
    c_MOST_PARTS := by
      obtain ⟨t, e⟩ := He.int_ok X G (c.fact 87 (f := .int "MOST_PARTS" 15) rfl)
      exact ⟨_, e, ⟨t, rfl⟩⟩
    c_DEEPEST := by
      obtain ⟨t, e⟩ := He.int_ok X G (c.fact 88 (f := .int "DEEPEST" 5) rfl)
      exact ⟨_, e, ⟨t, rfl⟩⟩
    D_WITHIN := He.ga K "WITHIN", g_WITHIN := He.glo_ok X G (c.fact 89 (f := .glo "WITHIN") rfl)
    C_ScribeError := He.ga K "ScribeError", g_ScribeError := He.glo_ok X G (c.fact 90 (f := .glo "ScribeError") rfl)
    C_BadTest := He.ga K "BadTest", g_BadTest := He.glo_ok X G (c.fact 91 (f := .glo "BadTest") rfl)
    C_BadWay := He.ga K "BadWay", g_BadWay := He.glo_ok X G (c.fact 92 (f := .glo "BadWay") rfl)
    C_BadValue := He.ga K "BadValue", g_BadValue := He.glo_ok X G (c.fact 93 (f := .glo "BadValue") rfl)
    C_Missing := He.ga K "Missing", g_Missing := He.glo_ok X G (c.fact 94 (f := .glo "Missing") rfl)
    fi_ScribeError := He.ma K (He.ga K "ScribeError") "__init__", fdi_ScribeError := fdi_ScribeError, FI_ScribeError := FI_ScribeError
    fi_BadTest := He.ma K (He.ga K "BadTest") "__init__", fdi_BadTest := fdi_BadTest, FI_BadTest := FI_BadTest
    fi_BadWay := He.ma K (He.ga K "BadWay") "__init__", fdi_BadWay := fdi_BadWay, FI_BadWay := FI_BadWay
    fi_BadValue := He.ma K (He.ga K "BadValue") "__init__", fdi_BadValue := fdi_BadValue, FI_BadValue := FI_BadValue
    r_ScribeError := crdB_ok (Lh.exB_ok hb (i := 0) rfl)
    v_ScribeError := cviB_ok (Lh.exB_ok hb (i := 1) rfl)
    o_BadTest := oexB_ok (Lh.exB_ok hb (i := 2) rfl)
    i_BadTest := (iniB_ok (Lh.exB_ok hb (i := 3) rfl)).1
    t_BadTest := (iniB_ok (Lh.exB_ok hb (i := 4) rfl)).2
    w_BadTest := noFB_ok (Lh.exB_ok hb (i := 5) rfl)
    x_BadTest := xfB_ok (Lh.exB_ok hb (i := 6) rfl)
    e_BadTest_BadValue := exmB_ok (Lh.exB_ok hb (i := 7) rfl)
    e_BadTest_ScribeError := exmB_ok (Lh.exB_ok hb (i := 8) rfl)
    e_BadTest_Missing := exmB_ok (Lh.exB_ok hb (i := 9) rfl)
    o_BadWay := oexB_ok (Lh.exB_ok hb (i := 10) rfl)
    i_BadWay := (iniB_ok (Lh.exB_ok hb (i := 11) rfl)).1
    t_BadWay := (iniB_ok (Lh.exB_ok hb (i := 12) rfl)).2
    w_BadWay := noFB_ok (Lh.exB_ok hb (i := 13) rfl)
    x_BadWay := xfB_ok (Lh.exB_ok hb (i := 14) rfl)
    e_BadWay_BadValue := exmB_ok (Lh.exB_ok hb (i := 15) rfl)
    e_BadWay_ScribeError := exmB_ok (Lh.exB_ok hb (i := 16) rfl)
    e_BadWay_Missing := exmB_ok (Lh.exB_ok hb (i := 17) rfl)
    o_BadValue := oexB_ok (Lh.exB_ok hb (i := 18) rfl)
    i_BadValue := (iniB_ok (Lh.exB_ok hb (i := 19) rfl)).1
    t_BadValue := (iniB_ok (Lh.exB_ok hb (i := 20) rfl)).2
    w_BadValue := noFB_ok (Lh.exB_ok hb (i := 21) rfl)
    x_BadValue := xfB_ok (Lh.exB_ok hb (i := 22) rfl)
    f_BadValue := noFB_ok (Lh.exB_ok hb (i := 23) rfl)
    e_BadValue_BadValue := exmB_ok (Lh.exB_ok hb (i := 24) rfl)
    e_BadValue_ScribeError := exmB_ok (Lh.exB_ok hb (i := 25) rfl)
    e_BadValue_Missing := exmB_ok (Lh.exB_ok hb (i := 26) rfl)
    vei := veiB_ok (Lh.exB_ok hb (i := 27) rfl)
    t_WITHIN := tabK_of (tab_eq y.t 0 rfl) (Lh.exB_ok hb (i := 28) rfl)
    }, rfl⟩
end Lw
open PySem PySem.W PySem.Calls PyProof.Rows
theorem Lw.head_of (ok : Lw.OkLaw) : PySem.Challenge.rw_lanescribe_k09_ways_judged_and_gone.Holds := by
  w_on; o_law
  refine HandSHeadRun.head_any (r := OpenLaw.row PySem.Challenge.rw_lanescribe_k09_ways_judged_and_gone) (q := view (OpenLaw.row PySem.Challenge.rw_lanescribe_k09_ways_judged_and_gone).prog [80]) (H := Lh.hk) (ob := Lh.ob) (M := 20000) (loose := Lh.loose) (d := HandSHeadRun.topDef (OpenLaw.row PySem.Challenge.rw_lanescribe_k09_ways_judged_and_gone).prog 80) (kwd := []) Lh.ob_eq
    (by kernel_rfl) (fun s => by kernel_rfl) Lh.run (by kernel_rfl) (by kernel_rfl) (by kernel_rfl) (by rfl) (by first | assumption | decide +kernel) (by decide +kernel) ⟨rfl, rfl, rfl, rfl, rfl, by decide +kernel⟩ ?hw ?hc
  case hw => w_witness2
  case hc =>
    refine LamX.walk_ofTsE (l := PySem.Challenge.rw_lanescribe_k09_ways_judged_and_gone) (n := 63) (k := 20) (x := "_law_script") (CX := fun w => L2.CX PySem.Challenge.rw_lanescribe_k09_ways_judged_and_gone.prog w) rfl (by decide) (by kernel_rfl) ⟨rfl, by decide, by decide⟩ ?F (fun _ _ _ _ _ ⟨_, _, _, _, _, _, _, _, _, _, _, _, z⟩ => z)
    intro w mg fa h Y G hmg0
    obtain ⟨K, KX, y⟩ := Y
    have hmg : mg ("law" : PySem.Str) = some (.ref fa) := by
      have e : (HandSHeadRun.topDef (OpenLaw.row PySem.Challenge.rw_lanescribe_k09_ways_judged_and_gone).prog 80).name = ("law" : PySem.Str) := by kernel_rfl
      rw [← e]
      exact hmg0
    obtain ⟨E, ea_law⟩ := Lw.facts KX G y
    have e := hmg.symm.trans E.g_law
    cases e
    have b := L2.FunD.bindsA (ps := ["_law_script"]) E.F_law fun _ _ _ _ _ _ us hl => match us, hl with | [_], _ => rfl
    have hc_law : E.fd_law.code = .ref (He.codeOf K ("law", none)) := by
      obtain ⟨oc, od, dV, kV, doc, pm, an, cdv, ct, osl, e1, lk, hcd, _, _⟩ := E.F_law.ex
      obtain ⟨c, hc⟩ := He.codeIn_ref hcd
      have e2 : E.fd_law.code = .ref c := by rw [e1]; exact hc
      have lk2 : K.lookup (He.fAd K ("law", none)) = some ⟨oc, od, .func E.fd_law, osl⟩ := by
        show K.lookup (He.ga K "law") = _
        rw [← ea_law]
        exact lk
      rw [He.codeOf_eq lk2 e2]
      exact e2
    refine ⟨K, KX, E.fd_law, Lh.tfs.map (He.cT K), Ls.spLaw K [((He.cT K ("law", none)).2, Ls.lq_law ++ ("<lambda>" : PySem.Str))], fun p hp => ?_, fun p hp => ?_, fun p hp => ?_, fun s v => b s [v] rfl, fun H a ns hl _ hT hS => ?_, fun base KB GB TB => ?_⟩
    · obtain ⟨d, hd, rfl⟩ := List.mem_map.mp hp
      exact y.empty _ hd
    · obtain ⟨d, hd, rfl⟩ := List.mem_map.mp hp
      exact y.out _ hd
    · obtain ⟨d, hd, rfl⟩ := List.mem_map.mp hp
      exact codeHd_of_K KX (y.hd _ hd)
    · exact ⟨a, ns, rfl, fun p hp => by
        simp only [List.mem_cons, List.not_mem_nil, or_false] at hp
        rcases hp with rfl <;> exact hT _ (List.mem_map_of_mem (by simp [Lh.tfs])), hS, hl, fun _ => rfl⟩
    · exact ok E hc_law (TB _ (List.mem_singleton.mpr rfl)) List.mem_cons_self (fun p hp _ => by rw [List.mem_singleton.mp hp])
end
local macro_rules | `(tactic| walk_at "hg") => `(tactic| first
  | assumption
  | exact upd_same
  | (refine up_new (by assumption) ?_; walk_at "hg")
  | (refine up_ne ?n ?_; (case n => walk_at "ne"); walk_at "hg")
  | (refine Keep.at (by assumption) ?n ?_; (case n => walk_at "ne"); walk_at "hg"))
local macro_rules | `(tactic| walk_at "ne") => `(tactic| first
  | assumption
  | (refine Ne.symm ?_; assumption)
  | (refine ne_of_none ?a ?b; (case b => assumption); (case a => walk_at "hg"))
  | (refine Ne.symm (ne_of_none ?a ?b); (case b => assumption); (case a => walk_at "hg"))
  | (refine ne_of ?a ?b ?c; (case a => assumption); (case b => assumption); (case c => (intro z; cases z))))
local macro_rules | `(tactic| walk_at "sz") => `(tactic| first | omega | decide | (simp only [List.length_cons, List.length_nil, List.length_append, List.length_map, List.length_take, List.length_drop, sizeLine_eq] <;> omega) | (rw [sizeLine_eq]; simp <;> omega))
local macro_rules | `(tactic| walk_at "w1") => `(tactic| first
  | (with_reducible refine gd_v ?_; with_reducible first | refine k_v0 ?_ | refine k_v1 ?_ | refine k_v2 ?_ | refine k_v3 ?_ | refine k_v4 ?_ | refine k_v5 ?_ | refine k_v6 ?_ | refine k_v7 ?_ | refine k_v8 ?_ | refine k_v9 ?_ | refine k_v10 ?_ | refine k_v11 ?_ | refine k_v12 ?_ | refine k_v13 ?_ | refine k_v14 ?_ | refine k_v15 ?_ | refine k_v16 ?_ | refine k_v17 ?_ | refine k_v18 ?_ | refine k_v19 ?_ | refine k_v20 ?_ | refine k_v21 ?_ | refine k_v22 ?_ | refine k_v23 ?_ | refine k_v24 ?_ | refine k_v25 ?_ | refine k_v26 ?_ | refine k_v27 ?_ | refine k_v28 ?_ | refine k_v29 ?_ | refine k_v30 ?_ | refine k_v31 ?_ | refine k_v32 ?_ | refine k_v33 ?_ | refine k_v34 ?_ | refine k_v35 ?_ | refine k_v36 ?_ | refine k_v37 ?_ | refine k_v38 ?_ | refine k_v39 ?_ | refine k_v40 ?_ | refine k_v41 ?_ | refine k_v42 ?_ | refine k_v43 ?_)
  | (with_reducible first
    | refine k_seq ?_ | refine k_c ?_ | refine k_op ?_ | refine k_cons ?_ | refine k_nil ?_ | refine k_call ?_ | refine k_cb ?_ | refine k_ret ?_ | refine k_if ?_ | refine k_test ?_ | refine k_bl ?_
    | refine k_tup ?_ | refine k_lst ?_ | refine k_dget ?_ | refine k_dput ?_ | refine k_drop ?_ | refine k_next ?_ | refine k_B ?_ | refine k_and ?_ | refine k_or ?_ | refine k_not ?_ | refine k_un ?_
    | refine k_bm ?_ | refine k_bm0 ?_ | refine k_sl ?_ | refine k_nop ?_ | refine k_part ?_ | refine k_partI ?_ | refine k_par ?_ | refine k_par2 ?_ | refine k_gcons ?_ | refine k_gnil ?_
    | refine k_andV ?_ | refine k_orV ?_ | refine k_notV ?_ | refine k_ifE ?_ | refine k_chain ?_ | refine k_din ?_ | refine k_dnotin ?_ | refine k_brk ?_ | refine k_cont ?_ | refine k_retN ?_ | refine k_callN ?_ | refine k_yes ?_ | refine k_vei ?_ | refine k_ost ?_ | refine k_cfn ?_ | refine k_step ?_ | refine k_lenset ?_ | refine k_sortset ?_ | refine k_listrg ?_ | refine k_rg1 ?_ | refine k_lc ?_ | refine k_dc ?_
    | refine k_addI ?_ | refine k_sub ?_ | refine k_lt ?_ | refine k_le ?_ | refine k_gt ?_ | refine k_ge ?_ | refine k_eqI ?_ | refine k_neI ?_ | refine k_eqS ?_ | refine k_neS ?_ | refine k_eqB ?_ | refine k_neB ?_ | refine k_neg ?_ | refine k_isN ?_ | refine k_isnotN ?_
    | refine k_for ?_ | refine k_itL ?_ | refine k_itT ?_ | refine k_itR1 ?_ | refine k_itR2 ?_ | refine k_tt ?_ | refine k_ff ?_ | refine k_nt ?_ | refine k_nf ?_)
  | (with_reducible refine gd_s ?_; with_reducible first | refine k_s0 ?_ | refine k_s1 ?_ | refine k_s2 ?_ | refine k_s3 ?_ | refine k_s4 ?_ | refine k_s5 ?_ | refine k_s6 ?_ | refine k_s7 ?_ | refine k_s8 ?_ | refine k_s9 ?_ | refine k_s10 ?_ | refine k_s11 ?_ | refine k_s12 ?_ | refine k_s13 ?_ | refine k_s14 ?_ | refine k_s15 ?_ | refine k_s16 ?_ | refine k_s17 ?_ | refine k_s18 ?_ | refine k_s19 ?_ | refine k_s20 ?_ | refine k_s21 ?_ | refine k_s22 ?_ | refine k_s23 ?_ | refine k_s24 ?_ | refine k_s25 ?_ | refine k_s26 ?_ | refine k_s27 ?_ | refine k_s28 ?_ | refine k_s29 ?_ | refine k_s30 ?_ | refine k_s31 ?_ | refine k_s32 ?_ | refine k_s33 ?_ | refine k_s34 ?_ | refine k_s35 ?_ | refine k_s36 ?_ | refine k_s37 ?_ | refine k_s38 ?_ | refine k_s39 ?_ | refine k_s40 ?_ | refine k_s41 ?_ | refine k_s42 ?_ | refine k_s43 ?_)
  | (with_reducible refine gd_g ?_; with_reducible first | refine k_g0 ?_ | refine k_g1 ?_ | refine k_g2 ?_ | refine k_g3 ?_ | refine k_g4 ?_ | refine k_g5 ?_ | refine k_g6 ?_ | refine k_g7 ?_ | refine k_g8 ?_ | refine k_g9 ?_ | refine k_g10 ?_ | refine k_g11 ?_ | refine k_g12 ?_ | refine k_g13 ?_ | refine k_g14 ?_ | refine k_g15 ?_ | refine k_g16 ?_ | refine k_g17 ?_ | refine k_g18 ?_ | refine k_g19 ?_ | refine k_g20 ?_ | refine k_g21 ?_ | refine k_g22 ?_ | refine k_g23 ?_ | refine k_g24 ?_ | refine k_g25 ?_ | refine k_g26 ?_ | refine k_g27 ?_ | refine k_g28 ?_ | refine k_g29 ?_ | refine k_g30 ?_ | refine k_g31 ?_ | refine k_g32 ?_ | refine k_g33 ?_ | refine k_g34 ?_ | refine k_g35 ?_ | refine k_g36 ?_ | refine k_g37 ?_ | refine k_g38 ?_ | refine k_g39 ?_ | refine k_g40 ?_ | refine k_g41 ?_ | refine k_g42 ?_ | refine k_g43 ?_)
  | (with_reducible refine k_asg ?_)
  | (with_reducible refine k_mod ?e ?_; (case e => first | omega | decide))
  | (with_reducible refine k_mulR ?e ?_; (case e => decide))
  | (with_reducible refine k_mulL ?e ?_; (case e => decide))
  | (with_reducible refine k_new ?e ?_; (case e => walk_at "sz")))
local macro_rules | `(tactic| walk_at "w") => `(tactic| repeat walk_at "w1")
local macro_rules | `(tactic| walk_at "lc") => `(tactic| (simp only [wipe, List.map, List.set_cons_succ, List.set_cons_zero]; walk_at "w"; refine ⟨rfl, ?_⟩; walk_at "w"))
local macro_rules | `(tactic| walk_at "fr") => `(tactic| first | assumption | (refine Same.free ?s (by assumption); (case s => walk_at "sm")) | (refine Keep.free ?k ?d (by assumption); (case k => walk_at "kp"); (case d => walk_at "hg")))
local macro_rules | `(tactic| walk_at "sm") => `(tactic| first
  | assumption
  | exact Same.refl _
  | (refine Same.wr ?s ?f; (case s => walk_at "sm"); (case f => walk_at "fr"))
  | (refine Same.trans ?a (by assumption); (case a => walk_at "sm")))
local macro_rules | `(tactic| walk_at "kp") => `(tactic| first
  | assumption
  | exact Keep.refl
  | (refine Keep.put ?s; (case s => walk_at "kp"))
  | (refine Keep.wr ?s ?f; (case s => walk_at "kp"); (case f => walk_at "fr"))
  | (refine Keep.trans ?a (by assumption); (case a => walk_at "kp"))
  | (refine Keep.same ?s; (case s => walk_at "sm")))
local macro_rules | `(tactic| walk_at "ar") => `(tactic| first
  | (refine k_pos ?h ?_; (case h => omega))
  | (refine k_neg' ?h ?_; (case h => omega))
  | (refine k_npos ?h ?_; (case h => omega))
  | (refine k_nneg ?h ?_; (case h => omega)))
local macro_rules | `(tactic| walk_at "wa") => `(tactic| repeat first | walk_at "w1" | walk_at "ar")
local macro_rules | `(tactic| walk_at "lc1") => `(tactic| simp only [wipe, List.map, List.set_cons_succ, List.set_cons_zero])
local macro_rules | `(tactic| walk_at "lc2") => `(tactic| (walk_at "w"; refine ⟨rfl, ?_⟩; walk_at "w"))
namespace Lw
open PySem PySem.Spec PyProof.Rows L2 Ls
section
variable {P : Program} {w : World} {K : PySem.W.Frag} {mg : Str → Option Value} {base : Heap}
theorem ok__law_pick (E : Env K mg w) : FnOk P w K mg base CX0 1 E.a__law_pick E.fd__law_pick ["_law_d", "_law_many"] (spPick K) := by
  refine E.F__law_pick.ok sc__law_pick (fun vs H Q E h => ?_) (fun cdv A outer s H vs Q E' hr h => ?_)
  · obtain ⟨d, c, m, rfl, _⟩ := h
    rfl
  · obtain ⟨d, c, many, rfl, ⟨n, r, s, ns, h1, h2, h3, h4, h5, h6⟩, m1, m2, q⟩ := h
    have hu := huOf hr
    refine ⟨_, PSs.nox (pss_cut (ps_if (PW.pt (pw_and (pt_cmpR (op_eqU K rfl hu) (pe_dget (hu1 hu) (pv 0) pe_str (fun _ _ => rfl)) pe_int (nomark _)) (pw_and1 (pt_cmpR (op_lt) (pe_dget (hu1 hu) (pv 0) pe_str (fun _ _ => rfl)) (pe_callB (call_lenU K rfl) (by rfl) E.n_len boot_len (pa_cons (pe_dget (hu1 hu) (pv 0) pe_str (fun _ _ => rfl)) pa_nil)) (nomark _))))) (pss_cons (ps_set (i := 2) sc__law_pick.nd rfl (Or.inl rfl) (pe_ix (ix_U K rfl) (pe_dget (hu1 hu) (pv 0) pe_str (fun _ _ => rfl)) (pe_dget (hu1 hu) (pv 0) pe_str (fun _ _ => rfl)) (fun _ _ => rfl)))
(pss_cons (ps_dput (hu1 hu) (pv 0) pe_str (pe_op (op_addU K rfl) (pe_dget (hu1 hu) (pv 0) pe_str (fun _ _ => rfl)) pe_int) rfl)
(pss_one (ps_if (pt_cmpR (op_ge) (pv 2) (pe_op op_pow pe_int pe_int) (nomark _)) (pss_one (ps_dput (hu1 hu) (pv 0) pe_str (pv 2) rfl)) (pss_one (ps_dput (hu1 hu) (pv 0) pe_str (pe_op op_mod (pe_op (op_addU K rfl) (pe_op (op_addU K rfl) (pe_op op_mul (pe_dget (hu1 hu) (pv 0) pe_str (fun _ _ => rfl)) pe_int) (pe_op op_mul (pv 2) pe_int)) pe_int) pe_int) rfl)))))) pss_nil)
(pss_cons (ps_if (pt_cmpR (op_gt) (pe_dget (hu1 hu) (pv 0) pe_str (fun _ _ => rfl)) pe_int (nomark _)) (pss_cons (ps_set (i := 3) sc__law_pick.nd rfl (Or.inl rfl) (pe_op op_mod (pe_dget (hu1 hu) (pv 0) pe_str (fun _ _ => rfl)) (pv 1)))
(pss_cons (ps_dput (hu1 hu) (pv 0) pe_str (pe_op op_fdivW (pe_dget (hu1 hu) (pv 0) pe_str (fun _ _ => rfl)) (pv 1)) rfl)
(pss_one (ps_ret (pv 3))))) pss_nil)
(pss_cons (ps_set (i := 4) sc__law_pick.nd rfl (Or.inl rfl) (pe_op op_mod (pe_op op_mul (pe_dget (hu1 hu) (pv 0) pe_str (fun _ _ => rfl)) (pe_dget (hu1 hu) (pv 0) pe_str (fun _ _ => rfl))) pe_int))
(pss_cons (ps_dput (hu1 hu) (pv 0) pe_str (pe_op op_mod (pe_op (op_addU K rfl) (pe_op (op_addU K rfl) (pe_op op_mul (pv 4) pe_int) (pe_op op_mul (pe_dget (hu1 hu) (pv 0) pe_str (fun _ _ => rfl)) pe_int)) pe_int) pe_int) rfl)
(pss_one (ps_ret (pe_op op_mod (pe_op op_fdivW (pe_dget (hu1 hu) (pv 0) pe_str (fun _ _ => rfl)) pe_int) (pv 1)))))))), ?_⟩
    refine k_body (s1 := [some (.ref d), some (.int many), none, none, none]) rfl ?_
    refine k_cut (fun σ H' => ∃ (n r s : Int) (v : Option V), σ = [some (.ref d), some (.int many), v, none, none] ∧ Keep d H H' ∧ H' d = some (.dK (dd c n r s)) ∧ H' c = some (.lst (ns.map V.int)) ∧ 0 ≤ n ∧ 0 ≤ r ∧ 0 ≤ s ∧ s < 2305843009213693951) ?_ ?_
    · walk_at "w"
      refine k_getS h1 dd_rest ?_
      walk_at "w"
      refine k_itd (fun hr0 => ?_) (fun hr0 => ?_)
      · walk_at "w"
        refine k_getS h1 dd_at ?_
        walk_at "w"
        refine k_getS h1 dd_cells ?_
        walk_at "w"
        refine k_lenL (sql_of h2) ?_
        walk_at "w"
        refine k_itd (fun hl => ?_) (fun hl => ?_)
        · rw [List.length_map] at hl
          obtain ⟨k, rfl⟩ : ∃ k : Nat, n = (k : Int) := ⟨n.toNat, by omega⟩
          have hk : k < ns.length := by omega
          walk_at "w"
          refine k_getS h1 dd_cells ?_
          walk_at "w"
          refine k_getS h1 dd_at ?_
          walk_at "w"
          refine k_ixL (sql_of h2) (atI_nat (v := .int ns[k]) (by rw [List.getElem?_map, List.getElem?_eq_getElem hk]; rfl)) ?_
          walk_at "w"
          refine k_getS h1 dd_at ?_
          walk_at "w"
          refine k_putS h1 dd_len ?_
          rw [dd_put_at]
          have g1 : Keep d H (upd H d (.dK (dd c (k + 1) r s))) := Keep.put Keep.refl
          have nc : c ≠ d := ne_of h2 h1 (by intro z; cases z)
          have g2 : upd H d (.dK (dd c (k + 1) r s)) c = some (.lst (ns.map V.int)) := g1.at nc h2
          walk_at "w"
          refine k_powL (v := 1000000000000000000) (by decide) (by decide) (by decide) ?_
          walk_at "w"
          refine k_itd (fun hb => ?_) (fun hb => ?_)
          · walk_at "w"
            refine k_putS upd_same dd_len ?_
            rw [dd_put_rest]
            exact ⟨_, _, _, _, rfl, Keep.put g1, upd_same, (Keep.put Keep.refl : Keep d _ _).at nc g2, by omega, by omega, h5, h6⟩
          · walk_at "w"
            refine k_getS upd_same dd_seed ?_
            walk_at "w"
            refine k_putS upd_same dd_len ?_
            rw [dd_put_seed]
            exact ⟨_, _, _, _, rfl, Keep.put g1, upd_same, (Keep.put Keep.refl : Keep d _ _).at nc g2, by omega, by omega, by omega, by omega⟩
        · walk_at "w"
          exact ⟨_, _, _, _, rfl, Keep.refl, h1, h2, h3, h4, h5, h6⟩
      · walk_at "w"
        exact ⟨_, _, _, _, rfl, Keep.refl, h1, h2, h3, h4, h5, h6⟩
    · rintro σ' H' ⟨n, r, s, v, rfl, k, h1, h2, h3, h4, h5, h6⟩
      walk_at "w"
      refine k_getS h1 dd_rest ?_
      walk_at "w"
      refine k_itd (fun hr0 => ?_) (fun hr0 => ?_)
      · walk_at "w"
        refine k_getS h1 dd_rest ?_
        walk_at "w"
        refine k_getS h1 dd_rest ?_
        walk_at "w"
        refine k_fdiv m1 m2 ?_
        walk_at "w"
        refine k_putS h1 dd_len ?_
        rw [dd_put_rest]
        walk_at "w"
        exact q _ _ (Keep.put k) ⟨n, _, s, ns, upd_same, (Keep.put Keep.refl : Keep d _ _).at (ne_of h2 h1 (by intro z; cases z)) h2, h3, Int.ediv_nonneg h4 (by omega), h5, h6⟩ (Int.emod_nonneg _ (by omega)) (Int.emod_lt_of_pos _ m1)
      · walk_at "w"
        refine k_getS h1 dd_seed ?_
        walk_at "w"
        refine k_getS h1 dd_seed ?_
        refine k_mulR (by omega) ?_
        walk_at "w"
        refine k_getS h1 dd_seed ?_
        walk_at "w"
        refine k_putS h1 dd_len ?_
        rw [dd_put_seed]
        walk_at "w"
        refine k_getS upd_same dd_seed ?_
        walk_at "w"
        refine k_fdiv (by decide) (by decide) ?_
        walk_at "w"
        exact q _ _ (Keep.put k) ⟨n, r, _, ns, upd_same, (Keep.put Keep.refl : Keep d _ _).at (ne_of h2 h1 (by intro z; cases z)) h2, h3, h4, Int.emod_nonneg _ (by omega), Int.emod_lt_of_pos _ (by omega)⟩ (Int.emod_nonneg _ (by omega)) (Int.emod_lt_of_pos _ m1)
end
end Lw
namespace Lw
open PySem PySem.Spec PyProof.Rows L2 Ls
section
variable {P : Program} {w : World} {K : PySem.W.Frag} {mg : Str → Option Value} {base : Heap}
theorem ok__law_begin (E : Env K mg w) : FnOk P w K mg base CX0 1 E.a__law_begin E.fd__law_begin ["_law_script"] (spBegin K) := by
  refine E.F__law_begin.ok sc__law_begin (fun vs H Q E h => ?_) (fun cdv A outer s H vs Q E' hr h => ?_)
  · obtain ⟨d, m, rfl, _⟩ := h
    rfl
  · obtain ⟨a, ns, rfl, h1, h2, q⟩ := h
    have hu := huOf hr
    refine ⟨_, PSs.nox (pss_cons (ps_set (i := 1) sc__law_begin.nd rfl (Or.inl rfl) pe_int)
(pss_cons (ps_for PassesOwn.never rfl (kIL K rfl (pi_list (pe_slice (sl_U K rfl) (pv 0) po_none (po_some pe_int)))) (pg_name (i := 2) sc__law_begin.nd rfl (Or.inl rfl))
(pss_one (ps_set (i := 1) sc__law_begin.nd rfl (Or.inl rfl) (pe_op op_mod (pe_op (op_addU K rfl) (pe_op (op_addU K rfl) (pe_op op_mul (pv 1) pe_int) (pe_op op_mul (pv 2) pe_int)) pe_int) pe_int))))
(pss_one (ps_ret (pe_disp (pps_cons pe_str (pe_callTy (call_listU K rfl) (by rfl) E.n_list boot_list (pa_cons (pe_slice (sl_U K rfl) (pv 0) po_none (po_some pe_int)) pa_nil)) (pps_cons pe_str pe_int (pps_cons pe_str pe_int (pps_cons pe_str (pv 1) pps_nil)))) (by rfl) (by rfl) (by simp) (by decide)))))), ?_⟩
    refine k_body (s1 := [some (.ref a), none, none]) rfl ?_
    walk_at "w"
    refine k_slL h1 ?_
    rw [cut_all (by rw [List.length_map]; omega)]
    intro p hp
    refine k_itl (sql_of upd_same) ?_
    refine for_list (xs := ns.map V.int) (fun i σ H' => ∃ (s : Int) (c : Option V), σ = [some (.ref a), some (.int s), c] ∧ 0 ≤ s ∧ s < 2305843009213693951 ∧ Same H H' ∧ H' p = some (.lst (ns.map V.int))) ⟨_, _, rfl, by decide, by decide, same_new hp, upd_same⟩ (fun i σ H' _ hP => ?_) (fun i x σ H' hx hP => ?_) (fun σ H' hP => ?_)
    · obtain ⟨s, c, rfl, p1, p2, p3, p4⟩ := hP
      exact sql_of p4
    · obtain ⟨s, c, rfl, p1, p2, p3, p4⟩ := hP
      rw [List.getElem?_map] at hx
      obtain ⟨n, hn, rfl⟩ := Option.map_eq_some_iff.mp hx
      walk_at "w"
      exact ⟨_, _, rfl, Int.emod_nonneg _ (by decide), Int.emod_lt_of_pos _ (by decide), p3, p4⟩
    · obtain ⟨s, c, rfl, p1, p2, p3, p4⟩ := hP
      walk_at "w"
      refine k_disp ?_
      intro d hd
      refine k_prs ?_
      walk_at "w"
      refine k_slL (sql_same (same_new hd) (sql_same p3 h1)) ?_
      rw [cut_all (by rw [List.length_map]; omega)]
      intro pc hpc
      walk_at "w"
      refine k_list (sql_of upd_same) ?_
      intro pl hpl
      refine k_prs ?_
      walk_at "w"
      refine k_prs ?_
      walk_at "w"
      refine k_prs ?_
      walk_at "w"
      refine k_prn ?_
      have hd2 : upd (upd (upd H' d (.dK [])) pc (.lst (ns.map V.int))) pl (.lst (ns.map V.int)) d = some (.dK []) := by walk_at "hg"
      refine ⟨hd2, dd pl 0 0 s, rfl, by show 4 ≤ 15; decide, ?_⟩
      rw [dd_merge]
      refine q _ _ _ ?_ (Same.free p3 (Same.free (same_new hd) (Same.free (same_new hpc) hpl))) ?_ ?_
      · walk_at "fr"
      · walk_at "sm"
      · refine ⟨0, 0, s, ns, upd_same, ?_, by decide, by decide, p1, p2⟩
        rw [upd_ne (ne_of upd_same hd2 (by intro z; cases z))]
        exact upd_same
end
end Lw
namespace Lw
open PySem PySem.Spec PyProof.Rows L2 Ls
section
variable {P : Program} {w : World} {K : PySem.W.Frag} {mg : Str → Option Value} {base : Heap}
theorem ok__law_of (E : Env K mg w) (G__law_pick : FnOk P w K mg base CX0 1 E.a__law_pick E.fd__law_pick ["_law_d", "_law_many"] (spPick K)) : FnOk P w K mg base CX0 2 E.a__law_of E.fd__law_of ["_law_d", "_law_things"] (spOf K) := by
  refine E.F__law_of.ok sc__law_of (fun vs H Q E h => ?_) (fun cdv A outer s H vs Q E' hr h => ?_)
  · obtain ⟨d, c, m, xs, rfl, _⟩ := h
    rfl
  · obtain ⟨d, c, l, xs, rfl, hD, hl, h0, hn, q⟩ := h
    have hu := huOf hr
    have hr__law_pick := hr.mono (Nat.le_refl _)
    have b__law_pick := b__law_pick E
    refine ⟨_, PSs.nox (pss_one (ps_ret (pe_ix (ix_U K rfl) (pv 1) (pe_call G__law_pick hr__law_pick rfl E.g__law_pick E.F__law_pick.kp b__law_pick .nil pass0 (pa_cons (pv 0) (pa_cons (pe_callB (call_lenU K rfl) (by rfl) E.n_len boot_len (pa_cons (pv 1) pa_nil)) pa_nil))) (fun _ _ => rfl)))), ?_⟩
    refine k_body (s1 := [some (.ref d), some (.ref l)]) rfl ?_
    walk_at "w"
    refine k_lenL hl ?_
    walk_at "w"
    refine use_pick hD (by omega) (by omega) fun r H1 k1 D1 r0 r1 => ?_
    obtain ⟨k, rfl⟩ := Int.eq_ofNat_of_zero_le r0
    have hk : k < xs.length := by omega
    refine k_ixL (hD.sql k1 hl) (atI_nat (List.getElem?_eq_getElem hk)) ?_
    exact q _ _ k1 D1 (List.getElem_mem hk)
end
end Lw
namespace Lw
open PySem PySem.Spec PyProof.Rows L2 Ls
section
variable {P : Program} {w : World} {K : PySem.W.Frag} {mg : Str → Option Value} {base : Heap}
theorem same_turn (E : Env K mg w) (n : Nat) {sp : Sp} (G__law_same : FnOk P w K mg base CX0 n E.a__law_same E.fd__law_same ["_law_found", "_law_due"] sp)
    (use : ∀ (x y : V) (d : PyData) (H : Hp) (Q : VK) (E : XK) (m : Nat), n = m + 1 → Dp K H x d → Dp K H y d → OkD m d → (∀ H', Same H H' → Q (.bl true) H') → sp ([x, y] ++ []) H Q E) :
    FnOk P w K mg base CX0 (n + 1) E.a__law_same E.fd__law_same ["_law_found", "_law_due"] (spSame K n) := by
  refine E.F__law_same.ok sc__law_same (fun vs H Q E h => ?_) (fun cdv A outer s H vs Q E' hr h => ?_)
  · obtain ⟨x, y, d, rfl, _⟩ := h
    rfl
  · obtain ⟨x, y, d, rfl, hx, hy, hd, q⟩ := h
    have hu := huOf hr
    have b__law_same := b__law_same E
    have hr__law_same := hr
    refine ⟨_, PSs.nox (pss_cons (ps_if (pt_cmpR (op_isU) (pv 1) pe_non (nomark _)) (pss_one (ps_ret (pe_cmpR (op_isU) (pv 0) pe_non (nomark _)))) pss_nil)
(pss_cons (ps_if (PW.pt (pw_or (pt_val (pe_callB (call_isiU K rfl) (by rfl) E.n_isinstance boot_isinstance (pa_cons (pv 1) (pa_cons (pe_ty "bool" rfl E.n_bool (by decide +kernel)) pa_nil)))) (pw_or1 (pt_val (pe_callB (call_isiU K rfl) (by rfl) E.n_isinstance boot_isinstance (pa_cons (pv 0) (pa_cons (pe_ty "bool" rfl E.n_bool (by decide +kernel)) pa_nil))))))) (pss_one (ps_ret (pe_and (pe_callB (call_isiU K rfl) (by rfl) E.n_isinstance boot_isinstance (pa_cons (pv 1) (pa_cons (pe_ty "bool" rfl E.n_bool (by decide +kernel)) pa_nil))) (pe_and (pe_callB (call_isiU K rfl) (by rfl) E.n_isinstance boot_isinstance (pa_cons (pv 0) (pa_cons (pe_ty "bool" rfl E.n_bool (by decide +kernel)) pa_nil))) (pe_one (pe_cmpR (op_eqU K rfl hu) (pv 0) (pv 1) (nomark _))))))) pss_nil)
(pss_cons (ps_if (pt_val (pe_callB (call_isiTU K rfl) (by rfl) E.n_isinstance boot_isinstance (pa_cons (pv 1) (pa_cons (pe_tup (pa_cons (pe_ty "int" rfl E.n_int (by decide +kernel)) (pa_cons (pe_ty "str" rfl E.n_str (by decide +kernel)) pa_nil))) pa_nil)))) (pss_one (ps_ret (pe_and (pe_callB (call_isiTU K rfl) (by rfl) E.n_isinstance boot_isinstance (pa_cons (pv 0) (pa_cons (pe_tup (pa_cons (pe_ty "int" rfl E.n_int (by decide +kernel)) (pa_cons (pe_ty "str" rfl E.n_str (by decide +kernel)) pa_nil))) pa_nil))) (pe_and (pe_cmpR (op_eqU K rfl hu) (pe_callB (call_isiU K rfl) (by rfl) E.n_isinstance boot_isinstance (pa_cons (pv 0) (pa_cons (pe_ty "int" rfl E.n_int (by decide +kernel)) pa_nil))) (pe_callB (call_isiU K rfl) (by rfl) E.n_isinstance boot_isinstance (pa_cons (pv 1) (pa_cons (pe_ty "int" rfl E.n_int (by decide +kernel)) pa_nil))) (nomark _)) (pe_one (pe_cmpR (op_eqU K rfl hu) (pv 0) (pv 1) (nomark _))))))) pss_nil)
(pss_cons (ps_if (PW.pt (pw_or (pt_cmpR (op_neU K rfl hu) (pe_callB (call_isiU K rfl) (by rfl) E.n_isinstance boot_isinstance (pa_cons (pv 1) (pa_cons (pe_ty "list" rfl E.n_list (by decide +kernel)) pa_nil))) (pe_callB (call_isiU K rfl) (by rfl) E.n_isinstance boot_isinstance (pa_cons (pv 0) (pa_cons (pe_ty "list" rfl E.n_list (by decide +kernel)) pa_nil))) (nomark _)) (pw_or1 (pt_cmpR (op_neU K rfl hu) (pe_callB (call_isiU K rfl) (by rfl) E.n_isinstance boot_isinstance (pa_cons (pv 1) (pa_cons (pe_ty "tuple" rfl E.n_tuple (by decide +kernel)) pa_nil))) (pe_callB (call_isiU K rfl) (by rfl) E.n_isinstance boot_isinstance (pa_cons (pv 0) (pa_cons (pe_ty "tuple" rfl E.n_tuple (by decide +kernel)) pa_nil))) (nomark _))))) (pss_one (ps_ret pe_bl)) pss_nil)
(pss_one (ps_ret (pe_and (pe_cmpR (op_eqU K rfl hu) (pe_callB (call_lenU K rfl) (by rfl) E.n_len boot_len (pa_cons (pv 0) pa_nil)) (pe_callB (call_lenU K rfl) (by rfl) E.n_len boot_len (pa_cons (pv 1) pa_nil)) (nomark _)) (pe_one (pe_callB (cr_allU K rfl rfl) (by rfl) E.n_all boot_all (pa_cons (pe_lc (own := [("_law_k", 2)]) rfl sc__law_same.nd (pi_range1 rfl E.n_range (pa_cons (pe_callB (call_lenU K rfl) (by rfl) E.n_len boot_len (pa_cons (pv 1) pa_nil)) pa_nil)) (blkOk_by (N := ["_law_found", "_law_due", "_law_k"]) (sc := defScope s__law_same) (by decide +kernel)) (fun _ _ _ _ _ => (pg_name (i := 2) sc__law_same.nd rfl (Or.inl rfl))) (fun _ _ _ _ _ => pts_nil) (fun _ _ _ _ _ => (pe_call G__law_same hr__law_same rfl E.g__law_same E.F__law_same.kp b__law_same .nil pass0 (pa_cons (pe_ix (ix_U K rfl) (pv 0) (pv 2) (fun _ _ => rfl)) (pa_cons (pe_ix (ix_U K rfl) (pv 1) (pv 2) (fun _ _ => rfl)) pa_nil))))) pa_nil)))))))))), ?_⟩
    refine k_body (s1 := [some x, some y, none]) rfl ?_
    have two : d = .none ∨ (∃ b, d = .bool b) ∨ (∃ i, d = .int i) ∨ (∃ z, d = .str z) ∨ ∃ (a c : Addr) (xs ys : List V) (ds : List PyData) (m : Nat) (U : String) (bL bT : Bool), n = m + 1 ∧ x = .ref a ∧ y = .ref c ∧ (SqL K H a xs ∨ SqT K H a xs) ∧ (SqL K H c ys ∨ SqT K H c ys) ∧ DpAll K H xs ds ∧ DpAll K H ys ds ∧
        ds.length ≤ 100000 ∧ (∀ e ∈ ds, OkD m e) ∧ tyn d = U ∧ kitB U "bool" = some false ∧ kitB U "int" = some false ∧ kitB U "str" = some false ∧ kitB U "list" = some bL ∧ kitB U "tuple" = some bT := by
      cases d with
      | none => exact .inl rfl
      | bool b => exact .inr (.inl ⟨b, rfl⟩)
      | int i => exact .inr (.inr (.inl ⟨i, rfl⟩))
      | str z => exact .inr (.inr (.inr (.inl ⟨z, rfl⟩)))
      | list ds =>
        cases n with
        | zero => exact hd.elim
        | succ m =>
          cases hx with
          | lst h1 h2 =>
            cases hy with
            | lst h3 h4 => exact .inr (.inr (.inr (.inr ⟨_, _, _, _, ds, m, _, _, _, rfl, rfl, rfl, .inl h1, .inl h3, h2, h4, hd.1, hd.2, rfl, kt_list_bool, kt_list_int, kt_list_str, kt_list_list, kt_list_tuple⟩)))
      | tuple ds =>
        cases n with
        | zero => exact hd.elim
        | succ m =>
          cases hx with
          | tup h1 h2 =>
            cases hy with
            | tup h3 h4 => exact .inr (.inr (.inr (.inr ⟨_, _, _, _, ds, m, _, _, _, rfl, rfl, rfl, .inr h1, .inr h3, h2, h4, hd.1, hd.2, rfl, kt_tuple_bool, kt_tuple_int, kt_tuple_str, kt_tuple_list, kt_tuple_tuple⟩)))
      | dict i => cases n <;> exact hd.elim
    walk_at "w"
    rcases two with rfl | ⟨b, rfl⟩ | ⟨i, rfl⟩ | ⟨z, rfl⟩ | ⟨a, c, xs, ys, ds, m, U, bL, bT, rfl, rfl, rfl, sx, sy, ax, ay, hl, hds, e0, eb, ei, es, eL, eT⟩
    · cases hx
      cases hy
      refine k_pos rfl ?_
      walk_at "w"
      exact q H (Same.refl H)
    · cases hx
      cases hy
      refine k_neg' (by simp) ?_
      walk_at "w"
      refine k_isi (.bl b) rfl kt_bool_bool ?_
      walk_at "w"
      refine k_isi (.bl b) rfl kt_bool_bool ?_
      walk_at "w"
      refine k_isi (.bl b) rfl kt_bool_bool ?_
      walk_at "w"
      simp only [decide_true]
      exact q H (Same.refl H)
    · cases hx
      cases hy
      refine k_neg' (by simp) ?_
      walk_at "w"
      refine k_isi (.int i) rfl kt_int_bool ?_
      walk_at "w"
      refine k_isi (.int i) rfl kt_int_bool ?_
      walk_at "w"
      intro t nt
      walk_at "w"
      refine k_isi2 (b := true) (.int i) upd_same rfl kt_int_int kt_int_str rfl ?_
      walk_at "w"
      intro t2 nt2
      walk_at "w"
      refine k_isi2 (b := true) (.int i) upd_same rfl kt_int_int kt_int_str rfl ?_
      walk_at "w"
      refine k_isi (.int i) rfl kt_int_int ?_
      walk_at "w"
      refine k_isi (.int i) rfl kt_int_int ?_
      walk_at "w"
      refine k_pos rfl ?_
      walk_at "w"
      simp only [decide_true]
      exact q _ ((same_new nt).trans (same_new nt2))
    · cases hx
      cases hy
      refine k_neg' (by simp) ?_
      walk_at "w"
      refine k_isi (.str z) rfl kt_str_bool ?_
      walk_at "w"
      refine k_isi (.str z) rfl kt_str_bool ?_
      walk_at "w"
      intro t nt
      walk_at "w"
      refine k_isi2 (b := true) (.str z) upd_same rfl kt_str_int kt_str_str rfl ?_
      walk_at "w"
      intro t2 nt2
      walk_at "w"
      refine k_isi2 (b := true) (.str z) upd_same rfl kt_str_int kt_str_str rfl ?_
      walk_at "w"
      refine k_isi (.str z) rfl kt_str_int ?_
      walk_at "w"
      refine k_isi (.str z) rfl kt_str_int ?_
      walk_at "w"
      refine k_pos rfl ?_
      walk_at "w"
      simp only [decide_true]
      exact q _ ((same_new nt).trans (same_new nt2))
    · refine k_neg' (by simp) ?_
      walk_at "w"
      refine k_isi hy e0 eb ?_
      walk_at "w"
      refine k_isi hx e0 eb ?_
      walk_at "w"
      intro t nt
      have s1 := same_new (o := .tup [.ty "int", .ty "str"]) nt
      walk_at "w"
      refine k_isi2 (b := false) (dp_same s1 hy) upd_same e0 ei es rfl ?_
      walk_at "w"
      refine k_isi (dp_same s1 hy) e0 eL ?_
      walk_at "w"
      refine k_isi (dp_same s1 hx) e0 eL ?_
      walk_at "w"
      refine k_nneg rfl ?_
      walk_at "w"
      refine k_isi (dp_same s1 hy) e0 eT ?_
      walk_at "w"
      refine k_isi (dp_same s1 hx) e0 eT ?_
      walk_at "w"
      refine k_nneg rfl ?_
      walk_at "w"
      refine k_lenE (seq_same s1 sx) ?_
      walk_at "w"
      refine k_lenE (seq_same s1 sy) ?_
      walk_at "w"
      refine k_pos (by rw [DpAll.length' ax, DpAll.length' ay]) ?_
      walk_at "w"
      refine k_lenE (seq_same s1 sy) ?_
      walk_at "w"
      have ly := DpAll.length' ay
      refine k_itr1 (by omega) ?_
      intro D hD
      have s2 := s1.trans (same_new (o := .lst []) hD)
      refine lc_range (fun i H' => Same H H' ∧ H D = none ∧ H' D = some (.lst (List.replicate i (V.bl true)))) ⟨s2, s1.free hD, upd_same⟩ (fun i H' hi hP => ?_) (fun H' hP => ?_)
      · obtain ⟨p1, p2, p3⟩ := hP
        walk_at "lc"
        have hi' : i < ds.length := by omega
        obtain ⟨v, hv, dv⟩ := DpAll.getD' ax (List.getElem?_eq_getElem hi')
        obtain ⟨u, hu', du⟩ := DpAll.getD' ay (List.getElem?_eq_getElem hi')
        refine k_ixE (seq_same p1 sx) (at_of (by omega) hv) ?_
        walk_at "w"
        refine k_ixE (seq_same p1 sy) (at_of (by omega) hu') ?_
        walk_at "w"
        refine use _ _ _ _ _ _ m rfl (dp_same p1 dv) (dp_same p1 du) (hds _ (List.getElem_mem hi')) fun H2 s3 => ?_
        refine ⟨_, s3 _ _ p3, ?_, ?_⟩
        · rw [List.length_replicate, sizeLine_eq]
          omega
        · refine ⟨fun b o e => ?_, p2, ?_⟩
          · rw [upd_ne (ne_of_none e p2)]
            exact s3 _ _ (p1 _ _ e)
          · rw [upd_same, List.replicate_succ']
      · obtain ⟨p1, p2, p3⟩ := hP
        walk_at "w"
        refine k_all (bs := List.replicate (ys.length : Int).toNat true) (by rw [List.map_replicate]; exact sql_of p3) ?_
        have ea : (List.replicate (ys.length : Int).toNat true).all id = true := by
          rw [List.all_eq_true]
          intro x hx
          rw [List.eq_of_mem_replicate hx]
          rfl
        rw [ea]
        exact q _ p1
theorem ok__law_same (E : Env K mg w) : ∀ n : Nat, FnOk P w K mg base CX0 (n + 1) E.a__law_same E.fd__law_same ["_law_found", "_law_due"] (spSame K n)
  | 0 => same_turn E 0 (sp := fun _ _ _ _ => False) ⟨fun _ _ _ _ h => h.elim, fun _ _ _ _ _ _ _ _ _ _ _ _ _ h => h.elim⟩ fun x y d H Q E m hm => by omega
  | n + 1 => same_turn E (n + 1) (ok__law_same E n) fun x y d H Q E m hm h1 h2 h3 q => by
    cases hm
    exact use_same h1 h2 h3 q
end
end Lw
set_option hygiene false
local macro_rules | `(tactic| walk_at "mem") => `(tactic| first
  | (with_reducible exact List.mem_cons_self)
  | assumption
  | (with_reducible refine' List.mem_cons_of_mem _ ?mx; (case mx => walk_at "mem")))
local macro_rules | `(tactic| walk_at "om") => `(tactic| first | omega | decide | (simp only [List.length_cons, List.length_nil, List.length_append, List.length_map] <;> omega))
local macro_rules | `(tactic| walk_at "dat") => `(tactic| (with_reducible first
  | exact Dat.int _ | exact Dat.str _ | exact Dat.non | exact Dat.bl _
  | (refine' Dat.im ?dx; (case dx => walk_at "mem"))))
local macro_rules | `(tactic| walk_at "dats") => `(tactic| first
  | (with_reducible exact DatAll.nil)
  | (with_reducible refine' DatAll.cons ?da ?db; (case da => walk_at "dat"); (case db => walk_at "dats")))
local macro_rules | `(tactic| walk_at "dl") => `(tactic| first
  | (refine' Dl.dat ?dx; (case dx => walk_at "dat"))
  | (refine' Dl.ld ?dx; (case dx => walk_at "mem")))
local macro_rules | `(tactic| walk_at "rep") => `(tactic| first
  | (with_reducible exact Rep.here)
  | (with_reducible refine' Rep.there ?rx; (case rx => walk_at "rep")))
local macro_rules | `(tactic| walk_at "rem") => `(tactic| first
  | (with_reducible exact Rem.here)
  | (with_reducible refine' Rem.there ?rx; (case rx => walk_at "rem")))
local macro_rules | `(tactic| walk_at "sub") => `(tactic| first
  | (with_reducible exact Sub.refl)
  | (with_reducible exact Sub.nil)
  | (with_reducible refine' Sub.rem ?rr ?rs; (case rr => walk_at "rem"); (case rs => walk_at "sub"))
  | (with_reducible refine' Sub.dup ?rr ?rs; (case rr => walk_at "mem"); (case rs => walk_at "sub"))
  | (with_reducible refine' Sub.drop ?rx; (case rx => walk_at "sub")))
local macro_rules | `(tactic| walk_at "fl") => `(tactic| first | (with_unfolding_all exact Nat.le_of_ble_eq_true rfl) | with_unfolding_all decide | (simp only [List.length_cons, List.length_nil]; omega))
local macro_rules | `(tactic| walk_at "pf") => `(tactic| rfl)
local macro_rules | `(tactic| walk_at "gv") => `(tactic| (dsimp only [Gv, GvAll, List.nil_append, List.cons_append, List.append_nil]; first
  | refine fun (hS : Ls.Sep _ _) => ?_
  | refine fun v (hS : Ls.Sep _ _) => ?_
  | refine fun v1 v2 (hS : Ls.Sep _ _) => ?_
  | refine fun v1 v2 v3 (hS : Ls.Sep _ _) => ?_))
local macro_rules | `(tactic| walk_at "sa") => `(tactic| (refine fun p (hp : _ = none) => ?_; first
  | (rw [updT_eq p]; (generalize he : updT _ p _ = H'); (first | (refine' andThen (ar_I hS hp he ?dt) ?_; (case dt => walk_at "dats")) | (refine' andThen (ar_T hS hp he) ?_)); clear he hp hS; refine fun hS => ?_)
  | (rw [updL_eq p]; (generalize he : updL _ p _ = H'); (first | (refine' andThen (ar_L hS hp he ?dt) ?_; (case dt => walk_at "dats")) | (refine' andThen (ar_O hS hp he) ?_)); clear he hp hS; refine fun hS => ?_)
  | (rw [updK_eq p]; (generalize he : updK _ p _ = H'); (refine' andThen (ar_K hS hp he) ?_); clear he hp hS; refine fun hS => ?_)))
local macro_rules | `(tactic| walk_at "sr") => `(tactic| with_reducible first
  | (refine' k_lenD hS ?sm ?_; (case sm => walk_at "mem"))
  | (refine' k_lenI hS ?sm ?_; (case sm => walk_at "mem"))
  | (refine' k_lenO hS ?sm ?_; (case sm => walk_at "mem"))
  | (refine' k_lenK hS ?sm ?_; (case sm => walk_at "mem"))
  | (refine' k_ixS' hS ?sm ?se ?_; (case sm => walk_at "mem"); (case se => with_unfolding_all rfl); clear hS; walk_at "gv")
  | (refine' k_ixD hS ?sm ?se ?_; (case sm => walk_at "mem"); (case se => with_unfolding_all rfl); clear hS; walk_at "gv")
  | (refine' k_ixTu hS ?sm ?se ?_; (case sm => walk_at "mem"); (case se => with_unfolding_all rfl))
  | (refine' k_gtupS hS ?sm ?se ?_; (case sm => walk_at "mem"); (case se => with_unfolding_all rfl); clear hS; walk_at "gv")
  | (refine' k_gtupO hS ?sm ?se ?_; (case sm => walk_at "mem"); (case se => with_unfolding_all rfl))
  | (refine' k_tyD hS ?sm ?_; (case sm => walk_at "mem"))
  | (refine' k_tyO hS ?sm ?_; (case sm => walk_at "mem"))
  | (refine' k_appD hS ?sr ?st ?sl ?_; (case sr => walk_at "rep"); (case st => walk_at "dat"); (case sl => walk_at "sz"); clear hS; refine fun H' hS => ?_)
  | (refine' k_appO hS ?sr ?sl ?_; (case sr => walk_at "rep"); (case sl => walk_at "sz"); clear hS; refine fun H' hS => ?_)
  | refine k_chain3 ?_ | refine k_istr ?_ | refine k_istX ?_ | refine k_inSg ?_ | refine k_non ?_
  | (refine' k_fldS hS ?sm ?sc ?sn ?se ?_; (case sm => walk_at "mem"); (case sc => assumption); (case sn => assumption); (case se => with_unfolding_all rfl))
  | (refine' k_fldF hS ?sm ?sc ?sn ?se ?_; (case sm => walk_at "mem"); (case sc => assumption); (case sn => assumption); (case se => with_unfolding_all rfl))
  | (refine' k_fldA hS ?sm ?sc ?sn ?se ?_; (case sm => walk_at "mem"); (case sc => assumption); (case sn => assumption); (case se => with_unfolding_all rfl))
  | (refine' k_putS' hS ?sr ?sc ?sn ?sl ?se ?_; (case sr => walk_at "rep"); (case sc => assumption); (case sn => assumption); (case sl => walk_at "fl"); (case se => walk_at "pf"); clear hS; refine fun H' hS => ?_)
  | (refine' k_putG hS ?sr ?sc ?sn ?sl ?se ?_; (case sr => walk_at "rep"); (case sc => assumption); (case sn => assumption); (case sl => walk_at "fl"); (case se => walk_at "pf"); clear hS; refine fun H' hS => ?_)
  | (refine' k_recvP (Z := ⟨E.C_Kind, E.C_Page, E.C_Lane⟩) hS ?sm ?se ?_; (case sm => walk_at "mem"); (case se => (intro c; with_unfolding_all rfl)))
  | (refine' k_recvL (Z := ⟨E.C_Kind, E.C_Page, E.C_Lane⟩) hS ?sm ?se ?_; (case sm => walk_at "mem"); (case se => (intro b c; with_unfolding_all rfl)))
  | (refine' k_recvLA (Z := ⟨E.C_Kind, E.C_Page, E.C_Lane⟩) hS ?sm ?se ?_; (case sm => walk_at "mem"); (case se => (intro b c; with_unfolding_all rfl)))
  | (refine' k_kname hS ?sm ?sc ?sn ?_; (case sm => walk_at "mem"); (case sc => assumption); (case sn => assumption))
  | (refine' k_kfields hS ?sm ?sc ?sn ?_; (case sm => walk_at "mem"); (case sc => assumption); (case sn => assumption); clear hS; refine fun f hS => ?_)
  | (refine' k_madeT hS ?_; clear hS; refine fun x H hS => ?_)
  | (refine' k_recvK hS ?sm ?se ?_; (case sm => walk_at "mem"); (case se => (intro b; with_unfolding_all rfl)))
  | (refine' k_fldP (Z := ⟨E.C_Kind, E.C_Page, E.C_Lane⟩) hS ?sm ?sc ?sn ?se ?_; (case sm => walk_at "mem"); (case sc => assumption); (case sn => assumption); (case se => (intro c; with_unfolding_all rfl)))
  | (refine' k_fldL (Z := ⟨E.C_Kind, E.C_Page, E.C_Lane⟩) hS ?sm ?sc ?sn ?se ?_; (case sm => walk_at "mem"); (case sc => assumption); (case sn => assumption); (case se => (intro b c; with_unfolding_all rfl)))
  | (refine' k_augS hS ?sr ?sl ?se ?_; (case sr => walk_at "rep"); (case sl => walk_at "fl"); (case se => walk_at "pf"); clear hS; refine fun H' hS => ?_)
  | (refine' k_recvI hS ?sm ?se ?_; (case sm => walk_at "mem"); (case se => with_unfolding_all rfl))
  | (refine' k_recvF hS ?sm ?se ?_; (case sm => walk_at "mem"); (case se => with_unfolding_all rfl))
  | (refine' k_eqzO hS ?sm ?sn ?_; (case sm => walk_at "mem"); (case sn => walk_at "mem"))
  | (refine' k_nezO hS ?sm ?sn ?_; (case sm => walk_at "mem"); (case sn => walk_at "mem"))
  | (refine' k_eqzD hS ?sm ?sn ?_; (case sm => walk_at "mem"); (case sn => walk_at "mem"))
  | (refine' k_nezD hS ?sm ?sn ?_; (case sm => walk_at "mem"); (case sn => walk_at "mem"))
  | (refine' k_ixO hS ?sm ?se ?_; (case sm => walk_at "mem"); (case se => assumption))
  | (refine' k_ixD hS ?sm ?se ?_; (case sm => walk_at "mem"); (case se => assumption); clear hS; walk_at "gv")
  | (refine' k_popAtO hS ?sr ?se ?sb ?_; (case sr => walk_at "rep"); (case se => assumption); (case sb => walk_at "om"); clear hS; refine fun H' hS => ?_)
  | (refine' k_popO hS ?sr ?se ?_; (case sr => walk_at "rep"); (case se => assumption); clear hS; refine fun H' hS => ?_)
  | (refine' k_extO hS ?sr ?sm ?sl ?_; (case sr => walk_at "rep"); (case sm => walk_at "mem"); (case sl => walk_at "sz"); clear hS; refine fun H' hS => ?_)
  | (refine' k_setO hS ?sr ?se ?_; (case sr => walk_at "rep"); (case se => assumption); clear hS; refine fun H' hS => ?_)
  | (refine' k_slTu hS ?sm ?_; (case sm => walk_at "mem"); clear hS; refine fun p H' hS => ?_)
  | (refine' k_slI hS ?sm ?_; (case sm => walk_at "mem"); clear hS; refine fun p H' hS => ?_)
  | (refine' k_slD hS ?sm ?_; (case sm => walk_at "mem"); clear hS; refine fun p H' hS => ?_)
  | (refine' k_slO hS ?sm ?_; (case sm => walk_at "mem"); clear hS; refine fun p H' hS => ?_)
  | refine k_joinU ?_ | refine k_strX ?_ | refine k_iseq ?_ | refine k_enum ?_ | refine k_fld ?_ | refine k_sfld ?_ | refine k_gfld ?_ | refine k_gsub ?_ | refine k_makeK ?_ | (refine' k_aug ?se ?_; (case se => with_unfolding_all rfl); dsimp only [List.set_cons_succ, List.set_cons_zero]) | refine k_ipI ?_ | refine k_asg2 ?_ | refine k_sfldaug ?_ | refine k_meth ?_ | refine k_methN ?_ | refine k_make ?_ | refine k_inadd ?_ | refine k_insub ?_
  | (refine' k_glueS hS ?sm ?sl ?_; (case sm => walk_at "mem"); (case sl => walk_at "om"))
  | (refine' k_seqD hS ?sm ?_; (case sm => walk_at "mem"))
  | (refine' k_seqO hS ?sm ?_; (case sm => walk_at "mem"))
  | (refine' k_seqI hS ?sm ?_; (case sm => walk_at "mem"))
  | (refine' k_enD hS ?sm ?_; (case sm => walk_at "mem"))
  | (refine' k_enO hS ?sm ?_; (case sm => walk_at "mem"))
  | (refine' k_enI hS ?sm ?_; (case sm => walk_at "mem"))
  | (refine' k_tupleS hS ?sm ?_; (case sm => walk_at "mem"); clear hS; refine fun p H' hS => ?_)
  | (refine' k_listS hS ?sm ?_; (case sm => walk_at "mem"); clear hS; refine fun p H' hS => ?_)
  | (refine' k_listO hS ?sm ?_; (case sm => walk_at "mem"); clear hS; refine fun p H' hS => ?_)
  | refine k_min2 ?_ | refine k_max2 ?_
  | (refine' k_addD hS ?sm ?sn ?sl ?_; (case sm => walk_at "mem"); (case sn => walk_at "mem"); (case sl => walk_at "sz"); clear hS; refine fun p H' hS => ?_)
  | (refine' k_inS hS ?sm ?_; (case sm => walk_at "mem"))
  | (refine' k_notinS hS ?sm ?_; (case sm => walk_at "mem"))
  | (refine' k_inI hS ?sm ?_; (case sm => walk_at "mem"))
  | (refine' k_notinI hS ?sm ?_; (case sm => walk_at "mem"))
  | (refine k_fdiv ?sa ?sb ?_; (case sa => (first | omega | decide)); (case sb => (first | omega | decide)))
  | (refine k_itr1 ?se ?_; (case se => omega))
  | (refine' k_itlD hS ?sm ?_; (case sm => walk_at "mem"))
  | (refine' k_itlO hS ?sm ?_; (case sm => walk_at "mem"))
  | (refine' k_ittI hS ?sm ?_; (case sm => walk_at "mem")))
local macro_rules | `(tactic| walk_at "s") => `(tactic| repeat first | walk_at "w1" | walk_at "ar" | walk_at "sa" | walk_at "sr")
local macro_rules | `(tactic| walk_at "pk") => `(tactic| (refine' use_pickS hS ?sm ?sa ?sb ?_; (case sm => walk_at "mem"); (case sa => walk_at "om"); (case sb => walk_at "om"); clear hS))
local macro_rules | `(tactic| walk_at "ofI") => `(tactic| (refine' use_ofI hS ?sm ?sn ?si ?sa ?sb ?_; (case sm => walk_at "mem"); (case sn => walk_at "mem"); (case si => rfl); (case sa => walk_at "om"); (case sb => walk_at "om"); clear hS))
local macro_rules | `(tactic| walk_at "ofS") => `(tactic| (refine' use_ofS hS ?sm ?sn ?si ?sa ?sb ?_; (case sm => walk_at "mem"); (case sn => walk_at "mem"); (case si => rfl); (case sa => walk_at "om"); (case sb => walk_at "om"); clear hS))
local macro_rules | `(tactic| walk_at "hl") => `(tactic| repeat first | (obtain ⟨rfl, -⟩ := h; rfl) | (obtain ⟨_, h⟩ := h))
local macro_rules | `(tactic| walk_at "ls") => `(tactic| (simp only [wipe, List.map, List.set_cons_succ, List.set_cons_zero, List.nil_append, List.cons_append] at hS ⊢; walk_at "s"; refine ⟨rfl, ?_⟩; walk_at "s"))
local macro_rules | `(tactic| walk_at "ns") => `(tactic| (simp only [List.nil_append, List.cons_append] at hS))
local macro_rules | `(tactic| walk_at "gi") => `(tactic| (dsimp only [Gv]; first | refine fun H (hS : Ls.Sep _ _) => ?_ | refine fun a H (hS : Ls.Sep _ _) => ?_))
local macro_rules | `(tactic| walk_at "tp") => `(tactic| (refine' Sep.toPage (Sub.ok ?sa hS) ?sb; (case sa => walk_at "sub"); (case sb => rfl)))
local macro_rules | `(tactic| walk_at "tl") => `(tactic| focus (first
  | (refine' Sep.toLane (bk := bk) (pl := pl) (Sub.ok ?sa hS) ?sb ?_ ?_; (case sa => walk_at "sub"); (case sb => rfl); all_goals (try rfl))
  | (refine' Sep.toLane (Sub.ok ?sa hS) ?sb ?_ ?_; (case sa => walk_at "sub"); (case sb => rfl); all_goals (try rfl))))
namespace Ls
open PySem PySem.Spec PyProof.Rows L2
open TL
abbrev IsSg (c : Nat) : Prop := 97 ≤ c ∧ c ≤ 122
def IsNm (z : Str) : Prop := 1 ≤ z.length ∧ z.length ≤ 8 ∧ ∀ c ∈ z.cps.toList, IsSg c
theorem abc_at : ∀ k : Fin 26, (("abcdefghijklmnopqrstuvwxyz" : Str).cps.toList)[k.val]? = some (97 + k.val) := by decide +kernel
theorem abc_ix {r : Int} (h0 : 0 ≤ r) (h1 : r < 26) : atI ("abcdefghijklmnopqrstuvwxyz" : Str).cps.toList r = some (97 + r.toNat) := by
  obtain ⟨k, rfl⟩ := Int.eq_ofNat_of_zero_le h0
  exact atI_nat (abc_at ⟨k, by omega⟩)
theorem join_sigs : ∀ cs : List Nat, (Txt.join ("" : Str) (cs.map fun c => (⟨#[c]⟩ : Str))).cps.toList = cs := fun cs => by
  rw [join_eq]
  show tl _ = _
  rw [tl_join, List.map_map]
  have e : tl ("" : Str) = [] := by decide +kernel
  rw [e]
  have : ∀ cs : List Nat, joinL [] (cs.map (tl ∘ fun c => (⟨#[c]⟩ : Str))) = cs := by
    intro cs
    induction cs with
    | nil => rfl
    | cons c r ih =>
      cases r with
      | nil => rfl
      | cons c2 r2 =>
        show tl (⟨#[c]⟩ : Str) ++ ([] ++ joinL [] ((c2 :: r2).map _)) = _
        rw [ih]
        rfl
  exact this cs
theorem sig_len (c : Nat) : (⟨#[c]⟩ : Str).length = 1 := rfl
theorem sigs_sum (cs : List Nat) : ((cs.map fun c => (⟨#[c]⟩ : Str)).map (·.length)).sum = cs.length := by
  induction cs with
  | nil => rfl
  | cons c r ih =>
    simp only [List.map_cons, List.sum_cons, List.length_cons] at ih ⊢
    rw [ih, sig_len]
    omega
theorem len_toList (z : Str) : z.length = z.cps.toList.length := (Array.length_toList).symm
theorem app_toList (x y : Str) : (x ++ y).cps.toList = x.cps.toList ++ y.cps.toList := by
  rw [Str.cps_append, Array.toList_append]
theorem app_len (x y : Str) : (x ++ y).length = x.length + y.length := Str.length_append x y
def spWord (K : PySem.W.Frag) : Sp := fun vs H Q _ => ∃ (d : Addr) (L : List (As K)), vs = [.ref d] ∧ Sep L H ∧ dr d ∈ L ∧ ∀ z H', IsNm z → Sep L H' → Q (.str z) H'
def spWords (K : PySem.W.Frag) : Sp := fun vs H Q _ => ∃ (d : Addr) (n : Nat) (L : List (As K)), vs = [.ref d, .int n] ∧ n ≤ 8 ∧ Sep L H ∧ dr d ∈ L ∧ ∀ p (zs : List Str) H', zs.length = n → zs.Nodup → (∀ z ∈ zs, IsNm z) → Sep (ld p (zs.map PyData.str) :: L) H' → Q (.ref p) H'
end Ls
namespace Lw
open PySem PySem.Spec PyProof.Rows L2 Ls
theorem ok__law_word {P : Program} {w : World} {K : PySem.W.Frag} {mg : Str → Option Value} {base : Heap} (E : Env K mg w) : FnOk P w K mg base CX0 3 E.a__law_word E.fd__law_word ["_law_d"] (spWord K) := by
  refine E.F__law_word.ok sc__law_word (fun vs H Q E h => ?_) (fun cdv A outer s H vs Q E' hr h => ?_)
  · walk_at "hl"
  · have hu := huOf hr
    have G__law_of := ok__law_of E (ok__law_pick (P := P) (w := w) (base := base) E)
    have hr__law_of := hr.mono (show 2 ≤ 2 by decide)
    have b__law_of := b__law_of E
    have G__law_pick := ok__law_pick (P := P) (w := w) (base := base) E
    have hr__law_pick := hr.mono (show 1 ≤ 2 by decide)
    have b__law_pick := b__law_pick E
    have hcl_Kind := E.cl_Kind
    obtain ⟨d, L, rfl, hS, hd, q⟩ := h
    refine ⟨_, PSs.nox (pss_cons (ps_set (i := 1) sc__law_word.nd rfl (Or.inr rfl) pe_str)
(pss_cons (ps_set (i := 2) sc__law_word.nd rfl (Or.inl rfl) (pe_call G__law_of hr__law_of rfl E.g__law_of E.F__law_of.kp b__law_of .nil pass0 (pa_cons (pv 0) (pa_cons (pe_lst (pa_cons pe_str (pa_cons pe_str (pa_cons pe_str (pa_cons pe_str (pa_cons pe_str pa_nil)))))) pa_nil))))
(pss_cons (ps_set (i := 3) sc__law_word.nd rfl (Or.inl rfl) (pe_op (op_addU K rfl) pe_int (pe_call G__law_pick hr__law_pick rfl E.g__law_pick E.F__law_pick.kp b__law_pick .nil pass0 (pa_cons (pv 0) (pa_cons (pe_op op_sub pe_int (pe_callB (call_lenU K rfl) (by rfl) E.n_len boot_len (pa_cons (pv 2) pa_nil))) pa_nil)))))
(pss_cons (ps_set (i := 4) sc__law_word.nd rfl (Or.inl rfl) (pe_joinU K rfl pe_str (pe_lc (own := [("_law_k", 5)]) rfl sc__law_word.nd (pi_range1 rfl E.n_range (pa_cons (pv 3) pa_nil)) (blkOk_by (N := ["_law_d", "_law_letters", "_law_first", "_law_size", "_law_some", "_law_k"]) (sc := defScope s__law_word) (by decide +kernel)) (fun _ _ _ _ _ => (pg_name (i := 5) sc__law_word.nd rfl (Or.inl rfl))) (fun _ _ _ _ _ => pts_nil) (fun _ _ _ _ _ => (pe_ix (ix_U K rfl) (pv 1) (pe_call G__law_pick hr__law_pick rfl E.g__law_pick E.F__law_pick.kp b__law_pick .nil pass0 (pa_cons (pv 0) (pa_cons pe_int pa_nil))) (fun _ _ => rfl))))))
(pss_one (ps_ret (pe_ix (ix_U K rfl) (pe_lst (pa_cons (pe_op (op_addU K rfl) (pv 2) (pv 4)) (pa_cons (pe_op (op_addU K rfl) (pv 4) (pv 2)) pa_nil))) (pe_call G__law_pick hr__law_pick rfl E.g__law_pick E.F__law_pick.kp b__law_pick .nil pass0 (pa_cons (pv 0) (pa_cons pe_int pa_nil))) (fun _ _ => rfl)))))))), ?_⟩
    refine k_body (s1 := some _ :: [none, none, none, none, none]) rfl ?_
    walk_at "s"
    walk_at "ofS"
    intro z H hz hS
    have hz : z.length ≤ 7 ∧ ∀ c ∈ z.cps.toList, IsSg c := by
      simp only [List.mem_cons, PyData.str.injEq, List.not_mem_nil, or_false] at hz
      rcases hz with rfl | rfl | rfl | rfl | rfl <;> exact ⟨by decide +kernel, by decide +kernel⟩
    walk_at "s"
    refine k_lenS (by rw [sizeLine_eq]; omega) ?_
    walk_at "s"
    walk_at "pk"
    intro r H hS r0 r1
    walk_at "s"
    refine lc_wk (L := L) (n := (1 + r).toNat) (fun i acc L' => L' = L ∧ ∃ cs : List Nat, acc = (cs.map fun c => (⟨#[c]⟩ : Str)).map PyData.str ∧ cs.length = i ∧ ∀ c ∈ cs, IsSg c) (fun i acc L' _ => wk_rng) (Sub.ok ?u hS) ⟨rfl, [], rfl, rfl, by simp⟩ (fun i acc L' hi iv H hS => ?_) (fun acc L' H iv hS => ?_)
    case u => walk_at "sub"
    · obtain ⟨rfl, cs, rfl, hc, hsg⟩ := iv
      walk_at "ls"
      walk_at "pk"
      intro r2 H hS s0 s1
      refine k_ixS (by rw [sizeLine_eq]; decide +kernel) (abc_ix s0 s1) ?_
      refine lc_keep hS (.str _) .refl (by rw [sizeLine_eq]; simp only [List.length_map]; omega) ⟨rfl, cs ++ [97 + r2.toNat], by simp, by simp [hc], fun c hm => ?_⟩
      rcases List.mem_append.mp hm with hm | hm
      · exact hsg c hm
      · rw [List.mem_singleton.mp hm]; exact ⟨by omega, by omega⟩
    · obtain ⟨rfl, cs, rfl, hc, hsg⟩ := iv
      refine k_glueS (z := ("" : Str)) hS (zs := cs.map fun c => (⟨#[c]⟩ : Str)) List.mem_cons_self (by rw [sigs_sum, List.length_map, show ("" : Str).length = 0 by decide +kernel]; omega) ?_
      have hw := join_sigs cs
      generalize Txt.join ("" : Str) (cs.map fun c => (⟨#[c]⟩ : Str)) = w at hw
      have hl : w.length = cs.length := by rw [len_toList, hw]
      walk_at "s"
      refine k_addS (by rw [sizeLine_eq]; omega) ?_
      walk_at "s"
      refine k_addS (by rw [sizeLine_eq]; omega) ?_
      walk_at "s"
      walk_at "pk"
      intro r2 H hS s0 s1
      have e : ∀ x y : Str, (x.length ≤ 7 ∧ ∀ c ∈ x.cps.toList, IsSg c) ∨ True → True := fun _ _ _ => trivial
      have n1 : IsNm (z ++ w) := ⟨by rw [app_len]; omega, by rw [app_len]; omega, fun c hm => by
        rw [app_toList, hw] at hm
        exact (List.mem_append.mp hm).elim (hz.2 c) (hsg c)⟩
      have n2 : IsNm (w ++ z) := ⟨by rw [app_len]; omega, by rw [app_len]; omega, fun c hm => by
        rw [app_toList, hw] at hm
        exact (List.mem_append.mp hm).elim (hsg c) (hz.2 c)⟩
      have : r2 = 0 ∨ r2 = 1 := by omega
      rcases this with rfl | rfl
      · walk_at "s"
        exact q _ _ n1 (Sub.ok (by walk_at "sub") hS)
      · walk_at "s"
        exact q _ _ n2 (Sub.ok (by walk_at "sub") hS)
end Lw
namespace Ls
open PySem PySem.Spec PyProof.Rows L2
def cand (j : Nat) : Str := ⟨#[97 + j % 8]⟩ ++ ⟨#[113 + j / 8 % 8]⟩
theorem cand_cps (j : Nat) : (cand j).cps.toList = [97 + j % 8, 113 + j / 8 % 8] := rfl
theorem cand_nm (j : Nat) : IsNm (cand j) := ⟨by rw [len_toList, cand_cps]; show 1 ≤ 2; decide, by rw [len_toList, cand_cps]; show 2 ≤ 8; decide, fun c h => by
  rw [cand_cps] at h
  simp only [List.mem_cons, List.not_mem_nil, or_false] at h
  rcases h with rfl | rfl
  · exact ⟨by omega, by omega⟩
  · exact ⟨by omega, by omega⟩⟩
theorem cand_inj {i j : Nat} (h : cand i = cand j) : i % 8 = j % 8 := by
  have e : (cand i).cps.toList = (cand j).cps.toList := by rw [h]
  rw [cand_cps, cand_cps] at e
  injection e with e _
  omega
theorem ah_ix : ∀ k : Fin 8, (("abcdefgh" : Str).cps.toList)[k.val]? = some (97 + k.val) := by decide +kernel
theorem qx_ix : ∀ k : Fin 8, (("qrstuvwx" : Str).cps.toList)[k.val]? = some (113 + k.val) := by decide +kernel
theorem ah_at (j : Nat) : atI ("abcdefgh" : Str).cps.toList ((j : Int) % 8) = some (97 + j % 8) := by
  have e : (j : Int) % 8 = ((j % 8 : Nat) : Int) := by omega
  rw [e]
  exact atI_nat (ah_ix ⟨j % 8, by omega⟩)
theorem qx_at (j : Nat) : atI ("qrstuvwx" : Str).cps.toList ((j : Int) / 8 % 8) = some (113 + j / 8 % 8) := by
  have e : (j : Int) / 8 % 8 = ((j / 8 % 8 : Nat) : Int) := by omega
  rw [e]
  exact atI_nat (qx_ix ⟨j / 8 % 8, by omega⟩)
theorem nodup_le {α : Type} [DecidableEq α] : ∀ {xs ys : List α}, xs.Nodup → (∀ x ∈ xs, x ∈ ys) → xs.length ≤ ys.length
  | [], _, _, _ => Nat.zero_le _
  | x :: xs, ys, nd, h => by
    obtain ⟨n1, n2⟩ := List.nodup_cons.mp nd
    have hx := h x List.mem_cons_self
    have ih := nodup_le (ys := ys.erase x) n2 fun y hy => (List.mem_erase_of_ne fun e => n1 (by rw [← e]; exact hy)).mpr (h y (List.mem_cons_of_mem _ hy))
    rw [List.length_erase_of_mem hx] at ih
    have := List.length_pos_of_mem hx
    rw [List.length_cons]
    omega
/-- eight unlike words are not all among seven -/
theorem cand_free {zs : List Str} {k : Nat} (hl : zs.length < 8) (h : ∀ t, t < 8 → cand (k + t) ∈ zs) : False := by
  have nd : ((List.range 8).map fun t => cand (k + t)).Nodup := by
    rw [List.nodup_iff_pairwise_ne, List.pairwise_map]
    refine List.Pairwise.imp_of_mem (R := fun a b => a < b) (fun {a b} ha hb lt e => ?_) List.pairwise_lt_range
    have := cand_inj e
    have := List.mem_range.mp ha
    have := List.mem_range.mp hb
    omega
  have sub : ∀ x ∈ (List.range 8).map fun t => cand (k + t), x ∈ zs := by
    intro x hx
    obtain ⟨t, ht, rfl⟩ := List.mem_map.mp hx
    exact h t (List.mem_range.mp ht)
  have := nodup_le nd sub
  rw [List.length_map, List.length_range] at this
  omega
abbrev Fd := Str × Int × Int
abbrev fdD (f : Fd) : PyData := .tuple [.str f.1, .int f.2.1, .int f.2.2]
abbrev fdsD (fs : List Fd) : PyData := .tuple (fs.map fdD)
def GoodF (f : Fd) : Prop := IsNm f.1 ∧ -999999 ≤ f.2.1 ∧ f.2.1 ≤ f.2.2 ∧ f.2.2 ≤ 999999
def GoodFs (fs : List Fd) : Prop := fs.length ≤ 4 ∧ (fs.map (·.1)).Nodup ∧ ∀ f ∈ fs, GoodF f
abbrev Kd := Str × List Fd
abbrev kdD (k : Kd) : PyData := .tuple [.str k.1, fdsD k.2]
def GoodK (k : Kd) : Prop := IsNm k.1 ∧ GoodFs k.2
def spBound (K : PySem.W.Frag) : Sp := fun vs H Q _ => ∃ (d : Addr) (L : List (As K)), vs = [.ref d] ∧ Ls.Sep L H ∧ dr d ∈ L ∧ ∀ (n : Int) H', -999999 ≤ n → n ≤ 999999 → Ls.Sep L H' → Q (.int n) H'
def spFields (K : PySem.W.Frag) : Sp := fun vs H Q _ => ∃ (d : Addr) (n : Nat) (L : List (As K)), vs = [.ref d, .int n] ∧ n ≤ 4 ∧ Ls.Sep L H ∧ dr d ∈ L ∧ ∀ p fs H', fs.length = n → GoodFs fs → Ls.Sep (im (.ref p) (fdsD fs) :: L) H' → Q (.ref p) H'
end Ls
namespace Lw
open PySem PySem.Spec PyProof.Rows L2 Ls
theorem ok__law_words {P : Program} {w : World} {K : PySem.W.Frag} {mg : Str → Option Value} {base : Heap} (E : Env K mg w) : FnOk P w K mg base CX0 4 E.a__law_words E.fd__law_words ["_law_d", "_law_many"] (spWords K) := by
  refine E.F__law_words.ok sc__law_words (fun vs H Q E h => ?_) (fun cdv A outer s H vs Q E' hr h => ?_)
  · walk_at "hl"
  · have hu := huOf hr
    have G__law_word := ok__law_word (P := P) (w := w) (base := base) E
    have hr__law_word := hr.mono (show 3 ≤ 3 by decide)
    have b__law_word := b__law_word E
    have hcl_Kind := E.cl_Kind
    obtain ⟨d, n, L, rfl, hn, hS, hd, q⟩ := h
    refine ⟨_, PSs.nox (pss_cons (ps_set (i := 2) sc__law_words.nd rfl (Or.inl rfl) (pe_lst pa_nil))
(pss_cons (ps_for PassesOwn.never rfl (pi_range1 rfl E.n_range (pa_cons (pv 1) pa_nil)) (pg_name (i := 3) sc__law_words.nd rfl (Or.inl rfl))
(pss_cons (ps_set (i := 4) sc__law_words.nd rfl (Or.inl rfl) (pe_call G__law_word hr__law_word rfl E.g__law_word E.F__law_word.kp b__law_word .nil pass0 (pa_cons (pv 0) pa_nil)))
(pss_cons (ps_for PassesOwn.never rfl (pi_range1 rfl E.n_range (pa_cons pe_int pa_nil)) (pg_name (i := 5) sc__law_words.nd rfl (Or.inl rfl))
(pss_one (ps_if (pt_cmpR (op_inU K rfl hu) (pv 4) (pv 2) (by with_unfolding_all rfl)) (pss_one (ps_set (i := 4) sc__law_words.nd rfl (Or.inl rfl) (pe_op (op_addU K rfl) (pe_ix (ix_U K rfl) pe_str (pe_op op_mod (pe_op (op_addU K rfl) (pv 3) (pv 5)) pe_int) (fun _ _ => rfl)) (pe_ix (ix_U K rfl) pe_str (pe_op op_mod (pe_op op_fdivW (pe_op (op_addU K rfl) (pv 3) (pv 5)) pe_int) pe_int) (fun _ _ => rfl))))) pss_nil)))
(pss_one (ps_expr (kBM K rfl (pe_bm PySem.F.plainAttrs_list PySem.F.slot_list_append PySem.F.type_list_append mt_append (pv 2) (pa_cons (pv 4) pa_nil))))))))
(pss_one (ps_ret (pv 2))))), ?_⟩
    refine k_body (s1 := some _ :: some _ :: [none, none, none, none]) rfl ?_
    walk_at "s"
    refine for_wk (n := (n : Int).toNat) (L := Ls.ld p [] :: L) (fun i σ L' => ∃ zs : List Str, L' = Ls.ld p (zs.map PyData.str) :: L ∧ zs.length = i ∧ zs.Nodup ∧ (∀ z ∈ zs, IsNm z) ∧ ∃ c1 c2 c3, σ = [some (.ref d), some (.int n), some (.ref p), c1, c2, c3]) (fun i σ L' _ => wk_rng) hS ⟨[], rfl, rfl, .nil, by simp, _, _, _, rfl⟩ (fun i σ L' hi iv H hS => ?_) (fun σ L' H iv hS => ?_)
    · obtain ⟨zs, rfl, hz, nd, nm, c1, c2, c3, rfl⟩ := iv
      walk_at "ns"
      walk_at "s"
      refine ⟨d, _, rfl, hS, by walk_at "mem", fun z H nz hS => ?_⟩
      walk_at "s"
      refine for_wk (n := (64 : Int).toNat) (fun j σ L' => L' = Ls.ld p (zs.map PyData.str) :: L ∧ ∃ w, IsNm w ∧ (w ∉ zs ∨ (w ∈ zs ∧ ∀ t, t < j → t < 8 → cand (i + t) ∈ zs)) ∧ ∃ c3, σ = [some (.ref d), some (.int n), some (.ref p), some (.int (0 + i)), some (.str w), c3]) (fun i σ L' _ => wk_rng) hS ⟨rfl, z, nz, ?_, _, rfl⟩ (fun j σ L' hj iv H hS => ?_) (fun σ L' H iv hS => ?_)
      · by_cases e : z ∈ zs
        · exact .inr ⟨e, fun t h => absurd h (Nat.not_lt_zero _)⟩
        · exact .inl e
      · obtain ⟨rfl, w, nw, hw, c3, rfl⟩ := iv
        walk_at "ns"
        walk_at "s"
        refine k_itd (fun e => ?_) (fun e => ?_)
        · have hw := (hw.resolve_left fun z => z e).2
          walk_at "s"
          have e1 : (0 + (i : Int) + (0 + (j : Int))) = ((i + j : Nat) : Int) := by omega
          rw [e1]
          refine k_ixS (by rw [sizeLine_eq]; decide +kernel) (ah_at _) ?_
          walk_at "s"
          rw [e1]
          walk_at "s"
          refine k_ixS (by rw [sizeLine_eq]; decide +kernel) (qx_at _) ?_
          refine k_addS (by rw [sizeLine_eq]; show 1 + 1 ≤ _; decide) ?_
          walk_at "s"
          refine ⟨_, ⟨rfl, cand (i + j), cand_nm _, ?_, _, rfl⟩, hS⟩
          by_cases e2 : cand (i + j) ∈ zs
          · refine .inr ⟨e2, fun t h1 h2 => ?_⟩
            by_cases e3 : t < j
            · exact hw t e3 h2
            · rw [show t = j by omega]; exact e2
          · exact .inl e2
        · walk_at "s"
          exact ⟨_, ⟨rfl, w, nw, .inl e, _, rfl⟩, hS⟩
      · obtain ⟨rfl, w, nw, hw, c3, rfl⟩ := iv
        have hw : w ∉ zs := by
          rcases hw with hw | ⟨_, hw⟩
          · exact hw
          · exact (cand_free (zs := zs) (k := i) (by omega) fun t h => hw t (by omega) h).elim
        walk_at "s"
        refine ⟨_, ⟨zs ++ [w], by rw [List.map_append]; rfl, by simp [hz], ?_, ?_, _, _, _, rfl⟩, hS⟩
        · rw [List.nodup_append]
          exact ⟨nd, by simp, fun a ha b hb e => hw (by rw [List.mem_singleton.mp hb] at e; exact e ▸ ha)⟩
        · intro x hx
          rcases List.mem_append.mp hx with hx | hx
          · exact nm x hx
          · rw [List.mem_singleton.mp hx]; exact nw
    · obtain ⟨zs, rfl, hz, nd, nm, c1, c2, c3, rfl⟩ := iv
      walk_at "s"
      exact q p zs H (by omega) nd nm hS
theorem ok__law_bound {P : Program} {w : World} {K : PySem.W.Frag} {mg : Str → Option Value} {base : Heap} (E : Env K mg w) : FnOk P w K mg base CX0 3 E.a__law_bound E.fd__law_bound ["_law_d"] (spBound K) := by
  refine E.F__law_bound.ok sc__law_bound (fun vs H Q E h => ?_) (fun cdv A outer s H vs Q E' hr h => ?_)
  · walk_at "hl"
  · have hu := huOf hr
    have G__law_of := ok__law_of E (ok__law_pick (P := P) (w := w) (base := base) E)
    have hr__law_of := hr.mono (show 2 ≤ 2 by decide)
    have b__law_of := b__law_of E
    have G__law_pick := ok__law_pick (P := P) (w := w) (base := base) E
    have hr__law_pick := hr.mono (show 1 ≤ 2 by decide)
    have b__law_pick := b__law_pick E
    have hcl_Kind := E.cl_Kind
    obtain ⟨d, L, rfl, hS, hd, q⟩ := h
    refine ⟨_, PSs.nox (pss_cons (ps_set (i := 1) sc__law_bound.nd rfl (Or.inl rfl) (pe_lst (pa_cons pe_int (pa_cons pe_int (pa_cons pe_int (pa_cons (pe_call G__law_pick hr__law_pick rfl E.g__law_pick E.F__law_pick.kp b__law_pick .nil pass0 (pa_cons (pv 0) (pa_cons pe_int pa_nil))) (pa_cons (pe_op op_sub (pe_call G__law_pick hr__law_pick rfl E.g__law_pick E.F__law_pick.kp b__law_pick .nil pass0 (pa_cons (pv 0) (pa_cons pe_int pa_nil))) pe_int) pa_nil)))))))
(pss_one (ps_ret (pe_call G__law_of hr__law_of rfl E.g__law_of E.F__law_of.kp b__law_of .nil pass0 (pa_cons (pv 0) (pa_cons (pe_op (op_addU K rfl) (pv 1) (pe_lst (pa_cons pe_int (pa_cons (pe_un un_neg pe_int) (pa_cons (pe_op op_sub (pe_call G__law_pick hr__law_pick rfl E.g__law_pick E.F__law_pick.kp b__law_pick .nil pass0 (pa_cons (pv 0) (pa_cons pe_int pa_nil))) pe_int) pa_nil))))) pa_nil)))))), ?_⟩
    refine k_body (s1 := some _ :: [none]) rfl ?_
    walk_at "s"
    walk_at "pk"
    intro r1 H hS a0 a1
    walk_at "s"
    walk_at "pk"
    intro r2 H hS b0 b1
    walk_at "s"
    walk_at "pk"
    intro r3 H hS c0 c1
    walk_at "s"
    walk_at "ofI"
    intro n H hn hS
    simp only [List.cons_append, List.nil_append, List.mem_cons, PyData.int.injEq, List.not_mem_nil, or_false] at hn
    exact q n H (by omega) (by omega) (Sub.ok (by walk_at "sub") hS)
theorem ok__law_fields {P : Program} {w : World} {K : PySem.W.Frag} {mg : Str → Option Value} {base : Heap} (E : Env K mg w) : FnOk P w K mg base CX0 5 E.a__law_fields E.fd__law_fields ["_law_d", "_law_many"] (spFields K) := by
  refine E.F__law_fields.ok sc__law_fields (fun vs H Q E h => ?_) (fun cdv A outer s H vs Q E' hr h => ?_)
  · walk_at "hl"
  · have hu := huOf hr
    have G__law_words := ok__law_words (P := P) (w := w) (base := base) E
    have hr__law_words := hr.mono (show 4 ≤ 4 by decide)
    have b__law_words := b__law_words E
    have G__law_bound := ok__law_bound (P := P) (w := w) (base := base) E
    have hr__law_bound := hr.mono (show 3 ≤ 4 by decide)
    have b__law_bound := b__law_bound E
    have G__law_of := ok__law_of E (ok__law_pick (P := P) (w := w) (base := base) E)
    have hr__law_of := hr.mono (show 2 ≤ 4 by decide)
    have b__law_of := b__law_of E
    have G__law_pick := ok__law_pick (P := P) (w := w) (base := base) E
    have hr__law_pick := hr.mono (show 1 ≤ 4 by decide)
    have b__law_pick := b__law_pick E
    have hcl_Kind := E.cl_Kind
    obtain ⟨d, n, L, rfl, hn, hS, hd, q⟩ := h
    refine ⟨_, PSs.nox (pss_cons (ps_set (i := 2) sc__law_fields.nd rfl (Or.inl rfl) (pe_call G__law_words hr__law_words rfl E.g__law_words E.F__law_words.kp b__law_words .nil pass0 (pa_cons (pv 0) (pa_cons (pv 1) pa_nil))))
(pss_cons (ps_set (i := 3) sc__law_fields.nd rfl (Or.inl rfl) (pe_lst pa_nil))
(pss_cons (ps_for PassesOwn.never rfl (pi_seqU K rfl (pv 2)) (pg_name (i := 4) sc__law_fields.nd rfl (Or.inl rfl))
(pss_cons (ps_set (i := 5) sc__law_fields.nd rfl (Or.inl rfl) (pe_call G__law_bound hr__law_bound rfl E.g__law_bound E.F__law_bound.kp b__law_bound .nil pass0 (pa_cons (pv 0) pa_nil)))
(pss_cons (ps_set (i := 6) sc__law_fields.nd rfl (Or.inl rfl) (pe_callB (call_minU K rfl rfl) (by rfl) E.n_min boot_min (pa_cons pe_int (pa_cons (pe_op (op_addU K rfl) (pv 5) (pe_call G__law_of hr__law_of rfl E.g__law_of E.F__law_of.kp b__law_of .nil pass0 (pa_cons (pv 0) (pa_cons (pe_lst (pa_cons pe_int (pa_cons pe_int (pa_cons pe_int (pa_cons pe_int (pa_cons (pe_call G__law_pick hr__law_pick rfl E.g__law_pick E.F__law_pick.kp b__law_pick .nil pass0 (pa_cons (pv 0) (pa_cons pe_int pa_nil))) pa_nil)))))) pa_nil)))) pa_nil))))
(pss_one (ps_expr (kBM K rfl (pe_bm PySem.F.plainAttrs_list PySem.F.slot_list_append PySem.F.type_list_append mt_append (pv 3) (pa_cons (pe_tup (pa_cons (pv 4) (pa_cons (pv 5) (pa_cons (pv 6) pa_nil)))) pa_nil))))))))
(pss_one (ps_ret (pe_callTy (call_tupleU K rfl) (by rfl) E.n_tuple boot_tuple (pa_cons (pv 3) pa_nil))))))), ?_⟩
    refine k_body (s1 := some _ :: some _ :: [none, none, none, none, none]) rfl ?_
    walk_at "s"
    refine ⟨d, n, _, rfl, by omega, hS, hd, fun pz zs H hz nd nm hS => ?_⟩
    walk_at "s"
    refine for_wk (n := zs.length) (Y := fun i q => ∀ z, zs[i]? = some z → Gv (PyData.str z) q) (fun i σ L' => ∃ fs : List Fd, L' = Ls.ld p (fs.map fdD) :: Ls.ld pz (zs.map PyData.str) :: L ∧ fs.map (·.1) = zs.take i ∧ (∀ f ∈ fs, GoodF f) ∧ ∃ c1 c2 c3, σ = [some (.ref d), some (.int n), some (.ref pz), some (.ref p), c1, c2, c3]) (fun i σ L' e => ?_) hS ⟨[], rfl, rfl, by simp, _, _, _, rfl⟩ (fun i σ L' hi iv z hz2 H hS => ?_) (fun σ L' H iv hS => ?_)
    · obtain ⟨fs, rfl, _⟩ := e
      exact wk_ldm (by walk_at "mem")
    · obtain ⟨fs, rfl, hf, gf, c1, c2, c3, rfl⟩ := iv
      walk_at "ns"
      walk_at "s"
      refine ⟨d, _, rfl, hS, by walk_at "mem", fun low H l0 l1 hS => ?_⟩
      walk_at "s"
      walk_at "pk"
      intro r H hS r0 r1
      have lf : fs.length = min i zs.length := by
        have := congrArg List.length hf
        rwa [List.length_map, List.length_take] at this
      walk_at "s"
      walk_at "ofI"
      intro g H hg hS
      have hg : 0 ≤ g := by
        simp only [List.mem_cons, PyData.int.injEq, List.not_mem_nil, or_false] at hg
        omega
      walk_at "s"
      have h1 : low ≤ (if low + g < 999999 then low + g else 999999) ∧ (if low + g < 999999 then low + g else 999999) ≤ 999999 := by split <;> omega
      generalize (if low + g < 999999 then low + g else 999999) = hi' at h1 hS ⊢
      walk_at "s"
      have e : fs.map fdD ++ [PyData.tuple [.str z, .int low, .int hi']] = (fs ++ [(z, low, hi')]).map fdD := by rw [List.map_append]; rfl
      rw [e] at hS
      refine ⟨_, ⟨fs ++ [(z, low, hi')], rfl, ?_, ?_, _, _, _, rfl⟩, ?_⟩
      · rw [List.map_append, hf, List.take_add_one, hz2]; rfl
      · intro f hm
        rcases List.mem_append.mp hm with hm | hm
        · exact gf f hm
        · rw [List.mem_singleton.mp hm]
          exact ⟨nm z (List.mem_of_getElem? hz2), l0, h1.1, h1.2⟩
      · exact Sub.ok (by walk_at "sub") hS
    · obtain ⟨fs, rfl, hf, gf, c1, c2, c3, rfl⟩ := iv
      rw [List.take_length] at hf
      have lf : fs.length = n := by
        have := congrArg List.length hf
        rw [List.length_map] at this
        omega
      walk_at "s"
      exact q _ fs _ lf ⟨by omega, by rw [hf]; exact nd, gf⟩ (Sub.ok (by walk_at "sub") hS)
end Lw
namespace Ls
open PySem PySem.Spec PyProof.Rows L2
instance (z : Str) : Decidable (IsNm z) := by unfold IsNm; exact inferInstance
def kindV (n f : V) : List (Str × V) := [("name", n), ("fields", f)]
/-- the Kind at a: it never changes -/
def kindF {K : PySem.W.Frag} (C a : Addr) (k : Kd) : As K := persW (fun W H => ∃ f dx, W a (.ins C dx (kindV (.str k.1) (.ref f))) ∧ Im K H (.ref f) (fdsD k.2)) (fun _ _ _ t ⟨f, dx, h1, h2⟩ => ⟨f, dx, h1, h2.mono t.1⟩) fun _ _ _ e ⟨f, dx, h1, h2⟩ => ⟨f, dx, e _ _ h1, h2⟩
instance {K : PySem.W.Frag} {C a : Addr} {k : Kd} : Dup (kindF (K := K) C a k) := ⟨fun z => z.1⟩
section
variable {K : PySem.W.Frag} {L : List (As K)} {H : Hp} {C a f : Addr} {k : Kd}
theorem Sep.kind (h : Ls.Sep L H) (m : kindF C a k ∈ L) : ∃ f dx, H a = some (.ins C dx (kindV (.str k.1) (.ref f))) ∧ Im K H (.ref f) (fdsD k.2) := by
  obtain ⟨W, s, ⟨_, f, dx, h1, h2⟩, z⟩ := h.the m
  exact ⟨f, dx, (z _ _ h1).1, h2⟩
theorem Sep.toKind (h : Ls.Sep (inst a C (kindV (.str k.1) (.ref f)) :: L) H) (m : im (.ref f) (fdsD k.2) ∈ L) : Ls.Sep (kindF C a k :: L) H := by
  have g := h.freezeI
  obtain ⟨W, s, z, s1, s2, d, u, ⟨n1, dx, h1, h2⟩, h3⟩ := g
  exact ⟨W, s, z, s1, s2, d, u, ⟨n1, f, dx, h1, Ls.Sep.imm ⟨W, s2, z.less fun b y => (u b).mpr (.inr y), h3⟩ m⟩, h3⟩
theorem k_kname {R : V → Prop} (h : Ls.Sep L H) (m : kindF C a k ∈ L) (c : Cls K C) (n : NoAttr K C ("name" : Str)) (q : R (.str k.1)) : ∃ a' C' dx fs v', V.ref a = .ref a' ∧ H a' = some (.ins C' dx fs) ∧ Cls K C' ∧ NoAttr K C' ("name" : Str) ∧ fs.lookup ("name" : Str) = some v' ∧ R v' := by
  obtain ⟨f, dx, h1, h2⟩ := h.kind m
  exact k_fldt ⟨dx, h1⟩ c n rfl q
theorem k_kfields {R : V → Prop} (h : Ls.Sep L H) (m : kindF C a k ∈ L) (c : Cls K C) (n : NoAttr K C ("fields" : Str)) (q : ∀ f, Ls.Sep (im (.ref f) (fdsD k.2) :: L) H → R (.ref f)) : ∃ a' C' dx fs v', V.ref a = .ref a' ∧ H a' = some (.ins C' dx fs) ∧ Cls K C' ∧ NoAttr K C' ("fields" : Str) ∧ fs.lookup ("fields" : Str) = some v' ∧ R v' := by
  obtain ⟨f, dx, h1, h2⟩ := h.kind m
  exact k_fldt ⟨dx, h1⟩ c n rfl (q f (Sep.im_iff.mpr ⟨h2, h⟩))
theorem k_recvK {R : Addr → Prop} {m : Str} (h : Ls.Sep L H) (w : kindF C a k ∈ L) (e : ∀ f, (kindV (.str k.1) (.ref f)).lookup m = none) (q : R a) : ∃ a' dx fs, V.ref a = .ref a' ∧ H a' = some (.ins C dx fs) ∧ fs.lookup m = none ∧ R a' := by
  obtain ⟨f, dx, h1, h2⟩ := h.kind w
  exact k_recv ⟨dx, _, h1, e f⟩ q
end
def spIsName (K : PySem.W.Frag) : Sp := fun vs H Q _ => ∃ (z : Str) (L : List (As K)), vs = [.str z] ∧ z.length ≤ 1000000 ∧ Ls.Sep L H ∧ ∀ H', Ls.Sep L H' → Q (.bl (decide (IsNm z))) H'
def spLookField (K : PySem.W.Frag) : Sp := fun vs H Q _ => ∃ (f n : Addr) (fd : Fd) (zs : List Str) (L : List (As K)), vs = [.ref f, .ref n] ∧ Ls.Sep L H ∧ im (.ref f) (fdD fd) ∈ L ∧ Ls.ld n (zs.map PyData.str) ∈ L ∧ GoodF fd ∧ fd.1 ∉ zs ∧ ∀ H', Ls.Sep L H' → Q .non H'
def spKindInit (K : PySem.W.Frag) (C : Addr) : Sp := fun vs H Q _ => ∃ (x f : Addr) (k : Kd) (L : List (As K)), vs = [.ref x, .str k.1, .ref f] ∧ Ls.Sep (inst x C [] :: L) H ∧ im (.ref f) (fdsD k.2) ∈ L ∧ GoodK k ∧ ∀ H', Ls.Sep (kindF C x k :: L) H' → Q .non H'
end Ls
namespace Lw
open PySem PySem.Spec PyProof.Rows L2 Ls
theorem ok_is_name {P : Program} {w : World} {K : PySem.W.Frag} {mg : Str → Option Value} {base : Heap} (E : Env K mg w) : FnOk P w K mg base CX0 1 E.a_is_name E.fd_is_name ["text"] (spIsName K) := by
  refine E.F_is_name.ok sc_is_name (fun vs H Q E h => ?_) (fun cdv A outer s H vs Q E' hr h => ?_)
  · walk_at "hl"
  · have hu := huOf hr
    have hcl_Kind := E.cl_Kind
    obtain ⟨z, L, rfl, hz, hS, q⟩ := h
    refine ⟨_, PSs.nox (pss_one (ps_ret (pe_and (pe_chain op_le op_le pe_int (pe_callB (call_lenU K rfl) (by rfl) E.n_len boot_len (pa_cons (pv 0) pa_nil)) (pe_gc rfl E.c_LONGEST)) (pe_one (pe_callB (cr_allU K rfl rfl) (by rfl) E.n_all boot_all (pa_cons (pe_lc (own := [("sign", 1)]) rfl sc_is_name.nd (pi_str (pv 0)) (blkOk_by (N := ["text", "sign"]) (sc := defScope s_is_name) (by decide +kernel)) (fun _ _ _ _ _ => (pg_name (i := 1) sc_is_name.nd rfl (Or.inl rfl))) (fun _ _ _ _ _ => pts_nil) (fun _ _ _ _ _ => (pe_cmpR (op_inU K rfl hu) (pv 1) (pe_gc rfl E.c_LETTERS) (by with_unfolding_all rfl)))) pa_nil)))))), ?_⟩
    refine k_body (s1 := some _ :: [none]) rfl ?_
    walk_at "s"
    refine k_lenS (by rw [sizeLine_eq]; omega) ?_
    walk_at "s"
    by_cases h1 : 1 ≤ z.length
    · walk_at "s"
      by_cases h2 : z.length ≤ 8
      · walk_at "s"
        refine lc_flat (zs := z.cps.toList) (fun c => [PyData.bool (decide (IsSg c))]) hS (fun acc => wk_str) (fun i c acc hc hk _ la H hS => ?_) (fun H hS => ?_)
        · walk_at "ls"
          have e : decide (c ∈ ("abcdefghijklmnopqrstuvwxyz" : Str).cps.toList) = decide (IsSg c) := by
            have : ∀ k : Fin 26, k.val + 97 ∈ ("abcdefghijklmnopqrstuvwxyz" : Str).cps.toList := by decide +kernel
            have h2 : ∀ c ∈ ("abcdefghijklmnopqrstuvwxyz" : Str).cps.toList, IsSg c := by decide +kernel
            refine decide_eq_decide.mpr ⟨h2 c, fun h => ?_⟩
            have := this ⟨c - 97, by omega⟩
            rwa [show c - 97 + 97 = c by omega] at this
          rw [e]
          refine lc_keep hS (.bl _) .refl ?_ (hk _ rfl)
          have := (List.getElem?_eq_some_iff.mp hc).1
          rw [sizeLine_eq]
          rw [← len_toList] at this
          omega
        · rw [flat_map] at hS
          refine k_allS hS List.mem_cons_self ?_
          have e : z.cps.toList.all (fun c => decide (IsSg c)) = decide (IsNm z) := by
            rw [Bool.eq_iff_iff, List.all_eq_true, decide_eq_true_eq]
            exact ⟨fun h => ⟨h1, h2, fun c hc => of_decide_eq_true (h c hc)⟩, fun h c hc => decide_eq_true (h.2.2 c hc)⟩
          rw [e]
          exact q _ hS.tail
      · have e : decide (IsNm z) = false := decide_eq_false fun h => h2 h.2.1
        rw [e] at q
        walk_at "s"
        exact q _ hS
    · have e : decide (IsNm z) = false := decide_eq_false fun h => h1 h.1
      rw [e] at q
      walk_at "s"
      exact q _ hS
theorem ok_look_field {P : Program} {w : World} {K : PySem.W.Frag} {mg : Str → Option Value} {base : Heap} (E : Env K mg w) : FnOk P w K mg base CX0 2 E.a_look_field E.fd_look_field ["field", "names"] (spLookField K) := by
  refine E.F_look_field.ok sc_look_field (fun vs H Q E h => ?_) (fun cdv A outer s H vs Q E' hr h => ?_)
  · walk_at "hl"
  · have hu := huOf hr
    have G_is_name := ok_is_name (P := P) (w := w) (base := base) E
    have hr_is_name := hr.mono (show 1 ≤ 1 by decide)
    have b_is_name := b_is_name E
    have hcl_Kind := E.cl_Kind
    obtain ⟨f, n, ⟨t, lo, hi⟩, zs, L, rfl, hS, hf, hn, ⟨g1, g2, g3, g4⟩, nz, q⟩ := h
    dsimp only at g1 g2 g3 g4 nz
    refine ⟨_, PSs.nox (pss_cons (ps_asg (pv 0) (kGTup (n := 3) K rfl (pg_tup rfl (pgs_cons (pg_name (i := 2) sc_look_field.nd rfl (Or.inl rfl)) (pgs_cons (pg_name (i := 3) sc_look_field.nd rfl (Or.inl rfl)) (pgs_cons (pg_name (i := 4) sc_look_field.nd rfl (Or.inl rfl)) pgs_nil))))))
(pss_cons (ps_if (pt_not (pt_val (pe_call G_is_name hr_is_name rfl E.g_is_name E.F_is_name.kp b_is_name .nil pass0 (pa_cons (pv 2) pa_nil)))) (pss_one ps_never) pss_nil)
(pss_cons (ps_if (pt_cmpR (op_inU K rfl hu) (pv 2) (pv 1) (by with_unfolding_all rfl)) (pss_one ps_never) pss_nil)
(pss_one (ps_if (pt_not (pt_chain3 op_le op_le op_le (pe_un un_neg (pe_gc rfl E.c_LIMIT)) (pv 3) (pv 4) (pe_gc rfl E.c_LIMIT))) (pss_one ps_never) pss_nil))))), ?_⟩
    refine k_body (s1 := some _ :: some _ :: [none, none, none]) rfl ?_
    walk_at "s"
    refine ⟨t, _, rfl, by have := g1.2.1; omega, hS, fun H hS => ?_⟩
    rw [decide_eq_true g1]
    walk_at "s"
    exact q _ hS
theorem ok_Kind___init__ {P : Program} {w : World} {K : PySem.W.Frag} {mg : Str → Option Value} {base : Heap} (E : Env K mg w) : FnOk P w K mg base CX0 3 E.a_Kind___init__ E.fd_Kind___init__ ["self", "name", "fields"] (spKindInit K E.C_Kind) := by
  refine E.F_Kind___init__.ok sc_Kind___init__ (fun vs H Q E h => ?_) (fun cdv A outer s H vs Q E' hr h => ?_)
  · walk_at "hl"
  · have hu := huOf hr
    have G_is_name := ok_is_name (P := P) (w := w) (base := base) E
    have hr_is_name := hr.mono (show 1 ≤ 2 by decide)
    have b_is_name := b_is_name E
    have G_look_field := ok_look_field (P := P) (w := w) (base := base) E
    have hr_look_field := hr.mono (show 2 ≤ 2 by decide)
    have b_look_field := b_look_field E
    have hcl_Kind := E.cl_Kind
    have hna_Kind_name := E.na_Kind_name
    have hna_Kind_fields := E.na_Kind_fields
    obtain ⟨x, f, ⟨nm, fs⟩, L, rfl, hS, hf, ⟨g1, g2, g3, g4⟩, q⟩ := h
    dsimp only at g1 g2 g3 g4 q
    refine ⟨_, PSs.nox (pss_cons (ps_if (pt_not (pt_val (pe_call G_is_name hr_is_name rfl E.g_is_name E.F_is_name.kp b_is_name .nil pass0 (pa_cons (pv 1) pa_nil)))) (pss_one ps_never) pss_nil)
(pss_cons (ps_if (pt_cmpR (op_gt) (pe_callB (call_lenU K rfl) (by rfl) E.n_len boot_len (pa_cons (pv 2) pa_nil)) (pe_gc rfl E.c_MOST_FIELDS) (nomark _)) (pss_one ps_never) pss_nil)
(pss_cons (ps_for PassesOwn.never rfl (pi_enumU K rfl rfl E.n_enumerate (pa_cons (pv 2) pa_nil)) (kGTup (n := 2) K rfl (pg_tup rfl (pgs_cons (pg_name (i := 3) sc_Kind___init__.nd rfl (Or.inl rfl)) (pgs_cons (pg_name (i := 4) sc_Kind___init__.nd rfl (Or.inl rfl)) pgs_nil))))
(pss_one (ps_expr (pe_call G_look_field hr_look_field rfl E.g_look_field E.F_look_field.kp b_look_field .nil pass0 (pa_cons (pv 4) (pa_cons (pe_lc (own := [("one", 5)]) rfl sc_Kind___init__.nd (pi_seqU K rfl (pe_slice (sl_U K rfl) (pv 2) po_none (po_some (pv 3)))) (blkOk_by (N := ["self", "name", "fields", "at", "field", "one"]) (sc := defScope s_Kind___init__) (by decide +kernel)) (fun _ _ _ _ _ => (pg_name (i := 5) sc_Kind___init__.nd rfl (Or.inl rfl))) (fun _ _ _ _ _ => pts_nil) (fun _ _ _ _ _ => (pe_ix (ix_U K rfl) (pv 5) pe_int (fun _ _ => rfl)))) pa_nil))))))
(pss_cons (kSF K rfl (ps_fld (pv 0) (pv 1) rfl))
(pss_one (kSF K rfl (ps_fld (pv 0) (pv 2) rfl))))))), ?_⟩
    refine k_body (s1 := some _ :: some _ :: some _ :: [none, none, none]) rfl ?_
    walk_at "s"
    refine ⟨nm, _, rfl, by have := g1.2.1; omega, hS, fun H hS => ?_⟩
    rw [decide_eq_true g1]
    walk_at "s"
    simp only [List.length_map]
    walk_at "s"
    refine for_wk (n := fs.length) (Y := fun i q => ∀ z T, fs[i]? = some z → q (.ref T) [im (.ref T) (.tuple [.int (i : Nat), fdD z])]) (L := inst x E.C_Kind [] :: L) (fun i σ L' => L' = inst x E.C_Kind [] :: L ∧ ∃ c1 c2 c3, σ = [some (.ref x), some (.str nm), some (.ref f), c1, c2, c3]) (fun i σ L' e => by rw [e.1]; exact wk_enI (by walk_at "mem")) hS ⟨rfl, _, _, _, rfl⟩ (fun i σ L' hi iv fd T hfd H hS => ?_) (fun σ L' H iv hS => ?_)
    · obtain ⟨rfl, c1, c2, c3, rfl⟩ := iv
      walk_at "ns"
      walk_at "s"
      have ec : cutD (fs.map fdD) none (some (i : Int)) = (fs.take i).map fdD := by rw [cutD_to (by omega), Int.toNat_natCast, List.map_take]
      rw [ec] at hS
      refine lc_flat (zs := fs.take i) (fun f => [PyData.str f.1]) hS (fun acc => wk_imm (by walk_at "mem")) (fun j f acc hf hk _ la => ?_) (fun H hS => ?_)
      · walk_at "gi"
        walk_at "ls"
        refine lc_keep hS (.str _) (by walk_at "sub") ?_ (hk _ rfl)
        have := (List.getElem?_eq_some_iff.mp hf).1
        rw [List.length_take] at this
        rw [sizeLine_eq]
        omega
      · rw [flat_map] at hS
        walk_at "s"
        refine ⟨_, _, fd, (fs.take i).map (·.1), _, rfl, hS, by walk_at "mem", ?_, g4 fd (List.mem_of_getElem? hfd), ?_, fun H hS => ?_⟩
        · rw [List.map_map]; exact List.mem_cons_self
        · intro hm
          obtain ⟨f2, h2, e2⟩ := List.mem_map.mp hm
          obtain ⟨j, hj⟩ := List.getElem?_of_mem h2
          rw [List.getElem?_take] at hj
          split at hj
          · rename_i hji
            have n1 := (List.getElem?_eq_some_iff.mp hj).1
            have x1 : (fs.map (·.1))[j]? = some fd.1 := by rw [List.getElem?_map, hj]; exact congrArg some e2
            have x2 : (fs.map (·.1))[i]? = some fd.1 := by rw [List.getElem?_map, hfd]; rfl
            have := (List.getElem?_inj (by rw [List.length_map]; exact n1) g3).mp (x1.trans x2.symm)
            omega
          · cases hj
        · walk_at "s"
          exact ⟨_, ⟨rfl, _, _, _, rfl⟩, Sub.ok (by walk_at "sub") hS⟩
    · obtain ⟨rfl, c1, c2, c3, rfl⟩ := iv
      walk_at "s"
      exact q _ (Sep.toKind (k := (nm, fs)) hS hf)
end Lw
namespace Ls
open PySem PySem.Spec PyProof.Rows L2
inductive Tst where
  | all
  | is (n : Str)
  | less (f : Str) (k : Int)
  | same (f : Str) (k : Int)
  | no (a : Tst)
  | an (a b : Tst)
  | or (a b : Tst)
def Tst.D : Tst → PyData
  | .all => .tuple [.str "all"]
  | .is n => .tuple [.str "is", .str n]
  | .less f k => .tuple [.str "less", .str f, .int k]
  | .same f k => .tuple [.str "same", .str f, .int k]
  | .no a => .tuple [.str "not", a.D]
  | .an a b => .tuple [.str "and", a.D, b.D]
  | .or a b => .tuple [.str "or", a.D, b.D]
def Tst.deep : Tst → Nat
  | .no a => a.deep + 1
  | .an a b => max a.deep b.deep + 1
  | .or a b => max a.deep b.deep + 1
  | _ => 1
def Tst.parts : Tst → Nat
  | .no a => a.parts + 1
  | .an a b => a.parts + b.parts + 1
  | .or a b => a.parts + b.parts + 1
  | _ => 1
def Tst.leaves : Tst → List Tst
  | .no a => a.leaves
  | .an a b => a.leaves ++ b.leaves
  | .or a b => a.leaves ++ b.leaves
  | t => [t]
def Lim (k : Int) : Prop := -999999 ≤ k ∧ k ≤ 999999
instance (k : Int) : Decidable (Lim k) := inferInstanceAs (Decidable (_ ∧ _))
def Tst.ok : Tst → Prop
  | .all => True
  | .is n => IsNm n
  | .less f k => IsNm f ∧ Lim k
  | .same f k => IsNm f ∧ Lim k
  | .no a => a.ok
  | .an a b => a.ok ∧ b.ok
  | .or a b => a.ok ∧ b.ok
/-- what a leaf's word and what is behind it make -/
def leafOf (z : Str) (r : List PyData) : Option Tst :=
  if z = "all" then (match r with | [] => some .all | _ => none)
  else if z = "is" then (match r with | [.str n] => if IsNm n then some (.is n) else none | _ => none)
  else if z = "less" then (match r with | [.str f, .int k] => if IsNm f ∧ Lim k then some (.less f k) else none | _ => none)
  else if z = "same" then (match r with | [.str f, .int k] => if IsNm f ∧ Lim k then some (.same f k) else none | _ => none)
  else none
/-- the words that hold tests within -/
def wordK (z : Str) : Option Nat := if z = "not" then some 1 else if z = "and" then some 2 else if z = "or" then some 2 else none
/-- what a word and the tests behind it make -/
def mkT (z : Str) (ts : List Tst) : Option Tst :=
  if z = "not" then (match ts with | [a] => some (.no a) | _ => none)
  else if z = "and" then (match ts with | [a, b] => some (.an a b) | _ => none)
  else if z = "or" then (match ts with | [a, b] => some (.or a b) | _ => none)
  else none
/-- the test that a datum is, at most so deep -/
def dec : Nat → PyData → Option Tst
  | n + 1, .tuple (.str z :: r) => match wordK z with
    | none => leafOf z r
    | some _ => (r.mapM (dec n)).bind (mkT z)
  | _, _ => none
theorem dec_tup (n : Nat) (z : Str) (r : List PyData) : dec (n + 1) (.tuple (.str z :: r)) = match wordK z with
    | none => leafOf z r
    | some _ => (r.mapM (dec n)).bind (mkT z) := by rw [dec]
theorem parts_pos (t : Tst) : 0 < t.parts := by cases t <;> exact Nat.succ_pos _
theorem deep_pos (t : Tst) : 0 < t.deep := by cases t <;> exact Nat.succ_pos _
theorem wordK_not : wordK "not" = some 1 := by decide +kernel
theorem wordK_and : wordK "and" = some 2 := by decide +kernel
theorem wordK_or : wordK "or" = some 2 := by decide +kernel
theorem leafOf_ok {z : Str} {r : List PyData} {t : Tst} (h : leafOf z r = some t) : t.ok ∧ t.D = .tuple (.str z :: r) ∧ t.deep = 1 ∧ t.parts = 1 ∧ t.leaves = [t] := by
  unfold leafOf at h
  split at h
  · rename_i e
    split at h
    · cases h
      exact ⟨trivial, by rw [e]; rfl, rfl, rfl, rfl⟩
    · cases h
  · split at h
    · rename_i e
      split at h
      · split at h
        · rename_i n hn
          cases h
          exact ⟨hn, by rw [e]; rfl, rfl, rfl, rfl⟩
        · cases h
      · cases h
    · split at h
      · rename_i e
        split at h
        · split at h
          · rename_i f k hn
            cases h
            exact ⟨hn, by rw [e]; rfl, rfl, rfl, rfl⟩
          · cases h
        · cases h
      · split at h
        · rename_i e
          split at h
          · split at h
            · rename_i f k hn
              cases h
              exact ⟨hn, by rw [e]; rfl, rfl, rfl, rfl⟩
            · cases h
          · cases h
        · cases h
theorem mapM_all {n : Nat} : ∀ {r : List PyData} {ts : List Tst}, r.mapM (dec n) = some ts → (∀ d t, dec n d = some t → t.ok ∧ t.D = d ∧ t.deep ≤ n) → r = ts.map Tst.D ∧ (∀ t ∈ ts, t.ok ∧ t.deep ≤ n)
  | [], ts, h, _ => by
    have : some [] = some ts := h
    cases this
    exact ⟨rfl, fun t h => by cases h⟩
  | d :: r, ts, h, k => by
    rw [List.mapM_cons] at h
    cases e : dec n d with
    | none => rw [e] at h; cases h
    | some t =>
      rw [e] at h
      cases e2 : r.mapM (dec n) with
      | none => rw [e2] at h; cases h
      | some us =>
        rw [e2] at h
        cases h
        obtain ⟨h1, h2⟩ := mapM_all e2 k
        obtain ⟨k1, k2, k3⟩ := k d t e
        refine ⟨by rw [List.map_cons, k2, ← h1], fun x hx => ?_⟩
        rcases List.mem_cons.mp hx with rfl | hx
        · exact ⟨k1, k3⟩
        · exact h2 x hx
theorem mkT_ok {z : Str} {ts : List Tst} {t : Tst} {n : Nat} (h : mkT z ts = some t) (k : ∀ t ∈ ts, t.ok ∧ t.deep ≤ n) : t.ok ∧ t.D = .tuple (.str z :: ts.map Tst.D) ∧ t.deep ≤ n + 1 ∧ t.parts = 1 + (ts.map Tst.parts).sum ∧ t.leaves = ts.flatMap Tst.leaves ∧ wordK z = some ts.length ∧ t.deep = 1 + (ts.map Tst.deep).foldl max 0 := by
  unfold mkT at h
  split at h
  · rename_i e
    split at h
    · rename_i a
      cases h
      obtain ⟨k1, k2⟩ := k a List.mem_cons_self
      exact ⟨k1, by rw [e]; rfl, by show a.deep + 1 ≤ n + 1; omega, by show a.parts + 1 = 1 + (a.parts + 0); omega, by show a.leaves = a.leaves ++ []; rw [List.append_nil], by rw [e]; exact wordK_not, by show a.deep + 1 = 1 + max 0 a.deep; omega⟩
    · cases h
  · split at h
    · rename_i e
      split at h
      · rename_i a b
        cases h
        obtain ⟨k1, k2⟩ := k a List.mem_cons_self
        obtain ⟨k3, k4⟩ := k b (List.mem_cons_of_mem _ List.mem_cons_self)
        exact ⟨⟨k1, k3⟩, by rw [e]; rfl, by show max a.deep b.deep + 1 ≤ n + 1; omega, by show a.parts + b.parts + 1 = 1 + (a.parts + (b.parts + 0)); omega, by show a.leaves ++ b.leaves = a.leaves ++ (b.leaves ++ []); rw [List.append_nil], by rw [e]; exact wordK_and, by show max a.deep b.deep + 1 = 1 + max (max 0 a.deep) b.deep; omega⟩
      · cases h
    · split at h
      · rename_i e
        split at h
        · rename_i a b
          cases h
          obtain ⟨k1, k2⟩ := k a List.mem_cons_self
          obtain ⟨k3, k4⟩ := k b (List.mem_cons_of_mem _ List.mem_cons_self)
          exact ⟨⟨k1, k3⟩, by rw [e]; rfl, by show max a.deep b.deep + 1 ≤ n + 1; omega, by show a.parts + b.parts + 1 = 1 + (a.parts + (b.parts + 0)); omega, by show a.leaves ++ b.leaves = a.leaves ++ (b.leaves ++ []); rw [List.append_nil], by rw [e]; exact wordK_or, by show max a.deep b.deep + 1 = 1 + max (max 0 a.deep) b.deep; omega⟩
        · cases h
      · cases h
theorem dec_ok : ∀ {n : Nat} {d : PyData} {t : Tst}, dec n d = some t → t.ok ∧ t.D = d ∧ t.deep ≤ n
  | 0, d, t, h => by rw [dec] at h <;> first | cases h | (intros; simp_all)
  | n + 1, d, t, h => by
    unfold dec at h
    split at h
    · rename_i m z r em
      obtain rfl : n = m := Nat.succ.inj em
      split at h
      · obtain ⟨h1, h2, h3, _⟩ := leafOf_ok h
        exact ⟨h1, h2, by omega⟩
      · obtain ⟨ts, e1, e2⟩ := Option.bind_eq_some_iff.mp h
        obtain ⟨h1, h2⟩ := mapM_all e1 fun d t => dec_ok
        obtain ⟨k1, k2, k3, _⟩ := mkT_ok e2 h2
        exact ⟨k1, by rw [k2, h1], k3⟩
    · cases h
theorem leaf_not (r : List PyData) : wordK "all" = none ∧ wordK "is" = none ∧ wordK "less" = none ∧ wordK "same" = none := by decide +kernel
theorem dec_of : ∀ {n : Nat} {t : Tst}, t.ok → t.deep ≤ n → dec n t.D = some t
  | 0, t, _, h => by have := deep_pos t; omega
  | n + 1, t, ho, h => by
    have e1 : ("is" : Str) ≠ "all" := by decide +kernel
    have e2 : ("less" : Str) ≠ "all" := by decide +kernel
    have e3 : ("less" : Str) ≠ "is" := by decide +kernel
    have e4 : ("same" : Str) ≠ "all" := by decide +kernel
    have e5 : ("same" : Str) ≠ "is" := by decide +kernel
    have e6 : ("same" : Str) ≠ "less" := by decide +kernel
    have e7 : ("and" : Str) ≠ "not" := by decide +kernel
    have e8 : ("or" : Str) ≠ "not" := by decide +kernel
    have e9 : ("or" : Str) ≠ "and" := by decide +kernel
    obtain ⟨l1, l2, l3, l4⟩ := leaf_not []
    cases t with
    | all => rw [Tst.D, dec_tup, l1]; rfl
    | is x =>
      rw [Tst.D, dec_tup, l2]
      show leafOf _ _ = _
      unfold leafOf
      rw [if_neg e1, if_pos rfl]
      exact if_pos ho
    | less f k =>
      rw [Tst.D, dec_tup, l3]
      show leafOf _ _ = _
      unfold leafOf
      rw [if_neg e2, if_neg e3, if_pos rfl]
      exact if_pos ho
    | same f k =>
      rw [Tst.D, dec_tup, l4]
      show leafOf _ _ = _
      unfold leafOf
      rw [if_neg e4, if_neg e5, if_neg e6, if_pos rfl]
      exact if_pos ho
    | no a =>
      have ha := dec_of (n := n) (t := a) ho (by have : a.deep + 1 ≤ n + 1 := h; omega)
      rw [Tst.D, dec_tup, wordK_not]
      show (([a.D] : List PyData).mapM (dec n)).bind (mkT "not") = _
      rw [List.mapM_cons, ha]
      rfl
    | an a b =>
      have hm : max a.deep b.deep + 1 ≤ n + 1 := h
      have ha := dec_of (n := n) (t := a) ho.1 (by omega)
      have hb := dec_of (n := n) (t := b) ho.2 (by omega)
      rw [Tst.D, dec_tup, wordK_and]
      show (([a.D, b.D] : List PyData).mapM (dec n)).bind (mkT "and") = _
      rw [List.mapM_cons, ha, List.mapM_cons, hb]
      show mkT "and" [a, b] = _
      unfold mkT
      rw [if_neg e7, if_pos rfl]
    | or a b =>
      have hm : max a.deep b.deep + 1 ≤ n + 1 := h
      have ha := dec_of (n := n) (t := a) ho.1 (by omega)
      have hb := dec_of (n := n) (t := b) ho.2 (by omega)
      rw [Tst.D, dec_tup, wordK_or]
      show (([a.D, b.D] : List PyData).mapM (dec n)).bind (mkT "or") = _
      rw [List.mapM_cons, ha, List.mapM_cons, hb]
      show mkT "or" [a, b] = _
      unfold mkT
      rw [if_neg e8, if_neg e9, if_pos rfl]
/-- what is handed in as a test: texts, numbers, tuples (of c things at most) that begin with a text -/
def RawC (c : Nat) : Nat → PyData → Prop
  | _, .str z => z.length ≤ 1000 ∧ PyData.strOk z = true
  | _, .int _ => True
  | n + 1, .tuple xs => xs.length ≤ c ∧ (∀ x r, xs = x :: r → ∃ z, x = .str z) ∧ ∀ x ∈ xs, RawC c n x
  | _, _ => False
abbrev Raw (n : Nat) (d : PyData) : Prop := RawC 100 n d
theorem RawC.mono {c e : Nat} (hc : c ≤ e) : ∀ {n m : Nat} {d : PyData}, RawC c n d → n ≤ m → RawC e m d
  | n, m, .str z, h, _ => by cases n <;> cases m <;> exact h
  | n, m, .int z, h, _ => by cases n <;> cases m <;> exact h
  | 0, m, .tuple z, h, _ => h.elim
  | n + 1, 0, .tuple z, h, l => by omega
  | n + 1, m + 1, .tuple z, h, l => ⟨Nat.le_trans h.1 hc, h.2.1, fun x hx => RawC.mono hc (h.2.2 x hx) (by omega)⟩
  | n, m, .none, h, _ => by cases n <;> exact h.elim
  | n, m, .bool _, h, _ => by cases n <;> exact h.elim
  | n, m, .list _, h, _ => by cases n <;> exact h.elim
  | n, m, .dict _, h, _ => by cases n <;> exact h.elim
theorem nm_rawS {c n : Nat} {z : Str} (h : z.length ≤ 1000) (k : PyData.strOk z = true) : RawC c n (.str z) := by cases n <;> exact ⟨h, k⟩
theorem nm_strT {z : Str} (h : IsNm z) : PyData.strOk z = true := by
  unfold PyData.strOk
  rw [← Array.all_toList, List.all_eq_true]
  intro c hc
  have := h.2.2 c hc
  exact decide_eq_true (by omega)
theorem raw_mk {c n : Nat} {ys : List PyData} (h1 : ys.length ≤ c) (h2 : ∀ x r, ys = x :: r → ∃ z, x = .str z) (h3 : ∀ y ∈ ys, RawC c n y) : RawC c (n + 1) (.tuple ys) := ⟨h1, h2, h3⟩
theorem raw_okd {c : Nat} (hc : c ≤ 100000) : ∀ {n : Nat} {d : PyData}, RawC c n d → OkD n d
  | n, .str z, h => by cases n <;> exact h.2
  | n, .int z, h => by cases n <;> trivial
  | 0, .tuple z, h => h.elim
  | n + 1, .tuple z, h => ⟨by have := h.1; omega, fun x hx => raw_okd hc (h.2.2 x hx)⟩
  | n, .none, h => by cases n <;> exact h.elim
  | n, .bool _, h => by cases n <;> exact h.elim
  | n, .list _, h => by cases n <;> exact h.elim
  | n, .dict _, h => by cases n <;> exact h.elim
theorem raw_int {c n : Nat} {i : Int} : RawC c n (.int i) := by cases n <;> trivial
theorem ok_rawC : ∀ {n : Nat} {t : Tst}, t.ok → t.deep ≤ n → RawC 3 n t.D
  | 0, t, _, h => by have := deep_pos t; omega
  | n + 1, t, ho, h => by
    have hd : ∀ (x : Str) (q : List PyData), ∀ y r, (PyData.str x :: q : List PyData) = y :: r → ∃ z, y = .str z := fun x q y r e => ⟨x, (List.cons.inj e).1.symm⟩
    have nm : ∀ {x : Str}, IsNm x → RawC 3 n (.str x) := fun h => nm_rawS (by have := h.2.1; omega) (nm_strT h)
    have w : ∀ {x : Str}, x.length ≤ 1000 ∧ PyData.strOk x = true → RawC 3 n (.str x) := fun h => nm_rawS h.1 h.2
    cases t with
    | all => exact ⟨by show 1 ≤ 3; decide, hd _ _, fun x hx => by
        rw [List.mem_singleton.mp hx]
        exact w (by decide +kernel)⟩
    | is z =>
      refine ⟨by show 2 ≤ 3; decide, hd _ _, fun x hx => ?_⟩
      simp only [List.mem_cons, List.not_mem_nil, or_false] at hx
      rcases hx with rfl | rfl
      · exact w (by decide +kernel)
      · exact nm ho
    | less f k =>
      refine ⟨by show 3 ≤ 3; decide, hd _ _, fun x hx => ?_⟩
      simp only [List.mem_cons, List.not_mem_nil, or_false] at hx
      rcases hx with rfl | rfl | rfl
      · exact w (by decide +kernel)
      · exact nm ho.1
      · exact raw_int
    | same f k =>
      refine ⟨by show 3 ≤ 3; decide, hd _ _, fun x hx => ?_⟩
      simp only [List.mem_cons, List.not_mem_nil, or_false] at hx
      rcases hx with rfl | rfl | rfl
      · exact w (by decide +kernel)
      · exact nm ho.1
      · exact raw_int
    | no a =>
      have ha := ok_rawC (n := n) (t := a) ho (by have : a.deep + 1 ≤ n + 1 := h; omega)
      refine ⟨by show 2 ≤ 3; decide, hd _ _, fun x hx => ?_⟩
      simp only [List.mem_cons, List.not_mem_nil, or_false] at hx
      rcases hx with rfl | rfl
      · exact w (by decide +kernel)
      · exact ha
    | an a b =>
      have hm : max a.deep b.deep + 1 ≤ n + 1 := h
      have ha := ok_rawC (n := n) (t := a) ho.1 (by omega)
      have hb := ok_rawC (n := n) (t := b) ho.2 (by omega)
      refine ⟨by show 3 ≤ 3; decide, hd _ _, fun x hx => ?_⟩
      simp only [List.mem_cons, List.not_mem_nil, or_false] at hx
      rcases hx with rfl | rfl | rfl
      · exact w (by decide +kernel)
      · exact ha
      · exact hb
    | or a b =>
      have hm : max a.deep b.deep + 1 ≤ n + 1 := h
      have ha := ok_rawC (n := n) (t := a) ho.1 (by omega)
      have hb := ok_rawC (n := n) (t := b) ho.2 (by omega)
      refine ⟨by show 3 ≤ 3; decide, hd _ _, fun x hx => ?_⟩
      simp only [List.mem_cons, List.not_mem_nil, or_false] at hx
      rcases hx with rfl | rfl | rfl
      · exact w (by decide +kernel)
      · exact ha
      · exact hb
theorem ok_raw {n : Nat} {t : Tst} (h : t.ok) (hd : t.deep ≤ n) : Raw n t.D := (ok_rawC h hd).mono (by decide) (Nat.le_refl _)
/-- what the program counts: 0 where there is no test at most so deep -/
def partsP (n : Nat) (d : PyData) : Int := match dec n d with
  | none => 0
  | some t => (t.parts : Int)
def IsT (d : PyData) : Prop := 1 ≤ partsP 5 d ∧ partsP 5 d ≤ 15
instance (d : PyData) : Decidable (IsT d) := inferInstanceAs (Decidable (_ ∧ _))
theorem isT_of {t : Tst} (h : t.ok) (hd : t.deep ≤ 5) (hp : t.parts ≤ 15) : IsT t.D := by
  unfold IsT partsP
  rw [dec_of h hd]
  have := parts_pos t
  constructor
  · show 1 ≤ (t.parts : Int)
    omega
  · show (t.parts : Int) ≤ 15
    omega
theorem isT_is {d : PyData} (h : IsT d) : ∃ t : Tst, t.D = d ∧ t.ok ∧ t.deep ≤ 5 ∧ t.parts ≤ 15 := by
  unfold IsT partsP at h
  cases e : dec 5 d with
  | none =>
    rw [e] at h
    exact absurd h.1 (by decide)
  | some t =>
    rw [e] at h
    obtain ⟨h1, h2, h3⟩ := dec_ok e
    exact ⟨t, h2, h1, h3, by have h5 : (t.parts : Int) ≤ 15 := h.2; omega⟩
/-- a test from outside: a leaf, or a word with tests behind it -/
theorem Tst.view (t : Tst) : (∃ z r, t.D = .tuple (.str z :: r) ∧ wordK z = none ∧ t.leaves = [t] ∧ t.parts = 1 ∧ t.deep = 1 ∧ (t.ok → Ls.leafOf z r = some t)) ∨
    (∃ z ts, t.D = .tuple (.str z :: ts.map Tst.D) ∧ wordK z = some ts.length ∧ t.leaves = ts.flatMap Tst.leaves ∧ t.parts = 1 + (ts.map Tst.parts).sum ∧ t.deep = 1 + (ts.map Tst.deep).foldl max 0 ∧ (t.ok → ∀ x ∈ ts, x.ok) ∧ (∀ x ∈ ts, x.deep < t.deep) ∧ mkT z ts = some t) := by
  have leaf : ∀ {z r}, t.D = .tuple (.str z :: r) → wordK z = none → t.leaves = [t] → t.parts = 1 → t.deep = 1 → ∃ z r, t.D = .tuple (.str z :: r) ∧ wordK z = none ∧ t.leaves = [t] ∧ t.parts = 1 ∧ t.deep = 1 ∧ (t.ok → Ls.leafOf z r = some t) := fun {z r} h1 h2 h3 h4 h5 => ⟨z, r, h1, h2, h3, h4, h5, fun ho => by
    have := dec_of (n := 1) ho (by omega)
    rw [h1, dec_tup, h2] at this
    exact this⟩
  obtain ⟨l1, l2, l3, l4⟩ := leaf_not []
  have e7 : ("and" : Str) ≠ "not" := by decide +kernel
  have e8 : ("or" : Str) ≠ "not" := by decide +kernel
  have e9 : ("or" : Str) ≠ "and" := by decide +kernel
  cases t with
  | all => exact .inl (leaf rfl l1 rfl rfl rfl)
  | is n => exact .inl (leaf rfl l2 rfl rfl rfl)
  | less f k => exact .inl (leaf rfl l3 rfl rfl rfl)
  | same f k => exact .inl (leaf rfl l4 rfl rfl rfl)
  | no a => exact .inr ⟨"not", [a], rfl, wordK_not, by show a.leaves = a.leaves ++ []; rw [List.append_nil], by show a.parts + 1 = 1 + (a.parts + 0); omega, by show a.deep + 1 = 1 + max 0 a.deep; omega, fun h x hx => by rw [List.mem_singleton.mp hx]; exact h, fun x hx => by rw [List.mem_singleton.mp hx]; exact Nat.lt_succ_self _, by unfold mkT; rw [if_pos rfl]⟩
  | an a b => exact .inr ⟨"and", [a, b], rfl, wordK_and, by show a.leaves ++ b.leaves = a.leaves ++ (b.leaves ++ []); rw [List.append_nil], by show a.parts + b.parts + 1 = 1 + (a.parts + (b.parts + 0)); omega, by show max a.deep b.deep + 1 = 1 + max (max 0 a.deep) b.deep; omega, fun h x hx => by
      simp only [List.mem_cons, List.not_mem_nil, or_false] at hx
      rcases hx with rfl | rfl
      · exact h.1
      · exact h.2, fun x hx => by
      simp only [List.mem_cons, List.not_mem_nil, or_false] at hx
      show x.deep < max a.deep b.deep + 1
      rcases hx with rfl | rfl <;> omega, by unfold mkT; rw [if_neg e7, if_pos rfl]⟩
  | or a b => exact .inr ⟨"or", [a, b], rfl, wordK_or, by show a.leaves ++ b.leaves = a.leaves ++ (b.leaves ++ []); rw [List.append_nil], by show a.parts + b.parts + 1 = 1 + (a.parts + (b.parts + 0)); omega, by show max a.deep b.deep + 1 = 1 + max (max 0 a.deep) b.deep; omega, fun h x hx => by
      simp only [List.mem_cons, List.not_mem_nil, or_false] at hx
      rcases hx with rfl | rfl
      · exact h.1
      · exact h.2, fun x hx => by
      simp only [List.mem_cons, List.not_mem_nil, or_false] at hx
      show x.deep < max a.deep b.deep + 1
      rcases hx with rfl | rfl <;> omega, by unfold mkT; rw [if_neg e8, if_neg e9, if_pos rfl]⟩
theorem Tst.D_tup (t : Tst) : ∃ ds, t.D = .tuple ds := by cases t <;> exact ⟨_, rfl⟩
theorem wordK_le {z : Str} {n : Nat} (h : wordK z = some n) : 1 ≤ n ∧ n ≤ 2 := by
  unfold wordK at h
  split at h
  · cases h; decide
  · split at h
    · cases h; decide
    · split at h
      · cases h; decide
      · cases h
theorem leaves_len : ∀ t : Tst, t.leaves.length ≤ t.parts := by
  intro t
  induction t with
  | no a ih => show a.leaves.length ≤ a.parts + 1; omega
  | an a b i1 i2 => show (a.leaves ++ b.leaves).length ≤ a.parts + b.parts + 1; rw [List.length_append]; omega
  | or a b i1 i2 => show (a.leaves ++ b.leaves).length ≤ a.parts + b.parts + 1; rw [List.length_append]; omega
  | _ => exact Nat.le_refl _
theorem parts_deep : ∀ t : Tst, t.parts < 2 ^ t.deep := by
  intro t
  induction t with
  | no a ih => show a.parts + 1 < 2 ^ (a.deep + 1); rw [Nat.pow_succ]; omega
  | an a b i1 i2 =>
    show a.parts + b.parts + 1 < 2 ^ (max a.deep b.deep + 1)
    have h1 : 2 ^ a.deep ≤ 2 ^ max a.deep b.deep := Nat.pow_le_pow_right (by decide) (Nat.le_max_left ..)
    have h2 : 2 ^ b.deep ≤ 2 ^ max a.deep b.deep := Nat.pow_le_pow_right (by decide) (Nat.le_max_right ..)
    rw [Nat.pow_succ]
    omega
  | or a b i1 i2 =>
    show a.parts + b.parts + 1 < 2 ^ (max a.deep b.deep + 1)
    have h1 : 2 ^ a.deep ≤ 2 ^ max a.deep b.deep := Nat.pow_le_pow_right (by decide) (Nat.le_max_left ..)
    have h2 : 2 ^ b.deep ≤ 2 ^ max a.deep b.deep := Nat.pow_le_pow_right (by decide) (Nat.le_max_right ..)
    rw [Nat.pow_succ]
    omega
  | _ => show 1 < 2 ^ 1; decide
theorem leaves_ok : ∀ {t : Tst}, t.ok → ∀ l ∈ t.leaves, l.ok ∧ l.deep = 1 ∧ l.leaves = [l] := by
  intro t
  induction t with
  | no a ih => exact ih
  | an a b i1 i2 =>
    intro h l hl
    rcases List.mem_append.mp hl with m | m
    · exact i1 h.1 l m
    · exact i2 h.2 l m
  | or a b i1 i2 =>
    intro h l hl
    rcases List.mem_append.mp hl with m | m
    · exact i1 h.1 l m
    · exact i2 h.2 l m
  | _ =>
    intro h l hl
    rw [List.mem_singleton.mp hl]
    exact ⟨h, rfl, rfl⟩
end Ls
local macro_rules | `(tactic| walk_at "sr") => `(tactic| with_reducible first
  | (refine' k_lenF hS ?sm ?_; (case sm => walk_at "mem"))
  | (refine' k_tyF hS ?sm ?_; (case sm => walk_at "mem"))
  | (refine' k_seqF hS ?sm ?_; (case sm => walk_at "mem"))
  | (refine' k_extD hS ?sr ?sm ?sl ?_; (case sr => walk_at "rep"); (case sm => walk_at "mem"); (case sl => walk_at "sz"); clear hS; refine fun H' hS => ?_))
local macro_rules | `(tactic| walk_at "at") => `(tactic| first | assumption | exact at00 _ _ | exact at01 _ _ _ | exact at02 _ _ _ _)
local macro_rules | `(tactic| walk_at "sr") => `(tactic| with_reducible first
  | refine k_prs ?_ | refine k_prn ?_
  | (refine' k_getD hS ?sm ?se ?_; (case sm => walk_at "mem"); (case se => with_unfolding_all rfl))
  | refine k_inTb ?_ | refine k_notinTb ?_ | refine k_isSS ?_ | refine k_isSI ?_ | refine k_isST ?_ | refine k_isIS ?_ | refine k_isII ?_ | refine k_isIT ?_
  | (refine' k_isTS hS ?sm ?_; (case sm => walk_at "mem"))
  | (refine' k_isTI hS ?sm ?_; (case sm => walk_at "mem"))
  | (refine' k_isTT hS ?sm ?_; (case sm => walk_at "mem"))
  | (refine' k_ixS' hS ?sm ?se ?_; (case sm => walk_at "mem"); (case se => walk_at "at"); clear hS; walk_at "gv")
  | (refine' k_inS2 hS ?sm ?_; (case sm => walk_at "mem"))
  | (refine' k_inS3 hS ?sm ?_; (case sm => walk_at "mem"))
  | (refine' k_ninS2 hS ?sm ?_; (case sm => walk_at "mem"))
  | (refine' k_ninS3 hS ?sm ?_; (case sm => walk_at "mem"))
  | (refine' k_isiM hS ?sm ?se ?_; (case sm => walk_at "mem"); (case se => assumption)))
namespace Ls
open PySem PySem.Spec PyProof.Rows L2
def spLeaf (K : PySem.W.Frag) : Sp := fun vs H Q _ => ∃ (a : Addr) (z : Str) (r : List PyData) (N : Nat) (L : List (As K)), vs = [.ref a] ∧ Ls.Sep L H ∧ im (.ref a) (.tuple (.str z :: r)) ∈ L ∧ Raw N (.tuple (.str z :: r)) ∧ wordK z = none ∧ ∀ H', Ls.Sep L H' → Q (.bl (Ls.leafOf z r).isSome) H'
def spParts (K : PySem.W.Frag) (n : Nat) : Sp := fun vs H Q _ => ∃ (a : Addr) (k : Nat) (xs : List PyData) (N : Nat) (L : List (As K)), vs = [.ref a, .int k] ∧ k ≤ n ∧ Ls.Sep L H ∧ im (.ref a) (.tuple xs) ∈ L ∧ Raw N (.tuple xs) ∧ ∀ H', Ls.Sep L H' → Q (.int (partsP k (.tuple xs))) H'
theorem raw_d {c N : Nat} {d : PyData} (h : RawC c N d) : (∃ z, d = .str z ∧ z.length ≤ 1000) ∨ (∃ i, d = .int i) ∨ (∃ xs m, d = .tuple xs ∧ N = m + 1 ∧ xs.length ≤ c ∧ (∀ x r, xs = x :: r → ∃ z, x = .str z) ∧ ∀ x ∈ xs, RawC c m x) := by
  cases d with
  | str z => cases N <;> exact .inl ⟨z, rfl, h.1⟩
  | int i => exact .inr (.inl ⟨i, rfl⟩)
  | tuple xs =>
    cases N with
    | zero => exact h.elim
    | succ m => exact .inr (.inr ⟨xs, m, rfl, rfl, h⟩)
  | none => cases N <;> exact h.elim
  | bool b => cases N <;> exact h.elim
  | list b => cases N <;> exact h.elim
  | dict b => cases N <;> exact h.elim
end Ls
namespace Lw
open PySem PySem.Spec PyProof.Rows L2 Ls
theorem ok_is_leaf {P : Program} {w : World} {K : PySem.W.Frag} {mg : Str → Option Value} {base : Heap} (E : Env K mg w) : FnOk P w K mg base CX0 2 E.a_is_leaf E.fd_is_leaf ["test"] (spLeaf K) := by
  refine E.F_is_leaf.ok sc_is_leaf (fun vs H Q E h => ?_) (fun cdv A outer s H vs Q E' hr h => ?_)
  · walk_at "hl"
  · have hu := huOf hr
    have G_is_name := ok_is_name (P := P) (w := w) (base := base) E
    have hr_is_name := hr.mono (show 1 ≤ 1 by decide)
    have b_is_name := b_is_name E
    have hcl_Kind := E.cl_Kind
    obtain ⟨a, z, r, N, L, rfl, hS, hm, hr', hw, q⟩ := h
    refine ⟨_, PSs.nox (pss_cons (ps_if (pt_cmpR (op_eqU K rfl hu) (pe_ix (ix_U K rfl) (pv 0) pe_int (fun _ _ => rfl)) pe_str (nomark _)) (pss_one (ps_ret (pe_cmpR (op_eqU K rfl hu) (pe_callB (call_lenU K rfl) (by rfl) E.n_len boot_len (pa_cons (pv 0) pa_nil)) pe_int (nomark _)))) pss_nil)
(pss_cons (ps_if (pt_cmpR (op_eqU K rfl hu) (pe_ix (ix_U K rfl) (pv 0) pe_int (fun _ _ => rfl)) pe_str (nomark _)) (pss_one (ps_ret (pe_and (pe_cmpR (op_eqU K rfl hu) (pe_callB (call_lenU K rfl) (by rfl) E.n_len boot_len (pa_cons (pv 0) pa_nil)) pe_int (nomark _)) (pe_and (pe_callB (call_isiU K rfl) (by rfl) E.n_isinstance boot_isinstance (pa_cons (pe_ix (ix_U K rfl) (pv 0) pe_int (fun _ _ => rfl)) (pa_cons (pe_ty "str" rfl E.n_str (by decide +kernel)) pa_nil))) (pe_one (pe_call G_is_name hr_is_name rfl E.g_is_name E.F_is_name.kp b_is_name .nil pass0 (pa_cons (pe_ix (ix_U K rfl) (pv 0) pe_int (fun _ _ => rfl)) pa_nil))))))) pss_nil)
(pss_cons (ps_if (PW.pt (pw_or (pt_cmpR (op_neU K rfl hu) (pe_callB (call_lenU K rfl) (by rfl) E.n_len boot_len (pa_cons (pv 0) pa_nil)) pe_int (nomark _)) (pw_or (pt_not (pt_val (pe_callB (call_isiU K rfl) (by rfl) E.n_isinstance boot_isinstance (pa_cons (pe_ix (ix_U K rfl) (pv 0) pe_int (fun _ _ => rfl)) (pa_cons (pe_ty "str" rfl E.n_str (by decide +kernel)) pa_nil))))) (pw_or1 (pt_not (pt_val (pe_callB (call_isiU K rfl) (by rfl) E.n_isinstance boot_isinstance (pa_cons (pe_ix (ix_U K rfl) (pv 0) pe_int (fun _ _ => rfl)) (pa_cons (pe_ty "int" rfl E.n_int (by decide +kernel)) pa_nil))))))))) (pss_one (ps_ret pe_bl)) pss_nil)
(pss_one (ps_ret (pe_and (pe_cmpR (op_inU K rfl hu) (pe_ix (ix_U K rfl) (pv 0) pe_int (fun _ _ => rfl)) (pe_tup (pa_cons pe_str (pa_cons pe_str pa_nil))) (by with_unfolding_all rfl)) (pe_and (pe_call G_is_name hr_is_name rfl E.g_is_name E.F_is_name.kp b_is_name .nil pass0 (pa_cons (pe_ix (ix_U K rfl) (pv 0) pe_int (fun _ _ => rfl)) pa_nil)) (pe_one (pe_chain op_le op_le (pe_un un_neg (pe_gc rfl E.c_LIMIT)) (pe_ix (ix_U K rfl) (pv 0) pe_int (fun _ _ => rfl)) (pe_gc rfl E.c_LIMIT)))))))))), ?_⟩
    refine k_body (s1 := some _ :: []) rfl ?_
    walk_at "s"
    by_cases e1 : z = ("all" : Str)
    · rw [if_pos (decide_eq_true e1)]
      walk_at "s"
      have e : decide (((PyData.str z :: r).length : Int) = 1) = (Ls.leafOf z r).isSome := by
        unfold Ls.leafOf
        rw [if_pos e1]
        cases r with
        | nil => rfl
        | cons x r => exact decide_eq_false (by simp; omega)
      rw [e]
      exact q _ hS
    · rw [if_neg (by rw [decide_eq_false e1]; exact Bool.false_ne_true)]
      walk_at "s"
      by_cases e2 : z = ("is" : Str)
      · rw [if_pos (decide_eq_true e2)]
        walk_at "s"
        by_cases hl : ∃ x, r = [x]
        · obtain ⟨x, rfl⟩ := hl
          rw [if_pos (by rfl)]
          obtain ⟨m, rfl⟩ : ∃ m, N = m + 1 := by cases N with | zero => exact hr'.elim | succ m => exact ⟨m, rfl⟩
          have hx := hr'.2.2 x (List.mem_cons_of_mem _ List.mem_cons_self)
          rcases raw_d hx with ⟨s, rfl, hs⟩ | ⟨i, rfl⟩ | ⟨xs, k, rfl, _⟩
          · walk_at "s"
            have e : decide (IsNm s) = (Ls.leafOf z [.str s]).isSome := by
              unfold Ls.leafOf
              rw [if_neg e1, if_pos e2]
              by_cases hn : IsNm s
              · show _ = (if IsNm s then some (Tst.is s) else none).isSome
                rw [if_pos hn, decide_eq_true hn]
                rfl
              · show _ = (if IsNm s then some (Tst.is s) else none).isSome
                rw [if_neg hn, decide_eq_false hn]
                rfl
            refine ⟨s, _, rfl, by omega, hS, fun H hS => ?_⟩
            rw [e]
            exact q _ hS
          · have e : (Ls.leafOf z [.int i]).isSome = false := by
              unfold Ls.leafOf
              rw [if_neg e1, if_pos e2]
              rfl
            rw [e] at q
            walk_at "s"
            exact q _ hS
          · have e : (Ls.leafOf z [.tuple xs]).isSome = false := by
              unfold Ls.leafOf
              rw [if_neg e1, if_pos e2]
              rfl
            rw [e] at q
            walk_at "s"
            exact q _ (Sub.ok (by walk_at "sub") hS)
        · have e : (Ls.leafOf z r).isSome = false := by
            unfold Ls.leafOf
            rw [if_neg e1, if_pos e2]
            split
            · exact (hl ⟨_, rfl⟩).elim
            · rfl
          have e3 : decide (((PyData.str z :: r).length : Int) = 2) = false := decide_eq_false fun h => hl (by
            match r, h with
            | [x], _ => exact ⟨x, rfl⟩
            | [], h => simp at h
            | x :: y :: r, h => simp at h; omega)
          rw [e3, if_neg Bool.false_ne_true]
          rw [e] at q
          exact q _ hS
      · rw [if_neg (by rw [decide_eq_false e2]; exact Bool.false_ne_true)]
        walk_at "s"
        by_cases hl : ∃ x y, r = [x, y]
        · obtain ⟨x, y, rfl⟩ := hl
          rw [if_neg (by show ¬(!decide ((3 : Int) = 3)) = true; decide)]
          obtain ⟨m, rfl⟩ : ∃ m, N = m + 1 := by cases N with | zero => exact hr'.elim | succ m => exact ⟨m, rfl⟩
          have hx := hr'.2.2 x (List.mem_cons_of_mem _ List.mem_cons_self)
          have hy := hr'.2.2 y (List.mem_cons_of_mem _ (List.mem_cons_of_mem _ List.mem_cons_self))
          have no : (∀ s i, ¬ ((x = .str s) ∧ y = .int i)) → (Ls.leafOf z [x, y]).isSome = false := fun h => by
            unfold Ls.leafOf
            rw [if_neg e1, if_neg e2]
            repeat' split
            all_goals first | rfl | (rename_i e _; exact (h _ _ (by cases e; exact ⟨rfl, rfl⟩)).elim)
          walk_at "s"
          rcases raw_d hx with ⟨s, rfl, hs⟩ | ⟨i, rfl⟩ | ⟨xs, k, rfl, _⟩
          · walk_at "s"
            rcases raw_d hy with ⟨s2, rfl, hs2⟩ | ⟨i, rfl⟩ | ⟨xs, k, rfl, _⟩
            · rw [no (by rintro s i ⟨_, h⟩; cases h)] at q
              walk_at "s"
              exact q _ hS
            · walk_at "s"
              have en : ∀ P : Prop, ¬ z = ("less" : Str) → ¬ z = ("same" : Str) → (Ls.leafOf z [.str s, .int i]).isSome = false := fun _ h3 h4 => by
                unfold Ls.leafOf
                rw [if_neg e1, if_neg e2, if_neg h3, if_neg h4]
                rfl
              have ey : (z = ("less" : Str) ∨ z = ("same" : Str)) → (Ls.leafOf z [.str s, .int i]).isSome = decide (IsNm s ∧ Lim i) := fun h => by
                unfold Ls.leafOf
                rw [if_neg e1, if_neg e2]
                by_cases h3 : z = ("less" : Str)
                · rw [if_pos h3]
                  by_cases hn : IsNm s ∧ Lim i
                  · show (if IsNm s ∧ Lim i then some (Tst.less s i) else none).isSome = _
                    rw [if_pos hn, decide_eq_true hn]
                    rfl
                  · show (if IsNm s ∧ Lim i then some (Tst.less s i) else none).isSome = _
                    rw [if_neg hn, decide_eq_false hn]
                    rfl
                · rw [if_neg h3, if_pos (h.resolve_left h3)]
                  by_cases hn : IsNm s ∧ Lim i
                  · show (if IsNm s ∧ Lim i then some (Tst.same s i) else none).isSome = _
                    rw [if_pos hn, decide_eq_true hn]
                    rfl
                  · show (if IsNm s ∧ Lim i then some (Tst.same s i) else none).isSome = _
                    rw [if_neg hn, decide_eq_false hn]
                    rfl
              by_cases hz : z = ("less" : Str) ∨ z = ("same" : Str)
              · rw [if_pos (decide_eq_true (by simp only [List.mem_cons, List.not_mem_nil, or_false]; exact hz))]
                rw [ey hz] at q
                walk_at "s"
                refine ⟨s, _, rfl, by omega, hS, fun H hS => ?_⟩
                by_cases hn : IsNm s
                · rw [decide_eq_true hn]
                  walk_at "s"
                  by_cases h5 : -999999 ≤ i
                  · walk_at "s"
                    rw [show decide (i ≤ 999999) = decide (IsNm s ∧ Lim i) from decide_eq_decide.mpr ⟨fun h => ⟨hn, h5, h⟩, fun h => h.2.2⟩]
                    exact q _ (Sub.ok (by walk_at "sub") hS)
                  · rw [decide_eq_false fun h => h5 h.2.1] at q
                    walk_at "s"
                    exact q _ (Sub.ok (by walk_at "sub") hS)
                · rw [decide_eq_false fun h => hn h.1] at q
                  rw [decide_eq_false hn]
                  walk_at "s"
                  exact q _ (Sub.ok (by walk_at "sub") hS)
              · rw [if_neg (by rw [decide_eq_false (by simp only [List.mem_cons, List.not_mem_nil, or_false]; exact hz)]; exact Bool.false_ne_true)]
                rw [en True (fun h => hz (.inl h)) (fun h => hz (.inr h))] at q
                exact q _ (Sub.ok (by walk_at "sub") hS)
            · rw [no (by rintro s i ⟨_, h⟩; cases h)] at q
              walk_at "s"
              exact q _ (Sub.ok (by walk_at "sub") hS)
          · rw [no (by rintro s i ⟨h, _⟩; cases h)] at q
            walk_at "s"
            exact q _ hS
          · rw [no (by rintro s i ⟨h, _⟩; cases h)] at q
            walk_at "s"
            exact q _ (Sub.ok (by walk_at "sub") hS)
        · have e : (Ls.leafOf z r).isSome = false := by
            unfold Ls.leafOf
            rw [if_neg e1, if_neg e2]
            repeat' split
            all_goals first | rfl | exact (hl ⟨_, _, rfl⟩).elim
          have e3 : decide (((PyData.str z :: r).length : Int) = 3) = false := decide_eq_false fun h => hl (by
            match r, h with
            | [x, y], _ => exact ⟨x, y, rfl⟩
            | [], h => simp at h
            | [x], h => simp at h
            | x :: y :: u :: r, h => simp at h; omega)
          rw [e3, if_pos rfl]
          rw [e] at q
          walk_at "s"
          exact q _ hS
end Lw
namespace Ls
open PySem PySem.Spec PyProof.Rows L2
theorem mkT_some {z : Str} {ts : List Tst} (h : wordK z = some ts.length) : ∃ t, mkT z ts = some t := by
  unfold wordK at h
  unfold mkT
  split at h
  · rename_i e
    rw [if_pos e]
    match ts, h with
    | [a], _ => exact ⟨_, rfl⟩
  · rename_i e
    rw [if_neg e]
    split at h
    · rename_i e
      rw [if_pos e]
      match ts, h with
      | [a, b], _ => exact ⟨_, rfl⟩
    · rename_i e
      rw [if_neg e]
      split at h
      · rename_i e
        rw [if_pos e]
        match ts, h with
        | [a, b], _ => exact ⟨_, rfl⟩
      · cases h
theorem mkT_none {z : Str} {ts : List Tst} (h : wordK z ≠ some ts.length) : mkT z ts = none := by
  unfold wordK at h
  unfold mkT
  repeat' split
  all_goals first | rfl | (exfalso; apply h; simp_all)
theorem mapM_len {α β : Type} {f : α → Option β} : ∀ {r : List α} {ts : List β}, r.mapM f = some ts → ts.length = r.length
  | [], ts, h => by
    have : some [] = some ts := h
    cases this
    rfl
  | d :: r, ts, h => by
    rw [List.mapM_cons] at h
    cases e : f d with
    | none => rw [e] at h; cases h
    | some t =>
      rw [e] at h
      cases e2 : r.mapM f with
      | none => rw [e2] at h; cases h
      | some us =>
        rw [e2] at h
        cases h
        simp [mapM_len e2]
theorem mapM_app {α β : Type} {f : α → Option β} : ∀ {r : List α} {x : α} {ts : List β} {t : β}, r.mapM f = some ts → f x = some t → (r ++ [x]).mapM f = some (ts ++ [t])
  | [], x, ts, t, h, e => by
    have : some [] = some ts := h
    cases this
    rw [List.nil_append, List.mapM_cons, e]
    rfl
  | d :: r, x, ts, t, h, e => by
    rw [List.mapM_cons] at h
    cases e1 : f d with
    | none => rw [e1] at h; cases h
    | some u =>
      rw [e1] at h
      cases e2 : r.mapM f with
      | none => rw [e2] at h; cases h
      | some us =>
        rw [e2] at h
        cases h
        rw [List.cons_append, List.mapM_cons, e1, mapM_app e2 e]
        rfl
theorem mapM_no {α β : Type} {f : α → Option β} : ∀ {r : List α} {x : α}, x ∈ r → f x = none → r.mapM f = none
  | d :: r, x, m, e => by
    rw [List.mapM_cons]
    rcases List.mem_cons.mp m with rfl | m
    · rw [e]; rfl
    · rw [mapM_no m e]
      cases f d <;> rfl
theorem dec_atom {n : Nat} {d : PyData} (h : ∀ xs, d ≠ .tuple xs) : dec n d = none := by
  unfold dec
  split
  · exact (h _ rfl).elim
  · rfl
theorem dec_nil (n : Nat) : dec n (.tuple []) = none := by
  unfold dec
  split
  · rename_i e
    cases e
  · rfl
theorem dec_zero (d : PyData) : dec 0 d = none := by
  unfold dec
  rfl
theorem tabW (z : Str) : List.lookup z [(Str.ofString "not", V.int 1), (Str.ofString "and", V.int 2), (Str.ofString "or", V.int 2)] = (wordK z).map fun n : Nat => V.int n := by
  unfold wordK
  by_cases h1 : z = Str.ofString "not"
  · rw [if_pos h1, h1]
    rw [List.lookup_cons, beq_self_eq_true]
    rfl
  · rw [if_neg h1, List.lookup_cons, beq_false_of_ne h1]
    by_cases h2 : z = Str.ofString "and"
    · rw [if_pos h2, h2]
      simp only [List.lookup_cons, beq_self_eq_true]
      rfl
    · rw [if_neg h2]
      simp only [List.lookup_cons, beq_false_of_ne h2]
      by_cases h3 : z = Str.ofString "or"
      · rw [if_pos h3, h3]
        simp only [beq_self_eq_true]
        rfl
      · rw [if_neg h3]
        simp only [beq_false_of_ne h3]
        rfl
theorem pP_leaf {k : Nat} {z : Str} {r : List PyData} (hw : wordK z = none) : partsP (k + 1) (.tuple (.str z :: r)) = if (Ls.leafOf z r).isSome = true then 1 else 0 := by
  unfold partsP
  rw [dec_tup, hw]
  show (match Ls.leafOf z r with | none => 0 | some t => (t.parts : Int)) = _
  cases e : Ls.leafOf z r with
  | none => rfl
  | some t =>
    obtain ⟨_, _, _, h4, _⟩ := leafOf_ok e
    show (t.parts : Int) = 1
    rw [h4]
    rfl
theorem pP_some {k l : Nat} {z : Str} {r : List PyData} {ts : List Tst} (hw : wordK z = some l) (hl : r.length = l) (h : r.mapM (dec k) = some ts) : partsP (k + 1) (.tuple (.str z :: r)) = 1 + ((ts.map Tst.parts).sum : Nat) := by
  unfold partsP
  rw [dec_tup, hw]
  show (match (r.mapM (dec k)).bind (mkT z) with | none => 0 | some t => (t.parts : Int)) = _
  have hts := mapM_len h
  obtain ⟨t, ht⟩ := mkT_some (z := z) (ts := ts) (by rw [hw, hts, hl])
  rw [h]
  show (match mkT z ts with | none => 0 | some t => (t.parts : Int)) = _
  rw [ht]
  obtain ⟨h1, h2⟩ := mapM_all h fun d t => dec_ok
  obtain ⟨_, _, _, k4, _⟩ := mkT_ok ht h2
  show (t.parts : Int) = _
  rw [k4]
  omega
theorem pP_none {k l : Nat} {z : Str} {r : List PyData} (hw : wordK z = some l) (h : r.length ≠ l ∨ r.mapM (dec k) = none) : partsP (k + 1) (.tuple (.str z :: r)) = 0 := by
  unfold partsP
  rw [dec_tup, hw]
  show (match (r.mapM (dec k)).bind (mkT z) with | none => 0 | some t => (t.parts : Int)) = _
  cases e : r.mapM (dec k) with
  | none => rfl
  | some ts =>
    have hts := mapM_len e
    show (match mkT z ts with | none => 0 | some t => (t.parts : Int)) = _
    rw [mkT_none (by
      rw [hw, hts]
      intro y
      rcases h with h | h
      · exact h (Option.some.inj y).symm
      · rw [e] at h; cases h)]
end Ls
namespace Lw
open PySem PySem.Spec PyProof.Rows L2 Ls
theorem ok_parts_of {P : Program} {w : World} {K : PySem.W.Frag} {mg : Str → Option Value} {base : Heap} (E : Env K mg w) : ∀ n : Nat, FnOk P w K mg base CX0 (3 + n) E.a_parts_of E.fd_parts_of ["test", "deep"] (recSp (spParts K) n) := by
  intro n
  induction n with
  | zero => exact E.F_parts_of.ok sc_parts_of (fun vs H Q E h => h.elim) (fun cdv A outer s H vs Q E' hr h => h.elim)
  | succ n ih =>
  replace ih : FnOk P w K mg base CX0 (3 + n) E.a_parts_of E.fd_parts_of ["test", "deep"] (recSp (spParts K) n) := ih
  show FnOk P w K mg base CX0 (3 + n + 1) E.a_parts_of E.fd_parts_of ["test", "deep"] ((spParts K) n)
  refine E.F_parts_of.ok sc_parts_of (fun vs H Q E h => ?_) (fun cdv A outer s H vs Q E' hr h => ?_)
  · walk_at "hl"
  · have hu := huOf hr
    have G_is_leaf := ok_is_leaf (P := P) (w := w) (base := base) E
    have hr_is_leaf := hr.mono (show 2 ≤ 3 + n by omega)
    have b_is_leaf := b_is_leaf E
    have G_parts_of := ih
    have hr_parts_of := hr
    have b_parts_of := b_parts_of E
    have hcl_Kind := E.cl_Kind
    obtain ⟨a, k, xs, N, L, rfl, hk, hS, hm, hr', q⟩ := h
    obtain ⟨m, rfl⟩ : ∃ m, N = m + 1 := by cases N with | zero => exact hr'.elim | succ m => exact ⟨m, rfl⟩
    refine ⟨_, PSs.nox (pss_cons (ps_if (PW.pt (pw_or (pt_cmpR (op_eqU K rfl hu) (pv 1) pe_int (nomark _)) (pw_or1 (pt_cmpR (op_eqU K rfl hu) (pe_callB (call_lenU K rfl) (by rfl) E.n_len boot_len (pa_cons (pv 0) pa_nil)) pe_int (nomark _))))) (pss_one (ps_ret pe_int)) pss_nil)
(pss_cons (ps_if (pt_cmpR (op_notinT E.t_WITHIN) (pe_ix (ix_U K rfl) (pv 0) pe_int (fun _ _ => rfl)) (pe_glob (v := .ref E.D_WITHIN) rfl E.g_WITHIN rfl) (by with_unfolding_all rfl)) (pss_one (ps_ret (pe_callTy (call_int1) (by rfl) E.n_int boot_int (pa_cons (pe_call G_is_leaf hr_is_leaf rfl E.g_is_leaf E.F_is_leaf.kp b_is_leaf .nil pass0 (pa_cons (pv 0) pa_nil)) pa_nil)))) pss_nil)
(pss_cons (ps_asg (pv 0) (pg_tupS (n := 1) K rfl (pgs_cons (pg_name (i := 2) sc_parts_of.nd rfl (Or.inl rfl)) (pgs_star (pg_name (i := 3) sc_parts_of.nd rfl (Or.inl rfl)) pgs_nil))))
(pss_cons (ps_if (pt_cmpR (op_neU K rfl hu) (pe_callB (call_lenU K rfl) (by rfl) E.n_len boot_len (pa_cons (pv 3) pa_nil)) (pe_ix (ix_T E.t_WITHIN) (pe_glob (v := .ref E.D_WITHIN) rfl E.g_WITHIN rfl) (pv 2) (fun _ _ => rfl)) (nomark _)) (pss_one (ps_ret pe_int)) pss_nil)
(pss_cons (ps_set (i := 4) sc_parts_of.nd rfl (Or.inl rfl) pe_int)
(pss_cons (ps_for PassesOwn.never rfl (pi_seqU K rfl (pv 3)) (pg_name (i := 5) sc_parts_of.nd rfl (Or.inl rfl))
(pss_cons (ps_set (i := 6) sc_parts_of.nd rfl (Or.inl rfl) (pe_join (pe_ifExp (pt_val (pe_callB (call_isiU K rfl) (by rfl) E.n_isinstance boot_isinstance (pa_cons (pv 5) (pa_cons (pe_ty "tuple" rfl E.n_tuple (by decide +kernel)) pa_nil)))) (pe_call G_parts_of hr_parts_of rfl E.g_parts_of E.F_parts_of.kp b_parts_of .nil pass0 (pa_cons (pv 5) (pa_cons (pe_op op_sub (pv 1) pe_int) pa_nil))) pe_int)))
(pss_cons (ps_if (pt_cmpR (op_eqU K rfl hu) (pv 6) pe_int (nomark _)) (pss_one (ps_ret pe_int)) pss_nil)
(pss_one (ps_aug (i := 4) sc_parts_of.nd rfl (Or.inl rfl) (pv 6) ip_add)))))
(pss_one (ps_ret (pv 4))))))))), ?_⟩
    refine k_body (s1 := some _ :: some _ :: [none, none, none, none, none]) rfl ?_
    walk_at "s"
    cases k with
    | zero =>
      have e : partsP 0 (.tuple xs) = 0 := by
        unfold partsP
        rw [dec_zero]
      rw [e] at q
      walk_at "s"
      exact q _ hS
    | succ k =>
      walk_at "s"
      cases xs with
      | nil =>
        have e : partsP (k + 1) (.tuple []) = 0 := by
          unfold partsP
          rw [dec_nil]
        rw [e] at q
        rw [if_pos (by rfl)]
        walk_at "s"
        exact q _ hS
      | cons x r =>
        obtain ⟨z, rfl⟩ := hr'.2.1 x r rfl
        rw [if_neg (by rw [decide_eq_false (by simp; omega)]; exact Bool.false_ne_true)]
        walk_at "s"
        rw [tabW]
        cases hw : wordK z with
        | none =>
          rw [if_pos (by rfl)]
          walk_at "s"
          refine ⟨a, z, r, m + 1, _, rfl, hS, hm, hr', hw, fun H hS => ?_⟩
          rw [pP_leaf hw] at q
          refine .inr ⟨_, rfl, ?_⟩
          exact q _ hS
        | some l =>
          rw [if_neg (by exact Bool.false_ne_true)]
          walk_at "s"
          refine k_gtupStar hS (by walk_at "mem") (by show 1 ≤ r.length + 1; omega) (by have := hr'.1; omega) ?_
          show ∀ p H', Ls.Sep (Ls.ld p r :: ([] ++ L)) H' → _
          intro p H hS
          replace hS : Ls.Sep (Ls.ld p r :: L) H := hS
          show gCons (gName 2) (gCons (gName 3) gNil) [V.str z, V.ref p] _ _ _
          walk_at "s"
          refine k_ixTb (by rw [tabW, hw]; rfl) ?_
          walk_at "s"
          by_cases hl : r.length = l
          · rw [if_neg (by rw [hl]; simp)]
            walk_at "s"
            have hrl : r.length ≤ 100 := by have := hr'.1; simp at this; omega
            refine for_wk (L := Ls.ld p r :: L) (n := r.length) (fun i σ L' => L' = Ls.ld p r :: L ∧ ∃ (ts : List Tst) (c5 c6 : Option V), (r.take i).mapM (dec k) = some ts ∧ σ = [some (.ref a), some (.int (k + 1 : Nat)), some (.str z), some (.ref p), some (.int (1 + ((ts.map Tst.parts).sum : Nat))), c5, c6]) (fun i σ L' e => by obtain ⟨rfl, _⟩ := e; exact wk_ld (by walk_at "mem")) hS ⟨rfl, [], _, _, by rfl, rfl⟩ (fun i σ L' hi iv => ?_) (fun σ L' H iv hS => ?_)
            · obtain ⟨rfl, ts, c5, c6, hts, rfl⟩ := iv
              intro d hd
              have hdr := hr'.2.2 d (List.mem_cons_of_mem _ (List.mem_of_getElem? hd))
              have htk : r.take (i + 1) = r.take i ++ [d] := by rw [List.take_add_one, hd]; rfl
              rcases raw_d hdr with ⟨s, rfl, hs⟩ | ⟨j, rfl⟩ | ⟨xs, m2, rfl, _, rl, _⟩
              · have hn : dec k (.str s) = none := dec_atom fun xs h => by cases h
                have q0 := pP_none hw (.inr (mapM_no (List.mem_of_getElem? hd) hn))
                rw [q0] at q
                walk_at "gi"
                walk_at "ns"
                walk_at "s"
                refine k_nojoin ?_
                walk_at "s"
                exact q _ (Sub.ok (by walk_at "sub") hS)
              · have hn : dec k (.int j) = none := dec_atom fun xs h => by cases h
                have q0 := pP_none hw (.inr (mapM_no (List.mem_of_getElem? hd) hn))
                rw [q0] at q
                walk_at "gi"
                walk_at "ns"
                walk_at "s"
                refine k_nojoin ?_
                walk_at "s"
                exact q _ (Sub.ok (by walk_at "sub") hS)
              · walk_at "gi"
                walk_at "ns"
                walk_at "s"
                refine k_nojoin ?_
                walk_at "s"
                obtain ⟨n', rfl⟩ : ∃ n', n = n' + 1 := ⟨n - 1, by omega⟩
                rw [show ((k + 1 : Nat) : Int) - 1 = (k : Nat) by omega]
                refine ⟨_, k, xs, m, _, rfl, by omega, hS, by walk_at "mem", hdr, fun H hS => ?_⟩
                walk_at "s"
                cases e : dec k (.tuple xs) with
                | none =>
                  have q0 := pP_none hw (.inr (mapM_no (List.mem_of_getElem? hd) e))
                  rw [q0] at q
                  have e2 : partsP k (.tuple xs) = 0 := by unfold partsP; rw [e]
                  rw [e2, if_pos (by rfl)]
                  walk_at "s"
                  exact q _ (Sub.ok (by walk_at "sub") hS)
                | some t =>
                  have e2 : partsP k (.tuple xs) = (t.parts : Int) := by unfold partsP; rw [e]
                  have hp := parts_pos t
                  rw [e2, if_neg (by rw [decide_eq_false (by omega)]; exact Bool.false_ne_true)]
                  walk_at "s"
                  have hsum : (1 + ((((ts ++ [t]).map Tst.parts).sum : Nat) : Int)) = 1 + ((ts.map Tst.parts).sum : Nat) + (t.parts : Nat) := by
                    rw [List.map_append, List.sum_append]
                    simp only [List.map_cons, List.map_nil, List.sum_cons, List.sum_nil, Nat.add_zero]
                    omega
                  exact ⟨_, ⟨rfl, ts ++ [t], _, _, by rw [htk]; exact mapM_app hts e, by rw [hsum]⟩, Sub.ok (by walk_at "sub") hS⟩
            · obtain ⟨rfl, ts, c5, c6, hts, rfl⟩ := iv
              rw [List.take_length] at hts
              rw [pP_some hw hl hts] at q
              walk_at "s"
              exact q _ (Sub.ok (by walk_at "sub") hS)
          · rw [if_pos (by rw [decide_eq_false (by omega)]; rfl)]
            rw [pP_none hw (.inl hl)] at q
            walk_at "s"
            exact q _ (Sub.ok (by walk_at "sub") hS)
end Lw
namespace Ls
open PySem PySem.Spec PyProof.Rows L2 LamX
/-- what _law_ask makes of what it is handed: what is let out and caught -/
def TAsk (K : PySem.W.Frag) (CV CS CM : Addr) : (XK → Hp → VK → Prop) → Hp → VK → Prop := fun tl H Q => ∀ (E' : XK) (Q' : VK),
  (∀ (C dd : Addr) (w : Str) (H' : Hp), PySem.W.exmOne K (.ref C) (.ref CV) = some false → PySem.W.exmOne K (.ref C) (.ref CS) = some true → XfC K C → PySem.W.findIn K (.ref C) "word" = some none → H' dd = some (.xd [("word", .str w)]) →
    (∀ p, H' p = none → Q (.ref p) (upd H' p (.lst [.str w, .non]))) → E' (.ref C) (some dd) H') →
  (∀ (C dd : Addr) (w : Str) (H' : Hp), PySem.W.exmOne K (.ref C) (.ref CV) = some false → PySem.W.exmOne K (.ref C) (.ref CS) = some false → PySem.W.exmOne K (.ref C) (.ref CM) = some true → XfC K C → PySem.W.findIn K (.ref C) "word" = some none → H' dd = some (.xd [("word", .str w)]) →
    (∀ p, H' p = none → Q (.ref p) (upd H' p (.lst [.str w, .non]))) → E' (.ref C) (some dd) H') →
  (∀ (C dd : Addr) (w : V) (i : Int) (H' : Hp), PySem.W.exmOne K (.ref C) (.ref CV) = some true → XfC K C → PySem.W.findIn K (.ref C) "at" = some none → i.natAbs < 10 ^ 100 → H' dd = some (.xd [("at", .int i), ("word", w)]) →
    (∀ p, H' p = none → Q (.ref p) (upd H' p (.lst [.str (("badvalue " : Str) ++ (toString i : String)), .non]))) → E' (.ref C) (some dd) H') →
  (∀ v H', (∀ p, H' p = none → Q (.ref p) (upd H' p (.lst [.str "", v]))) → Q' v H') → tl E' H Q'
theorem bv_len {i : Int} (h : i.natAbs < 10 ^ 100) : ("badvalue " : Str).length + (Str.ofString (toString i)).length ≤ sizeLine := by
  have := num_len (k := 100) (by decide) h
  have e : ("badvalue " : Str).length = 9 := by decide +kernel
  rw [e, sizeLine_eq]
  omega
end Ls
namespace Lw
open PySem PySem.Spec PyProof.Rows L2 Ls LamX
section
variable {P : Program} {w : World} {K : PySem.W.Frag} {mg : Str → Option Value} {base : Heap}
theorem ask_gives (E : Env K mg w) {X : Cx} (hK : X.K = K) (hmg : X.mg = mg) {g : Addr} {cdg : Value} {q : Str} :
    GivesZ X ["_law_ask_here", "_law_told", "_law_word_here", "e"] "_law_ask" (defScope s__law_ask) g cdg (defBody s__law_ask) "_law_ask_here" q (TAsk K E.C_BadValue E.C_ScribeError E.C_Missing) := by
  subst hK hmg
  intro f c' s H Q tl act hc h
  refine ⟨_, pss_cons (ps_set (i := 1) sc__law_ask.nd rfl (Or.inl rfl) pe_non) (pss_cons (ps_set (i := 2) sc__law_ask.nd rfl (Or.inl rfl) pe_str)
    (pss_cons (ps_try_cl (l := [(.ref E.C_BadValue, 3, fun a cls d => tAsg (tOp (rAddU X.K) (tC (.str "badvalue ")) (tCB (fun xs H Q => ∃ i : Int, xs = [.int i] ∧ i.natAbs.log2 < 1920 ∧ Q (.str (toString i)) H) (tCons (tXfA X.K a cls d "at" (tVar 3)) tNil))) (gName 2)), (.ref E.C_ScribeError, 3, fun a cls d => tAsg (tXfA X.K a cls d "word" (tVar 3)) (gName 2)), (.ref E.C_Missing, 3, fun a cls d => tAsg (tXfA X.K a cls d "word" (tVar 3)) (gName 2))])
      (tb := fun (W : WX) (D : Ends) (σ : L2.St) (H : Hp) => σ[0]? = some (some (V.ref f)) ∧ H c' = some (CodeO c' q) ∧ tl (fun cls d H' => W cls d σ H') H fun v H' => D.nx (σ.set 1 (some v)) H')
      rfl rfl sc__law_ask.nd LamX.takes0 (fun W pn xe tk _ => ⟨fun pins s' σ H' D I h' => (pss_one (ps_set (i := 1) sc__law_ask.nd rfl (Or.inl rfl) (act W pn xe _ _ tk))).run pins s' σ H' D I h'⟩)
      (.cons ⟨rfl, by decide, .inl E.g_BadValue⟩ rfl rfl (fun a oe cls d pn hz hf => pss_one (ps_set (i := 2) sc__law_ask.nd rfl (Or.inl rfl) (pe_op (op_addU X.K rfl) pe_str (pe_callTy call_str_int (by rfl) E.n_str boot_str (pa_cons (pe_xfA X.K rfl hz hf (pv 3)) pa_nil))))) (.cons ⟨rfl, by decide, .inl E.g_ScribeError⟩ rfl rfl (fun a oe cls d pn hz hf => pss_one (ps_set (i := 2) sc__law_ask.nd rfl (Or.inl rfl) (pe_xfA X.K rfl hz hf (pv 3))))
        (.cons ⟨rfl, by decide, .inl E.g_Missing⟩ rfl rfl (fun a oe cls d pn hz hf => pss_one (ps_set (i := 2) sc__law_ask.nd rfl (Or.inl rfl) (pe_xfA X.K rfl hz hf (pv 3)))) .nil))))
      (pss_one (ps_ret (pe_lst (pa_cons (pv 2) (pa_cons (pv 1) pa_nil))))))), ?_⟩
  refine k_body (s1 := [some (.ref f), none, none, none]) rfl ?_
  walk_at "w"
  refine ⟨rfl, hc, h _ _ (fun C dd w H' e1 e2 xf no hd q => ?_) (fun C dd w H' e1 e2 e3 xf no hd q => ?_) (fun C dd w i H' e1 xf no hi hd q => ?_) fun v H' q => ?_⟩
  · refine ⟨false, e1, (fun z => by cases z), fun _ => ⟨true, e2, fun _ a _ => ?_, fun z => by cases z⟩⟩
    refine k_body (s1 := [some (.ref f), some .non, some (.str ""), some (.ref a)]) rfl ?_
    refine ⟨C, xf, no, _, rfl, rfl, rfl, dd, [("word", .str w)], .str w, rfl, hd, by simp [List.lookup], ?_⟩
    dsimp only [gone]
    refine k_body (s1 := [some (.ref f), some .non, some (.str w), none]) rfl ?_
    walk_at "w"
    exact q
  · refine ⟨false, e1, (fun z => by cases z), fun _ => ⟨false, e2, (fun z => by cases z), fun _ => ⟨true, e3, fun _ a _ => ?_, fun z => by cases z⟩⟩⟩
    refine k_body (s1 := [some (.ref f), some .non, some (.str ""), some (.ref a)]) rfl ?_
    refine ⟨C, xf, no, _, rfl, rfl, rfl, dd, [("word", .str w)], .str w, rfl, hd, by simp [List.lookup], ?_⟩
    dsimp only [gone]
    refine k_body (s1 := [some (.ref f), some .non, some (.str w), none]) rfl ?_
    walk_at "w"
    exact q
  · refine ⟨true, e1, fun _ a _ => ?_, fun z => by cases z⟩
    refine k_body (s1 := [some (.ref f), some .non, some (.str ""), some (.ref a)]) rfl ?_
    walk_at "w"
    refine ⟨C, xf, no, _, rfl, rfl, rfl, dd, [("at", .int i), ("word", w)], .int i, rfl, hd, by simp [List.lookup], ?_⟩
    walk_at "w"
    refine ⟨i, rfl, log_lt hi, ?_⟩
    refine k_addS (bv_len hi) ?_
    walk_at "w"
    dsimp only [gone]
    refine k_body (s1 := [some (.ref f), some .non, some (.str (("badvalue " : Str) ++ (toString i : String))), none]) rfl ?_
    walk_at "w"
    exact q
  · refine k_body (s1 := [some (.ref f), some v, some (.str ""), none]) rfl ?_
    walk_at "w"
    exact q
theorem pe_askT (E : Env K mg w) {X : Cx} (hK : X.K = K) (hmg : X.mg = mg) {q : Str} (hq : X.env.qual = q) {T : List (Addr × Str)} {c Pt : Addr} {k : Nat} {params : Arguments} {body : Expr} {scope : Scope} {t : XK → TE} {p lpos pos : Pos} (TB : TabB X.base X.mg c Pt) (hcode : X.env.code = .ref c)
    (hmT : (Pt, q ++ ("<lambda>" : Str)) ∈ T) (hu : ∀ p ∈ T, p.1 = Pt → p.2 = q ++ ("<lambda>" : Str)) (hr : Room (k + 2) X.A) (L : LamS X.env.scope scope) (hdef : defaultsOf params X.env = ([], []))
    (bind0 : ∀ (q : Str) (cl : List (Str × Addr)) (pm cv ctv : Value), bindArgs (PySem.W.kla_fn "<lambda>" q params body scope cl pm cv ctv) ⟨[], []⟩ = pure [])
    (bodyP : ∀ (A : Around) (outer : List PySem.Env) (s : Shared) (H : Hp) (E : XK) (f c' : Addr), Room k (A.deeper (lamEnv X scope s.heap.objs.size f c')) → PE (lamCx X A outer s H E scope f c') body (t E)) (hg : Gl X "_law_ask" := by rfl) :
    PE X (.Call (.Name "_law_ask" p) [.Lambda params body scope lpos] [] pos) (tLam T (TAsk K E.C_BadValue E.C_ScribeError E.C_Missing) t) := by
  subst hK hmg hq
  obtain ⟨oc, od, dV, kV, doc, pm, an, cdv, ct, osl, e, lk, hcd, _, _⟩ := E.F__law_ask.ex
  have b := b__law_ask E
  rw [e] at lk b
  exact pe_lamZ hg E.g__law_ask E.F__law_ask.kp lk hcd b sc__law_ask rfl (.inl rfl) (ask_gives E rfl rfl) TB hcode hmT hu hr L hdef bind0 bodyP
end
end Lw
namespace Ls
open PySem PySem.Spec PyProof.Rows L2 LamX
end Ls
namespace Ls
open PySem PySem.Spec PyProof.Rows L2 LamX
section
variable {K : PySem.W.Frag} {L M : List (As K)} {H H' H1 : Hp} {C CV CS CM : Addr} {w : Str} {i : Int} {Q : VK} {tl : XK → Hp → VK → Prop}
/-- an ask, all its ends told at once: P says what the call gives or lets out, with the word -/
theorem task_by (P : V → Str → Hp → Prop) (R : ∀ v w H', P v w H' → ∀ p, H' p = none → Q (.ref p) (upd H' p (.lst [.str w, v])))
    (h : ∀ (E' : XK) (Q' : VK), (∀ v H', P v "" H' → Q' v H') →
      (∀ C ww (L : List (As K)), PySem.W.exmOne K (.ref C) (.ref CV) = some false → PySem.W.exmOne K (.ref C) (.ref CS) = some true → XfC K C → PySem.W.findIn K (.ref C) "word" = some none → (∀ H', Ls.Sep L H' → P .non ww H') → Lets L C ww E') →
      (∀ C ww (L : List (As K)), PySem.W.exmOne K (.ref C) (.ref CV) = some false → PySem.W.exmOne K (.ref C) (.ref CS) = some false → PySem.W.exmOne K (.ref C) (.ref CM) = some true → XfC K C → PySem.W.findIn K (.ref C) "word" = some none → (∀ H', Ls.Sep L H' → P .non ww H') → Lets L C ww E') →
      (∀ C ww (i : Int) (L : List (As K)), PySem.W.exmOne K (.ref C) (.ref CV) = some true → XfC K C → PySem.W.findIn K (.ref C) "at" = some none → i.natAbs < 10 ^ 100 → (∀ d H', Ls.Sep (ob d (.xd [("at", .int i), ("word", .str ww)]) :: L) H' → P .non (("badvalue " : Str) ++ (toString i : String)) H') → LetsA L C "at" ww (.int i) E') → tl E' H Q') :
    TAsk K CV CS CM tl H Q := fun E' Q' hS hM hV hO => h E' Q' (fun v H' p => hO v H' (R _ _ _ p))
  (fun C ww L e1 e2 xf no p d H' s => hS C d ww H' e1 e2 xf no (s.obm List.mem_cons_self) (R _ _ _ (p _ s.tail)))
  (fun C ww L e1 e2 e3 xf no p d H' s => hM C d ww H' e1 e2 e3 xf no (s.obm List.mem_cons_self) (R _ _ _ (p _ s.tail)))
  (fun C ww i L e1 xf no hi p d H' s => hV C d (.str ww) i H' e1 xf no hi (s.obm List.mem_cons_self) (R _ _ _ (p _ _ s)))
end
end Ls
namespace Ls
open PySem PySem.Spec PyProof.Rows L2
theorem gv_T {K : PySem.W.Frag} (t : Tst) {q : V → List (As K) → Prop} (h : ∀ a, q (.ref a) [im (.ref a) t.D]) : Gv (K := K) t.D q := by
  cases t <;> exact h
section
variable {K : PySem.W.Frag} {L : List (As K)} {a : Addr} {ts : List Tst}
theorem wk_imT (m : im (.ref a) (.tuple (ts.map Tst.D)) ∈ L) : Wk (Itt K a) L ts.length fun i q => ∀ t, ts[i]? = some t → ∀ b, q (.ref b) [im (.ref b) t.D] :=
  (wk_imm m).mono fun i q hi k t ht => gv_T t (k t ht)
theorem wk_ldT (m : Ls.ld a (ts.map Tst.D) ∈ L) : Wk (Itl K a) L ts.length fun i q => ∀ t, ts[i]? = some t → ∀ b, q (.ref b) [im (.ref b) t.D] :=
  (wk_ldm m).mono fun i q hi k t ht => gv_T t (k t ht)
end
theorem flat_part {α β : Type} {f : α → List β} {ts : List α} {i : Nat} {x : α} (h : ts[i]? = some x) : (((ts.take i).flatMap f) ++ f x).length ≤ (ts.flatMap f).length := by
  have e : ts = ts.take i ++ x :: ts.drop (i + 1) := by
    obtain ⟨hi, hx⟩ := List.getElem?_eq_some_iff.mp h
    rw [← hx, ← List.drop_eq_getElem_cons hi, List.take_append_drop]
  have e2 : (ts.flatMap f).length = (((ts.take i).flatMap f) ++ f x).length + ((ts.drop (i + 1)).flatMap f).length := by
    conv => lhs; rw [e]
    rw [List.flatMap_append, List.flatMap_cons, List.length_append, List.length_append, List.length_append]
    omega
  omega
theorem cut1D (x : PyData) (ds : List PyData) : Ls.cutD (x :: ds) (some 1) none = ds := by
  rw [cutD_from (by decide)]
  rfl
def spIsTest (K : PySem.W.Frag) : Sp := fun vs H Q _ => ∃ (a : Addr) (xs : List PyData) (N : Nat) (L : List (As K)), vs = [.ref a] ∧ Ls.Sep L H ∧ im (.ref a) (.tuple xs) ∈ L ∧ Raw N (.tuple xs) ∧ ∀ H', Ls.Sep L H' → Q (.bl (decide (IsT (.tuple xs)))) H'
def spLookT (K : PySem.W.Frag) : Sp := fun vs H Q _ => ∃ (a : Addr) (t : Tst) (L : List (As K)), vs = [.ref a] ∧ Ls.Sep L H ∧ im (.ref a) t.D ∈ L ∧ t.ok ∧ t.deep ≤ 5 ∧ t.parts ≤ 15 ∧ ∀ H', Ls.Sep L H' → Q .non H'
def spLeavesIn (K : PySem.W.Frag) (n : Nat) : Sp := fun vs H Q _ => ∃ (a : Addr) (t : Tst) (L : List (As K)), vs = [.ref a] ∧ t.deep ≤ n + 1 ∧ n ≤ 10 ∧ Ls.Sep L H ∧ im (.ref a) t.D ∈ L ∧ ∀ p H', Ls.Sep (Ls.ld p (t.leaves.map Tst.D) :: L) H' → Q (.ref p) H'
end Ls
namespace Lw
open PySem PySem.Spec PyProof.Rows L2 Ls
theorem ok_is_test {P : Program} {w : World} {K : PySem.W.Frag} {mg : Str → Option Value} {base : Heap} (E : Env K mg w) : FnOk P w K mg base CX0 10 E.a_is_test E.fd_is_test ["test"] (spIsTest K) := by
  refine E.F_is_test.ok sc_is_test (fun vs H Q E h => ?_) (fun cdv A outer s H vs Q E' hr h => ?_)
  · walk_at "hl"
  · have hu := huOf hr
    have G_parts_of := ok_parts_of (P := P) (w := w) (base := base) E 6
    have hr_parts_of := hr.mono (show 9 ≤ 9 by decide)
    have b_parts_of := b_parts_of E
    have hcl_Kind := E.cl_Kind
    obtain ⟨a, xs, N, L, rfl, hS, hm, hr', q⟩ := h
    refine ⟨_, PSs.nox (pss_one (ps_ret (pe_chain op_le op_le pe_int (pe_call G_parts_of hr_parts_of rfl E.g_parts_of E.F_parts_of.kp b_parts_of .nil pass0 (pa_cons (pv 0) (pa_cons (pe_gc rfl E.c_DEEPEST) pa_nil))) (pe_gc rfl E.c_MOST_PARTS)))), ?_⟩
    refine k_body (s1 := some _ :: []) rfl ?_
    walk_at "s"
    refine ⟨a, 5, xs, N, _, rfl, by decide, hS, hm, hr', fun H hS => ?_⟩
    walk_at "s"
    by_cases h1 : 1 ≤ partsP 5 (.tuple xs)
    · walk_at "s"
      rw [show decide (partsP 5 (.tuple xs) ≤ 15) = decide (IsT (.tuple xs)) from decide_eq_decide.mpr ⟨fun h => ⟨h1, h⟩, fun h => h.2⟩]
      exact q _ hS
    · rw [decide_eq_false fun h => h1 h.1] at q
      walk_at "s"
      exact q _ hS
theorem ok_look_test {P : Program} {w : World} {K : PySem.W.Frag} {mg : Str → Option Value} {base : Heap} (E : Env K mg w) : FnOk P w K mg base CX0 11 E.a_look_test E.fd_look_test ["test"] (spLookT K) := by
  refine E.F_look_test.ok sc_look_test (fun vs H Q E h => ?_) (fun cdv A outer s H vs Q E' hr h => ?_)
  · walk_at "hl"
  · have hu := huOf hr
    have G_is_test := ok_is_test (P := P) (w := w) (base := base) E
    have hr_is_test := hr.mono (show 10 ≤ 10 by decide)
    have b_is_test := b_is_test E
    have hcl_Kind := E.cl_Kind
    obtain ⟨a, t, L, rfl, hS, hm, ho, hd, hp, q⟩ := h
    refine ⟨_, PSs.nox (pss_one (ps_if (pt_not (pt_val (pe_call G_is_test hr_is_test rfl E.g_is_test E.F_is_test.kp b_is_test .nil pass0 (pa_cons (pv 0) pa_nil)))) (pss_one ps_never) pss_nil)), ?_⟩
    refine k_body (s1 := some _ :: []) rfl ?_
    obtain ⟨xs, ex⟩ := t.D_tup
    have hi := isT_of ho hd hp
    have hraw := ok_raw ho hd
    rw [ex] at hm hi hraw
    walk_at "s"
    refine ⟨a, xs, 5, _, rfl, hS, hm, hraw, fun H hS => ?_⟩
    rw [decide_eq_true hi]
    walk_at "s"
    exact q _ hS
theorem okI_ScribeError {P : Program} {w : World} {K : PySem.W.Frag} {mg : Str → Option Value} {base : Heap} (E : Env K mg w) : FnOk P w K mg base CX0 1 E.fi_ScribeError E.fdi_ScribeError ["self", "word"] (spInit1 K) := by
  refine E.FI_ScribeError.ok sc_ScribeError___init__ (fun vs H Q E h => ?_) (fun cdv A outer s H vs Q E' hr h => ?_)
  · obtain ⟨a, C, w, rfl, _⟩ := h
    rfl
  · obtain ⟨a, C, w, rfl, T, no, ha, q⟩ := h
    refine ⟨_, PSs.nox (pss_cons (ps_expr (pe_veinit rfl E.n_ValueError E.vei (pa_cons (pv 0) (pa_cons (pv 1) pa_nil))))
(pss_one (ps_ost (pv 0) (pv 1)))), ?_⟩
    refine k_body (s1 := [some (.ref a), some (.str w)]) rfl ?_
    walk_at "w"
    refine ⟨a, C, [.str w], rfl, by show 1 ≤ 1000; omega, T, ha, ?_⟩
    walk_at "w"
    exact ⟨a, C, rfl, T, no, .inl ⟨ha, fun dx h1 h2 => q dx h1 h2⟩⟩
theorem okI_BadWay {P : Program} {w : World} {K : PySem.W.Frag} {mg : Str → Option Value} {base : Heap} (E : Env K mg w) : FnOk P w K mg base CX0 2 E.fi_BadWay E.fdi_BadWay ["self"] (spInit0 K "badway") := by
  refine E.FI_BadWay.ok sc_BadWay___init__ (fun vs H Q E h => ?_) (fun cdv A outer s H vs Q E' hr h => ?_)
  · obtain ⟨a, C, rfl, _⟩ := h
    rfl
  · obtain ⟨a, C, rfl, T, no, ha, q⟩ := h
    have GI_ScribeError := okI_ScribeError (P := P) (w := w) (base := base) E
    have hrI_ScribeError := hr.mono (show 1 ≤ 1 by decide)
    have bI_ScribeError := bI_ScribeError E
    refine ⟨_, PSs.nox (pss_one (ps_expr (pe_cfn (pe_glob (v := .ref E.C_ScribeError) rfl E.g_ScribeError rfl) E.r_ScribeError E.v_ScribeError E.FI_ScribeError.kp GI_ScribeError hrI_ScribeError bI_ScribeError pass0 (pa_cons (pv 0) (pa_cons pe_str pa_nil))))), ?_⟩
    refine k_body (s1 := [some (.ref a)]) rfl ?_
    walk_at "w"
    refine ⟨rfl, ?_⟩
    walk_at "w"
    exact ⟨a, C, _, rfl, T, no, ha, q⟩
theorem okI_BadValue {P : Program} {w : World} {K : PySem.W.Frag} {mg : Str → Option Value} {base : Heap} (E : Env K mg w) : FnOk P w K mg base CX0 2 E.fi_BadValue E.fdi_BadValue ["self", "at"] (spInitA K "at" "badvalue") := by
  refine E.FI_BadValue.ok sc_BadValue___init__ (fun vs H Q E h => ?_) (fun cdv A outer s H vs Q E' hr h => ?_)
  · obtain ⟨a, C, y, rfl, _⟩ := h
    rfl
  · obtain ⟨a, C, y, rfl, T, no, nf, ha, q⟩ := h
    have GI_ScribeError := okI_ScribeError (P := P) (w := w) (base := base) E
    have hrI_ScribeError := hr.mono (show 1 ≤ 1 by decide)
    have bI_ScribeError := bI_ScribeError E
    refine ⟨_, PSs.nox (pss_cons (ps_expr (pe_cfn (pe_glob (v := .ref E.C_ScribeError) rfl E.g_ScribeError rfl) E.r_ScribeError E.v_ScribeError E.FI_ScribeError.kp GI_ScribeError hrI_ScribeError bI_ScribeError pass0 (pa_cons (pv 0) (pa_cons pe_str pa_nil))))
(pss_one (ps_ost (pv 0) (pv 1)))), ?_⟩
    refine k_body (s1 := [some (.ref a), some y]) rfl ?_
    walk_at "w"
    refine ⟨rfl, ?_⟩
    walk_at "w"
    refine ⟨a, C, _, rfl, T, no, ha, fun dx h1 h2 => ?_⟩
    walk_at "w"
    refine ⟨a, C, rfl, T, nf, .inr ⟨dx, [("word", .str "badvalue")], upd_same, ?_, by show 1 ≤ 900; decide, ?_⟩⟩
    · rw [upd_ne h2]
      exact upd_same
    · walk_at "w"
      exact q dx h1 h2
theorem ok_leaves_in {P : Program} {w : World} {K : PySem.W.Frag} {mg : Str → Option Value} {base : Heap} (E : Env K mg w) : ∀ n : Nat, FnOk P w K mg base CX0 (1 + n) E.a_leaves_in E.fd_leaves_in ["test"] (recSp (spLeavesIn K) n) := by
  intro n
  induction n with
  | zero => exact E.F_leaves_in.ok sc_leaves_in (fun vs H Q E h => h.elim) (fun cdv A outer s H vs Q E' hr h => h.elim)
  | succ n ih =>
  replace ih : FnOk P w K mg base CX0 (1 + n) E.a_leaves_in E.fd_leaves_in ["test"] (recSp (spLeavesIn K) n) := ih
  show FnOk P w K mg base CX0 (1 + n + 1) E.a_leaves_in E.fd_leaves_in ["test"] ((spLeavesIn K) n)
  refine E.F_leaves_in.ok sc_leaves_in (fun vs H Q E h => ?_) (fun cdv A outer s H vs Q E' hr h => ?_)
  · walk_at "hl"
  · have hu := huOf hr
    have G_leaves_in := ih
    have hr_leaves_in := hr
    have b_leaves_in := b_leaves_in E
    have hcl_Kind := E.cl_Kind
    obtain ⟨a, t, L, rfl, hd, hn, hS, hm, q⟩ := h
    refine ⟨_, PSs.nox (pss_cons (ps_if (pt_cmpR (op_notinT E.t_WITHIN) (pe_ix (ix_U K rfl) (pv 0) pe_int (fun _ _ => rfl)) (pe_glob (v := .ref E.D_WITHIN) rfl E.g_WITHIN rfl) (by with_unfolding_all rfl)) (pss_one (ps_ret (pe_lst (pa_cons (pv 0) pa_nil)))) pss_nil)
(pss_one (ps_ret (pe_lc2 (own := [("part", 1), ("leaf", 2)]) (vs1 := [2]) rfl sc_leaves_in.nd (pi_seqU K rfl (pe_slice (sl_U K rfl) (pv 0) (po_some pe_int) po_none)) (blkOk_by (N := ["test", "part", "leaf"]) (sc := defScope s_leaves_in) (by decide +kernel)) (by decide) (fun _ _ _ _ _ => (pg_name (i := 1) sc_leaves_in.nd rfl (Or.inl rfl))) (fun _ _ _ _ _ => pts_nil) (fun _ _ _ _ _ => (pi_seqU K rfl (pe_call G_leaves_in hr_leaves_in rfl E.g_leaves_in E.F_leaves_in.kp b_leaves_in .nil pass0 (pa_cons (pv 1) pa_nil)))) (fun _ _ _ _ _ => (pg_name (i := 2) sc_leaves_in.nd rfl (Or.inl rfl))) (fun _ _ _ _ _ => pts_nil) (fun _ _ _ _ _ => (pv 2)))))), ?_⟩
    refine k_body (s1 := some _ :: [none, none]) rfl ?_
    rcases t.view with ⟨z, r, ed, hw, el, _⟩ | ⟨z, ts, ed, hw, el, hpp, _, _, hlt, _⟩
    · rw [el] at q
      rw [ed] at hm
      walk_at "s"
      rw [tabW, hw, if_pos (by rfl)]
      walk_at "s"
      exact q _ _ (by rw [List.map_cons, ed]; exact hS)
    · rw [ed] at hm
      have hl2 := wordK_le hw
      walk_at "s"
      rw [tabW, hw, if_neg (by exact Bool.false_ne_true)]
      walk_at "s"
      refine k_lc2 ?_
      walk_at "s"
      rename_i ps _
      rw [cut1D] at hS
      have hpt := parts_deep t
      have hpl : 2 ^ t.deep ≤ 2 ^ 11 := Nat.pow_le_pow_right (by decide) (by omega)
      refine it_wk (n := ts.length) (Y := fun i q => ∀ t, ts[i]? = some t → ∀ b, q (.ref b) [im (.ref b) t.D]) (fun i L' => L' = Ls.ld p (((ts.take i).flatMap Tst.leaves).map Tst.D) :: im (.ref ps) (.tuple (ts.map Tst.D)) :: L) (fun i L' e => by subst e; exact wk_imT (by walk_at "mem")) hS rfl (fun i L' hi iv x hx b => ?_) (fun L' H iv hS => ?_)
      · subst iv
        clear hS
        have hxt := hlt x (List.mem_of_getElem? hx)
        have etk : ts.take (i + 1) = ts.take i ++ [x] := by rw [List.take_add_one, hx]; rfl
        have hfl : (((ts.take i).flatMap Tst.leaves) ++ x.leaves).length ≤ t.leaves.length := by
          rw [el]
          exact flat_part hx
        rw [List.length_append] at hfl
        have hll := leaves_len t
        intro H hS
        obtain ⟨n', rfl⟩ : ∃ n', n = n' + 1 := ⟨n - 1, by have := deep_pos x; omega⟩
        walk_at "ls"
        refine ⟨b, x, _, rfl, by omega, by omega, hS, by walk_at "mem", fun pl H hS => ?_⟩
        walk_at "s"
        refine it_wk (L := Ls.ld p (((ts.take i).flatMap Tst.leaves).map Tst.D) :: Ls.ld pl (x.leaves.map Tst.D) :: im (.ref ps) (.tuple (ts.map Tst.D)) :: L) (n := x.leaves.length) (Y := fun j q => ∀ t, x.leaves[j]? = some t → ∀ b, q (.ref b) [im (.ref b) t.D]) (fun j L' => L' = Ls.ld p (((ts.take i).flatMap Tst.leaves ++ x.leaves.take j).map Tst.D) :: Ls.ld pl (x.leaves.map Tst.D) :: im (.ref ps) (.tuple (ts.map Tst.D)) :: L) (fun j L' e => by subst e; exact wk_ldT (by walk_at "mem")) (Sub.ok (by walk_at "sub") hS) (by rw [List.take_zero, List.append_nil]) (fun j L' hj iv l hl b => ?_) (fun L' H iv hS => ?_)
        · subst iv
          clear hS
          intro H hS
          walk_at "ls"
          refine it_keep hS (L := Ls.ld pl (x.leaves.map Tst.D) :: im (.ref ps) (.tuple (ts.map Tst.D)) :: L) (d := l.D) (by walk_at "dat") (by walk_at "sub") (by rw [List.length_map, List.length_append, sizeLine_eq]; have := List.length_take_le j x.leaves; omega) ?_
          rw [List.take_add_one, hl, Option.toList_some, ← List.append_assoc, List.map_append (l₂ := [l])]
          rfl
        · subst iv
          refine it_skip (L := Ls.ld p ((((ts.take i).flatMap Tst.leaves) ++ x.leaves).map Tst.D) :: im (.ref ps) (.tuple (ts.map Tst.D)) :: L) hS (by rw [List.take_length]; walk_at "sub") ?_
          rw [etk, List.flatMap_append, List.flatMap_cons, List.flatMap_nil, List.append_nil]
      · subst iv
        rw [List.take_length, ← el] at hS
        walk_at "s"
        exact q _ _ (Sub.ok (by walk_at "sub") hS)
end Lw
namespace Ls
open PySem PySem.Spec PyProof.Rows L2 TL
/-- a field's number: the first one of that name -/
def spotF : List Fd → Str → Option Nat
  | [], _ => none
  | f :: fs, x => if f.1 = x then some 0 else (spotF fs x).map (· + 1)
/-- a field's value -/
def valF (fs : List Fd) (us : List Int) (x : Str) : Option Int := (spotF fs x).bind fun i => us[i]?
def Tst.pass (k : Kd) (us : List Int) : Tst → Bool
  | .all => true
  | .is n => decide (k.1 = n)
  | .less f c => match valF k.2 us f with
    | none => false
    | some u => decide (u < c)
  | .same f c => match valF k.2 us f with
    | none => false
    | some u => decide (u = c)
  | .no a => !a.pass k us
  | .an a b => a.pass k us && b.pass k us
  | .or a b => a.pass k us || b.pass k us
theorem spotF_lt : ∀ {fs : List Fd} {x : Str} {i : Nat}, spotF fs x = some i → i < fs.length ∧ (fs.map (·.1))[i]? = some x
  | f :: fs, x, i, h => by
    unfold spotF at h
    split at h
    · rename_i e
      cases h
      exact ⟨Nat.succ_pos _, by rw [List.map_cons, e]; rfl⟩
    · obtain ⟨j, hj, rfl⟩ := Option.map_eq_some_iff.mp h
      obtain ⟨h1, h2⟩ := spotF_lt hj
      exact ⟨Nat.succ_lt_succ h1, by rw [List.map_cons]; exact h2⟩
theorem spotF_none : ∀ {fs : List Fd} {x : Str}, spotF fs x = none ↔ x ∉ fs.map (·.1)
  | [], x => ⟨fun _ m => (List.not_mem_nil m).elim, fun _ => rfl⟩
  | f :: fs, x => by
    unfold spotF
    rw [List.map_cons]
    by_cases e : f.1 = x
    · rw [if_pos e]
      exact ⟨fun h => (Option.some_ne_none _ h).elim, fun h => (h (e ▸ List.mem_cons_self)).elim⟩
    · rw [if_neg e, Option.map_eq_none_iff, spotF_none (fs := fs)]
      exact ⟨fun h m => by
        rcases List.mem_cons.mp m with m | m
        · exact e m.symm
        · exact h m, fun h m => h (List.mem_cons_of_mem _ m)⟩
theorem spotF_first : ∀ {fs : List Fd} {x : Str} {i : Nat}, spotF fs x = some i → ∀ j, j < i → (fs.map (·.1))[j]? ≠ some x
  | f :: fs, x, i, h, j, hj => by
    unfold spotF at h
    split at h
    · cases h
      omega
    · rename_i e
      obtain ⟨i', hi, rfl⟩ := Option.map_eq_some_iff.mp h
      rw [List.map_cons]
      cases j with
      | zero => exact fun y => e (Option.some.inj y)
      | succ j =>
        rw [List.getElem?_cons_succ]
        exact spotF_first hi j (by omega)
section
variable {K : PySem.W.Frag} {L : List (As K)} {H : Hp} {Q : VK} {a : Addr} {v : V}
theorem k_indexS {zs : List Str} {z : Str} {j : Nat} (h : Ls.Sep L H) (m : Ls.ld a (zs.map PyData.str) ∈ L) (e : zs[j]? = some z) (n : ∀ i, i < j → zs[i]? ≠ some z) (q : Q (.int j) H) : rIndex K (.ref a) [.str z] H Q := by
  obtain ⟨xs, h1, h2⟩ := h.ldm m
  cases ims_str h2
  refine ⟨a, _, .str z, j, .str z, rfl, rfl, sql_of h1, rfl, flat_strs zs, by rw [List.getElem?_map, e]; rfl, decide_eq_true rfl, fun i y hi hy => ?_, q⟩
  rw [List.getElem?_map] at hy
  obtain ⟨s, hs, rfl⟩ := Option.map_eq_some_iff.mp hy
  exact decide_eq_false fun c => n i hi (by rw [hs, c])
theorem im_isD {t : Tst} (h : Ls.Sep L H) (m : im v t.D ∈ L) : ∃ a, v = .ref a := by
  obtain ⟨ds, e⟩ := t.D_tup
  rw [e] at m
  exact im_isRef h m
end
def oiF (o : Option Nat) : V := match o with
  | none => .non
  | some i => .int (i : Nat)
def spPlace (K : PySem.W.Frag) (C : Addr) : Sp := fun vs H Q _ => ∃ (x : Addr) (k : Kd) (f : Str) (L : List (As K)), vs = [.ref x, .str f] ∧ Ls.Sep L H ∧ kindF C x k ∈ L ∧ k.2.length ≤ 4 ∧ ∀ H', Ls.Sep L H' → Q (oiF (spotF k.2 f)) H'
def spLeafHolds (K : PySem.W.Frag) (C : Addr) : Sp := fun vs H Q _ => ∃ (a x v : Addr) (t : Tst) (k : Kd) (us : List Int) (L : List (As K)), vs = [.ref a, .ref x, .ref v] ∧ t.deep = 1 ∧ Ls.Sep L H ∧ im (.ref a) t.D ∈ L ∧ kindF C x k ∈ L ∧ im (.ref v) (.tuple (us.map PyData.int)) ∈ L ∧ k.2.length ≤ 4 ∧ us.length = k.2.length ∧ ∀ H', Ls.Sep L H' → Q (.bl (t.pass k us)) H'
end Ls
namespace Lw
open PySem PySem.Spec PyProof.Rows L2 Ls
theorem ok_Kind_place_of {P : Program} {w : World} {K : PySem.W.Frag} {mg : Str → Option Value} {base : Heap} (E : Env K mg w) : FnOk P w K mg base CX0 1 E.a_Kind_place_of E.fd_Kind_place_of ["self", "field"] (spPlace K E.C_Kind) := by
  refine E.F_Kind_place_of.ok sc_Kind_place_of (fun vs H Q E h => ?_) (fun cdv A outer s H vs Q E' hr h => ?_)
  · walk_at "hl"
  · have hu := huOf hr
    have hcl_Kind := E.cl_Kind
    have hna_Kind_fields := E.na_Kind_fields
    obtain ⟨x, k, fz, L, rfl, hS, hk, h4, q⟩ := h
    refine ⟨_, PSs.nox (pss_cons (ps_setLc (i := 2) (own := [("title", 3), ("low", 4), ("high", 5)]) rfl sc_Kind_place_of.nd rfl rfl (sw_true rfl rfl rfl (by decide +kernel)) (pi_seqU K rfl (kFld K rfl (pe_fld (pv 0) rfl))) (blkOk_by (N := ["self", "field", "names", "title", "low", "high"]) (sc := defScope s_Kind_place_of) (by decide +kernel)) (fun _ _ _ _ _ => (kGTup (n := 3) K rfl (pg_tup rfl (pgs_cons (pg_name (i := 3) sc_Kind_place_of.nd rfl (Or.inl rfl)) (pgs_cons (pg_name (i := 4) sc_Kind_place_of.nd rfl (Or.inl rfl)) (pgs_cons (pg_name (i := 5) sc_Kind_place_of.nd rfl (Or.inl rfl)) pgs_nil)))))) (fun _ _ _ _ _ => pts_nil) (fun _ _ _ _ _ => (pv 3)))
(pss_cons (ps_if (pt_cmpR (op_inU K rfl hu) (pv 1) (pv 2) (by with_unfolding_all rfl)) (pss_one (ps_ret (kBM K rfl (pe_bm PySem.F.plainAttrs_list PySem.F.slot_list_index PySem.F.type_list_index mt_index (pv 2) (pa_cons (pv 1) pa_nil))))) pss_nil)
(pss_one (ps_ret pe_non)))), ?_⟩
    refine k_body (s1 := some _ :: some _ :: [none, none, none, none]) rfl ?_
    walk_at "s"
    refine lc_flat (zs := k.2) (fun z => [PyData.str z.1]) hS (fun acc => wk_imm (f := fdD) (by walk_at "mem")) (fun j z acc hz hk _ la => ?_) (fun H hS => ?_)
    · clear hS
      have hj := (List.getElem?_eq_some_iff.mp hz).1
      walk_at "gi"
      walk_at "ls"
      exact lc_keep hS (d := .str z.1) (.str _) (by walk_at "sub") (by rw [sizeLine_eq]; omega) (hk _ rfl)
    rw [flat_map (fun z : Fd => PyData.str z.1), show (k.2.map fun z : Fd => PyData.str z.1) = (k.2.map (·.1)).map PyData.str by rw [List.map_map]; rfl] at hS
    walk_at "s"
    cases e : spotF k.2 fz with
    | none =>
      rw [e] at q
      rw [if_neg (by rw [decide_eq_false (spotF_none.mp e)]; exact Bool.false_ne_true)]
      walk_at "s"
      exact q _ (Sub.ok (by walk_at "sub") hS)
    | some j =>
      rw [e] at q
      rw [if_pos (decide_eq_true (Classical.not_not.mp fun h => by rw [spotF_none.mpr h] at e; cases e))]
      walk_at "s"
      obtain ⟨h1, h2⟩ := spotF_lt e
      show rIndex K (V.ref p) [V.str fz] H _
      refine k_indexS hS (by walk_at "mem") h2 (spotF_first e) ?_
      exact q _ (Sub.ok (by walk_at "sub") hS)
theorem ok_leaf_holds {P : Program} {w : World} {K : PySem.W.Frag} {mg : Str → Option Value} {base : Heap} (E : Env K mg w) : FnOk P w K mg base CX0 2 E.a_leaf_holds E.fd_leaf_holds ["leaf", "kind", "values"] (spLeafHolds K E.C_Kind) := by
  refine E.F_leaf_holds.ok sc_leaf_holds (fun vs H Q E h => ?_) (fun cdv A outer s H vs Q E' hr h => ?_)
  · walk_at "hl"
  · have hu := huOf hr
    have G_Kind_place_of := ok_Kind_place_of (P := P) (w := w) (base := base) E
    have hr_Kind_place_of := hr.mono (show 1 ≤ 1 by decide)
    have b_Kind_place_of := b_Kind_place_of E
    have hcl_Kind := E.cl_Kind
    have hna_Kind_name := E.na_Kind_name
    obtain ⟨a, x, v, t, k, us, L, rfl, hd, hS, hm, hk, hv, h4, hl, q⟩ := h
    refine ⟨_, PSs.nox (pss_cons (ps_if (pt_cmpR (op_eqU K rfl hu) (pe_ix (ix_U K rfl) (pv 0) pe_int (fun _ _ => rfl)) pe_str (nomark _)) (pss_one (ps_ret pe_bl)) pss_nil)
(pss_cons (ps_if (pt_cmpR (op_eqU K rfl hu) (pe_ix (ix_U K rfl) (pv 0) pe_int (fun _ _ => rfl)) pe_str (nomark _)) (pss_one (ps_ret (pe_cmpR (op_eqU K rfl hu) (kFld K rfl (pe_fld (pv 1) rfl)) (pe_ix (ix_U K rfl) (pv 0) pe_int (fun _ _ => rfl)) (nomark _)))) pss_nil)
(pss_cons (ps_set (i := 3) sc_leaf_holds.nd rfl (Or.inl rfl) (pe_meth (pv 1) E.cl_Kind E.m_Kind_place_of G_Kind_place_of hr_Kind_place_of b_Kind_place_of .nil pass0 (pa_cons (pe_ix (ix_U K rfl) (pv 0) pe_int (fun _ _ => rfl)) pa_nil)))
(pss_cons (ps_if (pt_cmpR (op_isU) (pv 3) pe_non (nomark _)) (pss_one (ps_ret pe_bl)) pss_nil)
(pss_cons (ps_if (pt_cmpR (op_eqU K rfl hu) (pe_ix (ix_U K rfl) (pv 0) pe_int (fun _ _ => rfl)) pe_str (nomark _)) (pss_one (ps_ret (pe_cmpR (op_lt) (pe_ix (ix_U K rfl) (pv 2) (pv 3) (fun _ _ => rfl)) (pe_ix (ix_U K rfl) (pv 0) pe_int (fun _ _ => rfl)) (nomark _)))) pss_nil)
(pss_one (ps_ret (pe_cmpR (op_eqU K rfl hu) (pe_ix (ix_U K rfl) (pv 2) (pv 3) (fun _ _ => rfl)) (pe_ix (ix_U K rfl) (pv 0) pe_int (fun _ _ => rfl)) (nomark _))))))))), ?_⟩
    refine k_body (s1 := some _ :: some _ :: some _ :: [none]) rfl ?_
    cases t with
    | all =>
      dsimp only [Tst.D] at hm
      walk_at "s"
      rw [if_pos (by decide +kernel)]
      walk_at "s"
      exact q _ hS
    | is n =>
      dsimp only [Tst.D] at hm
      walk_at "s"
      rw [if_neg (by decide +kernel)]
      walk_at "s"
      rw [if_pos (by decide +kernel)]
      walk_at "s"
      exact q _ hS
    | less f c =>
      dsimp only [Tst.D] at hm
      walk_at "s"
      rw [if_neg (by decide +kernel)]
      walk_at "s"
      rw [if_neg (by decide +kernel)]
      walk_at "s"
      refine ⟨x, k, f, _, rfl, hS, by walk_at "mem", h4, fun H hS => ?_⟩
      have ep : (Tst.less f c).pass k us = (match (spotF k.2 f).bind fun i => us[i]? with | none => false | some u => decide (u < c)) := rfl
      rw [ep] at q
      cases e : spotF k.2 f with
      | none =>
        rw [e] at q
        walk_at "s"
        exact q _ hS
      | some j =>
        obtain ⟨h1, h2⟩ := spotF_lt e
        obtain ⟨u, hu'⟩ : ∃ u, us[j]? = some u := ⟨_, List.getElem?_eq_getElem (by omega)⟩
        rw [e] at q
        replace q : ∀ H', Ls.Sep L H' → Q (.bl (match us[j]? with | none => false | some u => decide (u < c))) H' := q
        rw [hu'] at q
        have hx : atI (us.map PyData.int) ((j : Nat) : Int) = some (.int u) := atI_nat (by rw [List.getElem?_map, hu']; rfl)
        show tSeq _ _ _ [_, _, _, some (V.int (j : Nat))] _
        walk_at "s"
        rw [if_neg (by rw [decide_eq_false (fun e => by cases e)]; exact Bool.false_ne_true)]
        walk_at "s"
        rw [if_pos (by decide +kernel)]
        walk_at "s"
        exact q _ hS
    | same f c =>
      dsimp only [Tst.D] at hm
      walk_at "s"
      rw [if_neg (by decide +kernel)]
      walk_at "s"
      rw [if_neg (by decide +kernel)]
      walk_at "s"
      refine ⟨x, k, f, _, rfl, hS, by walk_at "mem", h4, fun H hS => ?_⟩
      have ep : (Tst.same f c).pass k us = (match (spotF k.2 f).bind fun i => us[i]? with | none => false | some u => decide (u = c)) := rfl
      rw [ep] at q
      cases e : spotF k.2 f with
      | none =>
        rw [e] at q
        walk_at "s"
        exact q _ hS
      | some j =>
        obtain ⟨h1, h2⟩ := spotF_lt e
        obtain ⟨u, hu'⟩ : ∃ u, us[j]? = some u := ⟨_, List.getElem?_eq_getElem (by omega)⟩
        rw [e] at q
        replace q : ∀ H', Ls.Sep L H' → Q (.bl (match us[j]? with | none => false | some u => decide (u = c))) H' := q
        rw [hu'] at q
        have hx : atI (us.map PyData.int) ((j : Nat) : Int) = some (.int u) := atI_nat (by rw [List.getElem?_map, hu']; rfl)
        show tSeq _ _ _ [_, _, _, some (V.int (j : Nat))] _
        walk_at "s"
        rw [if_neg (by rw [decide_eq_false (fun e => by cases e)]; exact Bool.false_ne_true)]
        walk_at "s"
        rw [if_neg (by decide +kernel)]
        walk_at "s"
        exact q _ hS
    | no a => exact absurd hd (by show a.deep + 1 ≠ 1; have := deep_pos a; omega)
    | an a b => exact absurd hd (by show max a.deep b.deep + 1 ≠ 1; have := deep_pos a; omega)
    | or a b => exact absurd hd (by show max a.deep b.deep + 1 ≠ 1; have := deep_pos a; omega)
end Lw
namespace Ls
open PySem PySem.Spec PyProof.Rows L2 TL
theorem plD_T : ∀ t : Tst, plD t.D = true
  | .all => rfl
  | .is _ => rfl
  | .less _ _ => rfl
  | .same _ _ => rfl
  | .no a => by
    have h := plD_T a
    simp only [Tst.D, plD, plDs, h, Bool.and_self]
  | .an a b => by
    have h := plD_T a
    have h2 := plD_T b
    simp only [Tst.D, plD, plDs, h, h2, Bool.and_self]
  | .or a b => by
    have h := plD_T a
    have h2 := plD_T b
    simp only [Tst.D, plD, plDs, h, h2, Bool.and_self]
theorem leaf_one {t : Tst} (ho : t.ok) : t.leaves = [t] ↔ t.deep = 1 := by
  refine ⟨fun h => (leaves_ok ho t (by rw [h]; exact List.mem_cons_self)).2.1, fun h => ?_⟩
  cases t with
  | no a => exact absurd h (by have := deep_pos a; show a.deep + 1 ≠ 1; omega)
  | an a b => exact absurd h (by have := deep_pos a; show max a.deep b.deep + 1 ≠ 1; omega)
  | or a b => exact absurd h (by have := deep_pos a; show max a.deep b.deep + 1 ≠ 1; omega)
  | _ => rfl
theorem D_inj {t u : Tst} (ht : t.ok) (hu : u.ok) (h : t.D = u.D) : t = u := by
  have e1 := dec_of (n := max t.deep u.deep) ht (Nat.le_max_left ..)
  have e2 := dec_of (n := max t.deep u.deep) hu (Nat.le_max_right ..)
  rw [h, e2] at e1
  exact (Option.some.inj e1).symm
def LeafD (d : PyData) : Prop := ∃ t : Tst, t.D = d ∧ t.ok ∧ t.deep = 1 ∧ t ≠ .all
def JOk (i m : Nat) : Jp → Prop
  | .en _ => True
  | .go n => (i : Int) < n ∧ n < (m : Int)
def RowOk (i m : Nat) (r : RowW) : Prop := LeafD r.1 ∧ JOk i m r.2.1 ∧ JOk i m r.2.2
def WayOk (s : Jp) (R : List RowW) : Prop := match s with
  | .en _ => R = []
  | .go n => n = 0 ∧ R ≠ [] ∧ ∀ (i : Nat) (r : RowW), R[i]? = some r → RowOk i R.length r
noncomputable instance {i m : Nat} {j : Jp} : Decidable (JOk i m j) := Classical.propDecidable _
noncomputable instance {i m : Nat} {r : RowW} : Decidable (RowOk i m r) := Classical.propDecidable _
noncomputable instance {s : Jp} {R : List RowW} : Decidable (WayOk s R) := Classical.propDecidable _
noncomputable instance {d : PyData} : Decidable (LeafD d) := Classical.propDecidable _
theorem leafD_T {d : PyData} (h : LeafD d) : ∃ xs, d = .tuple xs ∧ IsT d := by
  obtain ⟨t, rfl, ho, hd, _⟩ := h
  obtain ⟨xs, e⟩ := t.D_tup
  refine ⟨xs, e, isT_of ho (by omega) ?_⟩
  have := parts_deep t
  rw [hd] at this
  omega
def passD (k : Kd) (us : List Int) (d : PyData) : Bool := match dec 6 d with
  | some t => t.pass k us
  | none => false
theorem passD_D {k : Kd} {us : List Int} {t : Tst} (ho : t.ok) (hd : t.deep ≤ 6) : passD k us t.D = t.pass k us := by
  unfold passD
  rw [dec_of ho hd]
/-- from a jump on: what is told at its end, behind how many rows -/
inductive Gn (k : Kd) (us : List Int) (R : List RowW) : Jp → Bool → Nat → Prop
  | en (b : Bool) : Gn k us R (.en b) b 0
  | go {n : Int} {r : RowW} {b : Bool} {c : Nat} (h0 : 0 ≤ n) (hr : R[n.toNat]? = some r) (h : Gn k us R (if passD k us r.1 = true then r.2.1 else r.2.2) b c) : Gn k us R (.go n) b (c + 1)
theorem Gn.app {k : Kd} {us : List Int} {R S : List RowW} {j : Jp} {b : Bool} {c : Nat} (h : Gn k us R j b c) : Gn k us (R ++ S) j b c := by
  induction h with
  | en b => exact .en b
  | go h0 hr _ ih =>
    refine .go h0 ?_ ih
    rw [List.getElem?_append_left (List.getElem?_eq_some_iff.mp hr).1]
    exact hr
/-- a way has an end -/
theorem WayOk.wk {k : Kd} {us : List Int} {s : Jp} {R : List RowW} (h : WayOk s R) : ∃ b c, Gn k us R s b c ∧ c ≤ R.length := by
  have key : (∀ (i : Nat) (r : RowW), R[i]? = some r → RowOk i R.length r) → ∀ (m i : Nat), R.length - i = m → i < R.length → ∃ b c, Gn k us R (.go i) b c ∧ c ≤ m := fun hr m => by
    induction m using Nat.strongRecOn with
    | ind m ih =>
      intro i hm hi
      have hri : R[i]? = some R[i] := List.getElem?_eq_getElem hi
      obtain ⟨_, hy, hn⟩ := hr i _ hri
      have step : ∀ j : Jp, JOk i R.length j → ∃ b c, Gn k us R j b c ∧ c + 1 ≤ m := fun j hj => by
        cases j with
        | en b => exact ⟨b, 0, .en b, by omega⟩
        | go n =>
          obtain ⟨h1, h2⟩ := hj
          obtain ⟨p, rfl⟩ := Int.eq_ofNat_of_zero_le (show 0 ≤ n by omega)
          obtain ⟨b, c, hw, hc⟩ := ih (R.length - p) (by omega) p rfl (by omega)
          exact ⟨b, c, hw, by omega⟩
      obtain ⟨b, c, hw, hc⟩ := step (if passD k us R[i].1 = true then R[i].2.1 else R[i].2.2) (by split <;> assumption)
      exact ⟨b, c + 1, .go (by omega) (by rw [Int.toNat_natCast]; exact hri) hw, hc⟩
  cases s with
  | en b => exact ⟨b, 0, .en b, Nat.zero_le _⟩
  | go n =>
    obtain ⟨rfl, hne, hr⟩ := h
    exact key hr R.length 0 (by omega) (List.length_pos_iff.mpr hne)
def put : Tst → Jp → Jp → List RowW → Jp × List RowW
  | .no a, y, n, R => put a n y R
  | .an a b, y, n, R => put a (put b y n R).1 n (put b y n R).2
  | .or a b, y, n, R => put a y (put b y n R).1 (put b y n R).2
  | .all, y, _, R => (y, R)
  | .is z, y, n, R => (.go R.length, R ++ [((Tst.is z).D, y, n)])
  | .less z c, y, n, R => (.go R.length, R ++ [((Tst.less z c).D, y, n)])
  | .same z c, y, n, R => (.go R.length, R ++ [((Tst.same z c).D, y, n)])
theorem put_leaf {t : Tst} (hd : t.deep = 1) (ha : t ≠ .all) (y n : Jp) (R : List RowW) : put t y n R = (.go R.length, R ++ [(t.D, y, n)]) := by
  cases t with
  | all => exact (ha rfl).elim
  | no a => exact absurd hd (by have := deep_pos a; show a.deep + 1 ≠ 1; omega)
  | an a b => exact absurd hd (by have := deep_pos a; show max a.deep b.deep + 1 ≠ 1; omega)
  | or a b => exact absurd hd (by have := deep_pos a; show max a.deep b.deep + 1 ≠ 1; omega)
  | _ => rfl
def Dn (i : Nat) : Jp → Prop
  | .en _ => True
  | .go n => 0 ≤ n ∧ n < (i : Int)
theorem Dn.mono {i m : Nat} {j : Jp} (h : Dn i j) (k : i ≤ m) : Dn m j := by
  cases j with
  | en b => trivial
  | go n => exact ⟨h.1, by have := h.2; omega⟩
def Down (R : List RowW) : Prop := ∀ (i : Nat) (r : RowW), R[i]? = some r → LeafD r.1 ∧ Dn i r.2.1 ∧ Dn i r.2.2
/-- what stands behind a test's rows were put there -/
structure PutOk (k : Kd) (us : List Int) (t : Tst) (y n : Jp) (R : List RowW) : Prop where
  ex : ∃ S, (put t y n R).2 = R ++ S ∧ S.length ≤ t.leaves.length
  dn : Down (put t y n R).2
  jp : Dn (put t y n R).2.length (put t y n R).1
  wk : ∀ by' bn, (∃ c, Gn k us R y by' c) → (∃ c, Gn k us R n bn c) → ∃ c, Gn k us (put t y n R).2 (put t y n R).1 (if t.pass k us = true then by' else bn) c
theorem put_ok (k : Kd) (us : List Int) : ∀ (t : Tst) (y n : Jp) (R : List RowW), t.ok → Down R → Dn R.length y → Dn R.length n → PutOk k us t y n R := by
  have leaf : ∀ (t : Tst) (y n : Jp) (R : List RowW), t.ok → t.deep = 1 → t ≠ .all → Down R → Dn R.length y → Dn R.length n → PutOk k us t y n R := fun t y n R ho hd ha hR hy hn => by
    have e := put_leaf hd ha y n R
    have hl := (leaf_one ho).mpr hd
    refine ⟨?_, ?_, ?_, fun by' bn h1 h2 => ?_⟩ <;> rw [e]
    · exact ⟨_, rfl, by rw [hl]; exact Nat.le_refl _⟩
    · intro i r hr
      rcases Nat.lt_or_ge i R.length with h | h
      · rw [List.getElem?_append_left h] at hr
        exact hR i r hr
      · rw [List.getElem?_append_right h] at hr
        have h2 := (List.getElem?_eq_some_iff.mp hr).1
        rw [List.length_singleton] at h2
        obtain rfl : i = R.length := by omega
        rw [Nat.sub_self] at hr
        cases hr
        exact ⟨⟨t, rfl, ho, hd, ha⟩, hy, hn⟩
    · exact ⟨by omega, by rw [List.length_append, List.length_singleton]; omega⟩
    · have er : (R ++ [(t.D, y, n)])[((R.length : Nat) : Int).toNat]? = some (t.D, y, n) := by
        rw [Int.toNat_natCast, List.getElem?_append_right (Nat.le_refl _), Nat.sub_self]
        rfl
      have ep : passD k us t.D = t.pass k us := passD_D ho (by omega)
      obtain ⟨c1, h1⟩ := h1
      obtain ⟨c2, h2⟩ := h2
      cases c : t.pass k us with
      | true =>
        refine ⟨c1 + 1, .go (by omega) er ?_⟩
        show Gn k us _ (if passD k us t.D = true then y else n) _ _
        rw [ep, c, if_pos rfl, if_pos rfl]
        exact h1.app
      | false =>
        refine ⟨c2 + 1, .go (by omega) er ?_⟩
        show Gn k us _ (if passD k us t.D = true then y else n) _ _
        rw [ep, c, if_neg Bool.false_ne_true, if_neg Bool.false_ne_true]
        exact h2.app
  intro t
  induction t with
  | all =>
    intro y n R _ hR hy hn
    refine ⟨⟨[], by rw [List.append_nil]; rfl, Nat.zero_le _⟩, hR, hy, fun by' bn h1 _ => ?_⟩
    exact h1
  | is z => exact fun y n R ho => leaf _ y n R ho rfl (fun z => by cases z)
  | less z c => exact fun y n R ho => leaf _ y n R ho rfl (fun z => by cases z)
  | same z c => exact fun y n R ho => leaf _ y n R ho rfl (fun z => by cases z)
  | no a ih =>
    intro y n R ho hR hy hn
    have h := ih n y R ho hR hn hy
    refine ⟨h.ex, h.dn, h.jp, fun by' bn h1 h2 => ?_⟩
    have := h.wk bn by' h2 h1
    have e : (if (Tst.no a).pass k us = true then by' else bn) = if a.pass k us = true then bn else by' := by
      show (if (!a.pass k us) = true then by' else bn) = _
      cases a.pass k us <;> rfl
    rw [e]
    exact this
  | an a b ia ib =>
    intro y n R ho hR hy hn
    have hb := ib y n R ho.2 hR hy hn
    obtain ⟨S, eS, lS⟩ := hb.ex
    have lR : R.length ≤ (put b y n R).2.length := by rw [eS, List.length_append]; omega
    have ha := ia (put b y n R).1 n (put b y n R).2 ho.1 hb.dn hb.jp (hn.mono lR)
    obtain ⟨T, eT, lT⟩ := ha.ex
    refine ⟨⟨S ++ T, ?_, ?_⟩, ha.dn, ha.jp, fun by' bn h1 h2 => ?_⟩
    · show (put a (put b y n R).1 n (put b y n R).2).2 = _
      rw [eT, eS, List.append_assoc]
    · show (S ++ T).length ≤ (a.leaves ++ b.leaves).length
      rw [List.length_append, List.length_append]
      omega
    · have hw := hb.wk by' bn h1 h2
      have h3 : ∃ c, Gn k us (put b y n R).2 n bn c := by
        obtain ⟨c, h2⟩ := h2
        exact ⟨c, by rw [eS]; exact h2.app⟩
      have := ha.wk _ bn hw h3
      have e : (if (Tst.an a b).pass k us = true then by' else bn) = if a.pass k us = true then (if b.pass k us = true then by' else bn) else bn := by
        show (if (a.pass k us && b.pass k us) = true then by' else bn) = _
        cases a.pass k us <;> cases b.pass k us <;> rfl
      rw [e]
      exact this
  | or a b ia ib =>
    intro y n R ho hR hy hn
    have hb := ib y n R ho.2 hR hy hn
    obtain ⟨S, eS, lS⟩ := hb.ex
    have lR : R.length ≤ (put b y n R).2.length := by rw [eS, List.length_append]; omega
    have ha := ia y (put b y n R).1 (put b y n R).2 ho.1 hb.dn (hy.mono lR) hb.jp
    obtain ⟨T, eT, lT⟩ := ha.ex
    refine ⟨⟨S ++ T, ?_, ?_⟩, ha.dn, ha.jp, fun by' bn h1 h2 => ?_⟩
    · show (put a y (put b y n R).1 (put b y n R).2).2 = _
      rw [eT, eS, List.append_assoc]
    · show (S ++ T).length ≤ (a.leaves ++ b.leaves).length
      rw [List.length_append, List.length_append]
      omega
    · have hw := hb.wk by' bn h1 h2
      have h3 : ∃ c, Gn k us (put b y n R).2 y by' c := by
        obtain ⟨c, h1⟩ := h1
        exact ⟨c, by rw [eS]; exact h1.app⟩
      have := ha.wk by' _ h3 hw
      have e : (if (Tst.or a b).pass k us = true then by' else bn) = if a.pass k us = true then by' else (if b.pass k us = true then by' else bn) := by
        show (if (a.pass k us || b.pass k us) = true then by' else bn) = _
        cases a.pass k us <;> cases b.pass k us <;> rfl
      rw [e]
      exact this
def turnJ (m : Int) : Jp → Jp
  | .en b => .en b
  | .go n => .go (m - n)
def turnR (m : Int) (r : RowW) : RowW := (r.1, turnJ m r.2.1, turnJ m r.2.2)
def turns (m : Nat) (R : List RowW) : List RowW := (R.take (m + 1)).reverse.map (turnR m)
theorem turns_len {m : Nat} {R : List RowW} (h : m < R.length) : (turns m R).length = m + 1 := by
  unfold turns
  rw [List.length_map, List.length_reverse, List.length_take]
  omega
theorem turns_get {m p : Nat} {R : List RowW} {r : RowW} (h : m < R.length) (hp : p ≤ m) (hr : R[p]? = some r) : (turns m R)[m - p]? = some (turnR m r) := by
  unfold turns
  have hl : (R.take (m + 1)).length = m + 1 := by rw [List.length_take]; omega
  rw [List.getElem?_map, List.getElem?_reverse (by omega), hl, show m + 1 - 1 - (m - p) = p by omega, List.getElem?_take_of_lt (by omega), hr]
  rfl
theorem turns_wk {k : Kd} {us : List Int} {m : Nat} {R : List RowW} (hm : m < R.length) (hR : Down R) {j : Jp} {b : Bool} {c : Nat} (h : Gn k us R j b c) : Dn (m + 1) j → Gn k us (turns m R) (turnJ m j) b c := by
  induction h with
  | en b => exact fun _ => .en b
  | @go n r b c h0 hr _ ih =>
    intro hd
    have hn := hd.2
    obtain ⟨p, rfl⟩ := Int.eq_ofNat_of_zero_le h0
    rw [Int.toNat_natCast] at hr
    have hp : p ≤ m := by omega
    obtain ⟨_, dy, dn⟩ := hR p r hr
    have hg := turns_get hm hp hr
    refine .go (r := turnR m r) (by omega) ?_ ?_
    · rw [show ((m : Int) - (p : Int)).toNat = m - p by omega]
      exact hg
    · have e : (if passD k us (turnR m r).1 = true then (turnR m r).2.1 else (turnR m r).2.2) = turnJ m (if passD k us r.1 = true then r.2.1 else r.2.2) := by
        show (if passD k us r.1 = true then turnJ m r.2.1 else turnJ m r.2.2) = _
        split <;> rfl
      rw [e]
      exact ih (by split <;> exact Dn.mono (by assumption) (by omega))
theorem turns_ok {m : Nat} {R : List RowW} (hm : m < R.length) (hR : Down R) : WayOk (.go 0) (turns m R) := by
  have hl := turns_len hm
  refine ⟨rfl, (fun e => by rw [e] at hl; cases hl), fun i r hr => ?_⟩
  have hi := (List.getElem?_eq_some_iff.mp hr).1
  rw [hl] at hi
  have hq : R[m - i]? = some R[m - i] := List.getElem?_eq_getElem (by omega)
  have hg := turns_get hm (show m - i ≤ m by omega) hq
  rw [show m - (m - i) = i by omega, hr] at hg
  cases hg
  obtain ⟨h1, h2, h3⟩ := hR (m - i) _ hq
  have key : ∀ j : Jp, Dn (m - i) j → JOk i (turns m R).length (turnJ m j) := fun j hj => by
    cases j with
    | en b => trivial
    | go n =>
      obtain ⟨g1, g2⟩ := hj
      exact ⟨by show (i : Int) < m - n; omega, by rw [hl]; show (m : Int) - n < _; omega⟩
  exact ⟨h1, key _ h2, key _ h3⟩
def mkW (t : Tst) : Jp × List RowW := match (put t (.en true) (.en false) []).1 with
  | .en b => (.en b, [])
  | .go n => (.go 0, turns n.toNat (put t (.en true) (.en false) []).2)
theorem mkW_ok {t : Tst} (ho : t.ok) : WayOk (mkW t).1 (mkW t).2 ∧ (mkW t).2.length ≤ t.leaves.length ∧ ∀ k us, ∃ c, Gn k us (mkW t).2 (mkW t).1 (t.pass k us) c := by
  have h0 : Down [] := fun i r hr => by simp at hr
  have main := fun k us => put_ok k us t (.en true) (.en false) [] ho h0 trivial trivial
  unfold mkW
  have hk := main ("", []) []
  obtain ⟨S, eS, lS⟩ := hk.ex
  rw [List.nil_append] at eS
  have hj := hk.jp
  have hd := hk.dn
  cases e : (put t (.en true) (.en false) []).1 with
  | en b =>
    refine ⟨rfl, Nat.zero_le _, fun k us => ?_⟩
    obtain ⟨c, hw⟩ := (main k us).wk true false ⟨0, .en true⟩ ⟨0, .en false⟩
    rw [e] at hw
    have e2 : (if t.pass k us = true then true else false) = t.pass k us := by cases t.pass k us <;> rfl
    rw [e2] at hw
    cases hw
    exact ⟨0, .en _⟩
  | go n =>
    rw [e] at hj
    obtain ⟨g1, g2⟩ := hj
    obtain ⟨p, rfl⟩ := Int.eq_ofNat_of_zero_le g1
    have hp : p < (put t (.en true) (.en false) []).2.length := by omega
    simp only [Int.toNat_natCast]
    refine ⟨turns_ok hp hd, ?_, fun k us => ?_⟩
    · rw [turns_len hp]
      rw [eS] at hp
      omega
    · obtain ⟨c, hw⟩ := (main k us).wk true false ⟨0, .en true⟩ ⟨0, .en false⟩
      rw [e] at hw
      have e2 : (if t.pass k us = true then true else false) = t.pass k us := by cases t.pass k us <;> rfl
      rw [e2] at hw
      have h3 := turns_wk hp hd hw ⟨g1, by omega⟩
      have e3 : turnJ (p : Nat) (.go ((p : Nat) : Int)) = .go 0 := by show Jp.go _ = _; congr 1; omega
      rw [e3] at h3
      exact ⟨c, h3⟩
end Ls
namespace Ls
open PySem PySem.Spec PyProof.Rows L2 LamX
def spFar1 (K : PySem.W.Frag) : Sp := fun vs H Q _ => ∃ (d : Addr) (L : List (As K)), vs = [.ref d] ∧ Ls.Sep L H ∧ dr d ∈ L ∧ ∀ (n : Int) H', Ls.Sep L H' → Q (.int n) H'
def spOdd (K : PySem.W.Frag) : Sp := fun vs H Q _ => ∃ (d : Addr) (z : Str) (L : List (As K)), vs = [.ref d, .str z] ∧ z.length ≤ 1000 ∧ PyData.strOk z = true ∧ Ls.Sep L H ∧ dr d ∈ L ∧ ∀ (y : Str) H', y.length ≤ z.length + 8 → PyData.strOk y = true → Ls.Sep L H' → Q (.str y) H'
theorem strOk_mem {y a b : Str} (h : ∀ c ∈ y.cps.toList, c ∈ a.cps.toList ∨ c ∈ b.cps.toList) (ha : PyData.strOk a = true) (hb : PyData.strOk b = true) : PyData.strOk y = true := by
  unfold PyData.strOk at *
  rw [← Array.all_toList, List.all_eq_true] at *
  intro c hc
  rcases h c hc with m | m
  · exact ha c m
  · exact hb c m
theorem strOk_app {a b : Str} (ha : PyData.strOk a = true) (hb : PyData.strOk b = true) : PyData.strOk (a ++ b) = true := strOk_mem (fun c hc => by
  have e : (a ++ b).cps.toList = a.cps.toList ++ b.cps.toList := TL.tl_append a b
  rw [e] at hc
  exact List.mem_append.mp hc) ha hb
theorem strOk_cut {z : Str} {lo hi : Option Int} (h : PyData.strOk z = true) : PyData.strOk (cutS z lo hi) = true := strOk_mem (b := z) (fun c hc => by
  have hc : c ∈ ((z.cps.toList.drop (HT.sIx z.length 0 lo)).take (HT.sIx z.length z.length hi - HT.sIx z.length 0 lo)).toArray.toList := hc
  rw [List.toList_toArray] at hc
  exact .inl (List.mem_of_mem_drop (List.mem_of_mem_take hc))) h h
end Ls
namespace Lw
open PySem PySem.Spec PyProof.Rows L2 Ls LamX
theorem ok__law_far {P : Program} {w : World} {K : PySem.W.Frag} {mg : Str → Option Value} {base : Heap} (E : Env K mg w) : FnOk P w K mg base CX0 2 E.a__law_far E.fd__law_far ["_law_d"] (spFar1 K) := by
  refine E.F__law_far.ok sc__law_far (fun vs H Q E h => ?_) (fun cdv A outer s H vs Q E' hr h => ?_)
  · walk_at "hl"
  · have hu := huOf hr
    have G__law_pick := ok__law_pick (P := P) (w := w) (base := base) E
    have hr__law_pick := hr.mono (show 1 ≤ 1 by decide)
    have b__law_pick := b__law_pick E
    have hcl_Kind := E.cl_Kind
    obtain ⟨d, L, rfl, hS, hd, q⟩ := h
    refine ⟨_, PSs.nox (pss_cons (ps_set (i := 1) sc__law_far.nd rfl (Or.inl rfl) (pe_op (op_addU K rfl) (pe_op op_pow pe_int pe_int) (pe_call G__law_pick hr__law_pick rfl E.g__law_pick E.F__law_pick.kp b__law_pick .nil pass0 (pa_cons (pv 0) (pa_cons (pe_op op_pow pe_int pe_int) pa_nil)))))
(pss_one (ps_ret (pe_ix (ix_U K rfl) (pe_lst (pa_cons (pv 1) (pa_cons (pe_op op_sub pe_int (pv 1)) pa_nil))) (pe_call G__law_pick hr__law_pick rfl E.g__law_pick E.F__law_pick.kp b__law_pick .nil pass0 (pa_cons (pv 0) (pa_cons pe_int pa_nil))) (fun _ _ => rfl))))), ?_⟩
    refine k_body (s1 := some _ :: [none]) rfl ?_
    walk_at "s"
    refine k_powL (v := 1000000000) (by decide) (by decide) (by decide) ?_
    walk_at "s"
    refine k_powL (v := 100000000000000000000000000000) (by decide) (by decide) (by decide) ?_
    walk_at "s"
    walk_at "pk"
    intro r H hS r0 r1
    walk_at "s"
    walk_at "pk"
    intro r2 H hS r3 r4
    have hm : atI [PyData.int (1000000000 + r), PyData.int (0 - (1000000000 + r))] r2 = some (.int (if r2 = 0 then 1000000000 + r else 0 - (1000000000 + r))) := by
      have : r2 = 0 ∨ r2 = 1 := by omega
      rcases this with rfl | rfl <;> rfl
    walk_at "s"
    exact q _ _ (Sub.ok (by walk_at "sub") hS)
theorem ok__law_is_name {P : Program} {w : World} {K : PySem.W.Frag} {mg : Str → Option Value} {base : Heap} (E : Env K mg w) : FnOk P w K mg base CX0 1 E.a__law_is_name E.fd__law_is_name ["_law_text"] (spIsName K) := by
  refine E.F__law_is_name.ok sc__law_is_name (fun vs H Q E h => ?_) (fun cdv A outer s H vs Q E' hr h => ?_)
  · walk_at "hl"
  · have hu := huOf hr
    have hcl_Kind := E.cl_Kind
    obtain ⟨z, L, rfl, hz, hS, q⟩ := h
    refine ⟨_, PSs.nox (pss_one (ps_ret (pe_and (pe_chain op_le op_le pe_int (pe_callB (call_lenU K rfl) (by rfl) E.n_len boot_len (pa_cons (pv 0) pa_nil)) pe_int) (pe_one (pe_callB (cr_allU K rfl rfl) (by rfl) E.n_all boot_all (pa_cons (pe_lc (own := [("_law_sign", 1)]) rfl sc__law_is_name.nd (pi_str (pv 0)) (blkOk_by (N := ["_law_text", "_law_sign"]) (sc := defScope s__law_is_name) (by decide +kernel)) (fun _ _ _ _ _ => (pg_name (i := 1) sc__law_is_name.nd rfl (Or.inl rfl))) (fun _ _ _ _ _ => pts_nil) (fun _ _ _ _ _ => (pe_cmpR (op_inU K rfl hu) (pv 1) pe_str (by with_unfolding_all rfl)))) pa_nil)))))), ?_⟩
    refine k_body (s1 := some _ :: [none]) rfl ?_
    walk_at "s"
    refine k_lenS (by rw [sizeLine_eq]; omega) ?_
    walk_at "s"
    by_cases h1 : 1 ≤ z.length
    · walk_at "s"
      by_cases h2 : z.length ≤ 8
      · walk_at "s"
        refine lc_flat (zs := z.cps.toList) (fun c => [PyData.bool (decide (IsSg c))]) hS (fun acc => wk_str) (fun i c acc hc hk _ la H hS => ?_) (fun H hS => ?_)
        · walk_at "ls"
          have e : decide (c ∈ ("abcdefghijklmnopqrstuvwxyz" : Str).cps.toList) = decide (IsSg c) := by
            have : ∀ k : Fin 26, k.val + 97 ∈ ("abcdefghijklmnopqrstuvwxyz" : Str).cps.toList := by decide +kernel
            have h2 : ∀ c ∈ ("abcdefghijklmnopqrstuvwxyz" : Str).cps.toList, IsSg c := by decide +kernel
            refine decide_eq_decide.mpr ⟨h2 c, fun h => ?_⟩
            have := this ⟨c - 97, by omega⟩
            rwa [show c - 97 + 97 = c by omega] at this
          rw [e]
          refine lc_keep hS (.bl _) .refl ?_ (hk _ rfl)
          have := (List.getElem?_eq_some_iff.mp hc).1
          rw [sizeLine_eq]
          rw [← len_toList] at this
          omega
        · rw [flat_map] at hS
          refine k_allS hS List.mem_cons_self ?_
          have e : z.cps.toList.all (fun c => decide (IsSg c)) = decide (IsNm z) := by
            rw [Bool.eq_iff_iff, List.all_eq_true, decide_eq_true_eq]
            exact ⟨fun h => ⟨h1, h2, fun c hc => of_decide_eq_true (h c hc)⟩, fun h c hc => decide_eq_true (h.2.2 c hc)⟩
          rw [e]
          exact q _ hS.tail
      · have e : decide (IsNm z) = false := decide_eq_false fun h => h2 h.2.1
        rw [e] at q
        walk_at "s"
        exact q _ hS
    · have e : decide (IsNm z) = false := decide_eq_false fun h => h1 h.1
      rw [e] at q
      walk_at "s"
      exact q _ hS
theorem ok__law_odd_name {P : Program} {w : World} {K : PySem.W.Frag} {mg : Str → Option Value} {base : Heap} (E : Env K mg w) : FnOk P w K mg base CX0 3 E.a__law_odd_name E.fd__law_odd_name ["_law_d", "_law_text"] (spOdd K) := by
  refine E.F__law_odd_name.ok sc__law_odd_name (fun vs H Q E h => ?_) (fun cdv A outer s H vs Q E' hr h => ?_)
  · walk_at "hl"
  · have hu := huOf hr
    have G__law_of := ok__law_of E (ok__law_pick (P := P) (w := w) (base := base) E)
    have hr__law_of := hr.mono (show 2 ≤ 2 by decide)
    have b__law_of := b__law_of E
    have hcl_Kind := E.cl_Kind
    obtain ⟨d, z, L, rfl, hz, hzo, hS, hd, q⟩ := h
    refine ⟨_, PSs.nox (pss_cons (ps_set (i := 2) sc__law_odd_name.nd rfl (Or.inl rfl) (pe_lst (pa_cons pe_str (pa_cons (pe_op (op_addU K rfl) (pv 1) pe_str) (pa_cons (pe_op (op_addU K rfl) (pe_slice (sl_U K rfl) (pv 1) po_none (po_some pe_int)) pe_str) (pa_cons (pe_op (op_addU K rfl) (pe_slice (sl_U K rfl) (pv 1) po_none (po_some pe_int)) pe_str) (pa_cons (pe_op (op_addU K rfl) (pe_slice (sl_U K rfl) (pv 1) po_none (po_some pe_int)) pe_str) (pa_cons (pe_op (op_addU K rfl) (pe_slice (sl_U K rfl) (pv 1) po_none (po_some pe_int)) pe_str) (pa_cons (pe_op (op_addU K rfl) pe_str (pe_slice (sl_U K rfl) (pv 1) po_none (po_some pe_int))) pa_nil)))))))))
(pss_one (ps_ret (pe_call G__law_of hr__law_of rfl E.g__law_of E.F__law_of.kp b__law_of .nil pass0 (pa_cons (pv 0) (pa_cons (pv 2) pa_nil)))))), ?_⟩
    refine k_body (s1 := some _ :: some _ :: [none]) rfl ?_
    walk_at "s"
    have c2 := cutS_length z none (some 2)
    have c3 := cutS_length z none (some 3)
    have c4 := cutS_length z none (some 4)
    have c5 := cutS_length z none (some 5)
    refine k_addS (by rw [sizeLine_eq, show ("abcdefgh" : Str).length = 8 by decide +kernel]; omega) ?_
    walk_at "s"
    refine k_slStr (by rw [sizeLine_eq]; omega) ?_
    walk_at "s"
    refine k_addS (by rw [sizeLine_eq, show ("A" : Str).length = 1 by decide +kernel]; omega) ?_
    walk_at "s"
    refine k_slStr (by rw [sizeLine_eq]; omega) ?_
    walk_at "s"
    refine k_addS (by rw [sizeLine_eq, show (" " : Str).length = 1 by decide +kernel]; omega) ?_
    walk_at "s"
    refine k_slStr (by rw [sizeLine_eq]; omega) ?_
    walk_at "s"
    refine k_addS (by rw [sizeLine_eq, show ("1" : Str).length = 1 by decide +kernel]; omega) ?_
    walk_at "s"
    refine k_slStr (by rw [sizeLine_eq]; omega) ?_
    walk_at "s"
    refine k_addS (by rw [sizeLine_eq, show ("_" : Str).length = 1 by decide +kernel]; omega) ?_
    walk_at "s"
    refine k_slStr (by rw [sizeLine_eq]; omega) ?_
    walk_at "s"
    refine k_addS (by rw [sizeLine_eq, show ("{" : Str).length = 1 by decide +kernel]; omega) ?_
    walk_at "s"
    walk_at "ofS"
    intro y H hy hS
    simp only [List.mem_cons, List.not_mem_nil, or_false, PyData.str.injEq] at hy
    refine q y _ ?_ ?_ (Sub.ok (by walk_at "sub") hS)
    · rcases hy with rfl | rfl | rfl | rfl | rfl | rfl | rfl
      · exact (show ("" : Str).length = 0 by decide +kernel) ▸ Nat.zero_le _
      · rw [app_len, show ("abcdefgh" : Str).length = 8 by decide +kernel]
        exact Nat.le_refl _
      · rw [app_len, show ("A" : Str).length = 1 by decide +kernel]
        omega
      · rw [app_len, show (" " : Str).length = 1 by decide +kernel]
        omega
      · rw [app_len, show ("1" : Str).length = 1 by decide +kernel]
        omega
      · rw [app_len, show ("_" : Str).length = 1 by decide +kernel]
        omega
      · rw [app_len, show ("{" : Str).length = 1 by decide +kernel]
        omega
    · rcases hy with rfl | rfl | rfl | rfl | rfl | rfl | rfl
      · decide +kernel
      · exact strOk_app hzo (by decide +kernel)
      · exact strOk_app (strOk_cut hzo) (by decide +kernel)
      · exact strOk_app (strOk_cut hzo) (by decide +kernel)
      · exact strOk_app (strOk_cut hzo) (by decide +kernel)
      · exact strOk_app (strOk_cut hzo) (by decide +kernel)
      · exact strOk_app (by decide +kernel) (strOk_cut hzo)
end Lw
namespace Ls
open PySem PySem.Spec PyProof.Rows L2 TL
def numS (i : Int) : Str := Str.ofString (toString i)
end Ls
namespace Ls
open PySem PySem.Spec PyProof.Rows L2 TL
/-- a list of names -/
def NmsL {K : PySem.W.Frag} (p : Addr) (L : List (As K)) : Prop := ∃ zs : List Str, Ls.ld p (zs.map PyData.str) ∈ L ∧ 0 < zs.length ∧ zs.length ≤ 1000 ∧ ∀ z ∈ zs, IsNm z
def spLNum (K : PySem.W.Frag) : Sp := fun vs H Q _ => ∃ (d : Addr) (L : List (As K)), vs = [.ref d] ∧ Ls.Sep L H ∧ dr d ∈ L ∧ ∀ (n : Int) H', Lim n → Ls.Sep L H' → Q (.int n) H'
def spLLeaf (K : PySem.W.Frag) : Sp := fun vs H Q _ => ∃ (d pn pk : Addr) (L : List (As K)), vs = [.ref d, .ref pn, .ref pk] ∧ Ls.Sep L H ∧ dr d ∈ L ∧ NmsL pn L ∧ NmsL pk L ∧ ∀ p (t : Tst) H', t.ok → t.deep = 1 → Ls.Sep (im (.ref p) t.D :: L) H' → Q (.ref p) H'
def spLTree (K : PySem.W.Frag) (n : Nat) : Sp := fun vs H Q _ => ∃ (d pn pk : Addr) (k : Int) (L : List (As K)), vs = [.ref d, .int k, .ref pn, .ref pk] ∧ k ≤ n + 1 ∧ Ls.Sep L H ∧ dr d ∈ L ∧ NmsL pn L ∧ NmsL pk L ∧ ∀ p (t : Tst) H', t.ok → t.deep ≤ n + 1 → ((t.deep : Int) ≤ k ∨ t.deep = 1) → Ls.Sep (im (.ref p) t.D :: L) H' → Q (.ref p) H'
theorem NmsL.mono {K : PySem.W.Frag} {p : Addr} {L M : List (As K)} (h : NmsL p L) (s : ∀ A ∈ L, A ∈ M) : NmsL p M := by
  obtain ⟨zs, h1, h2⟩ := h
  exact ⟨zs, s _ h1, h2⟩
end Ls
namespace Lw
open PySem PySem.Spec PyProof.Rows L2 Ls
theorem ok__law_number {P : Program} {w : World} {K : PySem.W.Frag} {mg : Str → Option Value} {base : Heap} (E : Env K mg w) : FnOk P w K mg base CX0 3 E.a__law_number E.fd__law_number ["_law_d"] (spLNum K) := by
  refine E.F__law_number.ok sc__law_number (fun vs H Q E h => ?_) (fun cdv A outer s H vs Q E' hr h => ?_)
  · walk_at "hl"
  · have hu := huOf hr
    have G__law_of := ok__law_of E (ok__law_pick (P := P) (w := w) (base := base) E)
    have hr__law_of := hr.mono (show 2 ≤ 2 by decide)
    have b__law_of := b__law_of E
    have G__law_pick := ok__law_pick (P := P) (w := w) (base := base) E
    have hr__law_pick := hr.mono (show 1 ≤ 2 by decide)
    have b__law_pick := b__law_pick E
    have hcl_Kind := E.cl_Kind
    obtain ⟨d, L, rfl, hS, hd, q⟩ := h
    refine ⟨_, PSs.nox (pss_one (ps_ret (pe_call G__law_of hr__law_of rfl E.g__law_of E.F__law_of.kp b__law_of .nil pass0 (pa_cons (pv 0) (pa_cons (pe_lst (pa_cons pe_int (pa_cons pe_int (pa_cons (pe_call G__law_pick hr__law_pick rfl E.g__law_pick E.F__law_pick.kp b__law_pick .nil pass0 (pa_cons (pv 0) (pa_cons pe_int pa_nil))) (pa_cons (pe_op op_sub (pe_call G__law_pick hr__law_pick rfl E.g__law_pick E.F__law_pick.kp b__law_pick .nil pass0 (pa_cons (pv 0) (pa_cons pe_int pa_nil))) pe_int) (pa_cons pe_int (pa_cons (pe_un un_neg pe_int) (pa_cons (pe_op op_sub (pe_call G__law_pick hr__law_pick rfl E.g__law_pick E.F__law_pick.kp b__law_pick .nil pass0 (pa_cons (pv 0) (pa_cons pe_int pa_nil))) pe_int) pa_nil)))))))) pa_nil))))), ?_⟩
    refine k_body (s1 := some _ :: []) rfl ?_
    walk_at "s"
    walk_at "pk"
    intro r H hS r0 r1
    walk_at "s"
    walk_at "pk"
    intro r2 H hS r20 r21
    walk_at "s"
    walk_at "pk"
    intro r3 H hS r30 r31
    walk_at "s"
    walk_at "ofI"
    intro n H hn hS
    refine q n _ ?_ (Sub.ok (by walk_at "sub") hS)
    simp only [List.mem_cons, List.not_mem_nil, or_false, PyData.int.injEq] at hn
    unfold Lim
    omega
theorem ok__law_leaf {P : Program} {w : World} {K : PySem.W.Frag} {mg : Str → Option Value} {base : Heap} (E : Env K mg w) : FnOk P w K mg base CX0 4 E.a__law_leaf E.fd__law_leaf ["_law_d", "_law_names", "_law_kinds"] (spLLeaf K) := by
  refine E.F__law_leaf.ok sc__law_leaf (fun vs H Q E h => ?_) (fun cdv A outer s H vs Q E' hr h => ?_)
  · walk_at "hl"
  · have hu := huOf hr
    have G__law_pick := ok__law_pick (P := P) (w := w) (base := base) E
    have hr__law_pick := hr.mono (show 1 ≤ 3 by decide)
    have b__law_pick := b__law_pick E
    have G__law_of := ok__law_of E (ok__law_pick (P := P) (w := w) (base := base) E)
    have hr__law_of := hr.mono (show 2 ≤ 3 by decide)
    have b__law_of := b__law_of E
    have G__law_number := ok__law_number (P := P) (w := w) (base := base) E
    have hr__law_number := hr.mono (show 3 ≤ 3 by decide)
    have b__law_number := b__law_number E
    have hcl_Kind := E.cl_Kind
    obtain ⟨d, pn, pk, L, rfl, hS, hd, ⟨ns, hn, n0, n1, n2⟩, ⟨ks, hk, k0, k1, k2⟩, q⟩ := h
    refine ⟨_, PSs.nox (pss_cons (ps_set (i := 3) sc__law_leaf.nd rfl (Or.inl rfl) (pe_call G__law_pick hr__law_pick rfl E.g__law_pick E.F__law_pick.kp b__law_pick .nil pass0 (pa_cons (pv 0) (pa_cons pe_int pa_nil))))
(pss_cons (ps_if (pt_cmpR (op_eqU K rfl hu) (pv 3) pe_int (nomark _)) (pss_one (ps_ret (pe_tup (pa_cons pe_str pa_nil)))) pss_nil)
(pss_cons (ps_if (pt_cmpR (op_eqU K rfl hu) (pv 3) pe_int (nomark _)) (pss_one (ps_ret (pe_tup (pa_cons pe_str (pa_cons (pe_call G__law_of hr__law_of rfl E.g__law_of E.F__law_of.kp b__law_of .nil pass0 (pa_cons (pv 0) (pa_cons (pv 2) pa_nil))) pa_nil))))) pss_nil)
(pss_one (ps_ret (pe_tup (pa_cons (pe_ix (ix_U K rfl) (pe_lst (pa_cons pe_str (pa_cons pe_str pa_nil))) (pe_op op_mod (pv 3) pe_int) (fun _ _ => rfl)) (pa_cons (pe_call G__law_of hr__law_of rfl E.g__law_of E.F__law_of.kp b__law_of .nil pass0 (pa_cons (pv 0) (pa_cons (pv 1) pa_nil))) (pa_cons (pe_call G__law_number hr__law_number rfl E.g__law_number E.F__law_number.kp b__law_number .nil pass0 (pa_cons (pv 0) pa_nil)) pa_nil))))))))), ?_⟩
    refine k_body (s1 := some _ :: some _ :: some _ :: [none]) rfl ?_
    walk_at "s"
    walk_at "pk"
    intro r H hS r0 r1
    walk_at "s"
    by_cases e0 : r = 0
    · rw [if_pos (decide_eq_true e0)]
      walk_at "s"
      exact q _ .all _ trivial rfl hS
    · rw [if_neg (by rw [decide_eq_false e0]; exact Bool.false_ne_true)]
      walk_at "s"
      by_cases e1 : r = 1
      · rw [if_pos (decide_eq_true e1)]
        walk_at "s"
        refine use_ofS hS (by walk_at "mem") hk (all_str ks) (by rw [List.length_map]; exact k0) (by rw [List.length_map]; omega) fun z H hz hS => ?_
        obtain ⟨z', hz', e⟩ := List.mem_map.mp hz
        cases e
        walk_at "s"
        exact q _ (.is z) _ (k2 _ hz') rfl hS
      · rw [if_neg (by rw [decide_eq_false e1]; exact Bool.false_ne_true)]
        walk_at "s"
        have hm : atI [PyData.str "less", PyData.str "same"] (r % 2) = some (.str (if r % 2 = 0 then "less" else "same")) := by
          have : r % 2 = 0 ∨ r % 2 = 1 := by omega
          rcases this with e | e <;> rw [e] <;> rfl
        walk_at "s"
        refine use_ofS hS (by walk_at "mem") (List.mem_cons_of_mem _ hn) (all_str ns) (by rw [List.length_map]; exact n0) (by rw [List.length_map]; omega) fun z H hz hS => ?_
        obtain ⟨z', hz', e⟩ := List.mem_map.mp hz
        cases e
        walk_at "s"
        refine ⟨d, _, rfl, hS, by walk_at "mem", fun n H hn hS => ?_⟩
        walk_at "s"
        by_cases e2 : r % 2 = 0
        · rw [if_pos e2] at hS
          exact q _ (.less z n) _ ⟨n2 _ hz', hn⟩ rfl (Sub.ok (by show Sub _ (im (V.ref _) (PyData.tuple [.str "less", .str z, .int n]) :: L); walk_at "sub") hS)
        · rw [if_neg e2] at hS
          exact q _ (.same z n) _ ⟨n2 _ hz', hn⟩ rfl (Sub.ok (by show Sub _ (im (V.ref _) (PyData.tuple [.str "same", .str z, .int n]) :: L); walk_at "sub") hS)
theorem ok__law_tree {P : Program} {w : World} {K : PySem.W.Frag} {mg : Str → Option Value} {base : Heap} (E : Env K mg w) : ∀ n : Nat, FnOk P w K mg base CX0 (5 + n) E.a__law_tree E.fd__law_tree ["_law_d", "_law_deep_here", "_law_names", "_law_kinds"] (recSp (spLTree K) n) := by
  intro n
  induction n with
  | zero => exact E.F__law_tree.ok sc__law_tree (fun vs H Q E h => h.elim) (fun cdv A outer s H vs Q E' hr h => h.elim)
  | succ n ih =>
  replace ih : FnOk P w K mg base CX0 (5 + n) E.a__law_tree E.fd__law_tree ["_law_d", "_law_deep_here", "_law_names", "_law_kinds"] (recSp (spLTree K) n) := ih
  show FnOk P w K mg base CX0 (5 + n + 1) E.a__law_tree E.fd__law_tree ["_law_d", "_law_deep_here", "_law_names", "_law_kinds"] ((spLTree K) n)
  refine E.F__law_tree.ok sc__law_tree (fun vs H Q E h => ?_) (fun cdv A outer s H vs Q E' hr h => ?_)
  · walk_at "hl"
  · have hu := huOf hr
    have G__law_pick := ok__law_pick (P := P) (w := w) (base := base) E
    have hr__law_pick := hr.mono (show 1 ≤ 5 + n by omega)
    have b__law_pick := b__law_pick E
    have G__law_leaf := ok__law_leaf (P := P) (w := w) (base := base) E
    have hr__law_leaf := hr.mono (show 4 ≤ 5 + n by omega)
    have b__law_leaf := b__law_leaf E
    have G__law_tree := ih
    have hr__law_tree := hr
    have b__law_tree := b__law_tree E
    have hcl_Kind := E.cl_Kind
    obtain ⟨d, pn, pk, k, L, rfl, hkn, hS, hd, hn, hk, q⟩ := h
    refine ⟨_, PSs.nox (pss_cons (ps_set (i := 4) sc__law_tree.nd rfl (Or.inl rfl) (pe_call G__law_pick hr__law_pick rfl E.g__law_pick E.F__law_pick.kp b__law_pick .nil pass0 (pa_cons (pv 0) (pa_cons pe_int pa_nil))))
(pss_cons (ps_if (PW.pt (pw_or (pt_cmpR (op_lt) (pv 1) pe_int (nomark _)) (pw_or1 (pt_cmpR (op_eqU K rfl hu) (pv 4) pe_int (nomark _))))) (pss_one (ps_ret (pe_call G__law_leaf hr__law_leaf rfl E.g__law_leaf E.F__law_leaf.kp b__law_leaf .nil pass0 (pa_cons (pv 0) (pa_cons (pv 2) (pa_cons (pv 3) pa_nil)))))) pss_nil)
(pss_cons (ps_if (pt_cmpR (op_eqU K rfl hu) (pv 4) pe_int (nomark _)) (pss_one (ps_ret (pe_tup (pa_cons pe_str (pa_cons (pe_call G__law_tree hr__law_tree rfl E.g__law_tree E.F__law_tree.kp b__law_tree .nil pass0 (pa_cons (pv 0) (pa_cons (pe_op op_sub (pv 1) pe_int) (pa_cons (pv 2) (pa_cons (pv 3) pa_nil))))) pa_nil))))) pss_nil)
(pss_cons (ps_set (i := 5) sc__law_tree.nd rfl (Or.inl rfl) (pe_ix (ix_U K rfl) (pe_lst (pa_cons pe_str (pa_cons pe_str pa_nil))) (pe_op op_mod (pv 4) pe_int) (fun _ _ => rfl)))
(pss_one (ps_ret (pe_tup (pa_cons (pv 5) (pa_cons (pe_call G__law_tree hr__law_tree rfl E.g__law_tree E.F__law_tree.kp b__law_tree .nil pass0 (pa_cons (pv 0) (pa_cons (pe_op op_sub (pv 1) pe_int) (pa_cons (pv 2) (pa_cons (pv 3) pa_nil))))) (pa_cons (pe_call G__law_tree hr__law_tree rfl E.g__law_tree E.F__law_tree.kp b__law_tree .nil pass0 (pa_cons (pv 0) (pa_cons (pe_op op_sub (pv 1) pe_int) (pa_cons (pv 2) (pa_cons (pv 3) pa_nil))))) pa_nil)))))))))), ?_⟩
    refine k_body (s1 := some _ :: some _ :: some _ :: some _ :: [none, none]) rfl ?_
    walk_at "s"
    walk_at "pk"
    intro r H hS r0 r1
    walk_at "s"
    by_cases h2 : k < 2
    · rw [if_pos (decide_eq_true h2)]
      walk_at "s"
      refine ⟨d, pn, pk, _, rfl, hS, hd, hn, hk, fun p t H ho h1 hS => ?_⟩
      exact q p t _ ho (by omega) (.inr h1) hS
    rw [if_neg (by rw [decide_eq_false h2]; exact Bool.false_ne_true)]
    walk_at "s"
    by_cases h0 : r = 0
    · rw [if_pos (decide_eq_true h0)]
      walk_at "s"
      refine ⟨d, pn, pk, _, rfl, hS, hd, hn, hk, fun p t H ho h1 hS => ?_⟩
      exact q p t _ ho (by omega) (.inr h1) hS
    rw [if_neg (by rw [decide_eq_false h0]; exact Bool.false_ne_true)]
    walk_at "s"
    obtain ⟨n', rfl⟩ : ∃ n', n = n' + 1 := ⟨n - 1, by omega⟩
    by_cases h1 : r = 1
    · rw [if_pos (decide_eq_true h1)]
      walk_at "s"
      refine ⟨d, pn, pk, k - 1, _, rfl, by omega, hS, hd, hn, hk, fun p t H ho hd1 hd2 hS => ?_⟩
      walk_at "s"
      refine q _ (.no t) _ ho (by show t.deep + 1 ≤ _; omega) (.inl (by show ((t.deep + 1 : Nat) : Int) ≤ k; omega)) (Sub.ok (by show Sub _ (im (V.ref _) (PyData.tuple [.str "not", t.D]) :: L); walk_at "sub") hS)
    rw [if_neg (by rw [decide_eq_false h1]; exact Bool.false_ne_true)]
    have hm : atI [PyData.str "and", PyData.str "or"] (r % 2) = some (.str (if r % 2 = 0 then "and" else "or")) := by
      have : r % 2 = 0 ∨ r % 2 = 1 := by omega
      rcases this with e | e <;> rw [e] <;> rfl
    walk_at "s"
    refine ⟨d, pn, pk, k - 1, _, rfl, by omega, hS, by walk_at "mem", hn.mono (fun A h => by walk_at "mem"), hk.mono (fun A h => by walk_at "mem"), fun p1 t1 H ho1 hd1 hd11 hS => ?_⟩
    walk_at "s"
    refine ⟨d, pn, pk, k - 1, _, rfl, by omega, hS, by walk_at "mem", hn.mono (fun A h => by walk_at "mem"), hk.mono (fun A h => by walk_at "mem"), fun p2 t2 H ho2 hd2 hd22 hS => ?_⟩
    walk_at "s"
    by_cases e2 : r % 2 = 0
    · rw [if_pos e2] at hS
      exact q _ (.an t1 t2) _ ⟨ho1, ho2⟩ (by show max _ _ + 1 ≤ _; omega) (.inl (by show ((max t1.deep t2.deep + 1 : Nat) : Int) ≤ k; omega)) (Sub.ok (by show Sub _ (im (V.ref _) (PyData.tuple [.str "and", t1.D, t2.D]) :: L); walk_at "sub") hS)
    · rw [if_neg e2] at hS
      exact q _ (.or t1 t2) _ ⟨ho1, ho2⟩ (by show max _ _ + 1 ≤ _; omega) (.inl (by show ((max t1.deep t2.deep + 1 : Nat) : Int) ≤ k; omega)) (Sub.ok (by show Sub _ (im (V.ref _) (PyData.tuple [.str "or", t1.D, t2.D]) :: L); walk_at "sub") hS)
end Lw
namespace Ls
open PySem PySem.Spec PyProof.Rows L2 TL
def spLParts (K : PySem.W.Frag) (n : Nat) : Sp := fun vs H Q _ => ∃ (a : Addr) (t : Tst) (L : List (As K)), vs = [.ref a] ∧ t.deep ≤ n + 1 ∧ Ls.Sep L H ∧ im (.ref a) t.D ∈ L ∧ ∀ H', Ls.Sep L H' → Q (.int t.parts) H'
def spLDeep (K : PySem.W.Frag) (n : Nat) : Sp := fun vs H Q _ => ∃ (a : Addr) (t : Tst) (L : List (As K)), vs = [.ref a] ∧ t.deep ≤ n + 1 ∧ Ls.Sep L H ∧ im (.ref a) t.D ∈ L ∧ ∀ H', Ls.Sep L H' → Q (.int t.deep) H'
def spLShape (K : PySem.W.Frag) (n : Nat) : Sp := fun vs H Q _ => ∃ (v : V) (d : PyData) (L : List (As K)), vs = [v] ∧ Ls.Sep L H ∧ im v d ∈ L ∧ Raw n d ∧ ∀ H', Ls.Sep L H' → Q (.bl (dec n d).isSome) H'
theorem word3 (z : Str) : decide (z ∈ [("not" : Str), "and", "or"]) = (wordK z).isSome := by
  unfold wordK
  by_cases h1 : z = ("not" : Str)
  · rw [if_pos h1, decide_eq_true (by rw [h1]; exact List.mem_cons_self)]
    rfl
  · rw [if_neg h1]
    by_cases h2 : z = ("and" : Str)
    · rw [if_pos h2, decide_eq_true (by rw [h2]; exact List.mem_cons_of_mem _ List.mem_cons_self)]
      rfl
    · rw [if_neg h2]
      by_cases h3 : z = ("or" : Str)
      · rw [if_pos h3, decide_eq_true (by rw [h3]; exact List.mem_cons_of_mem _ (List.mem_cons_of_mem _ List.mem_cons_self))]
        rfl
      · rw [if_neg h3, decide_eq_false fun m => by
          simp only [List.mem_cons, List.not_mem_nil, or_false] at m
          rcases m with m | m | m
          · exact h1 m
          · exact h2 m
          · exact h3 m]
        rfl
theorem parts_cast : ∀ ts : List Tst, (ts.map fun t => (t.parts : Int)).sum = (((ts.map Tst.parts).sum : Nat) : Int)
  | [] => rfl
  | t :: ts => by
    have := parts_cast ts
    simp only [List.map_cons, List.sum_cons, this]
    omega
theorem fmax {i : Nat} : ∀ (ds : List Nat) (a : Nat), (a = i ∨ i ∈ ds) → a ≤ i → (∀ k ∈ ds, k ≤ i) → ds.foldl max a = i
  | [], a, h, _, _ => by
    rcases h with h | h
    · exact h
    · cases h
  | d :: ds, a, h, ha, hk => by
    rw [List.foldl_cons]
    have hd := hk d List.mem_cons_self
    refine fmax ds (max a d) ?_ (by omega) fun k hm => hk k (List.mem_cons_of_mem _ hm)
    rcases h with h | h
    · exact .inl (by omega)
    · rcases List.mem_cons.mp h with h | h
      · exact .inl (by omega)
      · exact .inr h
theorem word2 (z : Str) : decide (z ∈ [("and" : Str), "or"]) = decide (wordK z = some 2) := by
  have e7 : ("not" : Str) ≠ "and" := by decide +kernel
  have e8 : ("not" : Str) ≠ "or" := by decide +kernel
  unfold wordK
  refine decide_eq_decide.mpr ⟨fun m => ?_, fun m => ?_⟩
  · simp only [List.mem_cons, List.not_mem_nil, or_false] at m
    rcases m with m | m
    · rw [if_neg fun h => e7 (h.symm.trans m), if_pos m]
    · rw [if_neg fun h => e8 (h.symm.trans m)]
      by_cases h2 : z = ("and" : Str)
      · rw [if_pos h2]
      · rw [if_neg h2, if_pos m]
  · split at m
    · cases m
    · split at m
      · rename_i h
        rw [h]
        exact List.mem_cons_self
      · split at m
        · rename_i h
          rw [h]
          exact List.mem_cons_of_mem _ List.mem_cons_self
        · cases m
theorem word1 (z : Str) : decide (z = ("not" : Str)) = decide (wordK z = some 1) := by
  unfold wordK
  refine decide_eq_decide.mpr ⟨fun m => by rw [if_pos m], fun m => ?_⟩
  split at m
  · rename_i h
    exact h
  · split at m
    · cases m
    · split at m <;> cases m
def two2 (n : Nat) (r : List PyData) : Bool := match r with
  | [x, y] => (dec n x).isSome && (dec n y).isSome
  | _ => false
def one1 (n : Nat) (r : List PyData) : Bool := match r with
  | [x] => (dec n x).isSome
  | _ => false
theorem dec_w2 {n : Nat} {z : Str} {r : List PyData} (hw : wordK z = some 2) : (dec (n + 1) (.tuple (.str z :: r))).isSome = two2 n r := by
  rw [dec_tup, hw]
  unfold two2
  show ((r.mapM (dec n)).bind (mkT z)).isSome = _
  split
  · rename_i x y
    rw [List.mapM_cons, List.mapM_cons]
    cases e1 : dec n x with
    | none => rfl
    | some t1 =>
      cases e2 : dec n y with
      | none => rfl
      | some t2 =>
        obtain ⟨t, ht⟩ := mkT_some (z := z) (ts := [t1, t2]) hw
        show (mkT z [t1, t2]).isSome = true
        rw [ht]
        rfl
  · rename_i hno
    cases e : r.mapM (dec n) with
    | none => rfl
    | some ts =>
      have hl := mapM_len e
      show (mkT z ts).isSome = false
      rw [mkT_none (fun y => by
        rw [hw] at y
        have y := Option.some.inj y
        match r, hl.symm.trans y.symm with
        | [x, y], _ => exact hno x y rfl)]
      rfl
theorem dec_w1 {n : Nat} {z : Str} {r : List PyData} (hw : wordK z = some 1) : (dec (n + 1) (.tuple (.str z :: r))).isSome = one1 n r := by
  rw [dec_tup, hw]
  unfold one1
  show ((r.mapM (dec n)).bind (mkT z)).isSome = _
  split
  · rename_i x
    rw [List.mapM_cons]
    cases e1 : dec n x with
    | none => rfl
    | some t1 =>
      obtain ⟨t, ht⟩ := mkT_some (z := z) (ts := [t1]) hw
      show (mkT z [t1]).isSome = true
      rw [ht]
      rfl
  · rename_i hno
    cases e : r.mapM (dec n) with
    | none => rfl
    | some ts =>
      have hl := mapM_len e
      show (mkT z ts).isSome = false
      rw [mkT_none (fun y => by
        rw [hw] at y
        have y := Option.some.inj y
        match r, hl.symm.trans y.symm with
        | [x], _ => exact hno x rfl)]
      rfl
def spLLeafOk (K : PySem.W.Frag) : Sp := fun vs H Q _ => ∃ (a : Addr) (z : Str) (r : List PyData) (N : Nat) (L : List (As K)), vs = [.ref a] ∧ Ls.Sep L H ∧ im (.ref a) (.tuple (.str z :: r)) ∈ L ∧ Raw N (.tuple (.str z :: r)) ∧ wordK z = none ∧ ∀ H', Ls.Sep L H' → Q (.bl (Ls.leafOf z r).isSome) H'
end Ls
namespace Lw
open PySem PySem.Spec PyProof.Rows L2 Ls
theorem ok__law_parts {P : Program} {w : World} {K : PySem.W.Frag} {mg : Str → Option Value} {base : Heap} (E : Env K mg w) : ∀ n : Nat, FnOk P w K mg base CX0 (1 + n) E.a__law_parts E.fd__law_parts ["_law_test_here"] (recSp (spLParts K) n) := by
  intro n
  induction n with
  | zero => exact E.F__law_parts.ok sc__law_parts (fun vs H Q E h => h.elim) (fun cdv A outer s H vs Q E' hr h => h.elim)
  | succ n ih =>
  replace ih : FnOk P w K mg base CX0 (1 + n) E.a__law_parts E.fd__law_parts ["_law_test_here"] (recSp (spLParts K) n) := ih
  show FnOk P w K mg base CX0 (1 + n + 1) E.a__law_parts E.fd__law_parts ["_law_test_here"] ((spLParts K) n)
  refine E.F__law_parts.ok sc__law_parts (fun vs H Q E h => ?_) (fun cdv A outer s H vs Q E' hr h => ?_)
  · walk_at "hl"
  · have hu := huOf hr
    have G__law_parts := ih
    have hr__law_parts := hr
    have b__law_parts := b__law_parts E
    have hcl_Kind := E.cl_Kind
    obtain ⟨a, t, L, rfl, hd, hS, hm, q⟩ := h
    refine ⟨_, PSs.nox (pss_cons (ps_if (pt_cmpR (op_notinU K rfl hu) (pe_ix (ix_U K rfl) (pv 0) pe_int (fun _ _ => rfl)) (pe_tup (pa_cons pe_str (pa_cons pe_str (pa_cons pe_str pa_nil)))) (by with_unfolding_all rfl)) (pss_one (ps_ret pe_int)) pss_nil)
(pss_one (ps_ret (pe_op (op_addU K rfl) pe_int (pe_callB (cr_sumU K rfl rfl) (by rfl) E.n_sum boot_sum (pa_cons (pe_lc (own := [("_law_part", 1)]) rfl sc__law_parts.nd (pi_seqU K rfl (pe_slice (sl_U K rfl) (pv 0) (po_some pe_int) po_none)) (blkOk_by (N := ["_law_test_here", "_law_part"]) (sc := defScope s__law_parts) (by decide +kernel)) (fun _ _ _ _ _ => (pg_name (i := 1) sc__law_parts.nd rfl (Or.inl rfl))) (fun _ _ _ _ _ => pts_nil) (fun _ _ _ _ _ => (pe_call G__law_parts hr__law_parts rfl E.g__law_parts E.F__law_parts.kp b__law_parts .nil pass0 (pa_cons (pv 1) pa_nil)))) pa_nil)))))), ?_⟩
    refine k_body (s1 := some _ :: [none]) rfl ?_
    rcases t.view with ⟨z, r, ed, hw, el, hp1, _⟩ | ⟨z, ts, ed, hw, el, hpp, _, _, hlt, _⟩
    · rw [hp1] at q
      rw [ed] at hm
      walk_at "s"
      rw [word3, hw]
      walk_at "s"
      exact q _ (Sub.ok (by walk_at "sub") hS)
    · rw [ed] at hm
      have hl2 := wordK_le hw
      walk_at "s"
      rw [word3, hw, if_neg (by exact Bool.false_ne_true)]
      walk_at "s"
      rename_i ps _
      rw [cut1D] at hS
      refine lc_flat (zs := ts) (fun t => [PyData.int t.parts]) hS (fun acc => wk_imT (by walk_at "mem")) (fun j x acc hx hk _ la b => ?_) (fun H hS => ?_)
      · clear hS
        intro H hS
        have hxt := hlt x (List.mem_of_getElem? hx)
        have hj := (List.getElem?_eq_some_iff.mp hx).1
        obtain ⟨n', rfl⟩ : ∃ n', n = n' + 1 := ⟨n - 1, by have := deep_pos x; omega⟩
        walk_at "ls"
        refine ⟨b, x, _, rfl, by omega, hS, by walk_at "mem", fun H hS => ?_⟩
        exact lc_keep hS (d := .int x.parts) (.int _) (by walk_at "sub") (by rw [sizeLine_eq]; omega) (hk _ rfl)
      rw [flat_map (fun t : Tst => PyData.int t.parts)] at hS
      walk_at "s"
      refine k_sumS (zs := ts) (f := fun t => (t.parts : Int)) hS (by walk_at "mem") ?_
      walk_at "s"
      have e : (1 : Int) + (ts.map fun t => (t.parts : Int)).sum = t.parts := by
        rw [hpp]
        have := parts_cast ts
        omega
      rw [e]
      exact q _ (Sub.ok (by walk_at "sub") hS)
theorem ok__law_deep {P : Program} {w : World} {K : PySem.W.Frag} {mg : Str → Option Value} {base : Heap} (E : Env K mg w) : ∀ n : Nat, FnOk P w K mg base CX0 (1 + n) E.a__law_deep E.fd__law_deep ["_law_test_here"] (recSp (spLDeep K) n) := by
  intro n
  induction n with
  | zero => exact E.F__law_deep.ok sc__law_deep (fun vs H Q E h => h.elim) (fun cdv A outer s H vs Q E' hr h => h.elim)
  | succ n ih =>
  replace ih : FnOk P w K mg base CX0 (1 + n) E.a__law_deep E.fd__law_deep ["_law_test_here"] (recSp (spLDeep K) n) := ih
  show FnOk P w K mg base CX0 (1 + n + 1) E.a__law_deep E.fd__law_deep ["_law_test_here"] ((spLDeep K) n)
  refine E.F__law_deep.ok sc__law_deep (fun vs H Q E h => ?_) (fun cdv A outer s H vs Q E' hr h => ?_)
  · walk_at "hl"
  · have hu := huOf hr
    have G__law_deep := ih
    have hr__law_deep := hr
    have b__law_deep := b__law_deep E
    have hcl_Kind := E.cl_Kind
    obtain ⟨a, t, L, rfl, hd, hS, hm, q⟩ := h
    refine ⟨_, PSs.nox (pss_cons (ps_if (pt_cmpR (op_notinU K rfl hu) (pe_ix (ix_U K rfl) (pv 0) pe_int (fun _ _ => rfl)) (pe_tup (pa_cons pe_str (pa_cons pe_str (pa_cons pe_str pa_nil)))) (by with_unfolding_all rfl)) (pss_one (ps_ret pe_int)) pss_nil)
(pss_one (ps_ret (pe_op (op_addU K rfl) pe_int (pe_callB (call_maxU K rfl rfl) (by rfl) E.n_max boot_max (pa_cons (pe_lc (own := [("_law_part", 1)]) rfl sc__law_deep.nd (pi_seqU K rfl (pe_slice (sl_U K rfl) (pv 0) (po_some pe_int) po_none)) (blkOk_by (N := ["_law_test_here", "_law_part"]) (sc := defScope s__law_deep) (by decide +kernel)) (fun _ _ _ _ _ => (pg_name (i := 1) sc__law_deep.nd rfl (Or.inl rfl))) (fun _ _ _ _ _ => pts_nil) (fun _ _ _ _ _ => (pe_call G__law_deep hr__law_deep rfl E.g__law_deep E.F__law_deep.kp b__law_deep .nil pass0 (pa_cons (pv 1) pa_nil)))) pa_nil)))))), ?_⟩
    refine k_body (s1 := some _ :: [none]) rfl ?_
    rcases t.view with ⟨z, r, ed, hw, el, hp1, hd1, _⟩ | ⟨z, ts, ed, hw, el, hpp, hdd, _, hlt, _⟩
    · rw [hd1] at q
      rw [ed] at hm
      walk_at "s"
      rw [word3, hw]
      walk_at "s"
      exact q _ (Sub.ok (by walk_at "sub") hS)
    · rw [ed] at hm
      have hl2 := wordK_le hw
      walk_at "s"
      rw [word3, hw, if_neg (by exact Bool.false_ne_true)]
      walk_at "s"
      rename_i ps _
      rw [cut1D] at hS
      refine lc_flat (zs := ts) (fun t => [PyData.int t.deep]) hS (fun acc => wk_imT (by walk_at "mem")) (fun j x acc hx hk _ la b => ?_) (fun H hS => ?_)
      · clear hS
        intro H hS
        have hxt := hlt x (List.mem_of_getElem? hx)
        have hj := (List.getElem?_eq_some_iff.mp hx).1
        obtain ⟨n', rfl⟩ : ∃ n', n = n' + 1 := ⟨n - 1, by have := deep_pos x; omega⟩
        walk_at "ls"
        refine ⟨b, x, _, rfl, by omega, hS, by walk_at "mem", fun H hS => ?_⟩
        exact lc_keep hS (d := .int x.deep) (.int _) (by walk_at "sub") (by rw [sizeLine_eq]; omega) (hk _ rfl)
      rw [flat_map (fun t : Tst => PyData.int t.deep), show (ts.map fun t : Tst => PyData.int t.deep) = (ts.map fun t => (t.deep : Int)).map PyData.int by rw [List.map_map]; rfl] at hS
      walk_at "s"
      refine k_maxI (ns := ts.map fun t => (t.deep : Int)) hS (by walk_at "mem") (by intro e; have := congrArg List.length e; rw [List.length_map] at this; exact absurd this (by show ts.length ≠ 0; omega)) fun i hi hk => ?_
      walk_at "s"
      obtain ⟨x, hx, rfl⟩ := List.mem_map.mp hi
      have e : (1 : Int) + x.deep = t.deep := by
        have := fmax (i := x.deep) (ts.map Tst.deep) 0 (.inr (List.mem_map_of_mem hx)) (Nat.zero_le _) fun k hm => by
          obtain ⟨y, hy, rfl⟩ := List.mem_map.mp hm
          have := hk y.deep (List.mem_map_of_mem (f := fun t : Tst => (t.deep : Int)) hy)
          omega
        omega
      rw [e]
      exact q _ (Sub.ok (by walk_at "sub") hS)
end Lw
namespace Ls
open PySem PySem.Spec PyProof.Rows L2 TL
def spLTestOk (K : PySem.W.Frag) : Sp := fun vs H Q _ => ∃ (a : Addr) (xs : List PyData) (n : Nat) (L : List (As K)), vs = [.ref a] ∧ n ≤ 8 ∧ Ls.Sep L H ∧ im (.ref a) (.tuple xs) ∈ L ∧ Raw n (.tuple xs) ∧ ∀ H', Ls.Sep L H' → Q (.bl (decide (IsT (.tuple xs)))) H'
end Ls
namespace Lw
open PySem PySem.Spec PyProof.Rows L2 Ls
theorem ok__law_leaf_ok {P : Program} {w : World} {K : PySem.W.Frag} {mg : Str → Option Value} {base : Heap} (E : Env K mg w) : FnOk P w K mg base CX0 2 E.a__law_leaf_ok E.fd__law_leaf_ok ["_law_test_here"] (spLLeafOk K) := by
  refine E.F__law_leaf_ok.ok sc__law_leaf_ok (fun vs H Q E h => ?_) (fun cdv A outer s H vs Q E' hr h => ?_)
  · walk_at "hl"
  · have hu := huOf hr
    have G__law_is_name := ok__law_is_name (P := P) (w := w) (base := base) E
    have hr__law_is_name := hr.mono (show 1 ≤ 1 by decide)
    have b__law_is_name := b__law_is_name E
    have hcl_Kind := E.cl_Kind
    obtain ⟨a, z, r, N, L, rfl, hS, hm, hr', hw, q⟩ := h
    refine ⟨_, PSs.nox (pss_cons (ps_if (pt_cmpR (op_eqU K rfl hu) (pe_ix (ix_U K rfl) (pv 0) pe_int (fun _ _ => rfl)) pe_str (nomark _)) (pss_one (ps_ret (pe_cmpR (op_eqU K rfl hu) (pe_callB (call_lenU K rfl) (by rfl) E.n_len boot_len (pa_cons (pv 0) pa_nil)) pe_int (nomark _)))) pss_nil)
(pss_cons (ps_if (pt_cmpR (op_eqU K rfl hu) (pe_ix (ix_U K rfl) (pv 0) pe_int (fun _ _ => rfl)) pe_str (nomark _)) (pss_one (ps_ret (pe_and (pe_cmpR (op_eqU K rfl hu) (pe_callB (call_lenU K rfl) (by rfl) E.n_len boot_len (pa_cons (pv 0) pa_nil)) pe_int (nomark _)) (pe_and (pe_callB (call_isiU K rfl) (by rfl) E.n_isinstance boot_isinstance (pa_cons (pe_ix (ix_U K rfl) (pv 0) pe_int (fun _ _ => rfl)) (pa_cons (pe_ty "str" rfl E.n_str (by decide +kernel)) pa_nil))) (pe_one (pe_call G__law_is_name hr__law_is_name rfl E.g__law_is_name E.F__law_is_name.kp b__law_is_name .nil pass0 (pa_cons (pe_ix (ix_U K rfl) (pv 0) pe_int (fun _ _ => rfl)) pa_nil))))))) pss_nil)
(pss_cons (ps_if (PW.pt (pw_or (pt_cmpR (op_notinU K rfl hu) (pe_ix (ix_U K rfl) (pv 0) pe_int (fun _ _ => rfl)) (pe_tup (pa_cons pe_str (pa_cons pe_str pa_nil))) (by with_unfolding_all rfl)) (pw_or1 (pt_cmpR (op_neU K rfl hu) (pe_callB (call_lenU K rfl) (by rfl) E.n_len boot_len (pa_cons (pv 0) pa_nil)) pe_int (nomark _))))) (pss_one (ps_ret pe_bl)) pss_nil)
(pss_cons (ps_if (PW.pt (pw_or (pt_not (pt_val (pe_callB (call_isiU K rfl) (by rfl) E.n_isinstance boot_isinstance (pa_cons (pe_ix (ix_U K rfl) (pv 0) pe_int (fun _ _ => rfl)) (pa_cons (pe_ty "str" rfl E.n_str (by decide +kernel)) pa_nil))))) (pw_or1 (pt_not (pt_val (pe_call G__law_is_name hr__law_is_name rfl E.g__law_is_name E.F__law_is_name.kp b__law_is_name .nil pass0 (pa_cons (pe_ix (ix_U K rfl) (pv 0) pe_int (fun _ _ => rfl)) pa_nil))))))) (pss_one (ps_ret pe_bl)) pss_nil)
(pss_one (ps_ret (pe_and (pe_callB (call_isiU K rfl) (by rfl) E.n_isinstance boot_isinstance (pa_cons (pe_ix (ix_U K rfl) (pv 0) pe_int (fun _ _ => rfl)) (pa_cons (pe_ty "int" rfl E.n_int (by decide +kernel)) pa_nil))) (pe_one (pe_chain op_le op_le (pe_un un_neg pe_int) (pe_ix (ix_U K rfl) (pv 0) pe_int (fun _ _ => rfl)) pe_int))))))))), ?_⟩
    refine k_body (s1 := some _ :: []) rfl ?_
    walk_at "s"
    by_cases e1 : z = ("all" : Str)
    · rw [if_pos (decide_eq_true e1)]
      walk_at "s"
      have e : decide (((PyData.str z :: r).length : Int) = 1) = (Ls.leafOf z r).isSome := by
        unfold Ls.leafOf
        rw [if_pos e1]
        cases r with
        | nil => rfl
        | cons x r => exact decide_eq_false (by simp; omega)
      rw [e]
      exact q _ hS
    · rw [if_neg (by rw [decide_eq_false e1]; exact Bool.false_ne_true)]
      walk_at "s"
      by_cases e2 : z = ("is" : Str)
      · rw [if_pos (decide_eq_true e2)]
        walk_at "s"
        by_cases hl : ∃ x, r = [x]
        · obtain ⟨x, rfl⟩ := hl
          rw [if_pos (by rfl)]
          obtain ⟨m, rfl⟩ : ∃ m, N = m + 1 := by cases N with | zero => exact hr'.elim | succ m => exact ⟨m, rfl⟩
          have hx := hr'.2.2 x (List.mem_cons_of_mem _ List.mem_cons_self)
          rcases raw_d hx with ⟨s, rfl, hs⟩ | ⟨i, rfl⟩ | ⟨xs, k, rfl, _⟩
          · walk_at "s"
            have e : decide (IsNm s) = (Ls.leafOf z [.str s]).isSome := by
              unfold Ls.leafOf
              rw [if_neg e1, if_pos e2]
              by_cases hn : IsNm s
              · show _ = (if IsNm s then some (Tst.is s) else none).isSome
                rw [if_pos hn, decide_eq_true hn]
                rfl
              · show _ = (if IsNm s then some (Tst.is s) else none).isSome
                rw [if_neg hn, decide_eq_false hn]
                rfl
            refine ⟨s, _, rfl, by omega, hS, fun H hS => ?_⟩
            rw [e]
            exact q _ hS
          · have e : (Ls.leafOf z [.int i]).isSome = false := by
              unfold Ls.leafOf
              rw [if_neg e1, if_pos e2]
              rfl
            rw [e] at q
            walk_at "s"
            exact q _ hS
          · have e : (Ls.leafOf z [.tuple xs]).isSome = false := by
              unfold Ls.leafOf
              rw [if_neg e1, if_pos e2]
              rfl
            rw [e] at q
            walk_at "s"
            exact q _ (Sub.ok (by walk_at "sub") hS)
        · have e : (Ls.leafOf z r).isSome = false := by
            unfold Ls.leafOf
            rw [if_neg e1, if_pos e2]
            split
            · exact (hl ⟨_, rfl⟩).elim
            · rfl
          have e3 : decide (((PyData.str z :: r).length : Int) = 2) = false := decide_eq_false fun h => hl (by
            match r, h with
            | [x], _ => exact ⟨x, rfl⟩
            | [], h => simp at h
            | x :: y :: r, h => simp at h; omega)
          rw [e3, if_neg Bool.false_ne_true]
          rw [e] at q
          exact q _ hS
      · rw [if_neg (by rw [decide_eq_false e2]; exact Bool.false_ne_true)]
        walk_at "s"
        have en : ∀ y, ¬ z = ("less" : Str) → ¬ z = ("same" : Str) → (Ls.leafOf z y).isSome = false := fun y h3 h4 => by
          unfold Ls.leafOf
          rw [if_neg e1, if_neg e2, if_neg h3, if_neg h4]
          rfl
        by_cases hz : z = ("less" : Str) ∨ z = ("same" : Str)
        · rw [if_neg (by rw [decide_eq_true (by simp only [List.mem_cons, List.not_mem_nil, or_false]; exact hz)]; exact Bool.false_ne_true)]
          walk_at "s"
          by_cases hl : ∃ x y, r = [x, y]
          · obtain ⟨x, y, rfl⟩ := hl
            rw [if_neg (by show ¬(!decide ((3 : Int) = 3)) = true; decide)]
            obtain ⟨m, rfl⟩ : ∃ m, N = m + 1 := by cases N with | zero => exact hr'.elim | succ m => exact ⟨m, rfl⟩
            have hx := hr'.2.2 x (List.mem_cons_of_mem _ List.mem_cons_self)
            have hy := hr'.2.2 y (List.mem_cons_of_mem _ (List.mem_cons_of_mem _ List.mem_cons_self))
            have no : (∀ s i, ¬ ((x = .str s) ∧ y = .int i)) → (Ls.leafOf z [x, y]).isSome = false := fun h => by
              unfold Ls.leafOf
              rw [if_neg e1, if_neg e2]
              repeat' split
              all_goals first | rfl | (rename_i e _; exact (h _ _ (by cases e; exact ⟨rfl, rfl⟩)).elim)
            have ey : ∀ s i, (Ls.leafOf z [.str s, .int i]).isSome = decide (IsNm s ∧ Lim i) := fun s i => by
              unfold Ls.leafOf
              rw [if_neg e1, if_neg e2]
              by_cases h3 : z = ("less" : Str)
              · rw [if_pos h3]
                by_cases hn : IsNm s ∧ Lim i
                · show (if IsNm s ∧ Lim i then some (Tst.less s i) else none).isSome = _
                  rw [if_pos hn, decide_eq_true hn]
                  rfl
                · show (if IsNm s ∧ Lim i then some (Tst.less s i) else none).isSome = _
                  rw [if_neg hn, decide_eq_false hn]
                  rfl
              · rw [if_neg h3, if_pos (hz.resolve_left h3)]
                by_cases hn : IsNm s ∧ Lim i
                · show (if IsNm s ∧ Lim i then some (Tst.same s i) else none).isSome = _
                  rw [if_pos hn, decide_eq_true hn]
                  rfl
                · show (if IsNm s ∧ Lim i then some (Tst.same s i) else none).isSome = _
                  rw [if_neg hn, decide_eq_false hn]
                  rfl
            walk_at "s"
            rcases raw_d hx with ⟨s, rfl, hs⟩ | ⟨i, rfl⟩ | ⟨xs, k, rfl, _⟩
            · walk_at "s"
              refine ⟨s, _, rfl, by omega, hS, fun H hS => ?_⟩
              by_cases hn : IsNm s
              · rw [decide_eq_true hn]
                walk_at "s"
                rcases raw_d hy with ⟨s2, rfl, hs2⟩ | ⟨i, rfl⟩ | ⟨xs, k, rfl, _⟩
                · rw [no (by rintro s i ⟨_, h⟩; cases h)] at q
                  walk_at "s"
                  exact q _ (Sub.ok (by walk_at "sub") hS)
                · rw [ey] at q
                  walk_at "s"
                  by_cases h5 : -999999 ≤ i
                  · walk_at "s"
                    rw [show decide (i ≤ 999999) = decide (IsNm s ∧ Lim i) from decide_eq_decide.mpr ⟨fun h => ⟨hn, h5, h⟩, fun h => h.2.2⟩]
                    exact q _ (Sub.ok (by walk_at "sub") hS)
                  · rw [decide_eq_false fun h => h5 h.2.1] at q
                    walk_at "s"
                    exact q _ (Sub.ok (by walk_at "sub") hS)
                · rw [no (by rintro s i ⟨_, h⟩; cases h)] at q
                  walk_at "s"
                  exact q _ (Sub.ok (by walk_at "sub") hS)
              · have e9 : (Ls.leafOf z [.str s, y]).isSome = false := by
                  rcases raw_d hy with ⟨s2, rfl, hs2⟩ | ⟨i, rfl⟩ | ⟨xs, k, rfl, _⟩
                  · exact no (by rintro s i ⟨_, h⟩; cases h)
                  · rw [ey]
                    exact decide_eq_false fun h => hn h.1
                  · exact no (by rintro s i ⟨_, h⟩; cases h)
                rw [e9] at q
                rw [decide_eq_false hn]
                walk_at "s"
                exact q _ (Sub.ok (by walk_at "sub") hS)
            · rw [no (by rintro s i ⟨h, _⟩; cases h)] at q
              walk_at "s"
              exact q _ (Sub.ok (by walk_at "sub") hS)
            · rw [no (by rintro s i ⟨h, _⟩; cases h)] at q
              walk_at "s"
              exact q _ (Sub.ok (by walk_at "sub") hS)
          · have e : (Ls.leafOf z r).isSome = false := by
              unfold Ls.leafOf
              rw [if_neg e1, if_neg e2]
              repeat' split
              all_goals first | rfl | exact (hl ⟨_, _, rfl⟩).elim
            have e3 : decide (((PyData.str z :: r).length : Int) = 3) = false := decide_eq_false fun h => hl (by
              match r, h with
              | [x, y], _ => exact ⟨x, y, rfl⟩
              | [], h => simp at h
              | [x], h => simp at h
              | x :: y :: u :: r, h => simp at h; omega)
            rw [e3, if_pos (by rfl)]
            rw [e] at q
            walk_at "s"
            exact q _ (Sub.ok (by walk_at "sub") hS)
        · rw [if_pos (by rw [decide_eq_false (by simp only [List.mem_cons, List.not_mem_nil, or_false]; exact hz)]; rfl)]
          rw [en _ (fun h => hz (.inl h)) (fun h => hz (.inr h))] at q
          walk_at "s"
          exact q _ (Sub.ok (by walk_at "sub") hS)
theorem ok__law_shape_ok {P : Program} {w : World} {K : PySem.W.Frag} {mg : Str → Option Value} {base : Heap} (E : Env K mg w) : ∀ n : Nat, FnOk P w K mg base CX0 (3 + n) E.a__law_shape_ok E.fd__law_shape_ok ["_law_test_here"] (recSp (spLShape K) n) := by
  intro n
  induction n with
  | zero => exact E.F__law_shape_ok.ok sc__law_shape_ok (fun vs H Q E h => h.elim) (fun cdv A outer s H vs Q E' hr h => h.elim)
  | succ n ih =>
  replace ih : FnOk P w K mg base CX0 (3 + n) E.a__law_shape_ok E.fd__law_shape_ok ["_law_test_here"] (recSp (spLShape K) n) := ih
  show FnOk P w K mg base CX0 (3 + n + 1) E.a__law_shape_ok E.fd__law_shape_ok ["_law_test_here"] ((spLShape K) n)
  refine E.F__law_shape_ok.ok sc__law_shape_ok (fun vs H Q E h => ?_) (fun cdv A outer s H vs Q E' hr h => ?_)
  · walk_at "hl"
  · have hu := huOf hr
    have G__law_leaf_ok := ok__law_leaf_ok (P := P) (w := w) (base := base) E
    have hr__law_leaf_ok := hr.mono (show 2 ≤ 3 + n by omega)
    have b__law_leaf_ok := b__law_leaf_ok E
    have G__law_shape_ok := ih
    have hr__law_shape_ok := hr
    have b__law_shape_ok := b__law_shape_ok E
    have hcl_Kind := E.cl_Kind
    obtain ⟨v, d, L, rfl, hS, hm, hr', q⟩ := h
    refine ⟨_, PSs.nox (pss_cons (ps_if (PW.pt (pw_or (pt_not (pt_val (pe_callB (call_isiU K rfl) (by rfl) E.n_isinstance boot_isinstance (pa_cons (pv 0) (pa_cons (pe_ty "tuple" rfl E.n_tuple (by decide +kernel)) pa_nil))))) (pw_or1 (pt_cmpR (op_eqU K rfl hu) (pe_callB (call_lenU K rfl) (by rfl) E.n_len boot_len (pa_cons (pv 0) pa_nil)) pe_int (nomark _))))) (pss_one (ps_ret pe_bl)) pss_nil)
(pss_cons (ps_if (pt_cmpR (op_inU K rfl hu) (pe_ix (ix_U K rfl) (pv 0) pe_int (fun _ _ => rfl)) (pe_tup (pa_cons pe_str (pa_cons pe_str pa_nil))) (by with_unfolding_all rfl)) (pss_one (ps_ret (pe_and (pe_cmpR (op_eqU K rfl hu) (pe_callB (call_lenU K rfl) (by rfl) E.n_len boot_len (pa_cons (pv 0) pa_nil)) pe_int (nomark _)) (pe_and (pe_call G__law_shape_ok hr__law_shape_ok rfl E.g__law_shape_ok E.F__law_shape_ok.kp b__law_shape_ok .nil pass0 (pa_cons (pe_ix (ix_U K rfl) (pv 0) pe_int (fun _ _ => rfl)) pa_nil)) (pe_one (pe_call G__law_shape_ok hr__law_shape_ok rfl E.g__law_shape_ok E.F__law_shape_ok.kp b__law_shape_ok .nil pass0 (pa_cons (pe_ix (ix_U K rfl) (pv 0) pe_int (fun _ _ => rfl)) pa_nil))))))) pss_nil)
(pss_cons (ps_if (pt_cmpR (op_eqU K rfl hu) (pe_ix (ix_U K rfl) (pv 0) pe_int (fun _ _ => rfl)) pe_str (nomark _)) (pss_one (ps_ret (pe_and (pe_cmpR (op_eqU K rfl hu) (pe_callB (call_lenU K rfl) (by rfl) E.n_len boot_len (pa_cons (pv 0) pa_nil)) pe_int (nomark _)) (pe_one (pe_call G__law_shape_ok hr__law_shape_ok rfl E.g__law_shape_ok E.F__law_shape_ok.kp b__law_shape_ok .nil pass0 (pa_cons (pe_ix (ix_U K rfl) (pv 0) pe_int (fun _ _ => rfl)) pa_nil)))))) pss_nil)
(pss_one (ps_ret (pe_call G__law_leaf_ok hr__law_leaf_ok rfl E.g__law_leaf_ok E.F__law_leaf_ok.kp b__law_leaf_ok .nil pass0 (pa_cons (pv 0) pa_nil))))))), ?_⟩
    refine k_body (s1 := some _ :: []) rfl ?_
    walk_at "s"
    rcases raw_d hr' with ⟨s, rfl, hs⟩ | ⟨i, rfl⟩ | ⟨xs, m, rfl, hN, hxl, hh, hx⟩
    · obtain rfl := im_isStr hS hm
      rw [dec_atom (fun xs h => by cases h)] at q
      walk_at "s"
      exact q _ hS
    · obtain rfl := im_isInt hS hm
      rw [dec_atom (fun xs h => by cases h)] at q
      walk_at "s"
      exact q _ hS
    · obtain ⟨a, rfl⟩ := im_isRef hS hm
      walk_at "s"
      cases xs with
      | nil =>
        rw [dec_nil] at q
        rw [if_pos (by rfl)]
        walk_at "s"
        exact q _ hS
      | cons x r =>
        obtain ⟨z, rfl⟩ := hh x r rfl
        obtain rfl : n = m + 1 := hN
        rw [if_neg (by rw [decide_eq_false (by simp; omega)]; exact Bool.false_ne_true)]
        walk_at "s"
        rw [word2]
        have rcl : ∀ (v : V) (x : PyData) (H : Hp) (Q : VK) (E : XK) (L' : List (As K)), Ls.Sep L' H → im v x ∈ L' → Raw m x → (∀ H', Ls.Sep L' H' → Q (.bl (dec m x).isSome) H') → recSp (spLShape K) (m + 1) [v] H Q E := fun v x H Q E L' hS hm hx q => ⟨v, x, L', rfl, hS, hm, hx, q⟩
        by_cases h2 : wordK z = some 2
        · rw [decide_eq_true h2]
          walk_at "s"
          rw [dec_w2 h2] at q
          by_cases hl : ∃ x y, r = [x, y]
          · obtain ⟨x, y, rfl⟩ := hl
            have h1x := hx x (List.mem_cons_of_mem _ List.mem_cons_self)
            have h1y := hx y (List.mem_cons_of_mem _ (List.mem_cons_of_mem _ List.mem_cons_self))
            rw [if_pos (by rfl)]
            replace q : ∀ H', Ls.Sep L H' → Q (.bl ((dec m x).isSome && (dec m y).isSome)) H' := q
            walk_at "s"
            refine k_ixG hS (by walk_at "mem") (at01 _ _ _) fun v hS => ?_
            walk_at "s"
            refine rcl v x _ _ _ _ hS (by walk_at "mem") h1x fun H hS => ?_
            cases ex : (dec m x).isSome with
            | false =>
              rw [show ((dec m x).isSome && (dec m y).isSome) = false by rw [ex]; rfl] at q
              walk_at "s"
              exact q _ (Sub.ok (by walk_at "sub") hS)
            | true =>
              rw [show ((dec m x).isSome && (dec m y).isSome) = (dec m y).isSome by rw [ex]; rfl] at q
              walk_at "s"
              refine k_ixG hS (by walk_at "mem") (at02 _ _ _ _) fun u hS => ?_
              walk_at "s"
              refine rcl u y _ _ _ _ hS (by walk_at "mem") h1y fun H hS => ?_
              exact q _ (Sub.ok (by walk_at "sub") hS)
          · have e3 : decide (((PyData.str z :: r).length : Int) = 3) = false := decide_eq_false fun h => hl (by
              match r, h with
              | [x, y], _ => exact ⟨x, y, rfl⟩
              | [], h => simp at h
              | [x], h => simp at h
              | x :: y :: u :: r, h => simp at h; omega)
            rw [e3, if_neg Bool.false_ne_true]
            have e4 : two2 m r = false := by
              unfold two2
              split
              · exact (hl ⟨_, _, rfl⟩).elim
              · rfl
            rw [e4] at q
            exact q _ (Sub.ok (by walk_at "sub") hS)
        · rw [decide_eq_false h2]
          walk_at "s"
          rw [word1]
          by_cases h1 : wordK z = some 1
          · rw [decide_eq_true h1]
            walk_at "s"
            rw [dec_w1 h1] at q
            by_cases hl : ∃ x, r = [x]
            · obtain ⟨x, rfl⟩ := hl
              have h1x := hx x (List.mem_cons_of_mem _ List.mem_cons_self)
              rw [if_pos (by rfl)]
              walk_at "s"
              refine k_ixG hS (by walk_at "mem") (at01 _ _ _) fun v hS => ?_
              walk_at "s"
              refine rcl v x _ _ _ _ hS (by walk_at "mem") h1x fun H hS => ?_
              exact q _ (Sub.ok (by walk_at "sub") hS)
            · have e3 : decide (((PyData.str z :: r).length : Int) = 2) = false := decide_eq_false fun h => hl (by
                match r, h with
                | [x], _ => exact ⟨x, rfl⟩
                | [], h => simp at h
                | x :: y :: r, h => simp at h; omega)
              rw [e3, if_neg Bool.false_ne_true]
              have e4 : one1 m r = false := by
                unfold one1
                split
                · exact (hl ⟨_, rfl⟩).elim
                · rfl
              rw [e4] at q
              exact q _ (Sub.ok (by walk_at "sub") hS)
          · have h0 : wordK z = none := by
              cases hw : wordK z with
              | none => rfl
              | some k =>
                have := wordK_le hw
                rcases (show k = 1 ∨ k = 2 by omega) with rfl | rfl
                · exact (h1 hw).elim
                · exact (h2 hw).elim
            rw [decide_eq_false h1]
            walk_at "s"
            refine ⟨a, z, r, m + 1, _, rfl, hS, by walk_at "mem", ⟨hxl, hh, hx⟩, h0, fun H hS => ?_⟩
            have e : dec (m + 1) (.tuple (.str z :: r)) = Ls.leafOf z r := by
              rw [dec_tup, h0]
            rw [e] at q
            exact q _ (Sub.ok (by walk_at "sub") hS)
theorem ok__law_test_ok {P : Program} {w : World} {K : PySem.W.Frag} {mg : Str → Option Value} {base : Heap} (E : Env K mg w) : FnOk P w K mg base CX0 13 E.a__law_test_ok E.fd__law_test_ok ["_law_test_here"] (spLTestOk K) := by
  refine E.F__law_test_ok.ok sc__law_test_ok (fun vs H Q E h => ?_) (fun cdv A outer s H vs Q E' hr h => ?_)
  · walk_at "hl"
  · have hu := huOf hr
    have G__law_shape_ok := ok__law_shape_ok (P := P) (w := w) (base := base) E 9
    have hr__law_shape_ok := hr.mono (show 12 ≤ 12 by decide)
    have b__law_shape_ok := b__law_shape_ok E
    have G__law_deep := ok__law_deep (P := P) (w := w) (base := base) E 9
    have hr__law_deep := hr.mono (show 10 ≤ 12 by decide)
    have b__law_deep := b__law_deep E
    have G__law_parts := ok__law_parts (P := P) (w := w) (base := base) E 9
    have hr__law_parts := hr.mono (show 10 ≤ 12 by decide)
    have b__law_parts := b__law_parts E
    have hcl_Kind := E.cl_Kind
    obtain ⟨a, xs, n, L, rfl, hn, hS, hm, hr', q⟩ := h
    refine ⟨_, PSs.nox (pss_one (ps_ret (pe_and (pe_call G__law_shape_ok hr__law_shape_ok rfl E.g__law_shape_ok E.F__law_shape_ok.kp b__law_shape_ok .nil pass0 (pa_cons (pv 0) pa_nil)) (pe_and (pe_cmpR (op_le) (pe_call G__law_deep hr__law_deep rfl E.g__law_deep E.F__law_deep.kp b__law_deep .nil pass0 (pa_cons (pv 0) pa_nil)) pe_int (nomark _)) (pe_one (pe_cmpR (op_le) (pe_call G__law_parts hr__law_parts rfl E.g__law_parts E.F__law_parts.kp b__law_parts .nil pass0 (pa_cons (pv 0) pa_nil)) pe_int (nomark _))))))), ?_⟩
    refine k_body (s1 := some _ :: []) rfl ?_
    walk_at "s"
    refine ⟨.ref a, .tuple xs, _, rfl, hS, hm, hr'.mono (Nat.le_refl _) hn, fun H hS => ?_⟩
    cases e : dec 8 (.tuple xs) with
    | none =>
      have hi : ¬ IsT (.tuple xs) := fun h => by
        obtain ⟨t, h1, h2, h3, h4⟩ := isT_is h
        have := dec_of (n := 8) h2 (by omega)
        rw [h1, e] at this
        cases this
      rw [decide_eq_false hi] at q
      walk_at "s"
      rw [if_neg (by exact Bool.false_ne_true)]
      exact q _ hS
    | some t =>
      obtain ⟨ho, ed, h8⟩ := dec_ok e
      rw [← ed] at hm
      walk_at "s"
      rw [if_pos (by rfl)]
      walk_at "s"
      refine ⟨a, t, _, rfl, by show t.deep ≤ 9; omega, hS, hm, fun H hS => ?_⟩
      walk_at "s"
      by_cases h5 : t.deep ≤ 5
      · rw [if_pos (decide_eq_true (by omega))]
        walk_at "s"
        refine ⟨a, t, _, rfl, by show t.deep ≤ 9; omega, hS, hm, fun H hS => ?_⟩
        walk_at "s"
        rw [show decide ((t.parts : Int) ≤ 15) = decide (IsT (.tuple xs)) from decide_eq_decide.mpr ⟨fun h => ed ▸ isT_of ho h5 (by omega), fun h => by
          obtain ⟨t', h1, h2, h3, h4⟩ := isT_is h
          have := dec_of (n := 8) h2 (by omega)
          rw [h1, e] at this
          cases this
          omega⟩]
        exact q _ hS
      · have hi : ¬ IsT (.tuple xs) := fun h => by
          obtain ⟨t', h1, h2, h3, h4⟩ := isT_is h
          have := dec_of (n := 8) h2 (by omega)
          rw [h1, e] at this
          cases this
          exact h5 h3
        rw [decide_eq_false hi] at q
        rw [if_neg (by rw [decide_eq_false (by omega)]; exact Bool.false_ne_true)]
        exact q _ hS
end Lw
namespace Ls
open PySem PySem.Spec PyProof.Rows L2 TL
/-- so far: the least number and those asked of in ls -/
structure MkOk (fd : Fd) (ls : List Tst) (ks : List Int) : Prop where
  nd : ks.Nodup
  lo : fd.2.1 ∈ ks
  rg : ∀ m ∈ ks, fd.2.1 ≤ m ∧ m ≤ fd.2.2
  le : ∀ c, Tst.less fd.1 c ∈ ls → fd.2.1 ≤ c → c ≤ fd.2.2 → c ∈ ks
  sm : ∀ c, Tst.same fd.1 c ∈ ls → (fd.2.1 ≤ c → c ≤ fd.2.2 → c ∈ ks) ∧ (fd.2.1 ≤ c + 1 → c + 1 ≤ fd.2.2 → c + 1 ∈ ks)
  ln : ks.length ≤ 1 + 2 * ls.length
theorem MkOk.none {fd : Fd} {ls : List Tst} {ks : List Int} {t : Tst} (h : MkOk fd ls ks) (h1 : ∀ c, t ≠ .less fd.1 c) (h2 : ∀ c, t ≠ .same fd.1 c) : MkOk fd (ls ++ [t]) ks := by
  refine ⟨h.nd, h.lo, h.rg, fun c hc => ?_, fun c hc => ?_, by rw [List.length_append]; have := h.ln; omega⟩
  · rcases List.mem_append.mp hc with hc | hc
    · exact h.le c hc
    · exact (h1 c (List.mem_singleton.mp hc).symm).elim
  · rcases List.mem_append.mp hc with hc | hc
    · exact h.sm c hc
    · exact (h2 c (List.mem_singleton.mp hc).symm).elim
end Ls
namespace Lw
open PySem PySem.Spec PyProof.Rows L2 Ls
end Lw
namespace Ls
open PySem PySem.Spec PyProof.Rows L2 TL
/-- rows of values, in their order -/
inductive LexLt : List Int → List Int → Prop
  | here {a b : Int} {r s : List Int} : a < b → r.length = s.length → LexLt (a :: r) (b :: s)
  | there {a : Int} {r s : List Int} : LexLt r s → LexLt (a :: r) (a :: s)
theorem LexLt.len {r s : List Int} (h : LexLt r s) : r.length = s.length := by
  induction h with
  | here _ h => rw [List.length_cons, List.length_cons, h]
  | there _ ih => rw [List.length_cons, List.length_cons, ih]
theorem LexLt.trans {r s t : List Int} (h1 : LexLt r s) (h2 : LexLt s t) : LexLt r t := by
  induction h1 generalizing t with
  | here h hl =>
    cases h2 with
    | here h' hl' => exact .here (by omega) (by omega)
    | there h' => exact .here h (hl.trans h'.len)
  | there h ih =>
    cases h2 with
    | here h' hl' => exact .here h' (h.len.trans hl')
    | there h' => exact .there (ih h')
theorem LexLt.app {r s x y : List Int} (h : LexLt r s) (hl : x.length = y.length) : LexLt (r ++ x) (s ++ y) := by
  induction h with
  | @here _ _ r s h h2 => exact .here h (show (r ++ x).length = (s ++ y).length by rw [List.length_append, List.length_append]; omega)
  | there h ih => exact .there ih
def LexLe (r s : List Int) : Prop := r = s ∨ LexLt r s
theorem LexLe.trans {r s t : List Int} (h1 : LexLe r s) (h2 : LexLe s t) : LexLe r t := by
  rcases h1 with rfl | h1
  · exact h2
  · rcases h2 with rfl | h2
    · exact .inr h1
    · exact .inr (h1.trans h2)
/-- each part one of its numbers -/
def InP : List (List Int) → List Int → Prop
  | [], [] => True
  | ms :: mss, v :: vs => v ∈ ms ∧ InP mss vs
  | _, _ => False
theorem InP.len : ∀ {mss : List (List Int)} {v : List Int}, InP mss v → v.length = mss.length
  | [], [], _ => rfl
  | _ :: _, _ :: _, h => congrArg Nat.succ (InP.len h.2)
end Ls
namespace Ls
open PySem PySem.Spec PyProof.Rows L2 TL
end Ls
namespace Ls
open PySem PySem.Spec PyProof.Rows L2 LamX
/-- the first value that is none of its field, or the lesser count where the counts differ -/
def needV : Nat → List Fd → List Int → Option Nat
  | _, [], [] => none
  | n, f :: fs, u :: us => if f.2.1 ≤ u ∧ u ≤ f.2.2 then needV (n + 1) fs us else some n
  | n, _, _ => some n
theorem needV_end {n : Nat} : ∀ {fs : List Fd} {us : List Int}, fs.length ≠ us.length → fs = [] ∨ us = [] → needV n fs us = some n
  | [], [], h, _ => absurd rfl h
  | [], _ :: _, _, _ => rfl
  | _ :: _, [], _, _ => rfl
  | _ :: _, _ :: _, _, h => by rcases h with h | h <;> cases h
def spNeedX (K : PySem.W.Frag) (C CB : Addr) : Sp := fun vs H Q E => ∃ (x v : Addr) (k : Kd) (us : List Int) (L : List (As K)), vs = [.ref x, .ref v] ∧ Ls.Sep L H ∧ kindF C x k ∈ L ∧ im (.ref v) (.tuple (us.map PyData.int)) ∈ L ∧ k.2.length ≤ 4 ∧ us.length ≤ 100 ∧
  (needV 0 k.2 us = none → ∀ H', Ls.Sep L H' → Q .non H') ∧ ∀ i, needV 0 k.2 us = some i → LetsA L CB "at" "badvalue" (.int (i : Nat)) E
end Ls
namespace Lw
open PySem PySem.Spec PyProof.Rows L2 Ls LamX
theorem okX_Kind_need {P : Program} {w : World} {K : PySem.W.Frag} {mg : Str → Option Value} {base : Heap} (E : Env K mg w) : FnOk P w K mg base (L2.CX P w) 4 E.a_Kind_need E.fd_Kind_need ["self", "values"] (spNeedX K E.C_Kind E.C_BadValue) := by
  refine E.F_Kind_need.ok sc_Kind_need (fun vs H Q E h => ?_) (fun cdv A outer s H vs Q E' hr h => ?_)
  · walk_at "hl"
  · have hu := huOf hr
    have GI_BadValue := okI_BadValue (P := P) (w := w) (base := base) E
    have hrI_BadValue := hr.mono (show 3 ≤ 3 by decide)
    have bI_BadValue := bI_BadValue E
    have hcl_Kind := E.cl_Kind
    have hna_Kind_fields := E.na_Kind_fields
    obtain ⟨x, v, k, us, L, rfl, hS, hk, hv, h4, h5, q1, q2⟩ := h
    refine ⟨_, (pss_cons (ps_for (passes_of rfl) rfl (pi_ez K rfl rfl E.n_enumerate rfl E.n_zip (pa_cons (kFld K rfl (pe_fld (pv 0) rfl)) (pa_cons (pv 1) pa_nil))) (kGTup (n := 2) K rfl (pg_tup rfl (pgs_cons (pg_name (i := 2) sc_Kind_need.nd rfl (Or.inl rfl)) (pgs_cons (kGTup (n := 2) K rfl (pg_tup rfl (pgs_cons (kGTup (n := 3) K rfl (pg_tup rfl (pgs_cons (pg_name (i := 3) sc_Kind_need.nd rfl (Or.inl rfl)) (pgs_cons (pg_name (i := 4) sc_Kind_need.nd rfl (Or.inl rfl)) (pgs_cons (pg_name (i := 5) sc_Kind_need.nd rfl (Or.inl rfl)) pgs_nil))))) (pgs_cons (pg_name (i := 6) sc_Kind_need.nd rfl (Or.inl rfl)) pgs_nil)))) pgs_nil))))
(pss_one (ps_if (pt_not (pt_chain op_le op_le (pv 4) (pv 6) (pv 5))) (pss_one (ps_raise rfl (takes_of rfl rfl rfl rfl) (pmk_oex E.o_BadValue E.i_BadValue E.t_BadValue GI_BadValue hrI_BadValue bI_BadValue .nil pass0 rfl E.g_BadValue (pa_cons (pv 2) pa_nil)))) pss_nil)))
(pss_one (ps_if (pt_cmpR (op_neU K rfl hu) (pe_callB (call_lenU K rfl) (by rfl) E.n_len boot_len (pa_cons (pv 1) pa_nil)) (pe_callB (call_lenU K rfl) (by rfl) E.n_len boot_len (pa_cons (kFld K rfl (pe_fld (pv 0) rfl)) pa_nil)) (nomark _)) (pss_one (ps_raise rfl (takes_of rfl rfl rfl rfl) (pmk_oex E.o_BadValue E.i_BadValue E.t_BadValue GI_BadValue hrI_BadValue bI_BadValue .nil pass0 rfl E.g_BadValue (pa_cons (pe_callB (call_minU K rfl rfl) (by rfl) E.n_min boot_min (pa_cons (pe_callB (call_lenU K rfl) (by rfl) E.n_len boot_len (pa_cons (pv 1) pa_nil)) (pa_cons (pe_callB (call_lenU K rfl) (by rfl) E.n_len boot_len (pa_cons (kFld K rfl (pe_fld (pv 0) rfl)) pa_nil)) pa_nil))) pa_nil)))) pss_nil))), ?_⟩
    refine k_body (s1 := some _ :: some _ :: [none, none, none, none, none]) rfl ?_
    walk_at "s"
    refine k_ez ?_
    walk_at "s"
    refine k_ezI hS (by walk_at "mem") (by walk_at "mem") ?_
    refine for_wk (n := min k.2.length us.length) (Y := fun i q => ∀ z u T, k.2[i]? = some z → us[i]? = some u → q (.ref T) [im (.ref T) (.tuple [.int (i : Nat), .tuple [fdD z, .int u]])]) (fun i σ L' => L' = im (.ref f) (fdsD k.2) :: L ∧ needV 0 k.2 us = needV i (k.2.drop i) (us.drop i) ∧ ∃ c2 c3 c4 c5 c6, σ = [some (.ref x), some (.ref v), c2, c3, c4, c5, c6]) (fun i σ L' e => by obtain ⟨rfl, _⟩ := e; exact wk_ezM (f := fdD) (g := PyData.int) (by walk_at "mem") (by walk_at "mem")) hS ⟨rfl, rfl, _, _, _, _, _, rfl⟩ (fun i σ L' hi iv z u T hz hu H hS => ?_) (fun σ L' H iv hS => ?_)
    · obtain ⟨rfl, en, c2, c3, c4, c5, c6, rfl⟩ := iv
      walk_at "ns"
      have d1 : k.2.drop i = z :: k.2.drop (i + 1) := (List.drop_eq_getElem_cons (List.getElem?_eq_some_iff.mp hz).1).trans (by rw [(List.getElem?_eq_some_iff.mp hz).2])
      have d2 : us.drop i = u :: us.drop (i + 1) := (List.drop_eq_getElem_cons (List.getElem?_eq_some_iff.mp hu).1).trans (by rw [(List.getElem?_eq_some_iff.mp hu).2])
      rw [d1, d2, needV] at en
      by_cases b1 : z.2.1 ≤ u
      · by_cases b2 : u ≤ z.2.2
        · rw [if_pos ⟨b1, b2⟩] at en
          walk_at "s"
          exact ⟨_, ⟨rfl, en, _, _, _, _, _, rfl⟩, Sub.ok (by walk_at "sub") hS⟩
        · rw [if_neg (fun z => b2 z.2)] at en
          walk_at "s"
          refine k_mk ?_
          walk_at "s"
          exact raise_letsA E.o_BadValue E.w_BadValue E.f_BadValue hS ((q2 _ en).sub (by walk_at "sub"))
      · rw [if_neg (fun z => b1 z.1)] at en
        walk_at "s"
        refine k_mk ?_
        walk_at "s"
        exact raise_letsA E.o_BadValue E.w_BadValue E.f_BadValue hS ((q2 _ en).sub (by walk_at "sub"))
    · obtain ⟨rfl, en, c2, c3, c4, c5, c6, rfl⟩ := iv
      walk_at "s"
      by_cases e : us.length = k.2.length
      · rw [if_neg (by rw [decide_eq_true (by rw [List.length_map, List.length_map, e])]; exact Bool.false_ne_true)]
        walk_at "s"
        rw [List.drop_of_length_le (by omega), List.drop_of_length_le (by omega)] at en
        exact q1 en _ (Sub.ok (by walk_at "sub") hS)
      · have en2 := needV_end (n := min k.2.length us.length) (fs := k.2.drop (min k.2.length us.length)) (us := us.drop (min k.2.length us.length)) (by rw [List.length_drop, List.length_drop]; omega) (by
          rcases Nat.le_total k.2.length us.length with h | h
          · exact .inl (List.drop_of_length_le (by omega))
          · exact .inr (List.drop_of_length_le (by omega)))
        rw [en2] at en
        rw [if_pos (by rw [decide_eq_false (by rw [List.length_map, List.length_map]; omega)]; rfl)]
        refine k_mk ?_
        walk_at "s"
        have ei : (if (((k.2.map fdD).length : Nat) : Int) < (((us.map PyData.int).length : Nat) : Int) then (((k.2.map fdD).length : Nat) : Int) else (((us.map PyData.int).length : Nat) : Int)) = ((min k.2.length us.length : Nat) : Int) := by
          rw [List.length_map, List.length_map]
          split <;> omega
        rw [ei]
        exact raise_letsA E.o_BadValue E.w_BadValue E.f_BadValue hS ((q2 _ en).sub (by walk_at "sub"))
end Lw
namespace Ls
open PySem PySem.Spec PyProof.Rows L2 TL
def InF (fs : List Fd) (us : List Int) : Prop := us.length = fs.length ∧ ∀ (i : Nat) (f : Fd) (u : Int), fs[i]? = some f → us[i]? = some u → f.2.1 ≤ u ∧ u ≤ f.2.2
theorem needV_inF : ∀ {fs : List Fd} {us : List Int} {n : Nat}, needV n fs us = none ↔ InF fs us
  | [], [], n => Iff.intro (fun _ => ⟨rfl, fun i f u h => by simp at h⟩) (fun _ => rfl)
  | [], u :: us, n => Iff.intro (fun h => (by cases h)) (fun h => absurd h.1 (Nat.succ_ne_zero _))
  | f :: fs, [], n => Iff.intro (fun h => (by cases h)) (fun h => absurd h.1.symm (Nat.succ_ne_zero _))
  | f :: fs, u :: us, n => by
    rw [needV]
    by_cases c : f.2.1 ≤ u ∧ u ≤ f.2.2
    · rw [if_pos c, needV_inF (fs := fs) (us := us) (n := n + 1)]
      refine Iff.intro (fun ⟨h1, h2⟩ => ⟨by rw [List.length_cons, List.length_cons, h1], fun i g v hg hv => ?_⟩) (fun ⟨h1, h2⟩ => ⟨Nat.succ.inj h1, fun i g v hg hv => h2 (i + 1) g v hg hv⟩)
      cases i with
      | zero => cases hg; cases hv; exact c
      | succ i => exact h2 i g v hg hv
    · rw [if_neg c]
      exact Iff.intro (fun h => (by cases h)) (fun h => (c (h.2 0 f u rfl rfl)).elim)
def spLPasses (K : PySem.W.Frag) (n : Nat) : Sp := fun vs H Q _ => ∃ (a f v : Addr) (t : Tst) (k : Kd) (us : List Int) (L : List (As K)), vs = [.ref a, .str k.1, .ref f, .ref v] ∧ t.deep ≤ n + 1 ∧ Ls.Sep L H ∧ im (.ref a) t.D ∈ L ∧ im (.ref f) (fdsD k.2) ∈ L ∧ im (.ref v) (.tuple (us.map PyData.int)) ∈ L ∧ k.2.length ≤ 4 ∧ us.length = k.2.length ∧ ∀ H', Ls.Sep L H' → Q (.bl (t.pass k us)) H'
/-- the numbers of the fields of a name -/
def spotsF (fs : List Fd) (x : Str) (n : Nat) : List Nat := (List.range n).filter fun i => decide ((fs.map (·.1))[i]? = some x)
theorem spots_head (fs : List Fd) (x : Str) : (spotsF fs x fs.length).head? = spotF fs x := by
  unfold spotsF
  rw [List.head?_filter]
  cases e : spotF fs x with
  | none =>
    rw [List.find?_eq_none]
    intro i hi
    have hn := spotF_none.mp e
    rw [decide_eq_true_eq]
    intro h
    exact hn (List.mem_of_getElem? h)
  | some j =>
    obtain ⟨h1, h2⟩ := spotF_lt e
    rw [List.find?_range_eq_some]
    exact ⟨decide_eq_true h2, List.mem_range.mpr h1, fun i hi => by rw [decide_eq_false (spotF_first e i hi)]; rfl⟩
theorem spotsF_succ (fs : List Fd) (x : Str) (n : Nat) : spotsF fs x (n + 1) = spotsF fs x n ++ (if (fs.map (·.1))[n]? = some x then [n] else []) := by
  unfold spotsF
  rw [List.range_succ, List.filter_append]
  congr 1
  by_cases h : (fs.map (·.1))[n]? = some x
  · rw [if_pos h, List.filter_cons, if_pos (decide_eq_true h)]
    rfl
  · rw [if_neg h, List.filter_cons, if_neg (by rw [decide_eq_false h]; exact Bool.false_ne_true)]
    rfl
theorem spotsF_len (fs : List Fd) (x : Str) (n : Nat) : (spotsF fs x n).length ≤ n := by
  have := List.length_filter_le (fun i => decide ((fs.map (·.1))[i]? = some x)) (List.range n)
  rw [List.length_range] at this
  exact this
end Ls
namespace Lw
open PySem PySem.Spec PyProof.Rows L2 Ls
theorem ok__law_passes {P : Program} {w : World} {K : PySem.W.Frag} {mg : Str → Option Value} {base : Heap} (E : Env K mg w) : ∀ n : Nat, FnOk P w K mg base CX0 (1 + n) E.a__law_passes E.fd__law_passes ["_law_test_here", "_law_title", "_law_fields_here", "_law_values_here"] (recSp (spLPasses K) n) := by
  intro n
  induction n with
  | zero => exact E.F__law_passes.ok sc__law_passes (fun vs H Q E h => h.elim) (fun cdv A outer s H vs Q E' hr h => h.elim)
  | succ n ih =>
  replace ih : FnOk P w K mg base CX0 (1 + n) E.a__law_passes E.fd__law_passes ["_law_test_here", "_law_title", "_law_fields_here", "_law_values_here"] (recSp (spLPasses K) n) := ih
  show FnOk P w K mg base CX0 (1 + n + 1) E.a__law_passes E.fd__law_passes ["_law_test_here", "_law_title", "_law_fields_here", "_law_values_here"] ((spLPasses K) n)
  refine E.F__law_passes.ok sc__law_passes (fun vs H Q E h => ?_) (fun cdv A outer s H vs Q E' hr h => ?_)
  · walk_at "hl"
  · have hu := huOf hr
    have G__law_passes := ih
    have hr__law_passes := hr
    have b__law_passes := b__law_passes E
    have hcl_Kind := E.cl_Kind
    obtain ⟨a, f, v, t, k, us, L, rfl, hd, hS, hm, hf, hv, h4, hl, q⟩ := h
    refine ⟨_, PSs.nox (pss_cons (ps_if (pt_cmpR (op_eqU K rfl hu) (pe_ix (ix_U K rfl) (pv 0) pe_int (fun _ _ => rfl)) pe_str (nomark _)) (pss_one (ps_ret (pe_not (pe_call G__law_passes hr__law_passes rfl E.g__law_passes E.F__law_passes.kp b__law_passes .nil pass0 (pa_cons (pe_ix (ix_U K rfl) (pv 0) pe_int (fun _ _ => rfl)) (pa_cons (pv 1) (pa_cons (pv 2) (pa_cons (pv 3) pa_nil)))))))) pss_nil)
(pss_cons (ps_if (pt_cmpR (op_inU K rfl hu) (pe_ix (ix_U K rfl) (pv 0) pe_int (fun _ _ => rfl)) (pe_tup (pa_cons pe_str (pa_cons pe_str pa_nil))) (by with_unfolding_all rfl)) (pss_cons (ps_setLc (i := 4) (own := [("_law_part", 5)]) rfl sc__law_passes.nd rfl rfl (sw_true rfl rfl rfl (by decide +kernel)) (pi_seqU K rfl (pe_slice (sl_U K rfl) (pv 0) (po_some pe_int) po_none)) (blkOk_by (N := ["_law_test_here", "_law_title", "_law_fields_here", "_law_values_here", "_law_both", "_law_part", "_law_spots", "_law_at"]) (sc := defScope s__law_passes) (by decide +kernel)) (fun _ _ _ _ _ => (pg_name (i := 5) sc__law_passes.nd rfl (Or.inl rfl))) (fun _ _ _ _ _ => pts_nil) (fun _ _ _ _ _ => (pe_call G__law_passes hr__law_passes rfl E.g__law_passes E.F__law_passes.kp b__law_passes .nil pass0 (pa_cons (pv 5) (pa_cons (pv 1) (pa_cons (pv 2) (pa_cons (pv 3) pa_nil)))))))
(pss_one (ps_ret (pe_join (pe_ifExp (pt_cmpR (op_eqU K rfl hu) (pe_ix (ix_U K rfl) (pv 0) pe_int (fun _ _ => rfl)) pe_str (nomark _)) (pe_callB (cr_allU K rfl rfl) (by rfl) E.n_all boot_all (pa_cons (pv 4) pa_nil)) (pe_callB (cr_anyU K rfl rfl) (by rfl) E.n_any boot_any (pa_cons (pv 4) pa_nil))))))) pss_nil)
(pss_cons (ps_if (pt_cmpR (op_eqU K rfl hu) (pe_ix (ix_U K rfl) (pv 0) pe_int (fun _ _ => rfl)) pe_str (nomark _)) (pss_one (ps_ret pe_bl)) pss_nil)
(pss_cons (ps_if (pt_cmpR (op_eqU K rfl hu) (pe_ix (ix_U K rfl) (pv 0) pe_int (fun _ _ => rfl)) pe_str (nomark _)) (pss_one (ps_ret (pe_cmpR (op_eqU K rfl hu) (pv 1) (pe_ix (ix_U K rfl) (pv 0) pe_int (fun _ _ => rfl)) (nomark _)))) pss_nil)
(pss_cons (ps_setLc (i := 6) (own := [("_law_at", 7)]) rfl sc__law_passes.nd rfl rfl (sw_true rfl rfl rfl (by decide +kernel)) (pi_range1 rfl E.n_range (pa_cons (pe_callB (call_lenU K rfl) (by rfl) E.n_len boot_len (pa_cons (pv 2) pa_nil)) pa_nil)) (blkOk_by (N := ["_law_test_here", "_law_title", "_law_fields_here", "_law_values_here", "_law_both", "_law_part", "_law_spots", "_law_at"]) (sc := defScope s__law_passes) (by decide +kernel)) (fun _ _ _ _ _ => (pg_name (i := 7) sc__law_passes.nd rfl (Or.inl rfl))) (fun _ _ _ _ _ => (pts_one (pt_cmpR (op_eqU K rfl hu) (pe_ix (ix_U K rfl) (pe_ix (ix_U K rfl) (pv 2) (pv 7) (fun _ _ => rfl)) pe_int (fun _ _ => rfl)) (pe_ix (ix_U K rfl) (pv 0) pe_int (fun _ _ => rfl)) (nomark _)))) (fun _ _ _ _ _ => (pv 7)))
(pss_cons (ps_if (pt_cmpR (op_eqU K rfl hu) (pe_callB (call_lenU K rfl) (by rfl) E.n_len boot_len (pa_cons (pv 6) pa_nil)) pe_int (nomark _)) (pss_one (ps_ret pe_bl)) pss_nil)
(pss_one (ps_ret (pe_join (pe_ifExp (pt_cmpR (op_eqU K rfl hu) (pe_ix (ix_U K rfl) (pv 0) pe_int (fun _ _ => rfl)) pe_str (nomark _)) (pe_cmpR (op_lt) (pe_ix (ix_U K rfl) (pv 3) (pe_ix (ix_U K rfl) (pv 6) pe_int (fun _ _ => rfl)) (fun _ _ => rfl)) (pe_ix (ix_U K rfl) (pv 0) pe_int (fun _ _ => rfl)) (nomark _)) (pe_cmpR (op_eqU K rfl hu) (pe_ix (ix_U K rfl) (pv 3) (pe_ix (ix_U K rfl) (pv 6) pe_int (fun _ _ => rfl)) (fun _ _ => rfl)) (pe_ix (ix_U K rfl) (pv 0) pe_int (fun _ _ => rfl)) (nomark _)))))))))))), ?_⟩
    refine k_body (s1 := some _ :: some _ :: some _ :: some _ :: [none, none, none, none]) rfl ?_
    rcases t.view with ⟨z, r, ed, hw, el, hp1, hd1, _⟩ | ⟨z, ts, ed, hw, el, hpp, _, _, hlt, hmk⟩
    · cases t with
      | all =>
        dsimp only [Tst.D] at hm
        walk_at "s"
        rw [if_neg (by decide +kernel)]
        walk_at "s"
        rw [if_neg (by decide +kernel)]
        walk_at "s"
        rw [if_pos (by decide +kernel)]
        walk_at "s"
        exact q _ (Sub.ok (by walk_at "sub") hS)
      | is x =>
        dsimp only [Tst.D] at hm
        walk_at "s"
        rw [if_neg (by decide +kernel)]
        walk_at "s"
        rw [if_neg (by decide +kernel)]
        walk_at "s"
        rw [if_neg (by decide +kernel)]
        walk_at "s"
        rw [if_pos (by decide +kernel)]
        walk_at "s"
        exact q _ (Sub.ok (by walk_at "sub") hS)
      | less x c =>
        dsimp only [Tst.D] at hm
        have ep : (Tst.less x c).pass k us = (match (spotF k.2 x).bind fun i => us[i]? with | none => false | some u => decide (u < c)) := rfl
        rw [ep] at q
        have hlm : (k.2.map fdD).length = k.2.length := List.length_map ..
        walk_at "s"
        rw [if_neg (by decide +kernel)]
        walk_at "s"
        rw [if_neg (by decide +kernel)]
        walk_at "s"
        rw [if_neg (by decide +kernel)]
        walk_at "s"
        rw [if_neg (by decide +kernel)]
        walk_at "s"
        rename Addr => pD
        replace hS : Ls.Sep (Ls.ld pD [] :: L) _ := Sub.ok (by walk_at "sub") hS
        refine lc_wk (L := L) (n := ((k.2.map fdD).length : Int).toNat) (fun i acc L' => L' = L ∧ acc = (spotsF k.2 x i).map fun j : Nat => PyData.int j) (fun i acc L' _ => wk_rng) hS ⟨rfl, rfl⟩ (fun i acc L' hi iv H hS => ?_) (fun acc L' H iv hS => ?_)
        · obtain ⟨rfl, rfl⟩ := iv
          rw [Int.toNat_natCast, List.length_map] at hi
          obtain ⟨z, hz⟩ : ∃ z, k.2[i]? = some z := ⟨_, List.getElem?_eq_getElem hi⟩
          have hx : atI (k.2.map fdD) (0 + (i : Int)) = some (fdD z) := by
            rw [Int.zero_add]
            exact atI_nat (by rw [List.getElem?_map, hz]; rfl)
          have hsl := spotsF_len k.2 x i
          walk_at "ls"
          have es := spotsF_succ k.2 x i
          have ez : (k.2.map (·.1))[i]? = some z.1 := by rw [List.getElem?_map, hz]; rfl
          rw [ez] at es
          by_cases e : z.1 = x
          · rw [if_pos (by rw [e])] at es
            rw [if_pos (decide_eq_true e)]
            walk_at "s"
            refine lc_keep hS (d := .int (i : Nat)) (by rw [Int.zero_add]; exact .int _) (by walk_at "sub") (by rw [List.length_map, sizeLine_eq]; omega) ⟨rfl, by rw [es, List.map_append]; rfl⟩
          · rw [if_neg fun y => e (Option.some.inj y), List.append_nil] at es
            rw [if_neg (by rw [decide_eq_false e]; exact Bool.false_ne_true)]
            exact lc_skip hS (by walk_at "sub") ⟨rfl, by rw [es]⟩
        obtain ⟨rfl, rfl⟩ := iv
        rw [Int.toNat_natCast, List.length_map] at hS
        have hsp := spots_head k.2 x
        walk_at "s"
        cases e : spotF k.2 x with
        | none =>
          rw [e] at q hsp
          rw [List.head?_eq_none_iff.mp hsp, if_pos (by rfl)]
          walk_at "s"
          exact q _ (Sub.ok (by walk_at "sub") hS)
        | some j =>
          obtain ⟨h1, h2⟩ := spotF_lt e
          obtain ⟨u, hu'⟩ : ∃ u, us[j]? = some u := ⟨_, List.getElem?_eq_getElem (by omega)⟩
          rw [e] at q hsp
          replace q : ∀ H', Ls.Sep _ H' → Q (.bl (match us[j]? with | none => false | some u => decide (u < c))) H' := q
          rw [hu'] at q
          obtain ⟨R, eR⟩ : ∃ R, spotsF k.2 x k.2.length = j :: R := by
            cases eq : spotsF k.2 x k.2.length with
            | nil => rw [eq] at hsp; cases hsp
            | cons y R =>
              rw [eq] at hsp
              cases hsp
              exact ⟨R, rfl⟩
          rw [eR] at hS ⊢
          rw [if_neg (by rw [decide_eq_false (by simp; omega)]; exact Bool.false_ne_true)]
          have hx : atI (us.map PyData.int) ((j : Nat) : Int) = some (.int u) := atI_nat (by rw [List.getElem?_map, hu']; rfl)
          have h0 : atI ((j :: R).map fun j : Nat => PyData.int j) 0 = some (.int (j : Nat)) := at00 _ _
          walk_at "s"
          refine k_nojoin ?_
          walk_at "s"
          rw [if_pos (by decide +kernel)]
          walk_at "s"
          exact q _ (Sub.ok (by walk_at "sub") hS)
      | same x c =>
        dsimp only [Tst.D] at hm
        have ep : (Tst.same x c).pass k us = (match (spotF k.2 x).bind fun i => us[i]? with | none => false | some u => decide (u = c)) := rfl
        rw [ep] at q
        have hlm : (k.2.map fdD).length = k.2.length := List.length_map ..
        walk_at "s"
        rw [if_neg (by decide +kernel)]
        walk_at "s"
        rw [if_neg (by decide +kernel)]
        walk_at "s"
        rw [if_neg (by decide +kernel)]
        walk_at "s"
        rw [if_neg (by decide +kernel)]
        walk_at "s"
        rename Addr => pD
        replace hS : Ls.Sep (Ls.ld pD [] :: L) _ := Sub.ok (by walk_at "sub") hS
        refine lc_wk (L := L) (n := ((k.2.map fdD).length : Int).toNat) (fun i acc L' => L' = L ∧ acc = (spotsF k.2 x i).map fun j : Nat => PyData.int j) (fun i acc L' _ => wk_rng) hS ⟨rfl, rfl⟩ (fun i acc L' hi iv H hS => ?_) (fun acc L' H iv hS => ?_)
        · obtain ⟨rfl, rfl⟩ := iv
          rw [Int.toNat_natCast, List.length_map] at hi
          obtain ⟨z, hz⟩ : ∃ z, k.2[i]? = some z := ⟨_, List.getElem?_eq_getElem hi⟩
          have hx : atI (k.2.map fdD) (0 + (i : Int)) = some (fdD z) := by
            rw [Int.zero_add]
            exact atI_nat (by rw [List.getElem?_map, hz]; rfl)
          have hsl := spotsF_len k.2 x i
          walk_at "ls"
          have es := spotsF_succ k.2 x i
          have ez : (k.2.map (·.1))[i]? = some z.1 := by rw [List.getElem?_map, hz]; rfl
          rw [ez] at es
          by_cases e : z.1 = x
          · rw [if_pos (by rw [e])] at es
            rw [if_pos (decide_eq_true e)]
            walk_at "s"
            refine lc_keep hS (d := .int (i : Nat)) (by rw [Int.zero_add]; exact .int _) (by walk_at "sub") (by rw [List.length_map, sizeLine_eq]; omega) ⟨rfl, by rw [es, List.map_append]; rfl⟩
          · rw [if_neg fun y => e (Option.some.inj y), List.append_nil] at es
            rw [if_neg (by rw [decide_eq_false e]; exact Bool.false_ne_true)]
            exact lc_skip hS (by walk_at "sub") ⟨rfl, by rw [es]⟩
        obtain ⟨rfl, rfl⟩ := iv
        rw [Int.toNat_natCast, List.length_map] at hS
        have hsp := spots_head k.2 x
        walk_at "s"
        cases e : spotF k.2 x with
        | none =>
          rw [e] at q hsp
          rw [List.head?_eq_none_iff.mp hsp, if_pos (by rfl)]
          walk_at "s"
          exact q _ (Sub.ok (by walk_at "sub") hS)
        | some j =>
          obtain ⟨h1, h2⟩ := spotF_lt e
          obtain ⟨u, hu'⟩ : ∃ u, us[j]? = some u := ⟨_, List.getElem?_eq_getElem (by omega)⟩
          rw [e] at q hsp
          replace q : ∀ H', Ls.Sep _ H' → Q (.bl (match us[j]? with | none => false | some u => decide (u = c))) H' := q
          rw [hu'] at q
          obtain ⟨R, eR⟩ : ∃ R, spotsF k.2 x k.2.length = j :: R := by
            cases eq : spotsF k.2 x k.2.length with
            | nil => rw [eq] at hsp; cases hsp
            | cons y R =>
              rw [eq] at hsp
              cases hsp
              exact ⟨R, rfl⟩
          rw [eR] at hS ⊢
          rw [if_neg (by rw [decide_eq_false (by simp; omega)]; exact Bool.false_ne_true)]
          have hx : atI (us.map PyData.int) ((j : Nat) : Int) = some (.int u) := atI_nat (by rw [List.getElem?_map, hu']; rfl)
          have h0 : atI ((j :: R).map fun j : Nat => PyData.int j) 0 = some (.int (j : Nat)) := at00 _ _
          walk_at "s"
          refine k_nojoin ?_
          walk_at "s"
          rw [if_neg (by decide +kernel)]
          walk_at "s"
          exact q _ (Sub.ok (by walk_at "sub") hS)
      | no a => exact absurd hd1 (by show a.deep + 1 ≠ 1; have := deep_pos a; omega)
      | an a b => exact absurd hd1 (by show max a.deep b.deep + 1 ≠ 1; have := deep_pos a; omega)
      | or a b => exact absurd hd1 (by show max a.deep b.deep + 1 ≠ 1; have := deep_pos a; omega)
    · cases t with
      | no b =>
        have hd' : b.deep + 1 ≤ n + 1 := hd
        obtain ⟨n', rfl⟩ : ∃ n', n = n' + 1 := ⟨n - 1, by have := deep_pos b; omega⟩
        dsimp only [Tst.D] at hm
        walk_at "s"
        rw [if_pos (by decide +kernel)]
        walk_at "s"
        refine k_ixG hS hm (at01 _ _ _) fun u hS => ?_
        obtain ⟨pb, rfl⟩ := im_isD hS List.mem_cons_self
        walk_at "s"
        refine ⟨pb, f, v, b, k, us, _, rfl, by omega, hS, by walk_at "mem", by walk_at "mem", by walk_at "mem", h4, hl, fun H hS => ?_⟩
        walk_at "s"
        exact q _ (Sub.ok (by walk_at "sub") hS)
      | an b c =>
        have hd' : max b.deep c.deep + 1 ≤ n + 1 := hd
        obtain ⟨n', rfl⟩ : ∃ n', n = n' + 1 := ⟨n - 1, by have := deep_pos b; omega⟩
        dsimp only [Tst.D] at hm
        walk_at "s"
        rw [if_neg (by decide +kernel)]
        walk_at "s"
        rw [if_pos (by decide +kernel)]
        walk_at "s"
        obtain ⟨ts2, h2⟩ : ∃ ts2 : List Tst, ts2 = [b, c] := ⟨_, rfl⟩
        have hl2 : ts2.length = 2 := by rw [h2]; rfl
        rename_i ps _
        rw [show Ls.cutD [PyData.str "and", b.D, c.D] (some 1) none = ts2.map Tst.D by rw [cut1D, h2]; rfl] at hS
        refine lc_flat (zs := ts2) (fun t => [PyData.bool (t.pass k us)]) hS (fun acc => wk_imT (by walk_at "mem")) (fun j x acc hx hk _ la pb => ?_) (fun H hS => ?_)
        · clear hS
          intro H hS
          have hj := (List.getElem?_eq_some_iff.mp hx).1
          have hxm : x.deep ≤ n' + 1 := by
            have := List.mem_of_getElem? hx
            rw [h2] at this
            simp only [List.mem_cons, List.not_mem_nil, or_false] at this
            rcases this with rfl | rfl <;> omega
          walk_at "ls"
          refine ⟨pb, f, v, x, k, us, _, rfl, hxm, hS, by walk_at "mem", by walk_at "mem", by walk_at "mem", h4, hl, fun H hS => ?_⟩
          exact lc_keep hS (d := .bool (x.pass k us)) (.bl _) (by walk_at "sub") (by rw [sizeLine_eq]; omega) (hk _ rfl)
        rw [flat_map (fun t : Tst => PyData.bool (t.pass k us))] at hS
        walk_at "s"
        refine k_nojoin ?_
        walk_at "s"
        rw [if_pos (by decide +kernel)]
        walk_at "s"
        refine k_allS (zs := ts2) (f := fun t : Tst => t.pass k us) hS (by walk_at "mem") ?_
        rw [h2, show ([b, c].all fun t : Tst => t.pass k us) = (Tst.an b c).pass k us by
          show (b.pass k us && (c.pass k us && true)) = (b.pass k us && c.pass k us)
          cases b.pass k us <;> cases c.pass k us <;> rfl]
        exact q _ (Sub.ok (by walk_at "sub") hS)
      | or b c =>
        have hd' : max b.deep c.deep + 1 ≤ n + 1 := hd
        obtain ⟨n', rfl⟩ : ∃ n', n = n' + 1 := ⟨n - 1, by have := deep_pos b; omega⟩
        dsimp only [Tst.D] at hm
        walk_at "s"
        rw [if_neg (by decide +kernel)]
        walk_at "s"
        rw [if_pos (by decide +kernel)]
        walk_at "s"
        obtain ⟨ts2, h2⟩ : ∃ ts2 : List Tst, ts2 = [b, c] := ⟨_, rfl⟩
        have hl2 : ts2.length = 2 := by rw [h2]; rfl
        rename_i ps _
        rw [show Ls.cutD [PyData.str "or", b.D, c.D] (some 1) none = ts2.map Tst.D by rw [cut1D, h2]; rfl] at hS
        refine lc_flat (zs := ts2) (fun t => [PyData.bool (t.pass k us)]) hS (fun acc => wk_imT (by walk_at "mem")) (fun j x acc hx hk _ la pb => ?_) (fun H hS => ?_)
        · clear hS
          intro H hS
          have hj := (List.getElem?_eq_some_iff.mp hx).1
          have hxm : x.deep ≤ n' + 1 := by
            have := List.mem_of_getElem? hx
            rw [h2] at this
            simp only [List.mem_cons, List.not_mem_nil, or_false] at this
            rcases this with rfl | rfl <;> omega
          walk_at "ls"
          refine ⟨pb, f, v, x, k, us, _, rfl, hxm, hS, by walk_at "mem", by walk_at "mem", by walk_at "mem", h4, hl, fun H hS => ?_⟩
          exact lc_keep hS (d := .bool (x.pass k us)) (.bl _) (by walk_at "sub") (by rw [sizeLine_eq]; omega) (hk _ rfl)
        rw [flat_map (fun t : Tst => PyData.bool (t.pass k us))] at hS
        walk_at "s"
        refine k_nojoin ?_
        walk_at "s"
        rw [if_neg (by decide +kernel)]
        walk_at "s"
        refine k_anyS (zs := ts2) (f := fun t : Tst => t.pass k us) hS (by walk_at "mem") ?_
        rw [h2, show ([b, c].any fun t : Tst => t.pass k us) = (Tst.or b c).pass k us by
          show (b.pass k us || (c.pass k us || false)) = (b.pass k us || c.pass k us)
          cases b.pass k us <;> cases c.pass k us <;> rfl]
        exact q _ (Sub.ok (by walk_at "sub") hS)
      | all =>
        have hd1 : (Tst.all).deep = 1 := rfl
        exfalso
        have := wordK_le hw
        cases ts with
        | nil => simp at this
        | cons y ys =>
          have := hlt y List.mem_cons_self
          have := deep_pos y
          omega
      | is x1 =>
        have hd1 : (Tst.is x1).deep = 1 := rfl
        exfalso
        have := wordK_le hw
        cases ts with
        | nil => simp at this
        | cons y ys =>
          have := hlt y List.mem_cons_self
          have := deep_pos y
          omega
      | less x1 c1 =>
        have hd1 : (Tst.less x1 c1).deep = 1 := rfl
        exfalso
        have := wordK_le hw
        cases ts with
        | nil => simp at this
        | cons y ys =>
          have := hlt y List.mem_cons_self
          have := deep_pos y
          omega
      | same x1 c1 =>
        have hd1 : (Tst.same x1 c1).deep = 1 := rfl
        exfalso
        have := wordK_le hw
        cases ts with
        | nil => simp at this
        | cons y ys =>
          have := hlt y List.mem_cons_self
          have := deep_pos y
          omega
end Lw
namespace Ls
open PySem PySem.Spec PyProof.Rows L2 TL
end Ls
namespace Lw
open PySem PySem.Spec PyProof.Rows L2 Ls
end Lw
local macro_rules | `(tactic| walk_at "sr") => `(tactic| with_reducible first
  | refine k_isBv ?_ | refine k_isBb ?_ | refine k_notBv ?_ | refine k_notBb ?_
  | (refine' k_grow hS ?sm ?_; (case sm => walk_at "mem"); clear hS; refine fun v hS => ?_))
namespace Ls
open PySem PySem.Spec PyProof.Rows L2 LamX TL
def enB : Jp → Bool
  | .en _ => true
  | .go _ => false
abbrev RawL (N : Nat) (d : PyData) : Prop := ∃ xs, d = .tuple xs ∧ Raw N (.tuple xs)
def spEnd : Sp := fun vs H Q _ => ∃ j, vs = [jV j] ∧ Q (.bl (enB j)) H
def spRowFits (K : PySem.W.Frag) : Sp := fun vs H Q _ => ∃ (a : Addr) (r : RowW) (i m N : Nat) (L : List (As K)), vs = [.ref a, .int i, .int m] ∧ Ls.Sep L H ∧ im (.ref a) (rwD r) ∈ L ∧ RawL N r.1 ∧ N ≤ 50 ∧ ∀ H', Ls.Sep L H' → Q (.bl (decide (RowOk i m r))) H'
def spIsWay (K : PySem.W.Frag) : Sp := fun vs H Q _ => ∃ (a pr : Addr) (s : Jp) (R : List RowW) (N : Nat) (L : List (As K)), vs = [.ref a] ∧ Ls.Sep L H ∧ tu a [jV s, .ref pr] ∈ L ∧ Ls.ld pr (R.map rwD) ∈ L ∧ R.length ≤ 1000 ∧ (∀ r ∈ R, RawL N r.1) ∧ N ≤ 50 ∧ ∀ H', Ls.Sep L H' → Q (.bl (decide (WayOk s R))) H'
theorem okd_all : OkD 2 (.tuple [.str "all"]) := by
  refine ⟨by show 1 ≤ 100000; decide, fun x hx => ?_⟩
  rw [List.mem_singleton.mp hx]
  show PyData.strOk _ = true
  decide +kernel
theorem enB_iff (j : Jp) : (decide (j = .en true) || decide (j = .en false)) = enB j := by
  cases j with
  | en b => cases b <;> rfl
  | go n => rfl
end Ls
namespace Lw
open PySem PySem.Spec PyProof.Rows L2 Ls LamX
theorem ok_is_end {P : Program} {w : World} {K : PySem.W.Frag} {mg : Str → Option Value} {base : Heap} (E : Env K mg w) : FnOk P w K mg base CX0 1 E.a_is_end E.fd_is_end ["jump"] (spEnd) := by
  refine E.F_is_end.ok sc_is_end (fun vs H Q E h => ?_) (fun cdv A outer s H vs Q E' hr h => ?_)
  · walk_at "hl"
  · have hu := huOf hr
    have hcl_Kind := E.cl_Kind
    obtain ⟨j, rfl, q⟩ := h
    refine ⟨_, PSs.nox (pss_one (ps_ret (pe_or (pe_cmpR (op_isBv) (pv 0) pe_bl (nomark _)) (pe_one (pe_cmpR (op_isBv) (pv 0) pe_bl (nomark _)))))), ?_⟩
    refine k_body (s1 := some _ :: []) rfl ?_
    rw [← enB_iff] at q
    walk_at "s"
    by_cases c : j = .en true
    · rw [decide_eq_true c] at q ⊢
      walk_at "s"
      exact q
    · rw [decide_eq_false c] at q ⊢
      walk_at "s"
      exact q
theorem ok__law_ended {P : Program} {w : World} {K : PySem.W.Frag} {mg : Str → Option Value} {base : Heap} (E : Env K mg w) : FnOk P w K mg base CX0 1 E.a__law_ended E.fd__law_ended ["_law_jump"] (spEnd) := by
  refine E.F__law_ended.ok sc__law_ended (fun vs H Q E h => ?_) (fun cdv A outer s H vs Q E' hr h => ?_)
  · walk_at "hl"
  · have hu := huOf hr
    have hcl_Kind := E.cl_Kind
    obtain ⟨j, rfl, q⟩ := h
    refine ⟨_, PSs.nox (pss_one (ps_ret (pe_or (pe_cmpR (op_isBv) (pv 0) pe_bl (nomark _)) (pe_one (pe_cmpR (op_isBv) (pv 0) pe_bl (nomark _)))))), ?_⟩
    refine k_body (s1 := some _ :: []) rfl ?_
    rw [← enB_iff] at q
    walk_at "s"
    by_cases c : j = .en true
    · rw [decide_eq_true c] at q ⊢
      walk_at "s"
      exact q
    · rw [decide_eq_false c] at q ⊢
      walk_at "s"
      exact q
theorem ok_row_fits {P : Program} {w : World} {K : PySem.W.Frag} {mg : Str → Option Value} {base : Heap} (E : Env K mg w) : FnOk P w K mg base CX0 12 E.a_row_fits E.fd_row_fits ["row", "at", "many"] (spRowFits K) := by
  refine E.F_row_fits.ok sc_row_fits (fun vs H Q E h => ?_) (fun cdv A outer s H vs Q E' hr h => ?_)
  · walk_at "hl"
  · have hu := huOf hr
    have G_is_test := ok_is_test (P := P) (w := w) (base := base) E
    have hr_is_test := hr.mono (show 10 ≤ 11 by decide)
    have b_is_test := b_is_test E
    have G_leaves_in := ok_leaves_in (P := P) (w := w) (base := base) E 6
    have hr_leaves_in := hr.mono (show 7 ≤ 11 by decide)
    have b_leaves_in := b_leaves_in E
    have G_is_end := ok_is_end (P := P) (w := w) (base := base) E
    have hr_is_end := hr.mono (show 1 ≤ 11 by decide)
    have b_is_end := b_is_end E
    have hcl_Kind := E.cl_Kind
    obtain ⟨a, ⟨d, y, n⟩, i, m, N, L, rfl, hS, hm, ⟨xs, ex, hraw⟩, hN, q⟩ := h
    dsimp only at ex
    subst ex
    refine ⟨_, PSs.nox (pss_cons (ps_asg (pv 0) (kGTup (n := 3) K rfl (pg_tup rfl (pgs_cons (pg_name (i := 3) sc_row_fits.nd rfl (Or.inl rfl)) (pgs_cons (pg_name (i := 4) sc_row_fits.nd rfl (Or.inl rfl)) (pgs_cons (pg_name (i := 5) sc_row_fits.nd rfl (Or.inl rfl)) pgs_nil))))))
(pss_cons (ps_if (PW.pt (pw_or (pt_not (pt_val (pe_call G_is_test hr_is_test rfl E.g_is_test E.F_is_test.kp b_is_test .nil pass0 (pa_cons (pv 3) pa_nil)))) (pw_or (pt_cmpR (op_eqU K rfl hu) (pv 3) (pe_tup (pa_cons pe_str pa_nil)) (nomark _)) (pw_or1 (pt_cmpR (op_neU K rfl hu) (pe_call G_leaves_in hr_leaves_in rfl E.g_leaves_in E.F_leaves_in.kp b_leaves_in .nil pass0 (pa_cons (pv 3) pa_nil)) (pe_lst (pa_cons (pv 3) pa_nil)) (nomark _)))))) (pss_one (ps_ret pe_bl)) pss_nil)
(pss_one (ps_ret (pe_callB (cr_allU K rfl rfl) (by rfl) E.n_all boot_all (pa_cons (pe_lc (own := [("jump", 6)]) rfl sc_row_fits.nd (pi_seqU K rfl (pe_tup (pa_cons (pv 4) (pa_cons (pv 5) pa_nil)))) (blkOk_by (N := ["row", "at", "many", "leaf", "yes", "no", "jump"]) (sc := defScope s_row_fits) (by decide +kernel)) (fun _ _ _ _ _ => (pg_name (i := 6) sc_row_fits.nd rfl (Or.inl rfl))) (fun _ _ _ _ _ => pts_nil) (fun _ _ _ _ _ => (pe_or (pe_call G_is_end hr_is_end rfl E.g_is_end E.F_is_end.kp b_is_end .nil pass0 (pa_cons (pv 6) pa_nil)) (pe_one (pe_chain op_lt op_lt (pv 1) (pv 6) (pv 2)))))) pa_nil)))))), ?_⟩
    refine k_body (s1 := some _ :: some _ :: some _ :: [none, none, none, none]) rfl ?_
    walk_at "s"
    dsimp only at hS ⊢
    obtain ⟨pl, rfl⟩ := im_isRef (ds := xs) hS List.mem_cons_self
    refine ⟨pl, xs, N, _, rfl, hS, by walk_at "mem", hraw, fun H hS => ?_⟩
    by_cases ht : IsT (.tuple xs)
    · rw [decide_eq_true ht]
      obtain ⟨t, et, hto, htd, htp⟩ := isT_is ht
      have hno : (t = .all ∨ t.deep ≠ 1) → ¬ RowOk i m (.tuple xs, y, n) := fun h hr => by
        obtain ⟨u, eu, hu1, hu2, hu3⟩ := hr.1
        obtain rfl := D_inj hto hu1 (et.trans eu.symm)
        rcases h with h | h
        · exact hu3 h
        · exact h hu2
      have hpx : plD (.tuple xs) = true := by rw [← et]; exact plD_T t
      walk_at "s"
      refine k_eqT hS (d := .tuple xs) (e := .tuple [.str "all"]) (.dat (.im (by walk_at "mem"))) (.dat (.im (by walk_at "mem"))) (raw_okd (by decide) hraw) okd_all (by omega) (by decide) ?_
      by_cases ha : t = .all
      · have e : PyData.eqv (.tuple xs) (.tuple [.str "all"]) = true := by
          rw [← et, ha]
          decide +kernel
        rw [e]
        rw [decide_eq_false (hno (.inl ha))] at q
        walk_at "s"
        exact q _ (Sub.ok (by walk_at "sub") hS)
      have e : PyData.eqv (.tuple xs) (.tuple [.str "all"]) = false := eqv_plF hpx rfl fun z => ha (D_inj hto trivial (et.trans z))
      rw [e]
      clear e
      walk_at "s"
      refine ⟨pl, t, _, rfl, by show t.deep ≤ 6; omega, by decide, hS, by rw [et]; walk_at "mem", fun pv H hS => ?_⟩
      walk_at "s"
      have hll := leaves_len t
      have ho2 : OkD 7 (.list (t.leaves.map Tst.D)) := by
        refine ⟨by rw [List.length_map]; omega, fun x hx => ?_⟩
        obtain ⟨l, hl, rfl⟩ := List.mem_map.mp hx
        exact raw_okd (c := 100) (n := 6) (by decide) (ok_raw (leaves_ok hto l hl).1 (by rw [(leaves_ok hto l hl).2.1]; decide))
      have ho3 : OkD 51 (.list [.tuple xs]) := by
        refine ⟨by show 1 ≤ 100000; decide, fun x hx => ?_⟩
        rw [List.mem_singleton.mp hx]
        exact raw_okd (c := 100) (n := 50) (by decide) (hraw.mono (by decide) hN)
      refine k_neT hS (d := .list (t.leaves.map Tst.D)) (e := .list [.tuple xs]) (.ld (by walk_at "mem")) (.ld (by walk_at "mem")) ho2 ho3 (by decide) (by decide) ?_
      have hp1 : plD (.list (t.leaves.map Tst.D)) = true := plDs_all fun x hx => by
        obtain ⟨l, _, rfl⟩ := List.mem_map.mp hx
        exact plD_T l
      have hp2 : plD (.list [.tuple xs]) = true := plDs_all fun x hx => by rw [List.mem_singleton.mp hx]; exact hpx
      by_cases hd : t.deep = 1
      · have e : PyData.eqv (.list (t.leaves.map Tst.D)) (.list [.tuple xs]) = true := by
          rw [(leaf_one hto).mpr hd, List.map_singleton, et]
          exact eqv_plT hp2
        rw [e]
        walk_at "s"
        obtain ⟨pt, ept⟩ : ∃ pt, pt = p := ⟨_, rfl⟩
        rw [← ept] at hS ⊢
        clear ept
        refine ⟨pt, rfl, .inr ⟨⟨_, hS.tum (a := pt) (xs := [jV y, jV n]) (by walk_at "mem")⟩, ?_⟩⟩
        walk_at "s"
        refine lc_flat (zs := [y, n]) (fun z => [PyData.bool (decide (JOk i m z))]) hS (fun acc => wk_tuJ (js := [y, n]) (by show tu pt [jV y, jV n] ∈ _; walk_at "mem")) (fun j z acc hz hk _ la => ?_) (fun H hS => ?_)
        · clear hS
          have hj := (List.getElem?_eq_some_iff.mp hz).1
          have hj2 : j < 2 := hj
          walk_at "gi"
          walk_at "ls"
          refine ⟨z, rfl, ?_⟩
          cases z with
          | en b =>
            rw [show enB (.en b) = true from rfl]
            walk_at "s"
            have e : decide (JOk i m (.en b)) = true := decide_eq_true trivial
            exact lc_keep hS (d := .bool (decide (JOk i m (.en b)))) (by rw [e]; exact .bl _) (by walk_at "sub") (by rw [sizeLine_eq]; omega) (hk _ rfl)
          | go u =>
            rw [show enB (.go u) = false from rfl]
            dsimp only [jV]
            walk_at "s"
            by_cases b1 : (i : Int) < u
            · rw [decide_eq_true b1]
              walk_at "s"
              have e : decide (JOk i m (.go u)) = decide (u < (m : Int)) := by
                by_cases b2 : u < (m : Int)
                · rw [decide_eq_true b2]; exact decide_eq_true ⟨b1, b2⟩
                · rw [decide_eq_false b2]; exact decide_eq_false fun z => b2 z.2
              exact lc_keep hS (d := .bool (decide (JOk i m (.go u)))) (by rw [e]; exact .bl _) (by walk_at "sub") (by rw [sizeLine_eq]; omega) (hk _ rfl)
            · rw [decide_eq_false b1]
              walk_at "s"
              have e : decide (JOk i m (.go u)) = false := decide_eq_false fun z => b1 z.1
              exact lc_keep hS (d := .bool (decide (JOk i m (.go u)))) (by rw [e]; exact .bl _) (by walk_at "sub") (by rw [sizeLine_eq]; omega) (hk _ rfl)
        rw [flat_map (fun z : Jp => PyData.bool (decide (JOk i m z)))] at hS
        walk_at "s"
        refine k_allS hS (zs := [y, n]) (f := fun z => decide (JOk i m z)) (by walk_at "mem") ?_
        have e2 : ([y, n].all fun z => decide (JOk i m z)) = decide (RowOk i m (.tuple xs, y, n)) := by
          by_cases h1 : JOk i m y
          · by_cases h2 : JOk i m n
            · rw [decide_eq_true (show RowOk i m (.tuple xs, y, n) from ⟨⟨t, et, hto, hd, ha⟩, h1, h2⟩)]
              simp [h1, h2]
            · rw [decide_eq_false (fun z : RowOk i m (.tuple xs, y, n) => h2 z.2.2)]
              simp [h2]
          · rw [decide_eq_false (fun z : RowOk i m (.tuple xs, y, n) => h1 z.2.1)]
            simp [h1]
        rw [e2]
        exact q _ (Sub.ok (by walk_at "sub") hS)
      · have e : PyData.eqv (.list (t.leaves.map Tst.D)) (.list [.tuple xs]) = false := eqv_plF hp1 hp2 fun z => by
          injection z with z
          have h1 := congrArg List.length z
          rw [List.length_map, List.length_singleton] at h1
          obtain ⟨l, el⟩ := List.length_eq_one_iff.mp h1
          rw [el, List.map_singleton] at z
          have h2 := leaves_ok hto l (by rw [el]; exact List.mem_cons_self)
          have h3 := D_inj h2.1 hto ((List.cons.inj z).1.trans et.symm)
          exact hd (by rw [← h3]; exact h2.2.1)
        rw [e]
        rw [decide_eq_false (hno (.inr hd))] at q
        walk_at "s"
        exact q _ (Sub.ok (by walk_at "sub") hS)
    · rw [decide_eq_false ht]
      have hno : ¬ RowOk i m (.tuple xs, y, n) := fun hr => ht (leafD_T hr.1).choose_spec.2
      rw [decide_eq_false hno] at q
      walk_at "s"
      exact q _ (Sub.ok (by walk_at "sub") hS)
theorem ok_is_way {P : Program} {w : World} {K : PySem.W.Frag} {mg : Str → Option Value} {base : Heap} (E : Env K mg w) : FnOk P w K mg base CX0 13 E.a_is_way E.fd_is_way ["way"] (spIsWay K) := by
  refine E.F_is_way.ok sc_is_way (fun vs H Q E h => ?_) (fun cdv A outer s H vs Q E' hr h => ?_)
  · walk_at "hl"
  · have hu := huOf hr
    have G_is_end := ok_is_end (P := P) (w := w) (base := base) E
    have hr_is_end := hr.mono (show 1 ≤ 12 by decide)
    have b_is_end := b_is_end E
    have G_row_fits := ok_row_fits (P := P) (w := w) (base := base) E
    have hr_row_fits := hr.mono (show 12 ≤ 12 by decide)
    have b_row_fits := b_row_fits E
    have hcl_Kind := E.cl_Kind
    obtain ⟨a, pr, s, R, N, L, rfl, hS, ht, hl, hR, hrw, hN, q⟩ := h
    refine ⟨_, PSs.nox (pss_cons (ps_asg (pv 0) (kGTup (n := 2) K rfl (pg_tup rfl (pgs_cons (pg_name (i := 1) sc_is_way.nd rfl (Or.inl rfl)) (pgs_cons (pg_name (i := 2) sc_is_way.nd rfl (Or.inr rfl)) pgs_nil)))))
(pss_cons (ps_if (pt_val (pe_call G_is_end hr_is_end rfl E.g_is_end E.F_is_end.kp b_is_end .nil pass0 (pa_cons (pv 1) pa_nil))) (pss_one (ps_ret (pe_cmpR (op_eqZ K rfl hu) (pv 2) (pe_lst pa_nil) (nomark _)))) pss_nil)
(pss_one (ps_ret (pe_and (pe_cmpR (op_eqU K rfl hu) (pv 1) pe_int (nomark _)) (pe_and (pe_cmpR (op_neZ K rfl hu) (pv 2) (pe_lst pa_nil) (nomark _)) (pe_one (pe_callB (cr_allU K rfl rfl) (by rfl) E.n_all boot_all (pa_cons (pe_lc (own := [("at", 3), ("row", 4)]) rfl sc_is_way.nd (pi_enumU K rfl rfl E.n_enumerate (pa_cons (pv 2) pa_nil)) (blkOk_by (N := ["way", "start", "rows", "at", "row"]) (sc := defScope s_is_way) (by decide +kernel)) (fun _ _ _ _ _ => (kGTup (n := 2) K rfl (pg_tup rfl (pgs_cons (pg_name (i := 3) sc_is_way.nd rfl (Or.inl rfl)) (pgs_cons (pg_name (i := 4) sc_is_way.nd rfl (Or.inl rfl)) pgs_nil))))) (fun _ _ _ _ _ => pts_nil) (fun _ _ _ _ _ => (pe_call G_row_fits hr_row_fits rfl E.g_row_fits E.F_row_fits.kp b_row_fits .nil pass0 (pa_cons (pv 4) (pa_cons (pv 3) (pa_cons (pe_callB (call_lenU K rfl) (by rfl) E.n_len boot_len (pa_cons (pv 2) pa_nil)) pa_nil)))))) pa_nil))))))))), ?_⟩
    refine k_body (s1 := some _ :: [none, none, none, none]) rfl ?_
    cases s with
    | en b =>
      dsimp only [jV] at ht
      walk_at "s"
      refine ⟨.en b, rfl, ?_⟩
      rw [show enB (.en b) = true from rfl]
      walk_at "s"
      have e : decide (R.map rwD = []) = decide (WayOk (.en b) R) := by
        by_cases h : R = []
        · rw [decide_eq_true (show WayOk (.en b) R from h), h]
          rfl
        · rw [decide_eq_false (show ¬ WayOk (.en b) R from h), decide_eq_false fun z => h (List.map_eq_nil_iff.mp z)]
      rw [e]
      exact q _ (Sub.ok (by walk_at "sub") hS)
    | go n =>
      dsimp only [jV] at ht
      walk_at "s"
      refine ⟨.go n, rfl, ?_⟩
      rw [show enB (.go n) = false from rfl]
      walk_at "s"
      by_cases h0 : n = 0
      · rw [decide_eq_true h0]
        walk_at "s"
        by_cases h1 : R = []
        · rw [decide_eq_true (by rw [h1]; rfl)]
          rw [decide_eq_false (fun z : WayOk (.go n) R => z.2.1 h1)] at q
          walk_at "s"
          exact q _ (Sub.ok (by walk_at "sub") hS)
        · rw [decide_eq_false (fun z => h1 (List.map_eq_nil_iff.mp z))]
          walk_at "s"
          refine lc_wk (L := L) (n := R.length) (fun i acc L' => L' = L ∧ acc = ((R.take i).zipIdx.map fun p => PyData.bool (decide (RowOk p.2 R.length p.1)))) (fun i acc L' e => by obtain ⟨rfl, _⟩ := e; exact wk_enD (by walk_at "mem")) (Sub.ok (by walk_at "sub") hS) ⟨rfl, rfl⟩ (fun i acc L' hi iv r T hr H hS => ?_) (fun acc L' H iv hS => ?_)
          · obtain ⟨rfl, rfl⟩ := iv
            walk_at "ls"
            simp only [List.length_map]
            refine ⟨v, r, i, R.length, N, _, rfl, hS, by show im _ (.tuple [r.1, jD r.2.1, jD r.2.2]) ∈ _; walk_at "mem", hrw r (List.mem_of_getElem? hr), hN, fun H hS => ?_⟩
            have e : (R.take (i + 1)).zipIdx = (R.take i).zipIdx ++ [(r, i)] := by
              rw [List.take_add_one, hr, List.zipIdx_append, List.length_take, Nat.min_eq_left (by omega)]
              simp
            exact lc_keep hS (d := .bool (decide (RowOk i R.length r))) (.bl _) (by walk_at "sub") (by rw [List.length_map, List.length_zipIdx, List.length_take, sizeLine_eq]; omega) ⟨rfl, by rw [e, List.map_append]; rfl⟩
          · obtain ⟨rfl, rfl⟩ := iv
            rw [List.take_length] at hS
            walk_at "s"
            refine k_allS hS (zs := R.zipIdx) (f := fun p => decide (RowOk p.2 R.length p.1)) (by walk_at "mem") ?_
            have e : (R.zipIdx.all fun p => decide (RowOk p.2 R.length p.1)) = decide (WayOk (.go n) R) := by
              by_cases h2 : ∀ (i : Nat) (r : RowW), R[i]? = some r → RowOk i R.length r
              · rw [decide_eq_true (show WayOk (.go n) R from ⟨h0, h1, h2⟩)]
                exact List.all_eq_true.mpr fun p hp => decide_eq_true (h2 p.2 p.1 (List.mk_mem_zipIdx_iff_getElem?.mp hp))
              · rw [decide_eq_false (fun z : WayOk (.go n) R => h2 z.2.2)]
                exact Bool.eq_false_iff.mpr fun z => h2 fun i r hr => of_decide_eq_true (List.all_eq_true.mp z (r, i) (List.mk_mem_zipIdx_iff_getElem?.mpr hr))
            rw [e]
            exact q _ (Sub.ok (by walk_at "sub") hS)
      · rw [decide_eq_false h0]
        rw [decide_eq_false (fun z : WayOk (.go n) R => h0 z.1)] at q
        walk_at "s"
        exact q _ hS
end Lw
local macro_rules | `(tactic| walk_at "dat") => `(tactic| with_reducible exact Dat.j _)
namespace Ls
open PySem PySem.Spec PyProof.Rows L2 LamX TL
theorem put_len : ∀ (t : Tst) (y n : Jp) (R : List RowW), (put t y n R).2.length ≤ R.length + t.parts := by
  intro t
  induction t with
  | all => exact fun y n R => Nat.le_add_right _ _
  | is z => exact fun y n R => by show (R ++ [_]).length ≤ R.length + 1; rw [List.length_append]; exact Nat.le_refl _
  | less z c => exact fun y n R => by show (R ++ [_]).length ≤ R.length + 1; rw [List.length_append]; exact Nat.le_refl _
  | same z c => exact fun y n R => by show (R ++ [_]).length ≤ R.length + 1; rw [List.length_append]; exact Nat.le_refl _
  | no a ih => exact fun y n R => by have := ih n y R; show (put a n y R).2.length ≤ R.length + (a.parts + 1); omega
  | an a b ia ib =>
    exact fun y n R => by
      have h1 := ib y n R
      have h2 := ia (put b y n R).1 n (put b y n R).2
      show (put a (put b y n R).1 n (put b y n R).2).2.length ≤ R.length + (a.parts + b.parts + 1)
      omega
  | or a b ia ib =>
    exact fun y n R => by
      have h1 := ib y n R
      have h2 := ia y (put b y n R).1 (put b y n R).2
      show (put a y (put b y n R).1 (put b y n R).2).2.length ≤ R.length + (a.parts + b.parts + 1)
      omega
def spPut (K : PySem.W.Frag) (n : Nat) : Sp := fun vs H Q _ => ∃ (a pr : Addr) (y e : Jp) (t : Tst) (R : List RowW) (L : List (As K)), vs = [.ref a, jV y, jV e, .ref pr] ∧ t.deep ≤ n + 1 ∧ Ls.Sep (Ls.ld pr (R.map rwD) :: L) H ∧ im (.ref a) t.D ∈ L ∧ R.length + t.parts ≤ 1000 ∧ t.ok ∧ n ≤ 10 ∧ ∀ H', Ls.Sep (Ls.ld pr ((put t y e R).2.map rwD) :: L) H' → Q (jV (put t y e R).1) H'
def spTurned : Sp := fun vs H Q _ => ∃ (j : Jp) (m : Int), vs = [jV j, .int m] ∧ Q (jV (turnJ (m - 1) j)) H
def spMade (K : PySem.W.Frag) : Sp := fun vs H Q _ => ∃ (a : Addr) (t : Tst) (L : List (As K)), vs = [.ref a] ∧ Ls.Sep L H ∧ im (.ref a) t.D ∈ L ∧ t.ok ∧ t.deep ≤ 5 ∧ t.parts ≤ 15 ∧ ∀ pw pr H', Ls.Sep (tu pw [jV (mkW t).1, .ref pr] :: Ls.ld pr ((mkW t).2.map rwD) :: L) H' → Q (.ref pw) H'
theorem jV_go (n : Int) : jV (.go n) = .int n := rfl
end Ls
namespace Lw
open PySem PySem.Spec PyProof.Rows L2 Ls LamX
theorem ok_put_rows {P : Program} {w : World} {K : PySem.W.Frag} {mg : Str → Option Value} {base : Heap} (E : Env K mg w) : ∀ n : Nat, FnOk P w K mg base CX0 (1 + n) E.a_put_rows E.fd_put_rows ["test", "yes", "no", "rows"] (recSp (spPut K) n) := by
  intro n
  induction n with
  | zero => exact E.F_put_rows.ok sc_put_rows (fun vs H Q E h => h.elim) (fun cdv A outer s H vs Q E' hr h => h.elim)
  | succ n ih =>
  replace ih : FnOk P w K mg base CX0 (1 + n) E.a_put_rows E.fd_put_rows ["test", "yes", "no", "rows"] (recSp (spPut K) n) := ih
  show FnOk P w K mg base CX0 (1 + n + 1) E.a_put_rows E.fd_put_rows ["test", "yes", "no", "rows"] ((spPut K) n)
  refine E.F_put_rows.ok sc_put_rows (fun vs H Q E h => ?_) (fun cdv A outer s H vs Q E' hr h => ?_)
  · walk_at "hl"
  · have hu := huOf hr
    have G_put_rows := ih
    have hr_put_rows := hr
    have b_put_rows := b_put_rows E
    have hcl_Kind := E.cl_Kind
    obtain ⟨a, pr, y, e, t, R, L, rfl, hd, hS, hm, hlen, hok, hn, q⟩ := h
    refine ⟨_, PSs.nox (pss_cons (ps_if (pt_cmpR (op_eqU K rfl hu) (pe_ix (ix_U K rfl) (pv 0) pe_int (fun _ _ => rfl)) pe_str (nomark _)) (pss_one (ps_ret (pe_call G_put_rows hr_put_rows rfl E.g_put_rows E.F_put_rows.kp b_put_rows .nil pass0 (pa_cons (pe_ix (ix_U K rfl) (pv 0) pe_int (fun _ _ => rfl)) (pa_cons (pv 2) (pa_cons (pv 1) (pa_cons (pv 3) pa_nil))))))) pss_nil)
(pss_cons (ps_if (pt_cmpR (op_eqU K rfl hu) (pe_ix (ix_U K rfl) (pv 0) pe_int (fun _ _ => rfl)) pe_str (nomark _)) (pss_one (ps_ret (pe_call G_put_rows hr_put_rows rfl E.g_put_rows E.F_put_rows.kp b_put_rows .nil pass0 (pa_cons (pe_ix (ix_U K rfl) (pv 0) pe_int (fun _ _ => rfl)) (pa_cons (pe_call G_put_rows hr_put_rows rfl E.g_put_rows E.F_put_rows.kp b_put_rows .nil pass0 (pa_cons (pe_ix (ix_U K rfl) (pv 0) pe_int (fun _ _ => rfl)) (pa_cons (pv 1) (pa_cons (pv 2) (pa_cons (pv 3) pa_nil))))) (pa_cons (pv 2) (pa_cons (pv 3) pa_nil))))))) pss_nil)
(pss_cons (ps_if (pt_cmpR (op_eqU K rfl hu) (pe_ix (ix_U K rfl) (pv 0) pe_int (fun _ _ => rfl)) pe_str (nomark _)) (pss_one (ps_ret (pe_call G_put_rows hr_put_rows rfl E.g_put_rows E.F_put_rows.kp b_put_rows .nil pass0 (pa_cons (pe_ix (ix_U K rfl) (pv 0) pe_int (fun _ _ => rfl)) (pa_cons (pv 1) (pa_cons (pe_call G_put_rows hr_put_rows rfl E.g_put_rows E.F_put_rows.kp b_put_rows .nil pass0 (pa_cons (pe_ix (ix_U K rfl) (pv 0) pe_int (fun _ _ => rfl)) (pa_cons (pv 1) (pa_cons (pv 2) (pa_cons (pv 3) pa_nil))))) (pa_cons (pv 3) pa_nil))))))) pss_nil)
(pss_cons (ps_if (pt_cmpR (op_eqU K rfl hu) (pv 0) (pe_tup (pa_cons pe_str pa_nil)) (nomark _)) (pss_one (ps_ret (pv 1))) pss_nil)
(pss_cons (ps_expr (kBM K rfl (pe_bm PySem.F.plainAttrs_list PySem.F.slot_list_append PySem.F.type_list_append mt_append (pv 3) (pa_cons (pe_tup (pa_cons (pv 0) (pa_cons (pv 1) (pa_cons (pv 2) pa_nil)))) pa_nil))))
(pss_one (ps_ret (pe_op op_sub (pe_callB (call_lenU K rfl) (by rfl) E.n_len boot_len (pa_cons (pv 3) pa_nil)) pe_int)))))))), ?_⟩
    refine k_body (s1 := some _ :: some _ :: some _ :: some _ :: []) rfl ?_
    have leaf : t.deep = 1 → True := fun _ => trivial
    cases t with
    | no b =>
      have hd' : b.deep + 1 ≤ n + 1 := hd
      have hlen' : R.length + (b.parts + 1) ≤ 1000 := hlen
      obtain ⟨n', rfl⟩ : ∃ n', n = n' + 1 := ⟨n - 1, by have := deep_pos b; omega⟩
      dsimp only [Tst.D] at hm
      walk_at "s"
      rw [if_pos (by decide +kernel)]
      walk_at "s"
      refine k_ixG hS (List.mem_cons_of_mem _ hm) (at01 _ _ _) fun u hS => ?_
      obtain ⟨pb, rfl⟩ := im_isD hS List.mem_cons_self
      walk_at "s"
      refine ⟨pb, pr, e, y, b, R, im (.ref pb) b.D :: L, rfl, by omega, Sub.ok (by walk_at "sub") hS, by walk_at "mem", by omega, hok, by omega, fun H hS => ?_⟩
      exact q _ (show Ls.Sep (Ls.ld pr ((put b e y R).2.map rwD) :: L) _ from Sub.ok (by walk_at "sub") hS)
    | an b c =>
      have hd' : max b.deep c.deep + 1 ≤ n + 1 := hd
      have hlen' : R.length + (b.parts + c.parts + 1) ≤ 1000 := hlen
      obtain ⟨n', rfl⟩ : ∃ n', n = n' + 1 := ⟨n - 1, by have := deep_pos b; omega⟩
      dsimp only [Tst.D] at hm
      have hpl := put_len c y e R
      walk_at "s"
      rw [if_neg (by decide +kernel)]
      walk_at "s"
      rw [if_pos (by decide +kernel)]
      walk_at "s"
      refine k_ixG hS (List.mem_cons_of_mem _ hm) (at01 _ _ _) fun u hS => ?_
      obtain ⟨pb, rfl⟩ := im_isD hS List.mem_cons_self
      walk_at "s"
      refine k_ixG hS (List.mem_cons_of_mem _ (List.mem_cons_of_mem _ hm)) (at02 _ _ _ _) fun u hS => ?_
      obtain ⟨pc, rfl⟩ := im_isD hS List.mem_cons_self
      walk_at "s"
      refine ⟨pc, pr, y, e, c, R, im (.ref pc) c.D :: im (.ref pb) b.D :: L, rfl, by omega, Sub.ok (by walk_at "sub") hS, by walk_at "mem", by omega, hok.2, by omega, fun H hS => ?_⟩
      walk_at "s"
      refine ⟨pb, pr, (put c y e R).1, e, b, (put c y e R).2, im (.ref pc) c.D :: im (.ref pb) b.D :: L, rfl, by omega, hS, by walk_at "mem", by omega, hok.1, by omega, fun H hS => ?_⟩
      exact q _ (show Ls.Sep (Ls.ld pr ((put b (put c y e R).1 e (put c y e R).2).2.map rwD) :: L) _ from Sub.ok (by walk_at "sub") hS)
    | or b c =>
      have hd' : max b.deep c.deep + 1 ≤ n + 1 := hd
      have hlen' : R.length + (b.parts + c.parts + 1) ≤ 1000 := hlen
      obtain ⟨n', rfl⟩ : ∃ n', n = n' + 1 := ⟨n - 1, by have := deep_pos b; omega⟩
      dsimp only [Tst.D] at hm
      have hpl := put_len c y e R
      walk_at "s"
      rw [if_neg (by decide +kernel)]
      walk_at "s"
      rw [if_neg (by decide +kernel)]
      walk_at "s"
      rw [if_pos (by decide +kernel)]
      walk_at "s"
      refine k_ixG hS (List.mem_cons_of_mem _ hm) (at01 _ _ _) fun u hS => ?_
      obtain ⟨pb, rfl⟩ := im_isD hS List.mem_cons_self
      walk_at "s"
      refine k_ixG hS (List.mem_cons_of_mem _ (List.mem_cons_of_mem _ hm)) (at02 _ _ _ _) fun u hS => ?_
      obtain ⟨pc, rfl⟩ := im_isD hS List.mem_cons_self
      walk_at "s"
      refine ⟨pc, pr, y, e, c, R, im (.ref pc) c.D :: im (.ref pb) b.D :: L, rfl, by omega, Sub.ok (by walk_at "sub") hS, by walk_at "mem", by omega, hok.2, by omega, fun H hS => ?_⟩
      walk_at "s"
      refine ⟨pb, pr, y, (put c y e R).1, b, (put c y e R).2, im (.ref pc) c.D :: im (.ref pb) b.D :: L, rfl, by omega, hS, by walk_at "mem", by omega, hok.1, by omega, fun H hS => ?_⟩
      exact q _ (show Ls.Sep (Ls.ld pr ((put b y (put c y e R).1 (put c y e R).2).2.map rwD) :: L) _ from Sub.ok (by walk_at "sub") hS)
    | all =>
      dsimp only [Tst.D] at hm
      walk_at "s"
      rw [if_neg (by decide +kernel)]
      walk_at "s"
      rw [if_neg (by decide +kernel)]
      walk_at "s"
      rw [if_neg (by decide +kernel)]
      walk_at "s"
      refine k_eqT hS (e := .tuple [.str "all"]) (.dat (.im (List.mem_cons_of_mem _ (List.mem_cons_of_mem _ hm)))) (.dat (.im (by walk_at "mem"))) okd_all okd_all (by decide) (by decide) ?_
      rw [eqv_self okd_all]
      walk_at "s"
      exact q _ (show Ls.Sep (Ls.ld pr (R.map rwD) :: L) _ from Sub.ok (by walk_at "sub") hS)
    | is z =>
      have hpx := plD_T (Tst.is z)
      have hne : (Tst.is z).D ≠ .tuple [.str "all"] := fun z => by cases D_inj (u := .all) hok trivial (z.trans (show PyData.tuple [.str "all"] = Tst.all.D from rfl))
      have okx : OkD 6 (Tst.is z).D := raw_okd (c := 100) (n := 6) (by decide) (ok_raw hok (by show 1 ≤ 6; decide))
      dsimp only [Tst.D] at hm hpx hne okx
      walk_at "s"
      rw [if_neg (by decide +kernel)]
      walk_at "s"
      rw [if_neg (by decide +kernel)]
      walk_at "s"
      rw [if_neg (by decide +kernel)]
      walk_at "s"
      refine k_eqT hS (e := .tuple [.str "all"]) (.dat (.im (List.mem_cons_of_mem _ (List.mem_cons_of_mem _ hm)))) (.dat (.im (by walk_at "mem"))) okx okd_all (by decide) (by decide) ?_
      rw [eqv_plF hpx rfl hne]
      walk_at "s"
      have er : R.map rwD ++ [PyData.tuple [.tuple [.str "is", .str z], jD y, jD e]] = (R ++ [((Tst.is z).D, y, e)]).map rwD := by rw [List.map_append]; rfl
      rw [er] at hS
      simp only [List.length_map, List.length_append, List.length_singleton]
      have e2 : V.int (((R.length + 1 : Nat) : Int) - 1) = jV (put (Tst.is z) y e R).1 := by show V.int _ = V.int ((R.length : Nat) : Int); congr 1; omega
      rw [e2]
      exact q _ (show Ls.Sep (Ls.ld pr ((R ++ [((Tst.is z).D, y, e)]).map rwD) :: L) _ from Sub.ok (by walk_at "sub") hS)
    | less z c =>
      have hpx := plD_T (Tst.less z c)
      have hne : (Tst.less z c).D ≠ .tuple [.str "all"] := fun z => by cases D_inj (u := .all) hok trivial (z.trans (show PyData.tuple [.str "all"] = Tst.all.D from rfl))
      have okx : OkD 6 (Tst.less z c).D := raw_okd (c := 100) (n := 6) (by decide) (ok_raw hok (by show 1 ≤ 6; decide))
      dsimp only [Tst.D] at hm hpx hne okx
      walk_at "s"
      rw [if_neg (by decide +kernel)]
      walk_at "s"
      rw [if_neg (by decide +kernel)]
      walk_at "s"
      rw [if_neg (by decide +kernel)]
      walk_at "s"
      refine k_eqT hS (e := .tuple [.str "all"]) (.dat (.im (List.mem_cons_of_mem _ (List.mem_cons_of_mem _ hm)))) (.dat (.im (by walk_at "mem"))) okx okd_all (by decide) (by decide) ?_
      rw [eqv_plF hpx rfl hne]
      walk_at "s"
      have er : R.map rwD ++ [PyData.tuple [.tuple [.str "less", .str z, .int c], jD y, jD e]] = (R ++ [((Tst.less z c).D, y, e)]).map rwD := by rw [List.map_append]; rfl
      rw [er] at hS
      simp only [List.length_map, List.length_append, List.length_singleton]
      have e2 : V.int (((R.length + 1 : Nat) : Int) - 1) = jV (put (Tst.less z c) y e R).1 := by show V.int _ = V.int ((R.length : Nat) : Int); congr 1; omega
      rw [e2]
      exact q _ (show Ls.Sep (Ls.ld pr ((R ++ [((Tst.less z c).D, y, e)]).map rwD) :: L) _ from Sub.ok (by walk_at "sub") hS)
    | same z c =>
      have hpx := plD_T (Tst.same z c)
      have hne : (Tst.same z c).D ≠ .tuple [.str "all"] := fun z => by cases D_inj (u := .all) hok trivial (z.trans (show PyData.tuple [.str "all"] = Tst.all.D from rfl))
      have okx : OkD 6 (Tst.same z c).D := raw_okd (c := 100) (n := 6) (by decide) (ok_raw hok (by show 1 ≤ 6; decide))
      dsimp only [Tst.D] at hm hpx hne okx
      walk_at "s"
      rw [if_neg (by decide +kernel)]
      walk_at "s"
      rw [if_neg (by decide +kernel)]
      walk_at "s"
      rw [if_neg (by decide +kernel)]
      walk_at "s"
      refine k_eqT hS (e := .tuple [.str "all"]) (.dat (.im (List.mem_cons_of_mem _ (List.mem_cons_of_mem _ hm)))) (.dat (.im (by walk_at "mem"))) okx okd_all (by decide) (by decide) ?_
      rw [eqv_plF hpx rfl hne]
      walk_at "s"
      have er : R.map rwD ++ [PyData.tuple [.tuple [.str "same", .str z, .int c], jD y, jD e]] = (R ++ [((Tst.same z c).D, y, e)]).map rwD := by rw [List.map_append]; rfl
      rw [er] at hS
      simp only [List.length_map, List.length_append, List.length_singleton]
      have e2 : V.int (((R.length + 1 : Nat) : Int) - 1) = jV (put (Tst.same z c) y e R).1 := by show V.int _ = V.int ((R.length : Nat) : Int); congr 1; omega
      rw [e2]
      exact q _ (show Ls.Sep (Ls.ld pr ((R ++ [((Tst.same z c).D, y, e)]).map rwD) :: L) _ from Sub.ok (by walk_at "sub") hS)
theorem ok_turned {P : Program} {w : World} {K : PySem.W.Frag} {mg : Str → Option Value} {base : Heap} (E : Env K mg w) : FnOk P w K mg base CX0 2 E.a_turned E.fd_turned ["jump", "many"] (spTurned) := by
  refine E.F_turned.ok sc_turned (fun vs H Q E h => ?_) (fun cdv A outer s H vs Q E' hr h => ?_)
  · walk_at "hl"
  · have hu := huOf hr
    have G_is_end := ok_is_end (P := P) (w := w) (base := base) E
    have hr_is_end := hr.mono (show 1 ≤ 1 by decide)
    have b_is_end := b_is_end E
    have hcl_Kind := E.cl_Kind
    obtain ⟨j, m, rfl, q⟩ := h
    refine ⟨_, PSs.nox (pss_cons (ps_if (pt_val (pe_call G_is_end hr_is_end rfl E.g_is_end E.F_is_end.kp b_is_end .nil pass0 (pa_cons (pv 0) pa_nil))) (pss_one (ps_ret (pv 0))) pss_nil)
(pss_one (ps_ret (pe_op op_sub (pe_op op_sub (pv 1) pe_int) (pv 0))))), ?_⟩
    refine k_body (s1 := some _ :: some _ :: []) rfl ?_
    walk_at "s"
    refine ⟨j, rfl, ?_⟩
    cases j with
    | en b =>
      rw [show enB (.en b) = true from rfl]
      walk_at "s"
      exact q
    | go n =>
      rw [show enB (.go n) = false from rfl]
      dsimp only [jV]
      walk_at "s"
      exact q
theorem ok_made {P : Program} {w : World} {K : PySem.W.Frag} {mg : Str → Option Value} {base : Heap} (E : Env K mg w) : FnOk P w K mg base CX0 12 E.a_made E.fd_made ["test"] (spMade K) := by
  refine E.F_made.ok sc_made (fun vs H Q E h => ?_) (fun cdv A outer s H vs Q E' hr h => ?_)
  · walk_at "hl"
  · have hu := huOf hr
    have G_look_test := ok_look_test (P := P) (w := w) (base := base) E
    have hr_look_test := hr.mono (show 11 ≤ 11 by decide)
    have b_look_test := b_look_test E
    have G_put_rows := ok_put_rows (P := P) (w := w) (base := base) E 6
    have hr_put_rows := hr.mono (show 7 ≤ 11 by decide)
    have b_put_rows := b_put_rows E
    have G_is_end := ok_is_end (P := P) (w := w) (base := base) E
    have hr_is_end := hr.mono (show 1 ≤ 11 by decide)
    have b_is_end := b_is_end E
    have G_turned := ok_turned (P := P) (w := w) (base := base) E
    have hr_turned := hr.mono (show 2 ≤ 11 by decide)
    have b_turned := b_turned E
    have hcl_Kind := E.cl_Kind
    obtain ⟨a, t, L, rfl, hS, hm, hto, htd, htp, q⟩ := h
    refine ⟨_, PSs.nox (pss_cons (ps_expr (pe_call G_look_test hr_look_test rfl E.g_look_test E.F_look_test.kp b_look_test .nil pass0 (pa_cons (pv 0) pa_nil)))
(pss_cons (ps_set (i := 1) sc_made.nd rfl (Or.inl rfl) (pe_lst pa_nil))
(pss_cons (ps_set (i := 2) sc_made.nd rfl (Or.inl rfl) (pe_call G_put_rows hr_put_rows rfl E.g_put_rows E.F_put_rows.kp b_put_rows .nil pass0 (pa_cons (pv 0) (pa_cons pe_bl (pa_cons pe_bl (pa_cons (pv 1) pa_nil))))))
(pss_cons (ps_set (i := 3) sc_made.nd rfl (Or.inl rfl) (pe_tup (pa_cons (pv 2) (pa_cons (pe_lst pa_nil) pa_nil))))
(pss_cut (ps_if (pt_not (pt_val (pe_call G_is_end hr_is_end rfl E.g_is_end E.F_is_end.kp b_is_end .nil pass0 (pa_cons (pv 2) pa_nil)))) (pss_cons (ps_set (i := 4) sc_made.nd rfl (Or.inl rfl) (pe_slice (sl_U K rfl) (pv 1) po_none (po_some (pe_op (op_addU K rfl) (pv 2) pe_int))))
(pss_cons (ps_set (i := 5) sc_made.nd rfl (Or.inr rfl) (pe_callB (call_lenU K rfl) (by rfl) E.n_len boot_len (pa_cons (pv 4) pa_nil)))
(pss_one (ps_set (i := 3) sc_made.nd rfl (Or.inl rfl) (pe_tup (pa_cons pe_int (pa_cons (pe_lc (own := [("leaf", 6), ("yes", 7), ("no", 8)]) rfl sc_made.nd (pi_seqU K rfl (kRevL K rfl (pe_revL (pv 4)))) (blkOk_by (N := ["test", "rows", "start", "way", "kept", "many", "leaf", "yes", "no"]) (sc := defScope s_made) (by decide +kernel)) (fun _ _ _ _ _ => (kGTup (n := 3) K rfl (pg_tup rfl (pgs_cons (pg_name (i := 6) sc_made.nd rfl (Or.inl rfl)) (pgs_cons (pg_name (i := 7) sc_made.nd rfl (Or.inl rfl)) (pgs_cons (pg_name (i := 8) sc_made.nd rfl (Or.inl rfl)) pgs_nil)))))) (fun _ _ _ _ _ => pts_nil) (fun _ _ _ _ _ => (pe_tup (pa_cons (pv 6) (pa_cons (pe_call G_turned hr_turned rfl E.g_turned E.F_turned.kp b_turned .nil pass0 (pa_cons (pv 7) (pa_cons (pv 5) pa_nil))) (pa_cons (pe_call G_turned hr_turned rfl E.g_turned E.F_turned.kp b_turned .nil pass0 (pa_cons (pv 8) (pa_cons (pv 5) pa_nil))) pa_nil)))))) pa_nil))))))) pss_nil)
(pss_one (ps_ret (pv 3)))))))), ?_⟩
    refine k_body (s1 := some _ :: [none, none, none, none, none, none, none, none]) rfl ?_
    walk_at "s"
    refine ⟨a, t, _, rfl, hS, hm, hto, htd, htp, fun H hS => ?_⟩
    walk_at "s"
    obtain ⟨p0, ep0⟩ : ∃ p0 : Addr, p0 = p := ⟨_, rfl⟩
    rw [← ep0] at hS ⊢
    clear ep0
    obtain ⟨J, eJ⟩ : ∃ J, J = put t (.en true) (.en false) [] := ⟨_, rfl⟩
    have hpl := put_len t (.en true) (.en false) []
    have hpo := put_ok ("", []) [] t (.en true) (.en false) [] hto (fun i r hr => by simp at hr) trivial trivial
    have hdn := hpo.dn
    have hjp := hpo.jp
    clear hpo
    refine ⟨a, p0, .en true, .en false, t, [], L, rfl, by show t.deep ≤ 6; omega, hS, hm, by show 0 + t.parts ≤ 1000; omega, hto, by decide, fun H hS => ?_⟩
    have emk : mkW t = match J.1 with | .en b => (.en b, []) | .go n => (.go 0, turns n.toNat J.2) := by rw [eJ]; rfl
    rw [← eJ] at hS hpl hdn hjp ⊢
    obtain ⟨j0, R0⟩ := J
    dsimp only at hS hpl hdn hjp emk ⊢
    clear eJ
    have h0 : ([] : List RowW).length = 0 := rfl
    rw [h0] at hpl
    walk_at "s"
    rename_i pl _
    obtain ⟨p1, ep1⟩ : ∃ p1 : Addr, p1 = p := ⟨_, rfl⟩
    rw [← ep1] at hS ⊢
    clear ep1
    refine k_cut (fun σ H => ∃ (pw pr : Addr) (e4 e5 e6 e7 e8 : Option V), σ = [some (.ref a), some (.ref p0), some (jV j0), some (.ref pw), e4, e5, e6, e7, e8] ∧ Ls.Sep (K := K) (tu pw [jV (mkW t).1, .ref pr] :: Ls.ld pr ((mkW t).2.map rwD) :: L) H) ?_ ?_
    · walk_at "s"
      refine ⟨j0, rfl, ?_⟩
      cases j0 with
      | en b =>
        rw [show enB (.en b) = true from rfl]
        walk_at "s"
        dsimp only at emk
        rw [emk]
        exact ⟨p1, pl, _, _, _, _, _, rfl, show Ls.Sep (tu p1 [jV (.en b), .ref pl] :: Ls.ld pl [] :: L) _ from Sub.ok (by walk_at "sub") hS⟩
      | go n =>
        obtain ⟨g1, g2⟩ := hjp
        obtain ⟨m, rfl⟩ := Int.eq_ofNat_of_zero_le g1
        rw [show enB (.go (m : Int)) = false from rfl]
        dsimp only [jV] at hS ⊢
        dsimp only at emk
        rw [Int.toNat_natCast] at emk
        have hm0 : m < R0.length := by omega
        walk_at "s"
        obtain ⟨p4, ep4⟩ : ∃ p4 : Addr, p4 = p := ⟨_, rfl⟩
        rw [← ep4] at hS ⊢
        clear ep4
        have ec : cutD (R0.map rwD) none (some ((m : Int) + 1)) = (R0.take (m + 1)).map rwD := by rw [cutD_to (by omega), show ((m : Int) + 1).toNat = m + 1 by omega, List.map_take]
        have el : ((R0.take (m + 1)).map rwD).length = m + 1 := by rw [List.length_map, List.length_take]; omega
        rw [ec] at hS ⊢
        rw [el]
        unfold tRevL
        walk_at "s"
        obtain ⟨xv, hx1, hx2⟩ := hS.ldm (a := p4) (ds := (R0.take (m + 1)).map rwD) (by walk_at "mem")
        refine ⟨p4, xv, rfl, sql_of hx1, fun pv hpv => ?_⟩
        replace hS := Sep.newImA (p := pv) hS hpv (ImAll.rev hx2)
        rw [← List.map_reverse] at hS
        generalize upd H' pv (.lst xv.reverse) = H5 at hS ⊢
        clear hx1 hx2 hpv
        walk_at "s"
        obtain ⟨p5, ep5⟩ : ∃ p5 : Addr, p5 = p := ⟨_, rfl⟩
        rw [← ep5] at hS ⊢
        clear ep5
        have em : (((m + 1 : Nat) : Int) - 1) = m := by omega
        have hrl : (R0.take (m + 1)).reverse.length = m + 1 := by rw [List.length_reverse, List.length_take]; omega
        refine lc_flat (zs := (R0.take (m + 1)).reverse) (fun r => [rwD (turnR m r)]) hS (fun acc => wk_ldm (f := rwD) (by walk_at "mem")) (fun j r acc hr hk _ la => ?_) (fun H hS => ?_)
        · clear hS
          have hj := (List.getElem?_eq_some_iff.mp hr).1
          walk_at "gi"
          walk_at "ls"
          refine ⟨r.2.1, _, rfl, ?_⟩
          rw [em]
          walk_at "s"
          refine ⟨r.2.2, _, rfl, ?_⟩
          rw [em]
          walk_at "s"
          exact lc_keep hS (d := rwD (turnR m r)) (by show Dat _ _ (.tuple [r.1, jD (turnJ m r.2.1), jD (turnJ m r.2.2)]); walk_at "dat") (by walk_at "sub") (by rw [sizeLine_eq]; omega) (hk _ rfl)
        rw [flat_map (fun r : RowW => rwD (turnR m r)), show ((R0.take (m + 1)).reverse.map fun r : RowW => rwD (turnR m r)) = (turns m R0).map rwD by unfold turns; rw [List.map_map]; rfl] at hS
        walk_at "s"
        rw [emk]
        exact ⟨p, p5, _, _, _, _, _, rfl, show Ls.Sep (tu p [jV (.go 0), .ref p5] :: Ls.ld p5 ((turns m R0).map rwD) :: L) _ from Sub.ok (N := tu p [.int 0, .ref p5] :: Ls.ld p5 ((turns m R0).map rwD) :: _ :: _ :: _ :: _ :: _ :: L) (by show Sub (tu p [.int 0, .ref p5] :: _) (tu p [.int 0, .ref p5] :: _); walk_at "sub") hS⟩
    clear hS
    rintro σ H ⟨pw, pr, e4, e5, e6, e7, e8, rfl, hS⟩
    walk_at "s"
    exact q _ _ _ hS
end Lw
namespace Ls
open PySem PySem.Spec PyProof.Rows L2 LamX TL
def spWalked (K : PySem.W.Frag) (C : Addr) : Sp := fun vs H Q _ => ∃ (a pr x v : Addr) (s : Jp) (R : List RowW) (k : Kd) (us : List Int) (b : Bool) (c : Nat) (L : List (As K)), vs = [.ref a, .ref x, .ref v] ∧ Ls.Sep L H ∧ tu a [jV s, .ref pr] ∈ L ∧ Ls.ld pr (R.map rwD) ∈ L ∧ kindF C x k ∈ L ∧ im (.ref v) (.tuple (us.map PyData.int)) ∈ L ∧ k.2.length ≤ 4 ∧ us.length = k.2.length ∧ WayOk s R ∧ Gn k us R s b c ∧ c ≤ 1000 ∧ ∀ p H', Ls.Sep (im (.ref p) (.tuple [.bool b, .int c]) :: L) H' → Q (.ref p) H'
def spLWayOk (K : PySem.W.Frag) : Sp := fun vs H Q _ => ∃ (a pr : Addr) (s : Jp) (R : List RowW) (N : Nat) (L : List (As K)), vs = [.ref a] ∧ Ls.Sep L H ∧ tu a [jV s, .ref pr] ∈ L ∧ Ls.ld pr (R.map rwD) ∈ L ∧ R.length ≤ 1000 ∧ (∀ r ∈ R, RawL N r.1) ∧ N ≤ 8 ∧ ∀ H', Ls.Sep L H' → Q (.bl (decide (WayOk s R))) H'
theorem wk_imJ {K : PySem.W.Frag} {L : List (As K)} {a : Addr} {js : List Jp} (m : im (.ref a) (.tuple (js.map jD)) ∈ L) : Wk (Itt K a) L js.length fun i q => ∀ z, js[i]? = some z → q (jV z) [] where
  go := by have := (wk_im m).go; rwa [List.length_map] at this
  yl := fun i H x H' R hi h ⟨e, y⟩ q => by
    subst e
    obtain ⟨a', xs, e, h1, h2⟩ := im_tup (h.imm m)
    cases e
    obtain ⟨d, hd, hm⟩ := h2.get (y xs h1)
    rw [List.getElem?_map] at hd
    obtain ⟨z, hz, rfl⟩ := Option.map_eq_some_iff.mp hd
    obtain rfl := im_jV hm
    exact q z hz _ h
  st := by have := (wk_im m).st; rwa [List.length_map] at this
theorem word_in (t : Tst) : ∃ z r, t.D = .tuple (.str z :: r) ∧ (z ∈ (["all", "not", "and", "or"] : List Str) ↔ (t = .all ∨ t.deep ≠ 1)) := by
  cases t with
  | all => exact ⟨_, _, rfl, Iff.intro (fun _ => .inl rfl) fun _ => by decide +kernel⟩
  | is z => exact ⟨_, _, rfl, Iff.intro (fun h => absurd h (by decide +kernel)) fun h => h.elim (fun h => by cases h) fun h => (h rfl).elim⟩
  | less z c => exact ⟨_, _, rfl, Iff.intro (fun h => absurd h (by decide +kernel)) fun h => h.elim (fun h => by cases h) fun h => (h rfl).elim⟩
  | same z c => exact ⟨_, _, rfl, Iff.intro (fun h => absurd h (by decide +kernel)) fun h => h.elim (fun h => by cases h) fun h => (h rfl).elim⟩
  | no a => exact ⟨_, _, rfl, Iff.intro (fun _ => .inr (by have := deep_pos a; show a.deep + 1 ≠ 1; omega)) fun _ => by decide +kernel⟩
  | an a b => exact ⟨_, _, rfl, Iff.intro (fun _ => .inr (by have := deep_pos a; show max a.deep b.deep + 1 ≠ 1; omega)) fun _ => by decide +kernel⟩
  | or a b => exact ⟨_, _, rfl, Iff.intro (fun _ => .inr (by have := deep_pos a; show max a.deep b.deep + 1 ≠ 1; omega)) fun _ => by decide +kernel⟩
theorem leafD_raw {d : PyData} (h : LeafD d) : RawL 6 d := by
  obtain ⟨t, rfl, ho, hd, _⟩ := h
  obtain ⟨xs, e⟩ := t.D_tup
  exact ⟨xs, e, by rw [← e]; exact ok_raw ho (by omega)⟩
theorem WayOk.raw {s : Jp} {R : List RowW} (h : WayOk s R) : ∀ r ∈ R, RawL 6 r.1 := fun r hr => by
  cases s with
  | en b =>
    have h : R = [] := h
    rw [h] at hr
    cases hr
  | go n =>
    obtain ⟨i, hi⟩ := List.getElem?_of_mem hr
    exact leafD_raw (h.2.2 i r hi).1
theorem WayOk.leaf {s : Jp} {R : List RowW} {i : Nat} {r : RowW} (h : WayOk s R) (hi : R[i]? = some r) : LeafD r.1 := by
  cases s with
  | en b =>
    have h : R = [] := h
    rw [h] at hi
    simp at hi
  | go n => exact (h.2.2 i r hi).1
theorem at_natW {α : Type} {xs : List α} {j : Nat} {x : α} (h : xs[j]? = some x) : atI xs (j : Int) = some x := by
  unfold atI
  rw [ixN_nat (List.getElem?_eq_some_iff.mp h).1]
  exact h
end Ls
namespace Lw
open PySem PySem.Spec PyProof.Rows L2 Ls LamX
theorem ok_walked {P : Program} {w : World} {K : PySem.W.Frag} {mg : Str → Option Value} {base : Heap} (E : Env K mg w) : FnOk P w K mg base CX0 8 E.a_walked E.fd_walked ["way", "kind", "values"] (spWalked K E.C_Kind) := by
  refine E.F_walked.ok sc_walked (fun vs H Q E h => ?_) (fun cdv A outer s H vs Q E' hr h => ?_)
  · walk_at "hl"
  · have hu := huOf hr
    have G_is_end := ok_is_end (P := P) (w := w) (base := base) E
    have hr_is_end := hr.mono (show 1 ≤ 7 by decide)
    have b_is_end := b_is_end E
    have G_leaf_holds := ok_leaf_holds (P := P) (w := w) (base := base) E
    have hr_leaf_holds := hr.mono (show 2 ≤ 7 by decide)
    have b_leaf_holds := b_leaf_holds E
    have hcl_Kind := E.cl_Kind
    obtain ⟨a, pr, x, va, s, R, k, us, b, c, L, rfl, hS, ht, hl, hk, hv, h4, hul, hw, hg, hc, q⟩ := h
    refine ⟨_, PSs.nox (pss_cons (ps_asg (pv 0) (kGTup (n := 2) K rfl (pg_tup rfl (pgs_cons (pg_name (i := 3) sc_walked.nd rfl (Or.inl rfl)) (pgs_cons (pg_name (i := 4) sc_walked.nd rfl (Or.inl rfl)) pgs_nil)))))
(pss_cons (ps_set (i := 5) sc_walked.nd rfl (Or.inl rfl) pe_int)
(pss_cons (ps_while PassesOwn.never (pt_not (pt_val (pe_call G_is_end hr_is_end rfl E.g_is_end E.F_is_end.kp b_is_end .nil pass0 (pa_cons (pv 3) pa_nil))))
(pss_cons (ps_asg (pe_ix (ix_U K rfl) (pv 4) (pv 3) (fun _ _ => rfl)) (kGTup (n := 3) K rfl (pg_tup rfl (pgs_cons (pg_name (i := 6) sc_walked.nd rfl (Or.inl rfl)) (pgs_cons (pg_name (i := 7) sc_walked.nd rfl (Or.inl rfl)) (pgs_cons (pg_name (i := 8) sc_walked.nd rfl (Or.inl rfl)) pgs_nil))))))
(pss_cons (ps_aug (i := 5) sc_walked.nd rfl (Or.inl rfl) pe_int ip_add)
(pss_one (ps_set (i := 3) sc_walked.nd rfl (Or.inl rfl) (pe_join (pe_ifExp (pt_val (pe_call G_leaf_holds hr_leaf_holds rfl E.g_leaf_holds E.F_leaf_holds.kp b_leaf_holds .nil pass0 (pa_cons (pv 6) (pa_cons (pv 1) (pa_cons (pv 2) pa_nil))))) (pv 7) (pv 8))))))))
(pss_one (ps_ret (pe_tup (pa_cons (pv 3) (pa_cons (pv 5) pa_nil)))))))), ?_⟩
    refine k_body (s1 := some _ :: some _ :: some _ :: [none, none, none, none, none, none]) rfl ?_
    walk_at "s"
    refine k_while ?_
    refine ⟨fun m σ H => ∃ (j : Jp) (n : Nat) (e6 e7 e8 : Option V), Gn k us R j b m ∧ n + m = c ∧ σ = [some (.ref a), some (.ref x), some (.ref va), some (jV j), some (.ref pr), some (.int (n : Int)), e6, e7, e8] ∧ Ls.Sep (K := K) L H, ⟨c, s, 0, _, _, _, hg, Nat.zero_add c, rfl, hS⟩, ?_⟩
    clear hS
    rintro m σ H ⟨j, n, e6, e7, e8, hg, hn, rfl, hS⟩
    walk_at "s"
    refine ⟨j, rfl, ?_⟩
    cases hg with
    | en =>
      rw [show enB (.en b) = true from rfl]
      walk_at "s"
      rw [Nat.add_zero] at hn
      subst hn
      exact q p _ (show Ls.Sep (im (.ref p) (.tuple [.bool b, .int n]) :: L) _ from hS)
    | @go i r _ m h0 hr hg =>
      obtain ⟨j2, rfl⟩ := Int.eq_ofNat_of_zero_le h0
      rw [Int.toNat_natCast] at hr
      rw [show enB (.go (j2 : Int)) = false from rfl, jV_go]
      have hat : atI (R.map rwD) (j2 : Int) = some (rwD r) := at_natW (by rw [List.getElem?_map, hr]; rfl)
      walk_at "s"
      refine ⟨fun σ H => ∃ (j : Jp) (n : Nat) (e6 e7 e8 : Option V), Gn k us R j b m ∧ n + m = c ∧ σ = [some (.ref a), some (.ref x), some (.ref va), some (jV j), some (.ref pr), some (.int (n : Int)), e6, e7, e8] ∧ Ls.Sep (K := K) L H, fun σ' H' h => ⟨m, Nat.lt_succ_self m, h⟩, ?_⟩
      walk_at "s"
      obtain ⟨t, et, hto, htd, hta⟩ := hw.leaf hr
      rw [← et] at hS
      obtain ⟨pl, rfl⟩ := im_isD hS List.mem_cons_self
      have ep : passD k us r.1 = t.pass k us := by rw [← et]; exact passD_D hto (by omega)
      rw [ep] at hg
      refine k_join (fun u H => u = jV (if t.pass k us = true then r.2.1 else r.2.2) ∧ Ls.Sep (K := K) L H) ?_ ?_
      · walk_at "s"
        refine ⟨pl, x, va, t, k, us, _, rfl, htd, hS, by walk_at "mem", by walk_at "mem", by walk_at "mem", h4, hul, fun H hS => ?_⟩
        refine ⟨_, rfl, ?_⟩
        cases e : t.pass k us with
        | true =>
          walk_at "s"
          exact ⟨rfl, Sub.ok (by walk_at "sub") hS⟩
        | false =>
          walk_at "s"
          exact ⟨rfl, Sub.ok (by walk_at "sub") hS⟩
      clear hS
      rintro u H ⟨rfl, hS⟩
      walk_at "s"
      exact ⟨_, n + 1, _, _, _, hg, by omega, rfl, hS⟩
theorem ok__law_way_ok {P : Program} {w : World} {K : PySem.W.Frag} {mg : Str → Option Value} {base : Heap} (E : Env K mg w) : FnOk P w K mg base CX0 14 E.a__law_way_ok E.fd__law_way_ok ["_law_way"] (spLWayOk K) := by
  refine E.F__law_way_ok.ok sc__law_way_ok (fun vs H Q E h => ?_) (fun cdv A outer s H vs Q E' hr h => ?_)
  · walk_at "hl"
  · have hu := huOf hr
    have G__law_ended := ok__law_ended (P := P) (w := w) (base := base) E
    have hr__law_ended := hr.mono (show 1 ≤ 13 by decide)
    have b__law_ended := b__law_ended E
    have G__law_test_ok := ok__law_test_ok (P := P) (w := w) (base := base) E
    have hr__law_test_ok := hr.mono (show 13 ≤ 13 by decide)
    have b__law_test_ok := b__law_test_ok E
    have hcl_Kind := E.cl_Kind
    obtain ⟨a, pr, s, R, N, L, rfl, hS, ht, hl, hR, hrw, hN, q⟩ := h
    refine ⟨_, PSs.nox (pss_cons (ps_asg (pv 0) (kGTup (n := 2) K rfl (pg_tup rfl (pgs_cons (pg_name (i := 1) sc__law_way_ok.nd rfl (Or.inl rfl)) (pgs_cons (pg_name (i := 2) sc__law_way_ok.nd rfl (Or.inl rfl)) pgs_nil)))))
(pss_cons (ps_if (pt_val (pe_call G__law_ended hr__law_ended rfl E.g__law_ended E.F__law_ended.kp b__law_ended .nil pass0 (pa_cons (pv 1) pa_nil))) (pss_one (ps_ret (pe_cmpR (op_eqZ K rfl hu) (pv 2) (pe_lst pa_nil) (nomark _)))) pss_nil)
(pss_cons (ps_if (PW.pt (pw_or (pt_cmpR (op_neU K rfl hu) (pv 1) pe_int (nomark _)) (pw_or1 (pt_cmpR (op_eqZ K rfl hu) (pv 2) (pe_lst pa_nil) (nomark _))))) (pss_one (ps_ret pe_bl)) pss_nil)
(pss_cons (ps_for PassesOwn.never rfl (pi_range1 rfl E.n_range (pa_cons (pe_callB (call_lenU K rfl) (by rfl) E.n_len boot_len (pa_cons (pv 2) pa_nil)) pa_nil)) (pg_name (i := 3) sc__law_way_ok.nd rfl (Or.inl rfl))
(pss_cons (ps_asg (pe_ix (ix_U K rfl) (pv 2) (pv 3) (fun _ _ => rfl)) (kGTup (n := 3) K rfl (pg_tup rfl (pgs_cons (pg_name (i := 4) sc__law_way_ok.nd rfl (Or.inl rfl)) (pgs_cons (pg_name (i := 5) sc__law_way_ok.nd rfl (Or.inl rfl)) (pgs_cons (pg_name (i := 6) sc__law_way_ok.nd rfl (Or.inl rfl)) pgs_nil))))))
(pss_cons (ps_if (PW.pt (pw_or (pt_not (pt_val (pe_call G__law_test_ok hr__law_test_ok rfl E.g__law_test_ok E.F__law_test_ok.kp b__law_test_ok .nil pass0 (pa_cons (pv 4) pa_nil)))) (pw_or1 (pt_cmpR (op_inU K rfl hu) (pe_ix (ix_U K rfl) (pv 4) pe_int (fun _ _ => rfl)) (pe_tup (pa_cons pe_str (pa_cons pe_str (pa_cons pe_str (pa_cons pe_str pa_nil))))) (by with_unfolding_all rfl))))) (pss_one (ps_ret pe_bl)) pss_nil)
(pss_one (ps_for PassesOwn.never rfl (pi_seqU K rfl (pe_tup (pa_cons (pv 5) (pa_cons (pv 6) pa_nil)))) (pg_name (i := 7) sc__law_way_ok.nd rfl (Or.inl rfl))
(pss_one (ps_if (PW.pt (pw_and (pt_not (pt_val (pe_call G__law_ended hr__law_ended rfl E.g__law_ended E.F__law_ended.kp b__law_ended .nil pass0 (pa_cons (pv 7) pa_nil)))) (pw_and1 (pt_not (pt_chain op_lt op_lt (pv 3) (pv 7) (pe_callB (call_lenU K rfl) (by rfl) E.n_len boot_len (pa_cons (pv 2) pa_nil))))))) (pss_one (ps_ret pe_bl)) pss_nil)))))))
(pss_one (ps_ret pe_bl)))))), ?_⟩
    refine k_body (s1 := some _ :: [none, none, none, none, none, none, none]) rfl ?_
    cases s with
    | en b =>
      dsimp only [jV] at ht
      walk_at "s"
      refine ⟨.en b, rfl, ?_⟩
      rw [show enB (.en b) = true from rfl]
      walk_at "s"
      have e : decide (R.map rwD = []) = decide (WayOk (.en b) R) := by
        by_cases h : R = []
        · rw [decide_eq_true (show WayOk (.en b) R from h), h]
          rfl
        · rw [decide_eq_false (show ¬ WayOk (.en b) R from h), decide_eq_false fun z => h (List.map_eq_nil_iff.mp z)]
      rw [e]
      exact q _ (Sub.ok (by walk_at "sub") hS)
    | go n =>
      dsimp only [jV] at ht
      walk_at "s"
      refine ⟨.go n, rfl, ?_⟩
      rw [show enB (.go n) = false from rfl]
      walk_at "s"
      by_cases h0 : n = 0
      · rw [if_neg (by rw [decide_eq_true h0]; exact Bool.false_ne_true)]
        walk_at "s"
        by_cases h1 : R = []
        · rw [if_pos (decide_eq_true (by rw [h1]; rfl))]
          rw [decide_eq_false (fun z : WayOk (.go n) R => z.2.1 h1)] at q
          walk_at "s"
          exact q _ (Sub.ok (by walk_at "sub") hS)
        · rw [if_neg (by rw [decide_eq_false (fun z => h1 (List.map_eq_nil_iff.mp z))]; exact Bool.false_ne_true)]
          walk_at "s"
          rw [List.length_map]
          walk_at "s"
          rw [Int.toNat_natCast]
          refine for_wk (L := L) (n := R.length) (fun i σ L' => L' = L ∧ (∀ (j : Nat) (r : RowW), j < i → R[j]? = some r → RowOk j R.length r) ∧ ∃ c3 c4 c5 c6 c7, σ = [some (.ref a), some (.int n), some (.ref pr), c3, c4, c5, c6, c7]) (fun i σ L' _ => wk_rng) (show Ls.Sep L _ from Sub.ok (by walk_at "sub") hS) ⟨rfl, (fun j r hj => absurd hj (Nat.not_lt_zero j)), _, _, _, _, _, rfl⟩ (fun i σ L' hi iv H hS9 => ?_) (fun σ L' H iv hS9 => ?_)
          · obtain ⟨rfl, hrow, c3, c4, c5, c6, c7, rfl⟩ := iv
            clear hS
            have hS := hS9
            clear hS9
            walk_at "ns"
            have hri : R[i]? = some R[i] := List.getElem?_eq_getElem hi
            have hat : atI (R.map rwD) (0 + (i : Int)) = some (rwD R[i]) := by rw [Int.zero_add]; exact at_natW (by rw [List.getElem?_map, hri]; rfl)
            obtain ⟨xs, ex, hraw⟩ := hrw _ (List.getElem_mem hi)
            obtain ⟨⟨d, y, e⟩, er⟩ : ∃ r, r = R[i] := ⟨_, rfl⟩
            rw [← er] at hat hri ex
            dsimp only at ex
            subst ex
            clear er
            walk_at "s"
            refine k_grow (r := (.tuple xs, y, e)) hS (by show im _ (.tuple [.tuple xs, jD y, jD e]) ∈ _; walk_at "mem") fun vl hS => ?_
            dsimp only at hS
            obtain ⟨pl, rfl⟩ := im_isRef hS List.mem_cons_self
            have bad : ¬ RowOk i R.length (.tuple xs, y, e) → decide (WayOk (.go n) R) = false := fun h => decide_eq_false fun z => h (z.2.2 i _ hri)
            walk_at "s"
            refine ⟨pl, xs, N, _, rfl, hN, hS, by walk_at "mem", hraw, fun H hS => ?_⟩
            refine ⟨_, rfl, ?_⟩
            by_cases hit : IsT (.tuple xs)
            · rw [decide_eq_true hit]
              obtain ⟨t, et, hto, htd, htp⟩ := isT_is hit
              obtain ⟨z, zr, ez, hzi⟩ := word_in t
              have exs : xs = .str z :: zr := by
                rw [ez] at et
                injection et with et
                exact et.symm
              have hleaf : LeafD (.tuple xs) ↔ ¬ z ∈ (["all", "not", "and", "or"] : List Str) := by
                rw [hzi]
                refine Iff.intro (fun ⟨u, eu, hu1, hu2, hu3⟩ => ?_) fun h => ⟨t, et, hto, Classical.not_not.mp fun c => h (.inr c), fun c => h (.inl c)⟩
                obtain rfl := D_inj hto hu1 (et.trans eu.symm)
                exact fun h => h.elim hu3 fun h => h hu2
              have hat0 : atI xs 0 = some (.str z) := by rw [exs]; exact at00 _ _
              walk_at "s"
              refine k_inSt hS (zs := ["all", "not", "and", "or"]) (by show im _ (.tuple [.str "all", .str "not", .str "and", .str "or"]) ∈ _; walk_at "mem") ?_
              by_cases hz : z ∈ (["all", "not", "and", "or"] : List Str)
              · rw [decide_eq_true hz]
                rw [bad fun h => hleaf.mp h.1 hz] at q
                walk_at "s"
                exact q _ (Sub.ok (by walk_at "sub") hS)
              · rw [decide_eq_false hz]
                walk_at "s"
                have hlf := hleaf.mpr hz
                obtain ⟨pj, epj⟩ : ∃ pj : Addr, pj = p := ⟨_, rfl⟩
                rw [← epj] at hS ⊢
                clear epj
                refine for_wk (D := { nx := _, rt := Q, bk := fun _ _ => True, ct := fun _ _ => True }) (L := im (.ref pj) (.tuple [jD y, jD e]) :: L') (n := 2) (Y := fun i q => ∀ z, [y, e][i]? = some z → q (jV z) []) (fun i2 σ L2 => L2 = im (.ref pj) (.tuple [jD y, jD e]) :: L' ∧ (∀ z, z ∈ [y, e].take i2 → JOk i R.length z) ∧ ∃ c7, σ = [some (.ref a), some (.int n), some (.ref pr), some (.int (0 + (i : Int))), some (.ref pl), some (jV y), some (jV e), c7]) (fun i σ L' h => by obtain ⟨rfl, _⟩ := h; exact wk_imJ (js := [y, e]) (by show im _ (.tuple [jD y, jD e]) ∈ _; walk_at "mem")) (Sub.ok (by walk_at "sub") hS) ⟨rfl, (fun z hz => by simp at hz), _, rfl⟩ (fun i2 σ L2 hi2 iv2 jz hz2 H hS9 => ?_) (fun σ L2 H iv2 hS9 => ?_)
                · obtain ⟨rfl, hjs, c7, rfl⟩ := iv2
                  clear hS
                  have hS := hS9
                  clear hS9
                  walk_at "ns"
                  walk_at "s"
                  refine ⟨jz, rfl, ?_⟩
                  have hzm : jz ∈ [y, e] := List.mem_of_getElem? hz2
                  have etk : [y, e].take (i2 + 1) = [y, e].take i2 ++ [jz] := by rw [List.take_add_one, hz2]; rfl
                  have nxt : JOk i R.length jz → ∀ z, z ∈ [y, e].take (i2 + 1) → JOk i R.length z := fun hj z hz => by
                    rw [etk] at hz
                    rcases List.mem_append.mp hz with hz | hz
                    · exact hjs z hz
                    · rw [List.mem_singleton.mp hz]; exact hj
                  have bad2 : ¬ JOk i R.length jz → ¬ RowOk i R.length (.tuple xs, y, e) := fun hj hr => by
                    simp only [List.mem_cons, List.not_mem_nil, or_false] at hzm
                    rcases hzm with rfl | rfl
                    · exact hj hr.2.1
                    · exact hj hr.2.2
                  cases jz with
                  | en b =>
                    rw [show enB (.en b) = true from rfl]
                    walk_at "s"
                    exact ⟨_, ⟨rfl, nxt trivial, _, rfl⟩, Sub.ok (by walk_at "sub") hS⟩
                  | go u =>
                    rw [show enB (.go u) = false from rfl, jV_go]
                    walk_at "s"
                    by_cases b1 : 0 + (i : Int) < u
                    · rw [if_pos (decide_eq_true b1)]
                      walk_at "s"
                      rw [List.length_map]
                      by_cases b2 : u < (R.length : Int)
                      · rw [decide_eq_true b2]
                        walk_at "s"
                        exact ⟨_, ⟨rfl, nxt ⟨by omega, b2⟩, _, rfl⟩, Sub.ok (by walk_at "sub") hS⟩
                      · rw [decide_eq_false b2]
                        rw [bad (bad2 fun h => b2 h.2)] at q
                        walk_at "s"
                        exact q _ (Sub.ok (by walk_at "sub") hS)
                    · rw [if_neg (by rw [decide_eq_false b1]; exact Bool.false_ne_true)]
                      rw [bad (bad2 fun h => b1 (by have := h.1; omega))] at q
                      walk_at "s"
                      exact q _ (Sub.ok (by walk_at "sub") hS)
                · obtain ⟨rfl, hjs, c7, rfl⟩ := iv2
                  have hrw2 : RowOk i R.length (.tuple xs, y, e) := ⟨hlf, hjs y (by simp), hjs e (by simp)⟩
                  refine ⟨_, ⟨rfl, fun j r hj hr => ?_, _, _, _, _, _, rfl⟩, Sub.ok (by walk_at "sub") hS9⟩
                  rcases Nat.lt_or_ge j i with h | h
                  · exact hrow j r h hr
                  · obtain rfl : j = i := by omega
                    rw [hri] at hr
                    cases hr
                    exact hrw2
            · rw [decide_eq_false hit]
              rw [bad fun h => hit (leafD_T h.1).choose_spec.2] at q
              walk_at "s"
              exact q _ (Sub.ok (by walk_at "sub") hS)
          · obtain ⟨rfl, hrow, c3, c4, c5, c6, c7, rfl⟩ := iv
            rw [decide_eq_true (show WayOk (.go n) R from ⟨h0, h1, fun i r hr => hrow i r (List.getElem?_eq_some_iff.mp hr).1 hr⟩)] at q
            walk_at "s"
            exact q _ hS9
      · rw [if_pos (by rw [decide_eq_false h0]; rfl)]
        rw [decide_eq_false (fun z : WayOk (.go n) R => h0 z.1)] at q
        walk_at "s"
        exact q _ hS
end Lw
namespace Ls
open PySem PySem.Spec PyProof.Rows L2 TL
def ledJ (h : Nat → Jp) : Jp → Jp
  | .en b => .en b
  | .go n => h n.toNat
def ledR (h : Nat → Jp) (r : RowW) : RowW := (r.1, ledJ h r.2.1, ledJ h r.2.2)
abbrev KnL := List (RowW × Nat)
noncomputable instance decRowW : DecidableEq RowW := fun _ _ => Classical.propDecidable _
noncomputable def knF (kn : KnL) (q : RowW) : Option Nat := (kn.find? fun x => decide (x.1 = q)).map (·.2)
def setH (h : Nat → Jp) (i : Nat) (j : Jp) : Nat → Jp := fun b => if b = i then j else h b
noncomputable def jstep (i : Nat) (r : RowW) (h : Nat → Jp) (kn : KnL) : (Nat → Jp) × KnL :=
  if (ledR h r).2.1 = (ledR h r).2.2 then (setH h i (ledR h r).2.1, kn) else match knF kn (ledR h r) with
    | some a => (setH h i (.go (a : Nat)), kn)
    | none => (setH h i (.go (i : Nat)), kn ++ [(ledR h r, i)])
noncomputable def jn (R : List RowW) : Nat → (Nat → Jp) × KnL
  | 0 => (fun _ => .en false, [])
  | k + 1 => match R[R.length - 1 - k]? with
    | some r => jstep (R.length - 1 - k) r (jn R k).1 (jn R k).2
    | none => jn R k
def Fw (R : List RowW) : Prop := ∀ (i : Nat) (r : RowW), R[i]? = some r → JOk i R.length r.2.1 ∧ JOk i R.length r.2.2
theorem knF_app {kn : KnL} {q r : RowW} {a : Nat} : knF (kn ++ [(q, a)]) r = match knF kn r with | some b => some b | none => if q = r then some a else none := by
  unfold knF
  rw [List.find?_append]
  cases e : kn.find? fun x => decide (x.1 = r) with
  | some x => rfl
  | none =>
    by_cases c : q = r
    · simp [c]
    · simp [c]
theorem knF_mem {kn : KnL} {q : RowW} {a : Nat} (h : knF kn q = some a) : (q, a) ∈ kn := by
  unfold knF at h
  obtain ⟨x, hx, rfl⟩ := Option.map_eq_some_iff.mp h
  have h1 := List.find?_some hx
  have h2 := List.mem_of_find?_eq_some hx
  have e : x.1 = q := of_decide_eq_true h1
  rw [← e]
  exact h2
theorem ledJ_set {h : Nat → Jp} {i : Nat} {j l : Jp} (k : ∀ n, j = .go n → n.toNat ≠ i) : ledJ (setH h i l) j = ledJ h j := by
  cases j with
  | en b => rfl
  | go n =>
    show setH h i l n.toNat = h n.toNat
    unfold setH
    rw [if_neg (k n rfl)]
theorem ledR_set {h : Nat → Jp} {i : Nat} {r : RowW} {l : Jp} (k : ∀ n, r.2.1 = .go n → n.toNat ≠ i) (k2 : ∀ n, r.2.2 = .go n → n.toNat ≠ i) : ledR (setH h i l) r = ledR h r := by
  unfold ledR
  rw [ledJ_set k, ledJ_set k2]
/-- behind the rows from lo on -/
structure JI (R : List RowW) (lo : Nat) (h : Nat → Jp) (kn : KnL) : Prop where
  row : ∀ (i : Nat) (r : RowW), lo ≤ i → R[i]? = some r → ((ledR h r).2.1 = (ledR h r).2.2 ∧ h i = (ledR h r).2.1) ∨ ((ledR h r).2.1 ≠ (ledR h r).2.2 ∧ ∃ a, h i = .go (a : Nat) ∧ i ≤ a ∧ knF kn (ledR h r) = some a)
  kn : ∀ (q : RowW) (a : Nat), (q, a) ∈ kn → lo ≤ a ∧ h a = .go (a : Nat) ∧ ∃ r, R[a]? = some r ∧ ledR h r = q
theorem JI.step {R : List RowW} {i : Nat} {h : Nat → Jp} {kn : KnL} {r : RowW} (fw : Fw R) (J : JI R (i + 1) h kn) (hr : R[i]? = some r) : JI R i (jstep i r h kn).1 (jstep i r h kn).2 := by
  have no : ∀ (b : Nat) (x : RowW), i ≤ b → R[b]? = some x → ∀ l, ledR (setH h i l) x = ledR h x := fun b x hb hx l => by
    obtain ⟨f1, f2⟩ := fw b x hx
    refine ledR_set (fun n e => ?_) fun n e => ?_
    · rw [e] at f1
      have := f1.1
      omega
    · rw [e] at f2
      have := f2.1
      omega
  have old : ∀ (b : Nat) (l : Jp), i + 1 ≤ b → setH h i l b = h b := fun b l hb => if_neg (by omega)
  have self : ∀ l : Jp, setH h i l i = l := fun l => if_pos rfl
  have knl : ∀ (l : Jp) (q : RowW) (a : Nat), (q, a) ∈ kn → i ≤ a ∧ setH h i l a = .go (a : Nat) ∧ ∃ x, R[a]? = some x ∧ ledR (setH h i l) x = q := fun l q a m => by
    obtain ⟨k1, k2, x, k3, k4⟩ := J.kn q a m
    exact ⟨by omega, by rw [old a l k1]; exact k2, x, k3, by rw [no a x (by omega) k3]; exact k4⟩
  unfold jstep
  by_cases c : (ledR h r).2.1 = (ledR h r).2.2
  · rw [if_pos c]
    refine ⟨fun b x hb hx => ?_, fun q a m => knl _ q a m⟩
    dsimp only
    rw [no b x hb hx]
    rcases Nat.lt_or_ge i b with z | z
    · rw [old b _ z]
      exact J.row b x z hx
    · obtain rfl : b = i := by omega
      rw [hr] at hx
      cases hx
      exact .inl ⟨c, self _⟩
  · rw [if_neg c]
    cases e : knF kn (ledR h r) with
    | some a0 =>
      refine ⟨fun b x hb hx => ?_, fun q a m => knl _ q a m⟩
      dsimp only
      rw [no b x hb hx]
      rcases Nat.lt_or_ge i b with z | z
      · rw [old b _ z]
        exact J.row b x z hx
      · obtain rfl : b = i := by omega
        rw [hr] at hx
        cases hx
        exact .inr ⟨c, a0, self _, by have := (J.kn _ _ (knF_mem e)).1; omega, e⟩
    | none =>
      refine ⟨fun b x hb hx => ?_, fun q a m => ?_⟩
      · dsimp only
        rw [no b x hb hx]
        rcases Nat.lt_or_ge i b with z | z
        · rw [old b _ z]
          rcases J.row b x z hx with y | ⟨y1, a, y2, y3, y4⟩
          · exact .inl y
          · exact .inr ⟨y1, a, y2, y3, by rw [knF_app, y4]⟩
        · obtain rfl : b = i := by omega
          rw [hr] at hx
          cases hx
          exact .inr ⟨c, b, self _, Nat.le_refl _, by rw [knF_app, e]; exact if_pos rfl⟩
      · dsimp only at m ⊢
        rcases List.mem_append.mp m with m | m
        · exact knl _ q a m
        · have e2 := List.mem_singleton.mp m
          injection e2 with e3 e4
          subst e3 e4
          exact ⟨Nat.le_refl _, self _, r, hr, no _ r (Nat.le_refl _) hr _⟩
theorem jn_inv {R : List RowW} (fw : Fw R) : ∀ k, k ≤ R.length → JI R (R.length - k) (jn R k).1 (jn R k).2
  | 0, _ => ⟨fun i r hi hr => absurd (List.getElem?_eq_some_iff.mp hr).1 (by omega), fun q a m => nomatch m⟩
  | k + 1, hk => by
    have J := jn_inv fw k (by omega)
    have hr : R[R.length - 1 - k]? = some (R[R.length - 1 - k]'(by omega)) := List.getElem?_eq_getElem (by omega)
    rw [show R.length - k = (R.length - 1 - k) + 1 by omega] at J
    have S := J.step fw hr
    rw [show R.length - (k + 1) = R.length - 1 - k by omega]
    show JI R _ (match R[R.length - 1 - k]? with | some r => jstep (R.length - 1 - k) r (jn R k).1 (jn R k).2 | none => jn R k).1 (match R[R.length - 1 - k]? with | some r => jstep (R.length - 1 - k) r (jn R k).1 (jn R k).2 | none => jn R k).2
    rw [hr]
    exact S
/-- where each row leads, all told -/
noncomputable def hdJ (R : List RowW) : Nat → Jp := (jn R R.length).1
structure Hds (R : List RowW) (h : Nat → Jp) : Prop where
  row : ∀ (i : Nat) (r : RowW), R[i]? = some r → ((ledR h r).2.1 = (ledR h r).2.2 ∧ h i = (ledR h r).2.1) ∨ ((ledR h r).2.1 ≠ (ledR h r).2.2 ∧ ∃ a x, h i = .go (a : Nat) ∧ i ≤ a ∧ h a = .go (a : Nat) ∧ R[a]? = some x ∧ ledR h x = ledR h r)
  one : ∀ (i j : Nat) (r x : RowW), R[i]? = some r → R[j]? = some x → h i = .go (i : Nat) → h j = .go (j : Nat) → ledR h r = ledR h x → i = j
theorem hds_of {R : List RowW} (fw : Fw R) : Hds R (hdJ R) := by
  have J := jn_inv fw R.length (Nat.le_refl _)
  rw [Nat.sub_self] at J
  have lead : ∀ (j i : Nat) (r : RowW), R.length - i = j → R[i]? = some r → ∀ a : Nat, hdJ R i = .go (a : Nat) → i ≤ a := fun j => by
    induction j using Nat.strongRecOn with
    | ind j ih =>
      intro i r hj hr a ha
      rcases J.row i r (Nat.zero_le _) hr with ⟨h1, h2⟩ | ⟨_, b, h2, h3, _⟩
      · have hi := (List.getElem?_eq_some_iff.mp hr).1
        obtain ⟨f1, _⟩ := fw i r hr
        change hdJ R i = (ledR (hdJ R) r).2.1 at h2
        rw [ha] at h2
        change Jp.go a = ledJ (hdJ R) r.2.1 at h2
        cases e : r.2.1 with
        | en b => rw [e] at h2; cases h2
        | go n =>
          rw [e] at h2 f1
          obtain ⟨g1, g2⟩ := f1
          have := ih (R.length - n.toNat) (by omega) n.toNat _ rfl (List.getElem?_eq_getElem (by omega)) a h2.symm
          omega
      · change hdJ R i = _ at h2
        rw [ha] at h2
        injection h2 with h2
        omega
  refine ⟨fun i r hr => ?_, fun i j r x hi hj ei ej e => ?_⟩
  · rcases J.row i r (Nat.zero_le _) hr with y | ⟨y1, a, y2, y3, y4⟩
    · exact .inl y
    · obtain ⟨k1, k2, x, k3, k4⟩ := J.kn _ _ (knF_mem y4)
      exact .inr ⟨y1, a, x, y2, y3, k2, k3, k4⟩
  · have own : ∀ (i : Nat) (r : RowW), R[i]? = some r → hdJ R i = .go (i : Nat) → knF (jn R R.length).2 (ledR (hdJ R) r) = some i := fun i r hr ei => by
      rcases J.row i r (Nat.zero_le _) hr with ⟨h1, h2⟩ | ⟨_, b, h2, h3, h4⟩
      · exfalso
        change hdJ R i = (ledR (hdJ R) r).2.1 at h2
        rw [ei] at h2
        change Jp.go i = ledJ (hdJ R) r.2.1 at h2
        obtain ⟨f1, _⟩ := fw i r hr
        cases e : r.2.1 with
        | en b => rw [e] at h2; cases h2
        | go n =>
          rw [e] at h2 f1
          obtain ⟨g1, g2⟩ := f1
          have := lead _ n.toNat _ rfl (List.getElem?_eq_getElem (by omega)) i h2.symm
          omega
      · change hdJ R i = _ at h2
        rw [ei] at h2
        injection h2 with h2
        have : i = b := by omega
        subst this
        exact h4
    have a1 := own i r hi ei
    have a2 := own j x hj ej
    rw [e, a2] at a1
    exact (Option.some.inj a1).symm
/-- each leads to an end, or to a row that leads to itself -/
theorem Hds.to {R : List RowW} {h : Nat → Jp} (fw : Fw R) (hh : Hds R h) : ∀ (m i : Nat), R.length - i = m → i < R.length → (∃ b, h i = .en b) ∨ ∃ a : Nat, h i = .go (a : Nat) ∧ i ≤ a ∧ a < R.length ∧ h a = .go (a : Nat) := fun m => by
  induction m using Nat.strongRecOn with
  | ind m ih =>
    intro i hm hi
    have hr : R[i]? = some R[i] := List.getElem?_eq_getElem hi
    rcases hh.row i _ hr with ⟨_, h2⟩ | ⟨_, a, x, h2, h3, h4, h5, _⟩
    · obtain ⟨f1, _⟩ := fw i _ hr
      rw [h2]
      show (∃ b, ledJ h R[i].2.1 = .en b) ∨ ∃ a : Nat, ledJ h R[i].2.1 = .go (a : Nat) ∧ _
      cases e : R[i].2.1 with
      | en b => exact .inl ⟨b, rfl⟩
      | go n =>
        rw [e] at f1
        obtain ⟨g1, g2⟩ := f1
        rcases ih (R.length - n.toNat) (by omega) n.toNat rfl (by omega) with ⟨b, z⟩ | ⟨a, z1, z2, z3, z4⟩
        · exact .inl ⟨b, z⟩
        · exact .inr ⟨a, z1, by omega, z3, z4⟩
    · exact .inr ⟨a, h2, h3, (List.getElem?_eq_some_iff.mp h5).1, h4⟩
/-- a led jump of a row leads on, to a row that leads to itself -/
theorem Hds.led {R : List RowW} {h : Nat → Jp} (fw : Fw R) (hh : Hds R h) {i : Nat} {j : Jp} (hj : JOk i R.length j) : (∃ b, ledJ h j = .en b) ∨ ∃ a : Nat, ledJ h j = .go (a : Nat) ∧ i < a ∧ a < R.length ∧ h a = .go (a : Nat) := by
  cases j with
  | en b => exact .inl ⟨b, rfl⟩
  | go n =>
    obtain ⟨g1, g2⟩ := hj
    rcases hh.to fw _ n.toNat rfl (by omega) with z | ⟨a, z1, z2, z3, z4⟩
    · exact .inl z
    · exact .inr ⟨a, z1, by omega, z3, z4⟩
/-- the rows with their jumps led -/
def ledL (h : Nat → Jp) (R : List RowW) : List RowW := R.map (ledR h)
/-- going by led jumps tells the same, with no more rows -/
theorem Hds.gn {R : List RowW} {h : Nat → Jp} {k : Kd} {us : List Int} (fw : Fw R) (hh : Hds R h) {j : Jp} {b : Bool} {c : Nat} (g : Gn k us R j b c) : ∃ c', c' ≤ c ∧ Gn k us (ledL h R) (ledJ h j) b c' := by
  induction g with
  | en b => exact ⟨0, Nat.le_refl _, .en b⟩
  | @go n r b c h0 hr hg ih =>
    obtain ⟨c', hc, g⟩ := ih
    obtain ⟨p, rfl⟩ := Int.eq_ofNat_of_zero_le h0
    rw [Int.toNat_natCast] at hr
    show ∃ c', c' ≤ c + 1 ∧ Gn k us (ledL h R) (h (((p : Nat) : Int)).toNat) b c'
    rw [Int.toNat_natCast]
    have e1 : ledJ h (if passD k us r.1 = true then r.2.1 else r.2.2) = if passD k us r.1 = true then (ledR h r).2.1 else (ledR h r).2.2 := by
      split <;> rfl
    rw [e1] at g
    rcases hh.row p r hr with ⟨h1, h2⟩ | ⟨_, a, x, h2, h3, h4, h5, h6⟩
    · rw [← h1, ite_self] at g
      rw [h2]
      exact ⟨c', by omega, g⟩
    · rw [h2]
      refine ⟨c' + 1, by omega, .go (r := ledR h x) (by omega) ?_ ?_⟩
      · rw [Int.toNat_natCast]
        unfold ledL
        rw [List.getElem?_map, h5]
        rfl
      · rw [h6]
        exact g
end Ls
namespace Ls
open PySem PySem.Spec PyProof.Rows L2 TL
inductive Rc (R : List RowW) (h : Nat → Jp) (a0 : Nat) : Nat → Prop
  | base : Rc R h a0 a0
  | step {i a : Nat} {r : RowW} {j : Jp} (p : Rc R h a0 i) (hr : R[i]? = some r) (hj : j = r.2.1 ∨ j = r.2.2) (e : ledJ h j = .go (a : Nat)) : Rc R h a0 a
theorem Rc.canon {R : List RowW} {h : Nat → Jp} {a0 a : Nat} (fw : Fw R) (hh : Hds R h) (h0 : h a0 = .go (a0 : Nat)) (hl : a0 < R.length) (p : Rc R h a0 a) : h a = .go (a : Nat) ∧ a < R.length ∧ a0 ≤ a := by
  induction p with
  | base => exact ⟨h0, hl, Nat.le_refl _⟩
  | @step i a r j p hr hj e ih =>
    obtain ⟨f1, f2⟩ := fw i r hr
    have hjo : JOk i R.length j := by rcases hj with rfl | rfl <;> assumption
    rcases hh.led fw hjo with ⟨b, z⟩ | ⟨a', z1, z2, z3, z4⟩
    · rw [z] at e
      cases e
    · rw [z1] at e
      injection e with e
      obtain rfl : a' = a := by omega
      exact ⟨z4, z3, by omega⟩
/-- the rows kept: rising, just those that can be come to -/
structure Kept (R : List RowW) (h : Nat → Jp) (a0 : Nat) (ks : List Nat) : Prop where
  up : ks.Pairwise (· < ·)
  mem : ∀ a, a ∈ ks ↔ Rc R h a0 a
def plJ (ks : List Nat) : Jp → Jp
  | .en b => .en b
  | .go n => .go ((ks.idxOf n.toNat : Nat) : Int)
def shrow (R : List RowW) (h : Nat → Jp) (ks : List Nat) (a : Nat) : RowW := match R[a]? with
  | some r => (r.1, plJ ks (ledJ h r.2.1), plJ ks (ledJ h r.2.2))
  | none => (.none, .en false, .en false)
def shR (R : List RowW) (h : Nat → Jp) (ks : List Nat) : List RowW := ks.map (shrow R h ks)
theorem idx_get {ks : List Nat} {a : Nat} (m : a ∈ ks) : ks[ks.idxOf a]? = some a := by
  have hl := List.idxOf_lt_length_of_mem m
  rw [List.getElem?_eq_getElem hl, List.getElem_idxOf]
theorem idx_lt {ks : List Nat} (up : ks.Pairwise (· < ·)) {i a : Nat} (hi : i < ks.length) (m : a ∈ ks) (h : ks[i] < a) : i < ks.idxOf a := by
  have hl := List.idxOf_lt_length_of_mem m
  have e : ks[ks.idxOf a] = a := List.getElem_idxOf hl
  rcases Nat.lt_or_ge i (ks.idxOf a) with z | z
  · exact z
  · exfalso
    rcases Nat.lt_or_ge (ks.idxOf a) i with y | y
    · have := List.pairwise_iff_getElem.mp up _ _ hl hi y
      omega
    · have e2 : ks.idxOf a = i := by omega
      have : ks[i] = a := by rw [← e]; congr 1; exact e2.symm
      omega
theorem Kept.row {R : List RowW} {h : Nat → Jp} {a0 : Nat} {ks : List Nat} (fw : Fw R) (hh : Hds R h) (h0 : h a0 = .go (a0 : Nat)) (hl : a0 < R.length) (K : Kept R h a0 ks) {a : Nat} (m : a ∈ ks) :
    ∃ r, R[a]? = some r ∧ shrow R h ks a = (r.1, plJ ks (ledJ h r.2.1), plJ ks (ledJ h r.2.2)) ∧ ∀ j, (j = r.2.1 ∨ j = r.2.2) → (∃ b, ledJ h j = .en b) ∨ ∃ a' : Nat, ledJ h j = .go (a' : Nat) ∧ a < a' ∧ a' ∈ ks := by
  have hc := ((K.mem a).mp m).canon fw hh h0 hl
  have hr : R[a]? = some (R[a]'hc.2.1) := List.getElem?_eq_getElem hc.2.1
  refine ⟨_, hr, ?_, fun j hj => ?_⟩
  · unfold shrow
    rw [hr]
  · obtain ⟨f1, f2⟩ := fw a _ hr
    have hjo : JOk a R.length j := by rcases hj with rfl | rfl <;> assumption
    rcases hh.led fw hjo with z | ⟨a', z1, z2, z3, z4⟩
    · exact .inl z
    · exact .inr ⟨a', z1, z2, (K.mem a').mpr (.step ((K.mem a).mp m) hr hj z1)⟩
theorem Kept.zero {R : List RowW} {h : Nat → Jp} {a0 : Nat} {ks : List Nat} (fw : Fw R) (hh : Hds R h) (h0 : h a0 = .go (a0 : Nat)) (hl : a0 < R.length) (K : Kept R h a0 ks) : ks[0]? = some a0 := by
  have m : a0 ∈ ks := (K.mem a0).mpr .base
  have hp : 0 < ks.length := List.length_pos_of_mem m
  rw [List.getElem?_eq_getElem hp]
  have hz := ((K.mem _).mp (List.getElem_mem hp)).canon fw hh h0 hl
  obtain ⟨i, hi, e⟩ := List.getElem_of_mem m
  rcases Nat.eq_zero_or_pos i with z | z
  · subst z
    rw [e]
  · have := List.pairwise_iff_getElem.mp K.up 0 i hp hi z
    omega
theorem Kept.ok {R : List RowW} {h : Nat → Jp} {a0 : Nat} {ks : List Nat} (fw : Fw R) (hf : ∀ (i : Nat) (r : RowW), R[i]? = some r → LeafD r.1) (hh : Hds R h) (h0 : h a0 = .go (a0 : Nat)) (hl : a0 < R.length) (K : Kept R h a0 ks) : WayOk (.go 0) (shR R h ks) := by
  have m0 : a0 ∈ ks := (K.mem a0).mpr .base
  refine ⟨rfl, fun e => ?_, fun i x hx => ?_⟩
  · have := List.map_eq_nil_iff.mp e
    rw [this] at m0
    cases m0
  · unfold shR at hx ⊢
    rw [List.getElem?_map] at hx
    obtain ⟨a, ha, rfl⟩ := Option.map_eq_some_iff.mp hx
    have m : a ∈ ks := List.mem_of_getElem? ha
    obtain ⟨r, hr, er, hj⟩ := K.row fw hh h0 hl m
    rw [er, List.length_map]
    obtain ⟨hi, e⟩ := List.getElem?_eq_some_iff.mp ha
    have key : ∀ j, (j = r.2.1 ∨ j = r.2.2) → JOk i ks.length (plJ ks (ledJ h j)) := fun j hjj => by
      rcases hj j hjj with ⟨b, z⟩ | ⟨a', z1, z2, z3⟩
      · rw [z]; trivial
      · rw [z1]
        show (i : Int) < ((ks.idxOf ((a' : Int)).toNat : Nat) : Int) ∧ ((ks.idxOf ((a' : Int)).toNat : Nat) : Int) < _
        rw [Int.toNat_natCast]
        have h1 := idx_lt K.up hi z3 (by rw [e]; exact z2)
        have h2 := List.idxOf_lt_length_of_mem z3
        omega
    exact ⟨hf a r hr, key _ (.inl rfl), key _ (.inr rfl)⟩
theorem Kept.gn {R : List RowW} {h : Nat → Jp} {a0 : Nat} {ks : List Nat} {k : Kd} {us : List Int} (fw : Fw R) (hh : Hds R h) (h0 : h a0 = .go (a0 : Nat)) (hl : a0 < R.length) (K : Kept R h a0 ks) {j : Jp} {b : Bool} {c : Nat}
    (g : Gn k us (ledL h R) j b c) : (∀ a : Int, j = .go a → 0 ≤ a ∧ a.toNat ∈ ks) → Gn k us (shR R h ks) (plJ ks j) b c := by
  induction g with
  | en b => exact fun _ => .en b
  | @go n x b c hn hx hg ih =>
    intro hm
    obtain ⟨_, m⟩ := hm n rfl
    obtain ⟨r, hr, er, hj⟩ := K.row fw hh h0 hl m
    have ex : x = ledR h r := by
      unfold ledL at hx
      rw [List.getElem?_map, hr] at hx
      exact (Option.some.inj hx).symm
    refine .go (r := shrow R h ks n.toNat) (by omega) ?_ ?_
    · rw [Int.toNat_natCast]
      unfold shR
      rw [List.getElem?_map, idx_get m]
      rfl
    · rw [er]
      have e2 : (if passD k us r.1 = true then plJ ks (ledJ h r.2.1) else plJ ks (ledJ h r.2.2)) = plJ ks (if passD k us x.1 = true then x.2.1 else x.2.2) := by
        rw [ex]
        show _ = plJ ks (if passD k us r.1 = true then ledJ h r.2.1 else ledJ h r.2.2)
        split <;> rfl
      show Gn k us _ (if passD k us r.1 = true then plJ ks (ledJ h r.2.1) else plJ ks (ledJ h r.2.2)) b c
      rw [e2]
      refine ih fun a ea => ?_
      have key : ∀ j, (j = r.2.1 ∨ j = r.2.2) → ledJ h j = .go a → 0 ≤ a ∧ a.toNat ∈ ks := fun j hjj e => by
        rcases hj j hjj with ⟨b', z⟩ | ⟨a', z1, z2, z3⟩
        · rw [z] at e; cases e
        · rw [z1] at e
          injection e with e
          subst e
          exact ⟨by omega, by rw [Int.toNat_natCast]; exact z3⟩
      rw [ex] at ea
      change (if passD k us r.1 = true then ledJ h r.2.1 else ledJ h r.2.2) = .go a at ea
      split at ea
      · exact key _ (.inl rfl) ea
      · exact key _ (.inr rfl) ea
theorem Kept.len {R : List RowW} {h : Nat → Jp} {a0 : Nat} {ks : List Nat} (fw : Fw R) (hh : Hds R h) (h0 : h a0 = .go (a0 : Nat)) (hl : a0 < R.length) (K : Kept R h a0 ks) : ks.length ≤ R.length := by
  have h1 : ∀ i (hi : i < ks.length), i ≤ ks[i] := fun i => by
    induction i with
    | zero => exact fun _ => Nat.zero_le _
    | succ i ih =>
      intro hi
      have := ih (by omega)
      have := List.pairwise_iff_getElem.mp K.up i (i + 1) (by omega) hi (Nat.lt_succ_self i)
      omega
  rcases Nat.eq_zero_or_pos ks.length with z | z
  · omega
  · have h2 := h1 (ks.length - 1) (by omega)
    have h3 := (((K.mem _).mp (List.getElem_mem (show ks.length - 1 < ks.length by omega))).canon fw hh h0 hl).2.1
    omega
end Ls
namespace Ls
open PySem PySem.Spec PyProof.Rows L2 LamX TL
def LedK (kv : List (Key × V)) (j l : Jp) : Prop := match j with
  | .en b => l = .en b
  | .go n => valV kv (.inl n) = some (jV l)
def spLed : Sp := fun vs H Q _ => ∃ (j l : Jp) (p : Addr) (kv : List (Key × V)), vs = [jV j, .ref p] ∧ H p = some (.dK kv) ∧ LedK kv j l ∧ Q (jV l) H
noncomputable def kvK (R : List RowW) (k : Nat) : List (Key × V) := (List.range k).map fun i => (.inl ((R.length - 1 - i : Nat) : Int), jV ((jn R k).1 (R.length - 1 - i)))
theorem jn_stay {R : List RowW} {k i : Nat} (hk : k < R.length) (hi : i < k) : (jn R (k + 1)).1 (R.length - 1 - i) = (jn R k).1 (R.length - 1 - i) := by
  have hr : R[R.length - 1 - k]? = some (R[R.length - 1 - k]'(by omega)) := List.getElem?_eq_getElem (by omega)
  have ne : R.length - 1 - i ≠ R.length - 1 - k := by omega
  show (match R[R.length - 1 - k]? with | some r => jstep (R.length - 1 - k) r (jn R k).1 (jn R k).2 | none => jn R k).1 _ = _
  rw [hr]
  dsimp only
  unfold jstep
  split
  · exact if_neg ne
  · split <;> exact if_neg ne
theorem kvK_succ {R : List RowW} {k : Nat} (hk : k < R.length) : kvK R (k + 1) = kvK R k ++ [(.inl ((R.length - 1 - k : Nat) : Int), jV ((jn R (k + 1)).1 (R.length - 1 - k)))] := by
  unfold kvK
  rw [List.range_succ, List.map_append, List.map_singleton]
  congr 1
  refine List.map_congr_left fun i hi => ?_
  rw [jn_stay hk (List.mem_range.mp hi)]
theorem kvK_len {R : List RowW} {k : Nat} : (kvK R k).length = k := by unfold kvK; rw [List.length_map, List.length_range]
theorem find_range {α : Type} (f : Nat → α) (p : α → Bool) {i : Nat} : ∀ {k : Nat}, i < k → p (f i) = true → (∀ j, j < k → j ≠ i → p (f j) = false) → ((List.range k).map f).find? p = some (f i)
  | 0, h, _, _ => absurd h (Nat.not_lt_zero _)
  | k + 1, h, h1, h2 => by
    rw [List.range_succ, List.map_append, List.find?_append]
    rcases Nat.lt_or_ge i k with z | z
    · rw [find_range f p z h1 fun j hj ne => h2 j (by omega) ne]
      rfl
    · obtain rfl : i = k := by omega
      have e : ((List.range i).map f).find? p = none := List.find?_eq_none.mpr fun x hx => by
        obtain ⟨j, hj, rfl⟩ := List.mem_map.mp hx
        rw [h2 j (by have := List.mem_range.mp hj; omega) (by have := List.mem_range.mp hj; omega)]
        exact Bool.false_ne_true
      rw [e]
      simp [h1]
theorem kvK_val {R : List RowW} {k : Nat} (hk : k ≤ R.length) {n : Nat} (h1 : R.length - k ≤ n) (h2 : n < R.length) : valV (kvK R k) (.inl (n : Int)) = some (jV ((jn R k).1 n)) := by
  unfold valV kvK
  have e : R.length - 1 - (R.length - 1 - n) = n := by omega
  have z := find_range (i := R.length - 1 - n) (k := k) (fun i => ((.inl ((R.length - 1 - i : Nat) : Int), jV ((jn R k).1 (R.length - 1 - i))) : Key × V)) (fun kv => decide (kv.1 = .inl ((n : Nat) : Int))) (by omega) (by dsimp only; rw [e]; exact decide_eq_true rfl) (fun j hj ne => decide_eq_false fun z => by injection z with z; omega)
  refine (congrArg (Option.map (·.2)) z).trans ?_
  show some (jV ((jn R k).1 (R.length - 1 - (R.length - 1 - n)))) = _
  rw [e]
theorem kvK_led {R : List RowW} (fw : Fw R) {k : Nat} (hk : k < R.length) {r : RowW} (hr : R[R.length - 1 - k]? = some r) {j : Jp} (hj : j = r.2.1 ∨ j = r.2.2) : LedK (kvK R k) j (ledJ (jn R k).1 j) := by
  obtain ⟨f1, f2⟩ := fw _ r hr
  have hjo : JOk (R.length - 1 - k) R.length j := by rcases hj with rfl | rfl <;> assumption
  cases j with
  | en b => rfl
  | go n =>
    obtain ⟨g1, g2⟩ := hjo
    obtain ⟨m, rfl⟩ := Int.eq_ofNat_of_zero_le (show 0 ≤ n by omega)
    show valV (kvK R k) (.inl ((m : Nat) : Int)) = some (jV ((jn R k).1 ((m : Int)).toNat))
    rw [Int.toNat_natCast]
    exact kvK_val (by omega) (by omega) (by omega)
theorem kvK_put {R : List RowW} {k : Nat} (hk : k < R.length) {j : Jp} (e : (jn R (k + 1)).1 (R.length - 1 - k) = j) : putK (kvK R k) (.inl ((R.length - 1 - k : Nat) : Int)) (jV j) = kvK R (k + 1) := by
  have hn : (kvK R k).any (fun kv => decide (kv.1 = .inl ((R.length - 1 - k : Nat) : Int))) = false := List.any_eq_false.mpr fun x hx => by
    obtain ⟨i, hi, rfl⟩ := List.mem_map.mp hx
    have := List.mem_range.mp hi
    rw [decide_eq_false (fun z => by injection z with z; omega)]
    exact Bool.false_ne_true
  unfold putK
  rw [hn, if_neg Bool.false_ne_true, kvK_succ hk, e]
def enJ : Jp → Bool
  | .en _ => true
  | .go _ => false
def keyD (q : RowW) : PyData := .tuple [q.1, .bool (enJ q.2.1), jD q.2.1, .bool (enJ q.2.2), jD q.2.2]
theorem nkJ_inj {i j : Jp} (h1 : enJ i = enJ j) (h2 : nkD (jD i) = nkD (jD j)) : i = j := by
  cases i with
  | en b =>
    cases j with
    | en c => cases b <;> cases c <;> first | rfl | (simp [jD, nkD] at h2)
    | go n => cases h1
  | go n =>
    cases j with
    | en c => cases h1
    | go m =>
      simp only [jD, nkD] at h2
      injection h2 with h2
      rw [h2]
theorem leaf_nk {d e : PyData} (hd : LeafD d) (he : LeafD e) (h : nkD d = nkD e) : d = e := by
  obtain ⟨t, rfl, _, h1, h2⟩ := hd
  obtain ⟨u, rfl, _, h3, h4⟩ := he
  have nd : ∀ t : Tst, t.deep = 1 → t ≠ .all → (∃ z, t = .is z) ∨ (∃ z c, t = .less z c) ∨ ∃ z c, t = .same z c := fun t hd ha => by
    cases t with
    | all => exact (ha rfl).elim
    | is z => exact .inl ⟨z, rfl⟩
    | less z c => exact .inr (.inl ⟨z, c, rfl⟩)
    | same z c => exact .inr (.inr ⟨z, c, rfl⟩)
    | no a => exact absurd hd (by have := deep_pos a; show a.deep + 1 ≠ 1; omega)
    | an a b => exact absurd hd (by have := deep_pos a; show max a.deep b.deep + 1 ≠ 1; omega)
    | or a b => exact absurd hd (by have := deep_pos a; show max a.deep b.deep + 1 ≠ 1; omega)
  rcases nd t h1 h2 with ⟨z, rfl⟩ | ⟨z, c, rfl⟩ | ⟨z, c, rfl⟩ <;> rcases nd u h3 h4 with ⟨y, rfl⟩ | ⟨y, b, rfl⟩ | ⟨y, b, rfl⟩ <;> simp only [Tst.D, nkD, nkDs] at h ⊢ <;> (injection h with h; obtain ⟨g0, h⟩ := List.cons.inj h; injection g0 with g0; first | (exact absurd g0 (by decide +kernel)) | skip) <;> simp_all
theorem key_inj {q r : RowW} (hq : LeafD q.1) (hr : LeafD r.1) (h : nkD (keyD q) = nkD (keyD r)) : q = r := by
  unfold keyD at h
  simp only [nkD, nkDs] at h
  injection h with h
  obtain ⟨e1, h⟩ := List.cons.inj h
  obtain ⟨e2, h⟩ := List.cons.inj h
  obtain ⟨e3, h⟩ := List.cons.inj h
  obtain ⟨e4, h⟩ := List.cons.inj h
  obtain ⟨e5, _⟩ := List.cons.inj h
  have f1 := leaf_nk hq hr e1
  have b2 : ∀ a b : Bool, NestedKey.num (if a = true then 1 else 0) = .num (if b = true then 1 else 0) → a = b := fun a b h => by
    cases a <;> cases b <;> first | rfl | (simp at h)
  have f2 := nkJ_inj (b2 _ _ e2) e3
  have f3 := nkJ_inj (b2 _ _ e4) e5
  obtain ⟨q1, q2, q3⟩ := q
  obtain ⟨r1, r2, r3⟩ := r
  dsimp only at f1 f2 f3
  rw [f1, f2, f3]
def KnOk (kvs : KdL) (kn : KnL) : Prop := Paired (fun (x : NestedKey × Addr × V) (y : RowW × Nat) => x.1 = nkD (keyD y.1) ∧ x.2.2 = .int ((y.2 : Nat) : Int)) kvs kn
theorem knOk_find : ∀ {kvs : KdL} {kn : KnL} {q : RowW}, KnOk kvs kn → (∀ y ∈ kn, LeafD y.1.1) → LeafD q.1 → kdF kvs (nkD (keyD q)) = (knF kn q).map fun a => V.int ((a : Nat) : Int)
  | _, _, _, .nil, _, _ => rfl
  | x :: kvs, y :: kn, q, .cons r rs, hl, hq => by
    have ih := knOk_find (q := q) rs (fun z hz => hl z (List.mem_cons_of_mem _ hz)) hq
    obtain ⟨e1, e2⟩ := r
    unfold kdF knF at ih ⊢
    rw [List.find?_cons, List.find?_cons]
    by_cases c : y.1 = q
    · rw [decide_eq_true (show x.1 = nkD (keyD q) by rw [e1, c]), decide_eq_true c]
      show some x.2.2 = some (V.int ((y.2 : Nat) : Int))
      rw [e2]
    · rw [decide_eq_false (show ¬ x.1 = nkD (keyD q) from fun z => c (key_inj (hl y List.mem_cons_self) hq (e1.symm.trans z))), decide_eq_false c]
      exact ih
end Ls
namespace Ls
open PySem PySem.Spec PyProof.Rows L2 LamX TL
structure Rch (R : List RowW) (h : Nat → Jp) (a0 : Nat) (fs : List Nat) (js : List Jp) : Prop where
  nd : fs.Nodup
  rc : ∀ a ∈ fs, Rc R h a0 a
  lt : ∀ j ∈ js, (∃ b, j = .en b) ∨ ∃ a : Nat, j = .go (a : Nat) ∧ Rc R h a0 a
  cl : ∀ a ∈ fs, ∀ r, R[a]? = some r → ∀ j, (j = r.2.1 ∨ j = r.2.2) → ∀ b : Nat, ledJ h j = .go (b : Nat) → b ∈ fs ∨ Jp.go (b : Nat) ∈ js
  be : a0 ∈ fs ∨ Jp.go (a0 : Nat) ∈ js
theorem Rch.start {R : List RowW} {h : Nat → Jp} {a0 : Nat} : Rch R h a0 [] [.go (a0 : Nat)] where
  nd := List.nodup_nil
  rc := fun a m => nomatch m
  lt := fun j m => .inr ⟨a0, List.mem_singleton.mp m, .base⟩
  cl := fun a m => nomatch m
  be := .inr List.mem_cons_self
theorem Rch.old {R : List RowW} {h : Nat → Jp} {a0 : Nat} {fs : List Nat} {js : List Jp} {j : Jp} (c : Rch R h a0 fs (js ++ [j])) (k : (∃ b, j = .en b) ∨ ∃ a : Nat, a ∈ fs ∧ j = .go (a : Nat)) : Rch R h a0 fs js := by
  have key : ∀ b : Nat, Jp.go (b : Nat) ∈ js ++ [j] → b ∈ fs ∨ Jp.go (b : Nat) ∈ js := fun b m => by
    rcases List.mem_append.mp m with m | m
    · exact .inr m
    · have e := List.mem_singleton.mp m
      rcases k with ⟨z, k⟩ | ⟨a, ha, k⟩
      · rw [k] at e
        cases e
      · rw [k] at e
        injection e with e
        obtain rfl : b = a := by omega
        exact .inl ha
  exact ⟨c.nd, c.rc, fun j m => c.lt j (List.mem_append_left _ m), fun a ha r hr j hj b e => (c.cl a ha r hr j hj b e).elim .inl (key b), c.be.elim .inl (key a0)⟩
theorem Rch.new {R : List RowW} {h : Nat → Jp} {a0 a : Nat} {fs : List Nat} {js : List Jp} {r : RowW} (fw : Fw R) (hh : Hds R h) (c : Rch R h a0 fs (js ++ [.go (a : Nat)])) (na : a ∉ fs) (hr : R[a]? = some r) :
    Rch R h a0 (fs ++ [a]) (js ++ [ledJ h r.2.1, ledJ h r.2.2]) := by
  have ra : Rc R h a0 a := by
    rcases c.lt _ (List.mem_append_right _ List.mem_cons_self) with ⟨b, e⟩ | ⟨x, e, p⟩
    · cases e
    · injection e with e
      obtain rfl : a = x := by omega
      exact p
  have key : ∀ b : Nat, b ∈ fs ∨ Jp.go (b : Nat) ∈ js ++ [.go (a : Nat)] → b ∈ fs ++ [a] ∨ Jp.go (b : Nat) ∈ js ++ [ledJ h r.2.1, ledJ h r.2.2] := fun b m => by
    rcases m with m | m
    · exact .inl (List.mem_append_left _ m)
    · rcases List.mem_append.mp m with m | m
      · exact .inr (List.mem_append_left _ m)
      · have e := List.mem_singleton.mp m
        injection e with e
        obtain rfl : b = a := by omega
        exact .inl (List.mem_append_right _ List.mem_cons_self)
  have led : ∀ j, (j = r.2.1 ∨ j = r.2.2) → (∃ b, ledJ h j = .en b) ∨ ∃ x : Nat, ledJ h j = .go (x : Nat) ∧ Rc R h a0 x := fun j hj => by
    obtain ⟨f1, f2⟩ := fw a r hr
    have hjo : JOk a R.length j := by rcases hj with rfl | rfl <;> assumption
    rcases hh.led fw hjo with z | ⟨x, z1, _⟩
    · exact .inl z
    · exact .inr ⟨x, z1, .step ra hr hj z1⟩
  refine ⟨?_, fun b m => ?_, fun j m => ?_, fun b hb q hq j hj x e => ?_, key a0 c.be⟩
  · refine List.nodup_append.mpr ⟨c.nd, by simp, fun x hx y hy e => ?_⟩
    rw [List.mem_singleton.mp hy] at e
    exact na (e ▸ hx)
  · rcases List.mem_append.mp m with m | m
    · exact c.rc b m
    · rw [List.mem_singleton.mp m]
      exact ra
  · rcases List.mem_append.mp m with m | m
    · exact c.lt j (List.mem_append_left _ m)
    · rcases List.mem_cons.mp m with m | m
      · rw [m]
        exact led _ (.inl rfl)
      · rw [List.mem_singleton.mp m]
        exact led _ (.inr rfl)
  · rcases List.mem_append.mp hb with hb | hb
    · exact key x (c.cl b hb q hq j hj x e)
    · rw [List.mem_singleton.mp hb, hr] at hq
      cases hq
      refine .inr (List.mem_append_right _ ?_)
      rcases hj with rfl | rfl
      · rw [e]
        exact List.mem_cons_self
      · rw [e]
        exact List.mem_cons_of_mem _ List.mem_cons_self
theorem Rch.done {R : List RowW} {h : Nat → Jp} {a0 a : Nat} {fs : List Nat} (fw : Fw R) (hh : Hds R h) (c : Rch R h a0 fs []) (p : Rc R h a0 a) : a ∈ fs := by
  induction p with
  | base =>
    rcases c.be with z | z
    · exact z
    · cases z
  | @step i a r j p hr hj e ih =>
    rcases c.cl i ih r hr j hj a e with z | z
    · exact z
    · cases z
theorem Rch.few {R : List RowW} {h : Nat → Jp} {a0 : Nat} {fs : List Nat} {js : List Jp} (fw : Fw R) (hh : Hds R h) (h0 : h a0 = .go (a0 : Nat)) (hl : a0 < R.length) (c : Rch R h a0 fs js) : fs.length ≤ R.length := by
  have h1 := nodup_le c.nd (ys := List.range R.length) fun a m => List.mem_range.mpr ((c.rc a m).canon fw hh h0 hl).2.1
  rw [List.length_range] at h1
  exact h1
theorem kept_of {R : List RowW} {h : Nat → Jp} {a0 : Nat} {fs : List Nat} {ys : List Int} (fw : Fw R) (hh : Hds R h) (c : Rch R h a0 fs []) (p : ys.Perm (fs.map fun a : Nat => (a : Int))) (s : ys.Pairwise (· ≤ ·)) :
    ∃ ks : List Nat, ys = ks.map (fun a : Nat => (a : Int)) ∧ Kept R h a0 ks := by
  have hm : ∀ y, y ∈ ys ↔ ∃ a : Nat, a ∈ fs ∧ (a : Int) = y := fun y => by rw [p.mem_iff, List.mem_map]
  have e : ys = (ys.map Int.toNat).map fun a : Nat => (a : Int) := by
    rw [List.map_map]
    refine (List.map_id ys).symm.trans (List.map_congr_left fun y hy => ?_)
    obtain ⟨a, _, rfl⟩ := (hm y).mp hy
    rfl
  have nd : ys.Nodup := p.nodup_iff.mpr (List.Pairwise.map _ (fun a b n z => n (by omega)) c.nd)
  refine ⟨_, e, ?_, fun a => ?_⟩
  · refine List.Pairwise.map _ (fun x y z => z) (List.pairwise_iff_getElem.mpr fun i j hi hj l => ?_ : ys.Pairwise fun x y => x.toNat < y.toNat)
    have h1 := List.pairwise_iff_getElem.mp s i j hi hj l
    have h2 : ys[i] ≠ ys[j] := List.pairwise_iff_getElem.mp nd i j hi hj l
    obtain ⟨a, _, ea⟩ := (hm _).mp (List.getElem_mem hi)
    obtain ⟨b, _, eb⟩ := (hm _).mp (List.getElem_mem hj)
    omega
  · refine Iff.trans ?_ (Iff.intro (fun m => c.rc a m) fun q => c.done fw hh q)
    rw [List.mem_map]
    refine Iff.intro (fun ⟨y, hy, ey⟩ => ?_) fun m => ⟨(a : Int), (hm _).mpr ⟨a, m, rfl⟩, by simp⟩
    obtain ⟨b, hb, rfl⟩ := (hm y).mp hy
    rw [← ey]
    simpa using hb
theorem at_natL {α : Type} {xs : List α} {j : Nat} {x : α} (h : xs[j]? = some x) : atI xs (j : Int) = some x := by
  unfold atI
  rw [ixN_nat (List.getElem?_eq_some_iff.mp h).1]
  exact h
/-- the way made shorter -/
def ShOf (s : Jp) (R : List RowW) (S : Jp × List RowW) : Prop := (∃ b, ledJ (hdJ R) s = .en b ∧ S = (.en b, [])) ∨ ∃ (a0 : Nat) (ks : List Nat), ledJ (hdJ R) s = .go (a0 : Nat) ∧ hdJ R a0 = .go (a0 : Nat) ∧ a0 < R.length ∧ Kept R (hdJ R) a0 ks ∧ S = (.go 0, shR R (hdJ R) ks)
theorem WayOk.fw {s : Jp} {R : List RowW} (h : WayOk s R) : Fw R := fun i r hr => by
  cases s with
  | en b =>
    have h : R = [] := h
    rw [h] at hr
    simp at hr
  | go n => exact ⟨(h.2.2 i r hr).2.1, (h.2.2 i r hr).2.2⟩
theorem ledK_all {R : List RowW} {j : Jp} (h : ∀ n, j = .go n → 0 ≤ n ∧ n < R.length) : LedK (kvK R R.length) j (ledJ (hdJ R) j) := by
  cases j with
  | en b => rfl
  | go n =>
    obtain ⟨g1, g2⟩ := h n rfl
    obtain ⟨m, rfl⟩ := Int.eq_ofNat_of_zero_le g1
    show valV (kvK R R.length) (.inl ((m : Nat) : Int)) = some (jV ((jn R R.length).1 ((m : Int)).toNat))
    rw [Int.toNat_natCast]
    exact kvK_val (Nat.le_refl _) (by omega) (by omega)
end Ls
namespace Ls
open PySem PySem.Spec PyProof.Rows L2 LamX TL
end Ls
namespace Lw
open PySem PySem.Spec PyProof.Rows L2 Ls LamX
theorem ok_led {P : Program} {w : World} {K : PySem.W.Frag} {mg : Str → Option Value} {base : Heap} (E : Env K mg w) : FnOk P w K mg base CX0 2 E.a_led E.fd_led ["jump", "heads"] (spLed) := by
  refine E.F_led.ok sc_led (fun vs H Q E h => ?_) (fun cdv A outer s H vs Q E' hr h => ?_)
  · walk_at "hl"
  · have hu := huOf hr
    have G_is_end := ok_is_end (P := P) (w := w) (base := base) E
    have hr_is_end := hr.mono (show 1 ≤ 1 by decide)
    have b_is_end := b_is_end E
    have hcl_Kind := E.cl_Kind
    obtain ⟨j, l, p, kv, rfl, hp, hl, q⟩ := h
    refine ⟨_, PSs.nox (pss_one (ps_ret (pe_join (pe_ifExp (pt_val (pe_call G_is_end hr_is_end rfl E.g_is_end E.F_is_end.kp b_is_end .nil pass0 (pa_cons (pv 0) pa_nil))) (pv 0) (pe_dget (hu1 hu) (pv 1) (pv 0) (fun _ _ => rfl)))))), ?_⟩
    refine k_body (s1 := some _ :: some _ :: []) rfl ?_
    walk_at "s"
    refine k_join (fun u H' => u = jV l ∧ H' = H) ?_ ?_
    · walk_at "s"
      refine ⟨j, rfl, ?_⟩
      cases j with
      | en b =>
        rw [show enB (.en b) = true from rfl]
        walk_at "s"
        have hl : l = .en b := hl
        rw [hl]
        exact ⟨rfl, rfl⟩
      | go n =>
        rw [show enB (.go n) = false from rfl]
        walk_at "s"
        exact k_getI hp hl ⟨rfl, rfl⟩
    rintro u H' ⟨rfl, rfl⟩
    walk_at "s"
    exact q
end Lw
namespace Ls
open PySem PySem.Spec PyProof.Rows L2 LamX TL
def spJoined (K : PySem.W.Frag) : Sp := fun vs H Q _ => ∃ (pr : Addr) (R : List RowW) (L : List (As K)), vs = [.ref pr] ∧ Ls.Sep L H ∧ Ls.ld pr (R.map rwD) ∈ L ∧ R.length ≤ 1000 ∧ Fw R ∧ (∀ r ∈ R, LeafD r.1) ∧ ∀ p H', Ls.Sep (ob p (.dK (kvK R R.length)) :: L) H' → Q (.ref p) H'
theorem jn_leaf {R : List RowW} : ∀ k, ∀ y ∈ (jn R k).2, ∃ r ∈ R, y.1.1 = r.1
  | 0, y, m => nomatch m
  | k + 1, y, m => by
    have ih := jn_leaf (R := R) k y
    change y ∈ (match R[R.length - 1 - k]? with | some r => jstep (R.length - 1 - k) r (jn R k).1 (jn R k).2 | none => jn R k).2 at m
    cases e : R[R.length - 1 - k]? with
    | none =>
      rw [e] at m
      exact ih m
    | some r =>
      rw [e] at m
      dsimp only at m
      unfold jstep at m
      split at m
      · exact ih m
      · split at m
        · exact ih m
        · rcases List.mem_append.mp m with m | m
          · exact ih m
          · rw [List.mem_singleton.mp m]
            exact ⟨r, List.mem_of_getElem? e, rfl⟩
theorem jD_depth (j : Jp) : (nkD (jD j)).depth = 0 := by
  cases j <;> rfl
theorem key_depth {q : RowW} (h : LeafD q.1) : (nkD (keyD q)).depth ≤ 8 := by
  obtain ⟨t, e, _, h1, h2⟩ := h
  have hl : (nkD q.1).depth ≤ 1 := by
    rw [← e]
    cases t with
    | all => exact (h2 rfl).elim
    | is z => simp [Tst.D, nkD, nkDs, NestedKey.depth, NestedKey.depthAll]
    | less z c => simp [Tst.D, nkD, nkDs, NestedKey.depth, NestedKey.depthAll]
    | same z c => simp [Tst.D, nkD, nkDs, NestedKey.depth, NestedKey.depthAll]
    | no a => exact absurd h1 (by have := deep_pos a; show a.deep + 1 ≠ 1; omega)
    | an a b => exact absurd h1 (by have := deep_pos a; show max a.deep b.deep + 1 ≠ 1; omega)
    | or a b => exact absurd h1 (by have := deep_pos a; show max a.deep b.deep + 1 ≠ 1; omega)
  have h3 := jD_depth q.2.1
  have h4 := jD_depth q.2.2
  unfold keyD
  simp only [nkD, nkDs, NestedKey.depth, NestedKey.depthAll, h3, h4]
  omega
theorem tp_ext {K : PySem.W.Frag} {H : Hp} {a : Addr} {u : HO} {f : Heap → Prop} (h : H a = some (.ext f)) : Tp K H (upd H a u) := fun b xs q => by
  rcases q with (q | ⟨z, q⟩) | q
  · exact .inl (.inl (by rw [upd_ne (fun e => by rw [e, h] at q; cases q)]; exact q))
  · exact .inl (.inr ⟨z, by rw [upd_ne (fun e => by rw [e, h] at q; cases q)]; exact q⟩)
  · exact .inr q
theorem enB_J (j : Jp) : enJ j = enB j := by
  cases j <;> rfl
theorem k_eqJ {K : PySem.W.Frag} {y n : Jp} {H : Hp} {Q : VK} (h : enB y = enB n) (q : Q (.bl (decide (y = n))) H) : rEqU K (jV y) (jV n) H Q := by
  cases y with
  | en b =>
    cases n with
    | en c => exact k_eqB (by rw [show decide (b = c) = decide (Jp.en b = Jp.en c) by simp]; exact q)
    | go m => cases h
  | go l =>
    cases n with
    | en c => cases h
    | go m => exact k_eqI (by rw [show decide (l = m) = decide (Jp.go l = Jp.go m) by simp]; exact q)
theorem k_two {c : Bool} {F t : Prop} (h : F) (h1 : c = true → F → t) : if c = true then t else F := by
  split
  · exact h1 ‹_› h
  · exact h
end Ls
namespace Lw
open PySem PySem.Spec PyProof.Rows L2 Ls LamX
theorem ok_joined {P : Program} {w : World} {K : PySem.W.Frag} {mg : Str → Option Value} {base : Heap} (E : Env K mg w) : FnOk P w K mg base CX0 3 E.a_joined E.fd_joined ["rows"] (spJoined K) := by
  refine E.F_joined.ok sc_joined (fun vs H Q E h => ?_) (fun cdv A outer s H vs Q E' hr h => ?_)
  · walk_at "hl"
  · have hu := huOf hr
    have G_led := ok_led (P := P) (w := w) (base := base) E
    have hr_led := hr.mono (show 2 ≤ 2 by decide)
    have b_led := b_led E
    have G_is_end := ok_is_end (P := P) (w := w) (base := base) E
    have hr_is_end := hr.mono (show 1 ≤ 2 by decide)
    have b_is_end := b_is_end E
    have hcl_Kind := E.cl_Kind
    obtain ⟨pr, R, L, rfl, hS0, hl, hR, hfw, hlf, q⟩ := h
    refine ⟨_, PSs.nox (pss_cons (ps_set (i := 1) sc_joined.nd rfl (Or.inl rfl) pe_dnewK)
(pss_cons (ps_set (i := 2) sc_joined.nd rfl (Or.inl rfl) pe_dnewK)
(pss_cons (ps_for PassesOwn.never rfl (pi_revR rfl E.n_reversed (prg_1 rfl E.n_range (pe_callB (call_lenU K rfl) (by rfl) E.n_len boot_len (pa_cons (pv 0) pa_nil)))) (pg_name (i := 3) sc_joined.nd rfl (Or.inl rfl))
(pss_cons (ps_asg (pe_ix (ix_U K rfl) (pv 0) (pv 3) (fun _ _ => rfl)) (kGTup (n := 3) K rfl (pg_tup rfl (pgs_cons (pg_name (i := 4) sc_joined.nd rfl (Or.inl rfl)) (pgs_cons (pg_name (i := 5) sc_joined.nd rfl (Or.inl rfl)) (pgs_cons (pg_name (i := 6) sc_joined.nd rfl (Or.inl rfl)) pgs_nil))))))
(pss_cons (ps_par (i := 5) (j := 6) rfl sc_joined.nd rfl rfl (by decide) rfl rfl (pa_cons (pe_call G_led hr_led rfl E.g_led E.F_led.kp b_led .nil pass0 (pa_cons (pv 5) (pa_cons (pv 1) pa_nil))) (pa_cons (pe_call G_led hr_led rfl E.g_led E.F_led.kp b_led .nil pass0 (pa_cons (pv 6) (pa_cons (pv 1) pa_nil))) pa_nil)) (by with_unfolding_all rfl))
(pss_cons (ps_set (i := 7) sc_joined.nd rfl (Or.inl rfl) (pe_tup (pa_cons (pv 4) (pa_cons (pe_call G_is_end hr_is_end rfl E.g_is_end E.F_is_end.kp b_is_end .nil pass0 (pa_cons (pv 5) pa_nil)) (pa_cons (pv 5) (pa_cons (pe_call G_is_end hr_is_end rfl E.g_is_end E.F_is_end.kp b_is_end .nil pass0 (pa_cons (pv 6) pa_nil)) (pa_cons (pv 6) pa_nil)))))))
(pss_one (ps_if (PW.pt (pw_and (pt_cmpR (op_eqU K rfl hu) (pe_call G_is_end hr_is_end rfl E.g_is_end E.F_is_end.kp b_is_end .nil pass0 (pa_cons (pv 5) pa_nil)) (pe_call G_is_end hr_is_end rfl E.g_is_end E.F_is_end.kp b_is_end .nil pass0 (pa_cons (pv 6) pa_nil)) (nomark _)) (pw_and1 (pt_cmpR (op_eqU K rfl hu) (pv 5) (pv 6) (nomark _))))) (pss_one (ps_dput (hu1 hu) (pv 1) (pv 3) (pv 5) rfl)) (pss_one (ps_dput (hu1 hu) (pv 1) (pv 3) (kSetK K P w rfl rfl rfl (pe_setdK hu (pv 2) (pv 7) (pv 3) ⟨rfl, rfl, rfl, rfl⟩)) rfl))))))))
(pss_one (ps_ret (pv 1)))))), ?_⟩
    refine k_body (s1 := some _ :: [none, none, none, none, none, none, none]) rfl ?_
    walk_at "w"
    refine k_dnew fun ph hph => ?_
    walk_at "w"
    refine k_dnew fun pk hpk => ?_
    have hne : pk ≠ ph := fun e => by rw [e, upd_same] at hpk; cases hpk
    rw [upd_ne hne] at hpk
    have hsm : Same H (upd (upd H ph (.dK [])) pk (.dK [])) := Same.wr (Same.wr (Same.refl H) hph) hpk
    have hS1 := hS0.same hsm
    walk_at "w"
    refine k_rg1 ?_
    walk_at "w"
    refine k_lenD hS1 hl ?_
    refine ⟨_, rfl, ?_⟩
    rw [List.length_map]
    refine ⟨by omega, by omega, by omega, by omega, ?_⟩
    have en : (((R.length : Nat) : Int) - 0).toNat = R.length := by omega
    rw [en]
    clear hS1 en
    refine for_itc (fun i σ H' => Same H H' ∧ H' ph = some (.dK (kvK R i)) ∧ ∃ kvs, KdAt P w H' pk kvs ∧ KdOk K H' kvs ∧ KnOk kvs (jn R i).2 ∧ kvs.length ≤ i ∧ ∃ e3 e4 e5 e6 e7, σ = [some (.ref pr), some (.ref ph), some (.ref pk), e3, e4, e5, e6, e7]) ⟨hsm, by rw [upd_ne (Ne.symm hne), upd_same]; rfl, [], .inr ⟨rfl, upd_same⟩, (fun x m => nomatch m), .nil, Nat.le_refl _, _, _, _, _, _, rfl⟩ ?_ ?_
    · clear hsm
      rintro i σ H1 hi ⟨hsm, h1, kvs, hat, hok, hkn, hkl, e3, e4, e5, e6, e7, rfl⟩
      obtain ⟨r, hr⟩ : ∃ r, R[R.length - 1 - i]? = some r := ⟨_, List.getElem?_eq_getElem (by omega)⟩
      have eat : (0 + ((R.length : Nat) : Int) - 1 + ((i : Nat) : Int) * (-1)) = ((R.length - 1 - i : Nat) : Int) := by omega
      rw [eat]
      have hS := hS0.same hsm
      have hati : atI (R.map rwD) ((R.length - 1 - i : Nat) : Int) = some (rwD r) := at_natL (by rw [List.getElem?_map, hr]; rfl)
      walk_at "s"
      refine ⟨r.2.1, ledJ (jn R i).1 r.2.1, ph, _, rfl, h1, kvK_led hfw hi hr (.inl rfl), ?_⟩
      walk_at "s"
      refine ⟨r.2.2, ledJ (jn R i).1 r.2.2, ph, _, rfl, h1, kvK_led hfw hi hr (.inr rfl), ?_⟩
      walk_at "w"
      refine ⟨_, rfl, ?_⟩
      walk_at "w"
      refine ⟨_, rfl, ?_⟩
      simp only [List.set_cons_succ, List.set_cons_zero]
      refine ⟨_, rfl, ?_⟩
      walk_at "w"
      refine ⟨_, rfl, ?_⟩
      walk_at "w"
      obtain ⟨q0, eq0⟩ : ∃ q0 : RowW, q0 = ledR (jn R i).1 r := ⟨_, rfl⟩
      have ey : ledJ (jn R i).1 r.2.1 = q0.2.1 := by rw [eq0]; rfl
      have ez : ledJ (jn R i).1 r.2.2 = q0.2.2 := by rw [eq0]; rfl
      have el : r.1 = q0.1 := by rw [eq0]; rfl
      rw [ey, ez]
      intro pt hpt
      have hq : LeafD q0.1 := by rw [← el]; exact hlf r (List.mem_of_getElem? hr)
      have hS2 := ar_I hS hpt (xs := [v, V.bl (enB q0.2.1), jV q0.2.1, V.bl (enB q0.2.2), jV q0.2.2]) (ds := [r.1, .bool (enB q0.2.1), jD q0.2.1, .bool (enB q0.2.2), jD q0.2.2]) rfl (by walk_at "dats")
      rw [updT_eq pt]
      obtain ⟨H2, eH2⟩ : ∃ H2, H2 = updT H1 pt [v, V.bl (enB q0.2.1), jV q0.2.1, V.bl (enB q0.2.2), jV q0.2.2] := ⟨_, rfl⟩
      rw [← eH2] at hS2 ⊢
      have hI : Im K H2 (.ref pt) (keyD q0) := by
        have e : keyD q0 = .tuple [r.1, .bool (enB q0.2.1), jD q0.2.1, .bool (enB q0.2.2), jD q0.2.2] := by unfold keyD; rw [el, enB_J, enB_J]
        rw [e]
        exact hS2.imm List.mem_cons_self
      have h2 : H2 ph = some (.dK (kvK R i)) := by rw [eH2]; exact (upd_ne (ne_of_none h1 hpt)).trans h1
      have hsm2 : Same H H2 := by rw [eH2]; exact Same.wr hsm (hsm.free hpt)
      have tp : Tp K H1 H2 := by rw [eH2]; exact Tp.new hpt
      have hok2 : KdOk K H2 kvs := fun x hx => by
        obtain ⟨d, a, b, c⟩ := hok x hx
        exact ⟨d, a.mono tp, b, c⟩
      have hat2 : KdAt P w H2 pk kvs := by
        rcases hat with z | ⟨z1, z⟩
        · exact .inl (by rw [eH2]; exact (upd_ne (ne_of_none z hpt)).trans z)
        · exact .inr ⟨z1, by rw [eH2]; exact (upd_ne (ne_of_none z hpt)).trans z⟩
      clear hS hS2 hat hok h1 hsm eH2 hpt tp ey ez hati
      have hjn : jn R (i + 1) = jstep (R.length - 1 - i) r (jn R i).1 (jn R i).2 := by
        show (match R[R.length - 1 - i]? with | some r => jstep (R.length - 1 - i) r (jn R i).1 (jn R i).2 | none => jn R i) = _
        rw [hr]
      unfold jstep at hjn
      rw [← eq0] at hjn
      walk_at "w"
      refine ⟨_, rfl, ?_⟩
      walk_at "w"
      refine ⟨_, rfl, ?_⟩
      walk_at "w"
      by_cases c : q0.2.1 = q0.2.2
      · rw [decide_eq_true (by rw [c])]
        walk_at "w"
        refine k_eqJ (by rw [c]) ?_
        rw [decide_eq_true c]
        walk_at "w"
        refine k_putI h2 (by rw [kvK_len, sizeLine_eq]; omega) ?_
        rw [if_pos c] at hjn
        rw [kvK_put hi (by rw [hjn]; exact if_pos rfl)]
        refine ⟨Same.wr hsm2 hph, upd_same, kvs, ?_, fun x hx => ?_, by rw [hjn]; exact hkn, by omega, _, _, _, _, _, rfl⟩
        · rcases hat2 with z | ⟨z1, z⟩
          · exact .inl ((upd_ne hne).trans z)
          · exact .inr ⟨z1, (upd_ne hne).trans z⟩
        · obtain ⟨d, a, b, c⟩ := hok2 x hx
          exact ⟨d, a.mono (tp_upd h2 rfl).1, b, c⟩
      refine k_two ?_ fun ce hF => ?_
      · walk_at "w"
        unfold tSetdK
        walk_at "w"
        refine ⟨pk, kvs, rfl, hat2, hok2, ?_⟩
        walk_at "w"
        have hfind := knOk_find hkn (fun y hy => by obtain ⟨x, hx, e⟩ := jn_leaf i y hy; rw [e]; exact hlf x hx) hq
        rw [if_neg c] at hjn
        refine ⟨kvs, pt, keyD q0, hat2, hok2, rfl, hI, key_depth hq, by omega, fun x hx => ?_, fun hx => ?_⟩
        · rw [hfind] at hx
          obtain ⟨a, ha, rfl⟩ := Option.map_eq_some_iff.mp hx
          rw [ha] at hjn
          dsimp only at hjn
          have e := kvK_put (R := R) hi (j := .go (a : Nat)) (by rw [hjn]; exact if_pos rfl)
          dsimp only [jV] at e
          walk_at "w"
          refine k_putI h2 (by rw [kvK_len, sizeLine_eq]; omega) ?_
          rw [e]
          refine ⟨Same.wr hsm2 hph, upd_same, kvs, ?_, fun x hx => ?_, by rw [hjn]; exact hkn, by omega, _, _, _, _, _, rfl⟩
          · rcases hat2 with z | ⟨z1, z⟩
            · exact .inl ((upd_ne hne).trans z)
            · exact .inr ⟨z1, (upd_ne hne).trans z⟩
          · obtain ⟨d, a, b, c⟩ := hok2 x hx
            exact ⟨d, a.mono (tp_upd h2 rfl).1, b, c⟩
        · rw [hfind] at hx
          have hkf : knF (jn R i).2 q0 = none := by
            cases z : knF (jn R i).2 q0 with
            | none => rfl
            | some a => rw [z] at hx; cases hx
          rw [hkf] at hjn
          dsimp only at hjn
          have e := kvK_put (R := R) hi (j := .go ((R.length - 1 - i : Nat) : Int)) (by rw [hjn]; exact if_pos rfl)
          dsimp only [jV] at e
          have h3 : upd H2 pk (KeyO P w pk (kvs ++ [(nkD (keyD q0), pt, V.int ((R.length - 1 - i : Nat) : Int))])) ph = some (.dK (kvK R i)) := (upd_ne (Ne.symm hne)).trans h2
          have tp : Tp K H2 (upd H2 pk (KeyO P w pk (kvs ++ [(nkD (keyD q0), pt, V.int ((R.length - 1 - i : Nat) : Int))]))) := by
            rcases hat2 with z | ⟨z1, z⟩
            · exact tp_ext z
            · exact (tp_upd z rfl).1
          walk_at "w"
          refine k_putI h3 (by rw [kvK_len, sizeLine_eq]; omega) ?_
          rw [e]
          refine ⟨Same.wr (Same.wr hsm2 hpk) hph, upd_same, _, .inl ((upd_ne hne).trans upd_same), fun x hx => ?_, by rw [hjn]; exact Paired.snoc hkn ⟨rfl, rfl⟩, by rw [List.length_append, List.length_singleton]; omega, _, _, _, _, _, rfl⟩
          rcases List.mem_append.mp hx with hx | hx
          · obtain ⟨d, a, b, c⟩ := hok2 x hx
            exact ⟨d, (a.mono tp).mono (tp_upd h3 rfl).1, b, c⟩
          · rw [List.mem_singleton.mp hx]
            exact ⟨keyD q0, (hI.mono tp).mono (tp_upd h3 rfl).1, rfl, key_depth hq⟩
      · walk_at "w"
        refine k_eqJ (of_decide_eq_true ce) ?_
        rw [decide_eq_false c]
        walk_at "w"
        exact hF
    · rintro σ H1 ⟨hsm, h1, kvs, _, _, _, _, e3, e4, e5, e6, e7, rfl⟩
      walk_at "w"
      exact q _ _ (Sep.newAt hS0 hph hsm h1 rfl)
end Lw
namespace Ls
open PySem PySem.Spec PyProof.Rows L2 LamX TL
section
variable {K : PySem.W.Frag} {L M N : List (As K)} {H : Hp} {a p pr D : Addr} {kvs kws : List (Key × V)} {v z : V} {i : Int} {xs : List V}
theorem k_putIS {R : Hp → Prop} (h : Ls.Sep L H) (r : Rep L (ob a (.dK kvs)) (ob a (.dK kws)) M) (hl : kvs.length < sizeLine) (e : putK kvs (.inl i) v = kws) (q : ∀ H', Ls.Sep M H' → R H') : ∃ b H4, V.ref a = .ref b ∧ DPut H b (.int i) v H4 ∧ R H4 := by
  subst e
  exact ⟨a, _, rfl, DPut.k (k := .inl i) (h.obm r.mem) hl, q _ (h.setR r rfl)⟩
theorem k_popJ {Q : VK} {js : List Jp} {j : Jp} (h : Ls.Sep L H) (r : Rep L (Ls.ld a ((js ++ [j]).map jD)) (Ls.ld a (js.map jD)) M) (q : ∀ H', Ls.Sep M H' → Q (jV j) H') : rPop (.ref a) [] H Q := by
  obtain ⟨xs, h1, h2⟩ := h.ldm r.mem
  have e : ((js ++ [j]).map jD)[((js ++ [j]).map jD).length - 1]? = some (jD j) := by simp
  obtain ⟨v, hv, hd⟩ := h2.getD e
  rw [← h2.length] at hv
  obtain rfl := im_jV hd
  refine ⟨a, xs, jV j, rfl, rfl, h1, hv, ?_⟩
  refine q _ (h.setDR r ?_)
  have h3 := ImAll.dropLast h2
  rwa [List.map_append, List.map_singleton, List.dropLast_concat] at h3
theorem k_ixJ1 {Q : VK} {r : RowW} (h : Ls.Sep L H) (m : im (.ref a) (rwD r) ∈ L) (q : Q (jV r.2.1) H) : rIx K (.ref a) (.int 1) H Q := by
  obtain ⟨a', xs, e, h1, h2⟩ := im_tup (h.imm m)
  cases e
  obtain ⟨v, hv, hd⟩ := atI_all h2 (i := 1) (d := jD r.2.1) rfl
  obtain rfl := im_jV hd
  exact k_ixT h1 hv q
theorem k_ixJ2 {Q : VK} {r : RowW} (h : Ls.Sep L H) (m : im (.ref a) (rwD r) ∈ L) (q : Q (jV r.2.2) H) : rIx K (.ref a) (.int 2) H Q := by
  obtain ⟨a', xs, e, h1, h2⟩ := im_tup (h.imm m)
  cases e
  obtain ⟨v, hv, hd⟩ := atI_all h2 (i := 2) (d := jD r.2.2) rfl
  obtain rfl := im_jV hd
  exact k_ixT h1 hv q
theorem imAll_ks : ∀ ks : List Nat, ImAll K H ((ks.map fun a : Nat => (a : Int)).map V.int) (ks.map fun a : Nat => PyData.int (a : Int))
  | [] => .nil
  | a :: ks => .cons (.int _) (imAll_ks ks)
def fndK (fs : List Nat) : List (Key × V) := fs.map fun a => (.inl ((a : Nat) : Int), V.bl true)
theorem fnd_val {fs : List Nat} {a : Nat} : (valV (fndK fs) (.inl ((a : Nat) : Int))).isSome = decide (a ∈ fs) := by
  rw [← valV_any]
  unfold fndK
  rw [List.any_map]
  by_cases h : a ∈ fs
  · rw [decide_eq_true h]
    exact List.any_eq_true.mpr ⟨a, h, decide_eq_true rfl⟩
  · rw [decide_eq_false h]
    refine List.any_eq_false.mpr fun x hx => ?_
    show ¬ decide ((Sum.inl ((x : Nat) : Int) : Key) = .inl ((a : Nat) : Int)) = true
    rw [decide_eq_false fun z => by injection z with z; exact h ((show x = a by omega) ▸ hx)]
    exact Bool.false_ne_true
theorem fnd_put {fs : List Nat} {a : Nat} (h : a ∉ fs) : putK (fndK fs) (.inl ((a : Nat) : Int)) (.bl true) = fndK (fs ++ [a]) := by
  rw [put_new (by rw [valV_any, fnd_val]; exact decide_eq_false h)]
  unfold fndK
  rw [List.map_append]
  rfl
end
def spReached (K : PySem.W.Frag) : Sp := fun vs H Q _ => ∃ (a0 : Nat) (pr ph : Addr) (R : List RowW) (L : List (As K)), vs = [.int (a0 : Int), .ref pr, .ref ph] ∧ Ls.Sep L H ∧ Ls.ld pr (R.map rwD) ∈ L ∧ ob ph (.dK (kvK R R.length)) ∈ L ∧ R.length < 64 ∧ Fw R ∧ a0 < R.length ∧ hdJ R a0 = .go (a0 : Nat) ∧
  ∀ ks p H', Kept R (hdJ R) a0 ks → Ls.Sep (Ls.ld p (ks.map fun a : Nat => PyData.int (a : Int)) :: L) H' → Q (.ref p) H'
end Ls
namespace Lw
open PySem PySem.Spec PyProof.Rows L2 Ls LamX
theorem ok_reached {P : Program} {w : World} {K : PySem.W.Frag} {mg : Str → Option Value} {base : Heap} (E : Env K mg w) : FnOk P w K mg base CX0 3 E.a_reached E.fd_reached ["start", "rows", "heads"] (spReached K) := by
  refine E.F_reached.ok sc_reached (fun vs H Q E h => ?_) (fun cdv A outer s H vs Q E' hr h => ?_)
  · walk_at "hl"
  · have hu := huOf hr
    have G_is_end := ok_is_end (P := P) (w := w) (base := base) E
    have hr_is_end := hr.mono (show 1 ≤ 2 by decide)
    have b_is_end := b_is_end E
    have G_led := ok_led (P := P) (w := w) (base := base) E
    have hr_led := hr.mono (show 2 ≤ 2 by decide)
    have b_led := b_led E
    have hcl_Kind := E.cl_Kind
    obtain ⟨a0, pr, ph, R, L, rfl, hS, hl, hh, hR, hfw, ha, h0, q⟩ := h
    have hd := hds_of hfw
    refine ⟨_, PSs.nox (pss_cons (ps_set (i := 3) sc_reached.nd rfl (Or.inl rfl) pe_dnewK)
(pss_cons (ps_set (i := 4) sc_reached.nd rfl (Or.inl rfl) (pe_lst (pa_cons (pv 0) pa_nil)))
(pss_cons (ps_while PassesOwn.never (pt_cmpR (op_neZ K rfl hu) (pv 4) (pe_lst pa_nil) (nomark _))
(pss_cons (ps_set (i := 5) sc_reached.nd rfl (Or.inl rfl) (kBM0 K rfl (pe_bm0 PySem.F.plainAttrs_list PySem.F.slot_list_pop PySem.F.type_list_pop mt_pop (pv 4))))
(pss_one (ps_if (PW.pt (pw_and (pt_not (pt_val (pe_call G_is_end hr_is_end rfl E.g_is_end E.F_is_end.kp b_is_end .nil pass0 (pa_cons (pv 5) pa_nil)))) (pw_and1 (pt_cmp (pc_dnotin (hu1 hu) (pv 5) (pv 3)))))) (pss_cons (ps_dput (hu1 hu) (pv 3) (pv 5) pe_bl rfl)
(pss_one (ps_expr (kBM K rfl (pe_bm PySem.F.plainAttrs_list PySem.F.slot_list_extend PySem.F.type_list_extend mt_extend (pv 4) (pa_cons (pe_lst (pa_cons (pe_call G_led hr_led rfl E.g_led E.F_led.kp b_led .nil pass0 (pa_cons (pe_ix (ix_U K rfl) (pe_ix (ix_U K rfl) (pv 1) (pv 5) (fun _ _ => rfl)) pe_int (fun _ _ => rfl)) (pa_cons (pv 2) pa_nil))) (pa_cons (pe_call G_led hr_led rfl E.g_led E.F_led.kp b_led .nil pass0 (pa_cons (pe_ix (ix_U K rfl) (pe_ix (ix_U K rfl) (pv 1) (pv 5) (fun _ _ => rfl)) pe_int (fun _ _ => rfl)) (pa_cons (pv 2) pa_nil))) pa_nil))) pa_nil)))))) pss_nil))))
(pss_one (ps_ret (pe_callB (call_sortedDI rfl) (by rfl) E.n_sorted boot_sorted (pa_cons (pv 3) pa_nil))))))), ?_⟩
    refine k_body (s1 := some _ :: some _ :: some _ :: [none, none, none]) rfl ?_
    walk_at "s"
    rename_i pf _
    obtain ⟨pl, epl⟩ : ∃ pl : Addr, pl = p := ⟨_, rfl⟩
    rw [← epl] at hS ⊢
    clear epl
    obtain ⟨W, hW⟩ : ∃ W : Nat → L2.St → Hp → Prop, ∀ m σ H, W m σ H ↔ ∃ (fs : List Nat) (js : List Jp) (e5 : Option V), Rch R (hdJ R) a0 fs js ∧ 2 * (R.length - fs.length) + js.length = m ∧ js.length ≤ 2 * fs.length + 1 ∧ σ = [some (.int (a0 : Int)), some (.ref pr), some (.ref ph), some (.ref pf), some (.ref pl), e5] ∧ Ls.Sep (K := K) (ob pf (.dK (fndK fs)) :: Ls.ld pl (js.map jD) :: L) H := ⟨_, fun _ _ _ => Iff.rfl⟩
    refine k_while ⟨W, ⟨_, (hW _ _ _).mpr ⟨[], [.go (a0 : Nat)], _, Rch.start, rfl, Nat.le_refl _, rfl, Sub.ok (N := Ls.ld pl [.int (a0 : Int)] :: ob pf (.dK []) :: L) (by show Sub _ (ob pf (.dK []) :: Ls.ld pl [.int (a0 : Int)] :: L); walk_at "sub") hS⟩⟩, ?_⟩
    clear hS
    intro m σ H hw
    obtain ⟨fs, js, e5, c, hm, hjl, rfl, hS⟩ := (hW _ _ _).mp hw
    clear hw
    have hfl := c.few hfw hd h0 ha
    walk_at "s"
    rcases List.eq_nil_or_concat js with rfl | ⟨js', j, ejs⟩
    · rw [decide_eq_true (show ([] : List Jp).map jD = [] from rfl)]
      walk_at "s"
      have hlf2 : fs.length < 64 := by omega
      refine ⟨pf, fndK fs, fs.map fun a : Nat => (a : Int), rfl, .inl (hS.obm (by walk_at "mem")), by unfold fndK; rw [List.map_map, List.map_map]; rfl, by rw [List.length_map]; exact hlf2, fun ys pz hp hs hpz => ?_⟩
      obtain ⟨ks, rfl, hk⟩ := kept_of hfw hd c hp hs
      refine q ks _ _ hk (Sub.ok (by walk_at "sub") (hS.newImA hpz (imAll_ks ks)))
    obtain rfl : js = js' ++ [j] := by rw [ejs, List.concat_eq_append]
    rw [decide_eq_false (by simp)]
    walk_at "s"
    have hlen : (js' ++ [j]).length = js'.length + 1 := by rw [List.length_append, List.length_singleton]
    refine ⟨fun σ H => ∃ m', m' < m ∧ W m' σ H, fun _ _ h => h, ?_⟩
    walk_at "s"
    refine k_popJ hS (by walk_at "rep") fun H3 hS3 => ?_
    clear hS
    have hS := hS3
    clear hS3
    walk_at "s"
    refine ⟨j, rfl, ?_⟩
    have skip : ((∃ b, j = .en b) ∨ ∃ a : Nat, a ∈ fs ∧ j = .go (a : Nat)) → ∀ (e5 : Option V) H, Ls.Sep (K := K) (ob pf (.dK (fndK fs)) :: Ls.ld pl (js'.map jD) :: L) H → ∃ m', m' < m ∧ W m' [some (.int (a0 : Int)), some (.ref pr), some (.ref ph), some (.ref pf), some (.ref pl), e5] H := fun k e5 H hS => ⟨_, by rw [← hm, hlen]; exact Nat.lt_succ_self _, (hW _ _ _).mpr ⟨fs, js', e5, c.old k, rfl, by omega, rfl, hS⟩⟩
    rcases c.lt j (List.mem_append_right _ List.mem_cons_self) with ⟨b, rfl⟩ | ⟨at0, rfl, hrc⟩
    · rw [show enB (.en b) = true from rfl]
      walk_at "s"
      exact skip (.inl ⟨b, rfl⟩) _ _ (Sub.ok (by walk_at "sub") hS)
    rw [show enB (.go (at0 : Int)) = false from rfl]
    walk_at "s"
    refine k_isI (hS.obm (by walk_at "mem")) ?_
    rw [fnd_val]
    by_cases hin : at0 ∈ fs
    · rw [decide_eq_true hin]
      walk_at "s"
      exact skip (.inr ⟨at0, hin, rfl⟩) _ _ (Sub.ok (by walk_at "sub") hS)
    rw [decide_eq_false hin]
    obtain ⟨_, hal, _⟩ := hrc.canon hfw hd h0 ha
    obtain ⟨r, hr⟩ : ∃ r, R[at0]? = some r := ⟨_, List.getElem?_eq_getElem hal⟩
    have c2 := c.new hfw hd hin hr
    have hf2 := c2.few hfw hd h0 ha
    have hl2 : (fs ++ [at0]).length = fs.length + 1 := by rw [List.length_append, List.length_singleton]
    walk_at "s"
    refine k_putIS hS (by walk_at "rep") (by unfold fndK; rw [List.length_map, sizeLine_eq]; omega) (fnd_put hin) fun H hS => ?_
    have hati : atI (R.map rwD) ((at0 : Nat) : Int) = some (rwD r) := at_natL (by rw [List.getElem?_map, hr]; rfl)
    have led : ∀ j', (j' = r.2.1 ∨ j' = r.2.2) → LedK (kvK R R.length) j' (ledJ (hdJ R) j') := fun j' hj => ledK_all fun n e => by
      obtain ⟨f1, f2⟩ := hfw at0 r hr
      have hjo : JOk at0 R.length j' := by rcases hj with rfl | rfl <;> assumption
      rw [e] at hjo
      obtain ⟨g1, g2⟩ := hjo
      omega
    walk_at "s"
    dsimp only [jV]
    walk_at "s"
    refine k_ixJ1 (r := r) hS (by walk_at "mem") ?_
    walk_at "s"
    refine ⟨r.2.1, ledJ (hdJ R) r.2.1, ph, _, rfl, hS.obm (by walk_at "mem"), led _ (.inl rfl), ?_⟩
    walk_at "s"
    refine k_ixJ2 (r := r) hS (by walk_at "mem") ?_
    walk_at "s"
    refine ⟨r.2.2, ledJ (hdJ R) r.2.2, ph, _, rfl, hS.obm (by walk_at "mem"), led _ (.inr rfl), ?_⟩
    walk_at "s"
    rw [show js'.map jD ++ [jD (ledJ (hdJ R) r.2.1), jD (ledJ (hdJ R) r.2.2)] = (js' ++ [ledJ (hdJ R) r.2.1, ledJ (hdJ R) r.2.2]).map jD by rw [List.map_append]; rfl] at hS
    refine ⟨_, ?_, (hW _ _ _).mpr ⟨fs ++ [at0], js' ++ [ledJ (hdJ R) r.2.1, ledJ (hdJ R) r.2.2], _, c2, rfl, by rw [hl2, List.length_append]; show js'.length + 2 ≤ _; omega, rfl, Sub.ok (by walk_at "sub") hS⟩⟩
    rw [← hm, hlen, hl2, List.length_append]
    show 2 * (R.length - (fs.length + 1)) + (js'.length + 2) < _
    omega
end Lw
namespace Ls
open PySem PySem.Spec PyProof.Rows L2 LamX TL
theorem ShOf.ok {s : Jp} {R : List RowW} {S : Jp × List RowW} (h : ShOf s R S) (hw : WayOk s R) : WayOk S.1 S.2 ∧ S.2.length ≤ R.length ∧ ∀ (k : Kd) (us : List Int) (b : Bool) (c : Nat), Gn k us R s b c → ∃ c', c' ≤ c ∧ Gn k us S.2 S.1 b c' := by
  have hd := hds_of hw.fw
  rcases h with ⟨b0, e, rfl⟩ | ⟨a0, ks, e, h0, hl, hk, rfl⟩
  · refine ⟨rfl, Nat.zero_le _, fun k us b c g => ?_⟩
    obtain ⟨c', hc, g2⟩ := hd.gn hw.fw g
    rw [e] at g2
    cases g2
    exact ⟨0, Nat.zero_le _, .en _⟩
  · refine ⟨hk.ok hw.fw (fun i r hr => hw.leaf hr) hd h0 hl, ?_, fun k us b c g => ?_⟩
    · show (shR R (hdJ R) ks).length ≤ _
      unfold shR
      rw [List.length_map]
      exact hk.len hw.fw hd h0 hl
    · obtain ⟨c', hc, g2⟩ := hd.gn hw.fw g
      rw [e] at g2
      have hz := hk.zero hw.fw hd h0 hl
      have g3 := hk.gn hw.fw hd h0 hl g2 fun a ea => by
        injection ea with ea
        subst ea
        exact ⟨by omega, by rw [Int.toNat_natCast]; exact List.mem_of_getElem? hz⟩
      have ei : ks.idxOf a0 = 0 := by
        cases ks with
        | nil => cases hz
        | cons x t =>
          have : x = a0 := Option.some.inj hz
          rw [this, List.idxOf_cons_self]
      have ep : plJ ks (.go (a0 : Nat)) = .go 0 := by
        show Jp.go ((ks.idxOf ((a0 : Int)).toNat : Nat) : Int) = _
        rw [Int.toNat_natCast, ei]
        rfl
      rw [ep] at g3
      exact ⟨c', hc, g3⟩
def WayT (K : PySem.W.Frag) (L : List (As K)) (pw : Addr) (t : Tst) : Prop := ∃ (pr : Addr) (s : Jp) (R : List RowW), tu pw [jV s, .ref pr] ∈ L ∧ Ls.ld pr (R.map rwD) ∈ L ∧ WayOk s R ∧ R.length ≤ 15 ∧ ∀ k us, ∃ c, Gn k us R s (t.pass k us) c
theorem WayT.cons {K : PySem.W.Frag} {A : As K} {L : List (As K)} {pw : Addr} {t : Tst} (h : WayT K L pw t) : WayT K (A :: L) pw t := by
  obtain ⟨pr, s, R, h1, h2, h3⟩ := h
  exact ⟨pr, s, R, List.mem_cons_of_mem _ h1, List.mem_cons_of_mem _ h2, h3⟩
end Ls
namespace Ls
open PySem PySem.Spec PyProof.Rows L2 TL
def Tst.text : Tst → Str
  | .all => "all"
  | .is n => ("is:" : Str) ++ n
  | .less f k => f ++ ("<" : Str) ++ numS k
  | .same f k => f ++ ("=" : Str) ++ numS k
  | .no a => ("not" : Str) ++ ("(" : Str) ++ Txt.join "," [a.text] ++ (")" : Str)
  | .an a b => ("and" : Str) ++ ("(" : Str) ++ Txt.join "," [a.text, b.text] ++ (")" : Str)
  | .or a b => ("or" : Str) ++ ("(" : Str) ++ Txt.join "," [a.text, b.text] ++ (")" : Str)
theorem sapT (a b : Str) : (a ++ b).length = a.length + b.length := by
  have l : ∀ z : Str, (tl z).length = z.length := fun z => Array.length_toList
  rw [← l, ← l, ← l, tl_append, List.length_append]
end Ls
namespace Lw
open PySem PySem.Spec PyProof.Rows L2 Ls
end Lw
namespace Ls
open PySem PySem.Spec PyProof.Rows L2 TL
def spLBentT (K : PySem.W.Frag) (n : Nat) : Sp := fun vs H Q _ => ∃ (d : Addr) (v : V) (x : PyData) (c m : Nat) (L : List (As K)), vs = [.ref d, v] ∧ m ≤ n ∧ m ≤ 20 ∧ c ≤ 50 ∧ 3 ≤ c ∧ Ls.Sep L H ∧ dr d ∈ L ∧ im v x ∈ L ∧ RawC c m x ∧ ∀ u y H', RawC (c + 1) (m + 2) y → ((∃ xs, x = .tuple xs) → ∃ ys, y = .tuple ys) → Ls.Sep (im u y :: L) H' → Q u H'
end Ls
namespace Lw
open PySem PySem.Spec PyProof.Rows L2 Ls
end Lw
namespace Ls
open PySem PySem.Spec PyProof.Rows L2
theorem cutD_iniT (ds : List PyData) : Ls.cutD ds none (some (-1)) = ds.dropLast := by
  have e : HT.sIx ds.length ds.length (some (-1)) = ds.length - 1 := by
    unfold HT.sIx
    dsimp only
    first
    | omega
    | (split <;> omega)
    | (simp only []; omega)
    | (simp; omega)
  show (ds.drop 0).take (HT.sIx ds.length ds.length (some (-1)) - 0) = _
  rw [e, List.drop_zero, Nat.sub_zero, List.dropLast_eq_take]
end Ls
namespace Lw
open PySem PySem.Spec PyProof.Rows L2 Ls
theorem ok__law_bent_test {P : Program} {w : World} {K : PySem.W.Frag} {mg : Str → Option Value} {base : Heap} (E : Env K mg w) : ∀ n : Nat, FnOk P w K mg base CX0 (5 + n) E.a__law_bent_test E.fd__law_bent_test ["_law_d", "_law_test_here"] (recSp (spLBentT K) n) := by
  intro n
  induction n with
  | zero => exact E.F__law_bent_test.ok sc__law_bent_test (fun vs H Q E h => h.elim) (fun cdv A outer s H vs Q E' hr h => h.elim)
  | succ n ih =>
  replace ih : FnOk P w K mg base CX0 (5 + n) E.a__law_bent_test E.fd__law_bent_test ["_law_d", "_law_test_here"] (recSp (spLBentT K) n) := ih
  show FnOk P w K mg base CX0 (5 + n + 1) E.a__law_bent_test E.fd__law_bent_test ["_law_d", "_law_test_here"] ((spLBentT K) n)
  refine E.F__law_bent_test.ok sc__law_bent_test (fun vs H Q E h => ?_) (fun cdv A outer s H vs Q E' hr h => ?_)
  · walk_at "hl"
  · have hu := huOf hr
    have G__law_pick := ok__law_pick (P := P) (w := w) (base := base) E
    have hr__law_pick := hr.mono (show 1 ≤ 5 + n by omega)
    have b__law_pick := b__law_pick E
    have G__law_odd_name := ok__law_odd_name (P := P) (w := w) (base := base) E
    have hr__law_odd_name := hr.mono (show 3 ≤ 5 + n by omega)
    have b__law_odd_name := b__law_odd_name E
    have G__law_word := ok__law_word (P := P) (w := w) (base := base) E
    have hr__law_word := hr.mono (show 3 ≤ 5 + n by omega)
    have b__law_word := b__law_word E
    have G__law_of := ok__law_of E (ok__law_pick (P := P) (w := w) (base := base) E)
    have hr__law_of := hr.mono (show 2 ≤ 5 + n by omega)
    have b__law_of := b__law_of E
    have G__law_bent_test := ih
    have hr__law_bent_test := hr
    have b__law_bent_test := b__law_bent_test E
    have G__law_far := ok__law_far (P := P) (w := w) (base := base) E
    have hr__law_far := hr.mono (show 2 ≤ 5 + n by omega)
    have b__law_far := b__law_far E
    have hcl_Kind := E.cl_Kind
    obtain ⟨d, v, x, c, m, L, rfl, hmn, hm20, hc, hc3, hS, hd, hm, hr', q⟩ := h
    refine ⟨_, PSs.nox (pss_cons (ps_if (PW.pt (pw_or (pt_not (pt_val (pe_callB (call_isiU K rfl) (by rfl) E.n_isinstance boot_isinstance (pa_cons (pv 1) (pa_cons (pe_ty "tuple" rfl E.n_tuple (by decide +kernel)) pa_nil))))) (pw_or1 (pt_cmpR (op_eqU K rfl hu) (pv 1) (pe_tup pa_nil) (nomark _))))) (pss_one (ps_ret (pv 1))) pss_nil)
(pss_cons (ps_set (i := 2) sc__law_bent_test.nd rfl (Or.inl rfl) (pe_call G__law_pick hr__law_pick rfl E.g__law_pick E.F__law_pick.kp b__law_pick .nil pass0 (pa_cons (pv 0) (pa_cons pe_int pa_nil))))
(pss_cut (ps_if (PW.pt (pw_and (pt_cmpR (op_gt) (pe_callB (call_lenU K rfl) (by rfl) E.n_len boot_len (pa_cons (pv 1) pa_nil)) pe_int (nomark _)) (pw_and (pt_cmpR (op_inU K rfl hu) (pe_ix (ix_U K rfl) (pv 1) pe_int (fun _ _ => rfl)) (pe_tup (pa_cons pe_str (pa_cons pe_str (pa_cons pe_str pa_nil)))) (by with_unfolding_all rfl)) (pw_and1 (pt_cmpR (op_eqU K rfl hu) (pe_call G__law_pick hr__law_pick rfl E.g__law_pick E.F__law_pick.kp b__law_pick .nil pass0 (pa_cons (pv 0) (pa_cons pe_int pa_nil))) pe_int (nomark _)))))) (pss_cons (ps_set (i := 3) sc__law_bent_test.nd rfl (Or.inl rfl) (pe_op (op_addU K rfl) pe_int (pe_call G__law_pick hr__law_pick rfl E.g__law_pick E.F__law_pick.kp b__law_pick .nil pass0 (pa_cons (pv 0) (pa_cons (pe_op op_sub (pe_callB (call_lenU K rfl) (by rfl) E.n_len boot_len (pa_cons (pv 1) pa_nil)) pe_int) pa_nil)))))
(pss_one (ps_ret (pe_op (op_addU K rfl) (pe_op (op_addU K rfl) (pe_slice (sl_U K rfl) (pv 1) po_none (po_some (pv 3))) (pe_tup (pa_cons (pe_call G__law_bent_test hr__law_bent_test rfl E.g__law_bent_test E.F__law_bent_test.kp b__law_bent_test .nil pass0 (pa_cons (pv 0) (pa_cons (pe_ix (ix_U K rfl) (pv 1) (pv 3) (fun _ _ => rfl)) pa_nil))) pa_nil))) (pe_slice (sl_U K rfl) (pv 1) (po_some (pe_op (op_addU K rfl) (pv 3) pe_int)) po_none))))) pss_nil)
(pss_cons (ps_if (pt_cmpR (op_eqU K rfl hu) (pv 2) pe_int (nomark _)) (pss_one (ps_ret (pe_slice (sl_U K rfl) (pv 1) po_none (po_some (pe_un un_neg pe_int))))) pss_nil)
(pss_cons (ps_if (pt_cmpR (op_eqU K rfl hu) (pv 2) pe_int (nomark _)) (pss_one (ps_ret (pe_op (op_addU K rfl) (pv 1) (pe_tup (pa_cons (pe_call G__law_of hr__law_of rfl E.g__law_of E.F__law_of.kp b__law_of .nil pass0 (pa_cons (pv 0) (pa_cons (pe_lst (pa_cons (pe_tup (pa_cons pe_str pa_nil)) (pa_cons pe_int (pa_cons pe_str pa_nil)))) pa_nil))) pa_nil))))) pss_nil)
(pss_cons (ps_if (pt_cmpR (op_eqU K rfl hu) (pv 2) pe_int (nomark _)) (pss_one (ps_ret (pe_op (op_addU K rfl) (pe_tup (pa_cons (pe_call G__law_of hr__law_of rfl E.g__law_of E.F__law_of.kp b__law_of .nil pass0 (pa_cons (pv 0) (pa_cons (pe_lst (pa_cons pe_str (pa_cons pe_str (pa_cons pe_str (pa_cons pe_str (pa_cons pe_str pa_nil)))))) pa_nil))) pa_nil)) (pe_slice (sl_U K rfl) (pv 1) (po_some pe_int) po_none)))) pss_nil)
(pss_cons (ps_if (pt_cmpR (op_eqU K rfl hu) (pv 2) pe_int (nomark _)) (pss_one (ps_ret (pe_tup (pa_cons pe_str (pa_cons (pe_call G__law_odd_name hr__law_odd_name rfl E.g__law_odd_name E.F__law_odd_name.kp b__law_odd_name .nil pass0 (pa_cons (pv 0) (pa_cons (pe_call G__law_word hr__law_word rfl E.g__law_word E.F__law_word.kp b__law_word .nil pass0 (pa_cons (pv 0) pa_nil)) pa_nil))) (pa_cons pe_int pa_nil)))))) pss_nil)
(pss_cons (ps_if (pt_cmpR (op_eqU K rfl hu) (pv 2) pe_int (nomark _)) (pss_one (ps_ret (pe_tup (pa_cons pe_str (pa_cons (pe_call G__law_word hr__law_word rfl E.g__law_word E.F__law_word.kp b__law_word .nil pass0 (pa_cons (pv 0) pa_nil)) (pa_cons (pe_call G__law_of hr__law_of rfl E.g__law_of E.F__law_of.kp b__law_of .nil pass0 (pa_cons (pv 0) (pa_cons (pe_lst (pa_cons pe_int (pa_cons (pe_un un_neg pe_int) (pa_cons (pe_call G__law_far hr__law_far rfl E.g__law_far E.F__law_far.kp b__law_far .nil pass0 (pa_cons (pv 0) pa_nil)) (pa_cons (pe_tup (pa_cons pe_str pa_nil)) pa_nil))))) pa_nil))) pa_nil)))))) pss_nil)
(pss_cons (ps_if (pt_cmpR (op_eqU K rfl hu) (pv 2) pe_int (nomark _)) (pss_one (ps_ret (pe_tup (pa_cons pe_str (pa_cons (pe_call G__law_odd_name hr__law_odd_name rfl E.g__law_odd_name E.F__law_odd_name.kp b__law_odd_name .nil pass0 (pa_cons (pv 0) (pa_cons (pe_call G__law_word hr__law_word rfl E.g__law_word E.F__law_word.kp b__law_word .nil pass0 (pa_cons (pv 0) pa_nil)) pa_nil))) pa_nil))))) pss_nil)
(pss_cons (ps_if (pt_cmpR (op_eqU K rfl hu) (pv 2) pe_int (nomark _)) (pss_one (ps_ret (pe_tup (pa_cons pe_str (pa_cons (pv 1) (pa_cons (pv 1) pa_nil)))))) pss_nil)
(pss_cons (ps_if (pt_cmpR (op_eqU K rfl hu) (pv 2) pe_int (nomark _)) (pss_one (ps_ret (pe_tup (pa_cons pe_str (pa_cons (pv 1) pa_nil))))) pss_nil)
(pss_cons (ps_if (pt_cmpR (op_eqU K rfl hu) (pv 2) pe_int (nomark _)) (pss_one (ps_ret (pe_tup (pa_cons pe_str (pa_cons (pv 1) (pa_cons (pe_call G__law_of hr__law_of rfl E.g__law_of E.F__law_of.kp b__law_of .nil pass0 (pa_cons (pv 0) (pa_cons (pe_lst (pa_cons pe_str (pa_cons pe_int (pa_cons (pe_tup (pa_cons pe_str pa_nil)) pa_nil)))) pa_nil))) pa_nil)))))) pss_nil)
(pss_one (ps_ret (pv 1))))))))))))))), ?_⟩
    refine k_body (s1 := some _ :: some _ :: [none, none]) rfl ?_
    walk_at "s"
    rcases raw_d hr' with ⟨s, rfl, hs⟩ | ⟨i, rfl⟩ | ⟨xs, k, rfl, hN, hxl, hh, hx⟩
    · obtain rfl := im_isStr hS hm
      walk_at "s"
      refine q _ (.str s) _ (hr'.mono (by omega) (by omega)) (fun ⟨xs, e⟩ => by cases e) (Sub.ok (by walk_at "sub") hS)
    · obtain rfl := im_isInt hS hm
      walk_at "s"
      refine q _ (.int i) _ (hr'.mono (by omega) (by omega)) (fun ⟨xs, e⟩ => by cases e) (Sub.ok (by walk_at "sub") hS)
    obtain ⟨a, rfl⟩ := im_isRef hS hm
    obtain rfl := hN
    have hok := raw_okd (by omega) hr'
    replace q : ∀ u ys H', RawC (c + 1) (k + 3) (.tuple ys) → Ls.Sep (im u (.tuple ys) :: L) H' → Q u H' := fun u ys H' h1 h2 => q u _ H' h1 (fun _ => ⟨ys, rfl⟩) h2
    have hnm : ∀ {z : Str} {j : Nat}, IsNm z → RawC (c + 1) j (.str z) := fun h => nm_rawS (by have := h.2.1; omega) (nm_strT h)
    walk_at "s"
    refine k_eqF (m := 1) hS (.dat (.im (by walk_at "mem"))) (.dat (.im (by walk_at "mem"))) hok (by exact ⟨by decide, fun d hd => by cases hd⟩) (by omega) (by decide) ?_
    cases xs with
    | nil =>
      rw [show PyData.eqv (.tuple []) (.tuple []) = true from rfl]
      walk_at "s"
      exact q _ [] _ (raw_mk (Nat.zero_le _) (fun x r e => by cases e) (fun y hy => by cases hy)) (Sub.ok (by walk_at "sub") hS)
    | cons x0 r =>
      obtain ⟨z, rfl⟩ := hh x0 r rfl
      rw [show PyData.eqv (.tuple (.str z :: r)) (.tuple []) = false from rfl]
      have hx' : ∀ y ∈ (PyData.str z :: r), RawC (c + 1) (k + 2) y := fun y hy => (hx y hy).mono (by omega) (by omega)
      have hz0 : RawC (c + 1) (k + 2) (.str z) := hx' _ List.mem_cons_self
      have hrl : r.length + 1 ≤ c := hxl
      have hd0 : ∀ (s : Str) (l : List PyData) (x : PyData) (r : List PyData), PyData.str s :: l = x :: r → ∃ z, x = .str z := fun s l x r e => ⟨s, by cases e; rfl⟩
      walk_at "s"
      walk_at "pk"
      intro w H hS w0 w1
      walk_at "s"
      have hpk := hS
      obtain ⟨L1, e1⟩ : ∃ L1, L1 = im (.ref p) (PyData.tuple []) :: L := ⟨_, rfl⟩
      refine k_cut (fun σ H => ∃ c3, σ = [some (.ref d), some (.ref a), some (.int w), c3] ∧ Ls.Sep L H) ?_ ?_
      · walk_at "s"
        by_cases hl : r = []
        · subst hl
          rw [if_neg (by show ¬ (decide ((1 : Int) < 1)) = true; decide)]
          walk_at "s"
          exact ⟨_, rfl, Sub.ok (by walk_at "sub") hS⟩
        obtain ⟨r1, r2, rfl⟩ : ∃ x y, r = x :: y := by
          cases r with
          | nil => exact (hl rfl).elim
          | cons x y => exact ⟨x, y, rfl⟩
        rw [if_pos (decide_eq_true (by simp; omega))]
        walk_at "s"
        rw [word3]
        cases hw : wordK z with
        | none =>
          rw [if_neg (by exact Bool.false_ne_true)]
          walk_at "s"
          exact ⟨_, rfl, Sub.ok (by walk_at "sub") hS⟩
        | some l =>
          rw [if_pos (by rfl)]
          walk_at "s"
          walk_at "pk"
          intro u H hS u0 u1
          walk_at "s"
          by_cases hu0 : u = 0
          · rw [if_pos (decide_eq_true hu0)]
            walk_at "s"
            walk_at "pk"
            intro t H hS t0 t1
            obtain ⟨j, hj⟩ : ∃ j : Nat, 1 + t = j := ⟨(1 + t).toNat, by omega⟩
            obtain ⟨n', rfl⟩ : ∃ n', n = n' + 1 := ⟨n - 1, by omega⟩
            have hj1 : 1 ≤ j := by omega
            have hjl : j < (PyData.str z :: r1 :: r2).length := by omega
            obtain ⟨x, hx0⟩ : ∃ x, (PyData.str z :: r1 :: r2)[j]? = some x := ⟨_, List.getElem?_eq_getElem hjl⟩
            have hxm := List.mem_of_getElem? hx0
            walk_at "s"
            rw [hj]
            walk_at "s"
            rename_i ps1 _
            refine k_ixG hS (by walk_at "mem") (atI_nat hx0) fun v hS => ?_
            walk_at "s"
            refine ⟨d, v, x, c, k, _, rfl, by omega, by omega, hc, hc3, hS, by walk_at "mem", by walk_at "mem", hx x hxm, fun u y H hy _ hS => ?_⟩
            walk_at "s"
            have ec1 : Ls.cutD (PyData.str z :: r1 :: r2) none (some (1 + t)) = (PyData.str z :: r1 :: r2).take j := by rw [hj, cutD_to (by omega), Int.toNat_natCast]
            have ec2 : Ls.cutD (PyData.str z :: r1 :: r2) (some ((j : Int) + 1)) none = (PyData.str z :: r1 :: r2).drop (j + 1) := by rw [cutD_from (by omega)]; rfl
            have htk := List.length_take_le j (PyData.str z :: r1 :: r2)
            have htd : ((PyData.str z :: r1 :: r2).drop (j + 1)).length ≤ (PyData.str z :: r1 :: r2).length - (j + 1) := by rw [List.length_drop]; exact Nat.le_refl _
            refine k_addIA hS (by walk_at "mem") (by walk_at "mem") (by rw [ec1, sizeLine_eq]; show _ + 1 ≤ _; omega) fun p2 H hS => ?_
            walk_at "s"
            rename Addr => p3
            refine k_addIA hS (by walk_at "mem") (by walk_at "mem") (by rw [ec1, ec2, sizeLine_eq, List.length_append]; show _ + 1 + _ ≤ _; omega) fun p4 H hS => ?_
            rw [ec1, ec2] at hS
            refine q _ (((PyData.str z :: r1 :: r2).take j ++ [y]) ++ (PyData.str z :: r1 :: r2).drop (j + 1)) _ (raw_mk (by rw [List.length_append, List.length_append]; show _ + 1 + _ ≤ _; omega) (fun x r e => ?_) fun y1 hy1 => ?_) (Sub.ok (by walk_at "sub") hS)
            · obtain ⟨j', rfl⟩ : ∃ j', j = j' + 1 := ⟨j - 1, by omega⟩
              rw [List.take_succ_cons] at e
              exact ⟨z, (List.cons.inj e).1.symm⟩
            · rcases List.mem_append.mp hy1 with hy1 | hy1
              · rcases List.mem_append.mp hy1 with hy1 | hy1
                · exact hx' _ (List.mem_of_mem_take hy1)
                · rw [List.mem_singleton.mp hy1]
                  exact hy
              · exact hx' _ (List.mem_of_mem_drop hy1)
          · rw [if_neg (by rw [decide_eq_false hu0]; exact Bool.false_ne_true)]
            walk_at "s"
            exact ⟨_, rfl, Sub.ok (by walk_at "sub") hS⟩
      · rintro σ H ⟨c3, rfl, hS⟩
        clear hpk
        walk_at "s"
        by_cases e0 : w = 0
        · rw [if_pos (decide_eq_true e0)]
          walk_at "s"
          rw [cutD_iniT] at hS
          refine q _ (PyData.str z :: r).dropLast _ (raw_mk (by rw [List.length_dropLast]; show r.length + 1 - 1 ≤ _; omega) (fun x r' e => ?_) fun y hy => hx' y (by rw [List.dropLast_eq_take] at hy; exact List.mem_of_mem_take hy)) (Sub.ok (by walk_at "sub") hS)
          cases r with
          | nil => cases e
          | cons r1 r2 =>
            rw [List.dropLast_cons₂] at e
            exact ⟨z, (List.cons.inj e).1.symm⟩
        rw [if_neg (by rw [decide_eq_false e0]; exact Bool.false_ne_true)]
        walk_at "s"
        have hall : RawC (c + 1) (k + 2) (.tuple [.str "all"]) := raw_mk (by show 1 ≤ _; omega) (hd0 _ _) fun y hy => by
          rw [List.mem_singleton.mp hy]
          exact nm_rawS (by decide +kernel) (by decide +kernel)
        by_cases e1 : w = 1
        · rw [if_pos (decide_eq_true e1)]
          walk_at "s"
          refine use_ofD hS (by walk_at "mem") (by walk_at "mem") (by show 0 < 3; decide) (by show 3 < _; decide) fun e u H he hS => ?_
          have hre : RawC (c + 1) (k + 2) e := by
            simp only [List.mem_cons, List.not_mem_nil, or_false] at he
            rcases he with rfl | rfl | rfl
            · exact hall
            · exact raw_int
            · exact nm_rawS (by decide +kernel) (by decide +kernel)
          walk_at "s"
          refine k_addIA hS (by walk_at "mem") (by walk_at "mem") (by rw [sizeLine_eq]; show r.length + 1 + 1 ≤ _; omega) fun p2 H hS => ?_
          refine q _ ((PyData.str z :: r) ++ [e]) _ (raw_mk (by rw [List.length_append]; show r.length + 1 + 1 ≤ _; omega) (hd0 _ _) fun y hy => ?_) (Sub.ok (by walk_at "sub") hS)
          rcases List.mem_append.mp hy with hy | hy
          · exact hx' _ hy
          · rw [List.mem_singleton.mp hy]
            exact hre
        rw [if_neg (by rw [decide_eq_false e1]; exact Bool.false_ne_true)]
        walk_at "s"
        by_cases e2 : w = 2
        · rw [if_pos (decide_eq_true e2)]
          walk_at "s"
          walk_at "ofS"
          intro s H hs hS
          have hrs : RawC (c + 1) (k + 2) (.str s) := by
            simp only [List.mem_cons, List.not_mem_nil, or_false, PyData.str.injEq] at hs
            rcases hs with rfl | rfl | rfl | rfl | rfl <;> exact nm_rawS (by decide +kernel) (by decide +kernel)
          walk_at "s"
          rw [cut1D] at hS
          rename Addr => ps
          refine k_addIA hS (by walk_at "mem") (by walk_at "mem") (by rw [sizeLine_eq]; show 1 + r.length ≤ _; omega) fun p2 H hS => ?_
          refine q _ ([PyData.str s] ++ r) _ (raw_mk (by show (r.length) + 1 ≤ _; omega) (hd0 _ _) fun y hy => ?_) (Sub.ok (by walk_at "sub") hS)
          rcases List.mem_cons.mp hy with rfl | hy
          · exact hrs
          · exact hx' _ (List.mem_cons_of_mem _ hy)
        rw [if_neg (by rw [decide_eq_false e2]; exact Bool.false_ne_true)]
        walk_at "s"
        by_cases e3 : w = 3
        · rw [if_pos (decide_eq_true e3)]
          walk_at "s"
          refine ⟨d, _, rfl, hS, by walk_at "mem", fun y H hy hS => ?_⟩
          walk_at "s"
          refine ⟨d, y, _, rfl, by have := hy.2.1; omega, nm_strT hy, hS, by walk_at "mem", fun y2 H hy2 hyo hS => ?_⟩
          walk_at "s"
          refine q _ [.str "less", .str y2, .int 4] _ (raw_mk (by show 3 ≤ _; omega) (hd0 _ _) fun y hy' => ?_) (Sub.ok (by walk_at "sub") hS)
          simp only [List.mem_cons, List.not_mem_nil, or_false] at hy'
          rcases hy' with rfl | rfl | rfl
          · exact nm_rawS (by decide +kernel) (by decide +kernel)
          · exact nm_rawS (by have := hy.2.1; omega) hyo
          · exact raw_int
        rw [if_neg (by rw [decide_eq_false e3]; exact Bool.false_ne_true)]
        walk_at "s"
        by_cases e4 : w = 4
        · rw [if_pos (decide_eq_true e4)]
          walk_at "s"
          refine ⟨d, _, rfl, hS, by walk_at "mem", fun y H hy hS => ?_⟩
          walk_at "s"
          refine ⟨d, _, rfl, hS, by walk_at "mem", fun i H hS => ?_⟩
          walk_at "s"
          refine use_ofD hS (by walk_at "mem") (by walk_at "mem") (by show 0 < 4; decide) (by show 4 < _; decide) fun e u H he hS => ?_
          have hre : RawC (c + 1) (k + 2) e := by
            simp only [List.mem_cons, List.not_mem_nil, or_false] at he
            rcases he with rfl | rfl | rfl | rfl
            · exact raw_int
            · exact raw_int
            · exact raw_int
            · exact hall
          walk_at "s"
          refine q _ [.str "same", .str y, e] _ (raw_mk (by show 3 ≤ _; omega) (hd0 _ _) fun y1 hy1 => ?_) (Sub.ok (by walk_at "sub") hS)
          simp only [List.mem_cons, List.not_mem_nil, or_false] at hy1
          rcases hy1 with rfl | rfl | rfl
          · exact nm_rawS (by decide +kernel) (by decide +kernel)
          · exact hnm hy
          · exact hre
        rw [if_neg (by rw [decide_eq_false e4]; exact Bool.false_ne_true)]
        walk_at "s"
        by_cases e5 : w = 5
        · rw [if_pos (decide_eq_true e5)]
          walk_at "s"
          refine ⟨d, _, rfl, hS, by walk_at "mem", fun y H hy hS => ?_⟩
          walk_at "s"
          refine ⟨d, y, _, rfl, by have := hy.2.1; omega, nm_strT hy, hS, by walk_at "mem", fun y2 H hy2 hyo hS => ?_⟩
          walk_at "s"
          refine q _ [.str "is", .str y2] _ (raw_mk (by show 2 ≤ _; omega) (hd0 _ _) fun y hy' => ?_) (Sub.ok (by walk_at "sub") hS)
          simp only [List.mem_cons, List.not_mem_nil, or_false] at hy'
          rcases hy' with rfl | rfl
          · exact nm_rawS (by decide +kernel) (by decide +kernel)
          · exact nm_rawS (by have := hy.2.1; omega) hyo
        rw [if_neg (by rw [decide_eq_false e5]; exact Bool.false_ne_true)]
        walk_at "s"
        have hself : RawC (c + 1) (k + 2) (.tuple (.str z :: r)) := hr'.mono (by omega) (by omega)
        by_cases e6 : w = 6
        · rw [if_pos (decide_eq_true e6)]
          walk_at "s"
          refine q _ [.str "and", .tuple (.str z :: r), .tuple (.str z :: r)] _ (raw_mk (by show 3 ≤ _; omega) (hd0 _ _) fun y hy' => ?_) (Sub.ok (by walk_at "sub") hS)
          simp only [List.mem_cons, List.not_mem_nil, or_false] at hy'
          rcases hy' with rfl | rfl | rfl
          · exact nm_rawS (by decide +kernel) (by decide +kernel)
          · exact hself
          · exact hself
        rw [if_neg (by rw [decide_eq_false e6]; exact Bool.false_ne_true)]
        walk_at "s"
        by_cases e7 : w = 7
        · rw [if_pos (decide_eq_true e7)]
          walk_at "s"
          refine q _ [.str "not", .tuple (.str z :: r)] _ (raw_mk (by show 2 ≤ _; omega) (hd0 _ _) fun y hy' => ?_) (Sub.ok (by walk_at "sub") hS)
          simp only [List.mem_cons, List.not_mem_nil, or_false] at hy'
          rcases hy' with rfl | rfl
          · exact nm_rawS (by decide +kernel) (by decide +kernel)
          · exact hself
        rw [if_neg (by rw [decide_eq_false e7]; exact Bool.false_ne_true)]
        walk_at "s"
        by_cases e8 : w = 8
        · rw [if_pos (decide_eq_true e8)]
          walk_at "s"
          refine use_ofD hS (by walk_at "mem") (by walk_at "mem") (by show 0 < 3; decide) (by show 3 < _; decide) fun e u H he hS => ?_
          have hre : RawC (c + 1) (k + 2) e := by
            simp only [List.mem_cons, List.not_mem_nil, or_false] at he
            rcases he with rfl | rfl | rfl
            · exact nm_rawS (by decide +kernel) (by decide +kernel)
            · exact raw_int
            · exact hall
          walk_at "s"
          refine q _ [.str "or", .tuple (.str z :: r), e] _ (raw_mk (by show 3 ≤ _; omega) (hd0 _ _) fun y1 hy1 => ?_) (Sub.ok (by walk_at "sub") hS)
          simp only [List.mem_cons, List.not_mem_nil, or_false] at hy1
          rcases hy1 with rfl | rfl | rfl
          · exact nm_rawS (by decide +kernel) (by decide +kernel)
          · exact hself
          · exact hre
        rw [if_neg (by rw [decide_eq_false e8]; exact Bool.false_ne_true)]
        walk_at "s"
        refine q _ (PyData.str z :: r) _ (hr'.mono (by omega) (by omega)) (Sub.ok (by walk_at "sub") hS)
end Lw
namespace Ls
open PySem PySem.Spec PyProof.Rows L2 TL
def spValueB (K : PySem.W.Frag) : Sp := fun vs H Q _ => ∃ (d f : Addr) (fd : Fd) (L : List (As K)), vs = [.ref d, .ref f] ∧ Ls.Sep L H ∧ dr d ∈ L ∧ im (.ref f) (fdD fd) ∈ L ∧ GoodF fd ∧ ∀ (n : Int) H', fd.2.1 ≤ n → n ≤ fd.2.2 → Ls.Sep L H' → Q (.int n) H'
def spKindOf (K : PySem.W.Frag) : Sp := fun vs H Q _ => ∃ (d : Addr) (L : List (As K)), vs = [.ref d] ∧ Ls.Sep L H ∧ dr d ∈ L ∧ ∀ p (k : Kd) H', GoodK k → Ls.Sep (im (.ref p) (kdD k) :: L) H' → Q (.ref p) H'
def spNamesOf (K : PySem.W.Frag) : Sp := fun vs H Q _ => ∃ (d f : Addr) (fs : List Fd) (L : List (As K)), vs = [.ref d, .ref f] ∧ Ls.Sep L H ∧ dr d ∈ L ∧ im (.ref f) (fdsD fs) ∈ L ∧ GoodFs fs ∧ ∀ p (zs : List Str) H', 0 < zs.length → zs.length ≤ 10 → (∀ z ∈ zs, IsNm z) → Ls.Sep (Ls.ld p (zs.map PyData.str) :: L) H' → Q (.ref p) H'
def spLTest (K : PySem.W.Frag) : Sp := fun vs H Q _ => ∃ (d pn pk : Addr) (L : List (As K)), vs = [.ref d, .ref pn, .ref pk] ∧ Ls.Sep L H ∧ dr d ∈ L ∧ NmsL pn L ∧ NmsL pk L ∧ ∀ p (t : Tst) H', t.ok → t.deep ≤ 5 → t.parts ≤ 15 → Ls.Sep (im (.ref p) t.D :: L) H' → Q (.ref p) H'
end Ls
namespace Lw
open PySem PySem.Spec PyProof.Rows L2 Ls
theorem ok__law_value {P : Program} {w : World} {K : PySem.W.Frag} {mg : Str → Option Value} {base : Heap} (E : Env K mg w) : FnOk P w K mg base CX0 3 E.a__law_value E.fd__law_value ["_law_d", "_law_field"] (spValueB K) := by
  refine E.F__law_value.ok sc__law_value (fun vs H Q E h => ?_) (fun cdv A outer s H vs Q E' hr h => ?_)
  · walk_at "hl"
  · have hu := huOf hr
    have G__law_of := ok__law_of E (ok__law_pick (P := P) (w := w) (base := base) E)
    have hr__law_of := hr.mono (show 2 ≤ 2 by decide)
    have b__law_of := b__law_of E
    have G__law_pick := ok__law_pick (P := P) (w := w) (base := base) E
    have hr__law_pick := hr.mono (show 1 ≤ 2 by decide)
    have b__law_pick := b__law_pick E
    have hcl_Kind := E.cl_Kind
    obtain ⟨d, f, ⟨z, lo, hi⟩, L, rfl, hS, hd, hm, ⟨g1, g2, g3, g4⟩, q⟩ := h
    dsimp only at g1 g2 g3 g4 q
    refine ⟨_, PSs.nox (pss_cons (ps_asg (pv 1) (kGTup (n := 3) K rfl (pg_tup rfl (pgs_cons (pg_name (i := 2) sc__law_value.nd rfl (Or.inl rfl)) (pgs_cons (pg_name (i := 3) sc__law_value.nd rfl (Or.inl rfl)) (pgs_cons (pg_name (i := 4) sc__law_value.nd rfl (Or.inl rfl)) pgs_nil))))))
(pss_one (ps_ret (pe_call G__law_of hr__law_of rfl E.g__law_of E.F__law_of.kp b__law_of .nil pass0 (pa_cons (pv 0) (pa_cons (pe_lst (pa_cons (pv 3) (pa_cons (pv 4) (pa_cons (pe_op (op_addU K rfl) (pv 3) (pe_call G__law_pick hr__law_pick rfl E.g__law_pick E.F__law_pick.kp b__law_pick .nil pass0 (pa_cons (pv 0) (pa_cons (pe_op (op_addU K rfl) (pe_op op_sub (pv 4) (pv 3)) pe_int) pa_nil)))) pa_nil)))) pa_nil)))))), ?_⟩
    refine k_body (s1 := some _ :: some _ :: [none, none, none]) rfl ?_
    walk_at "s"
    walk_at "pk"
    intro r H hS r0 r1
    walk_at "s"
    walk_at "ofI"
    intro n H hn hS
    have hb : lo ≤ n ∧ n ≤ hi := by
      simp only [List.mem_cons, List.not_mem_nil, or_false, PyData.int.injEq] at hn
      omega
    exact q n _ hb.1 hb.2 (Sub.ok (by walk_at "sub") hS)
theorem ok__law_kind_of {P : Program} {w : World} {K : PySem.W.Frag} {mg : Str → Option Value} {base : Heap} (E : Env K mg w) : FnOk P w K mg base CX0 6 E.a__law_kind_of E.fd__law_kind_of ["_law_d"] (spKindOf K) := by
  refine E.F__law_kind_of.ok sc__law_kind_of (fun vs H Q E h => ?_) (fun cdv A outer s H vs Q E' hr h => ?_)
  · walk_at "hl"
  · have hu := huOf hr
    have G__law_fields := ok__law_fields (P := P) (w := w) (base := base) E
    have hr__law_fields := hr.mono (show 5 ≤ 5 by decide)
    have b__law_fields := b__law_fields E
    have G__law_pick := ok__law_pick (P := P) (w := w) (base := base) E
    have hr__law_pick := hr.mono (show 1 ≤ 5 by decide)
    have b__law_pick := b__law_pick E
    have G__law_word := ok__law_word (P := P) (w := w) (base := base) E
    have hr__law_word := hr.mono (show 3 ≤ 5 by decide)
    have b__law_word := b__law_word E
    have hcl_Kind := E.cl_Kind
    obtain ⟨d, L, rfl, hS, hd, q⟩ := h
    refine ⟨_, PSs.nox (pss_cons (ps_set (i := 1) sc__law_kind_of.nd rfl (Or.inl rfl) (pe_call G__law_fields hr__law_fields rfl E.g__law_fields E.F__law_fields.kp b__law_fields .nil pass0 (pa_cons (pv 0) (pa_cons (pe_call G__law_pick hr__law_pick rfl E.g__law_pick E.F__law_pick.kp b__law_pick .nil pass0 (pa_cons (pv 0) (pa_cons pe_int pa_nil))) pa_nil))))
(pss_one (ps_ret (pe_tup (pa_cons (pe_call G__law_word hr__law_word rfl E.g__law_word E.F__law_word.kp b__law_word .nil pass0 (pa_cons (pv 0) pa_nil)) (pa_cons (pv 1) pa_nil)))))), ?_⟩
    refine k_body (s1 := some _ :: [none]) rfl ?_
    walk_at "s"
    walk_at "pk"
    intro r H hS r0 r1
    obtain ⟨rn, rfl⟩ := Int.eq_ofNat_of_zero_le r0
    refine ⟨d, rn, _, rfl, by omega, hS, by walk_at "mem", fun p fs H hlf gfs hS => ?_⟩
    walk_at "s"
    refine ⟨d, _, rfl, hS, by walk_at "mem", fun z H hz hS => ?_⟩
    walk_at "s"
    exact q _ (z, fs) _ ⟨hz, gfs⟩ (Sub.ok (by show Sub _ (im (V.ref _) (PyData.tuple [.str z, fdsD fs]) :: L); walk_at "sub") hS)
theorem ok__law_names_of {P : Program} {w : World} {K : PySem.W.Frag} {mg : Str → Option Value} {base : Heap} (E : Env K mg w) : FnOk P w K mg base CX0 4 E.a__law_names_of E.fd__law_names_of ["_law_d", "_law_fields_here"] (spNamesOf K) := by
  refine E.F__law_names_of.ok sc__law_names_of (fun vs H Q E h => ?_) (fun cdv A outer s H vs Q E' hr h => ?_)
  · walk_at "hl"
  · have hu := huOf hr
    have G__law_word := ok__law_word (P := P) (w := w) (base := base) E
    have hr__law_word := hr.mono (show 3 ≤ 3 by decide)
    have b__law_word := b__law_word E
    have hcl_Kind := E.cl_Kind
    obtain ⟨d, f, fs, L, rfl, hS, hd, hm, gfs, q⟩ := h
    have h4 := gfs.1
    refine ⟨_, PSs.nox (pss_one (ps_ret (pe_op (op_addU K rfl) (pe_lc (own := [("_law_field", 2)]) rfl sc__law_names_of.nd (pi_seqU K rfl (pv 1)) (blkOk_by (N := ["_law_d", "_law_fields_here", "_law_field"]) (sc := defScope s__law_names_of) (by decide +kernel)) (fun _ _ _ _ _ => (pg_name (i := 2) sc__law_names_of.nd rfl (Or.inl rfl))) (fun _ _ _ _ _ => pts_nil) (fun _ _ _ _ _ => (pe_ix (ix_U K rfl) (pv 2) pe_int (fun _ _ => rfl)))) (pe_lst (pa_cons (pe_call G__law_word hr__law_word rfl E.g__law_word E.F__law_word.kp b__law_word .nil pass0 (pa_cons (pv 0) pa_nil)) pa_nil))))), ?_⟩
    refine k_body (s1 := some _ :: some _ :: [none]) rfl ?_
    walk_at "s"
    refine lc_flat (zs := fs) (fun z => [PyData.str z.1]) hS (fun acc => wk_imm (f := fdD) (by walk_at "mem")) (fun j z acc hz hk _ la => ?_) (fun H hS => ?_)
    · clear hS
      have hj := (List.getElem?_eq_some_iff.mp hz).1
      have hg : atI [PyData.str z.1, .int z.2.1, .int z.2.2] 0 = some (.str z.1) := at00 _ _
      walk_at "gi"
      walk_at "ls"
      exact lc_keep hS (d := .str z.1) (.str _) (by walk_at "sub") (by rw [sizeLine_eq]; omega) (hk _ rfl)
    rw [flat_map (fun z : Fd => PyData.str z.1), show (fs.map fun z : Fd => PyData.str z.1) = (fs.map (·.1)).map PyData.str by rw [List.map_map]; rfl] at hS
    walk_at "s"
    refine ⟨d, _, rfl, hS, by walk_at "mem", fun z H hz hS => ?_⟩
    walk_at "s"
    replace hS : Ls.Sep (Ls.ld p _ :: L) _ := Sub.ok (by walk_at "sub") hS
    refine q p (fs.map (·.1) ++ [z]) _ (by simp) (by rw [List.length_append, List.length_map]; show fs.length + 1 ≤ 10; omega) (fun y hy => ?_) (by rw [List.map_append]; exact hS)
    rcases List.mem_append.mp hy with hy | hy
    · obtain ⟨g, hg, rfl⟩ := List.mem_map.mp hy
      exact (gfs.2.2 g hg).1
    · rw [List.mem_singleton.mp hy]
      exact hz
theorem ok__law_test {P : Program} {w : World} {K : PySem.W.Frag} {mg : Str → Option Value} {base : Heap} (E : Env K mg w) : FnOk P w K mg base CX0 13 E.a__law_test E.fd__law_test ["_law_d", "_law_names", "_law_kinds"] (spLTest K) := by
  refine E.F__law_test.ok sc__law_test (fun vs H Q E h => ?_) (fun cdv A outer s H vs Q E' hr h => ?_)
  · walk_at "hl"
  · have hu := huOf hr
    have G__law_tree := ok__law_tree (P := P) (w := w) (base := base) E 6
    have hr__law_tree := hr.mono (show 11 ≤ 12 by decide)
    have b__law_tree := b__law_tree E
    have G__law_pick := ok__law_pick (P := P) (w := w) (base := base) E
    have hr__law_pick := hr.mono (show 1 ≤ 12 by decide)
    have b__law_pick := b__law_pick E
    have G__law_parts := ok__law_parts (P := P) (w := w) (base := base) E 9
    have hr__law_parts := hr.mono (show 10 ≤ 12 by decide)
    have b__law_parts := b__law_parts E
    have G__law_leaf := ok__law_leaf (P := P) (w := w) (base := base) E
    have hr__law_leaf := hr.mono (show 4 ≤ 12 by decide)
    have b__law_leaf := b__law_leaf E
    have hcl_Kind := E.cl_Kind
    obtain ⟨d, pn, pk, L, rfl, hS, hd, hn, hk, q⟩ := h
    refine ⟨_, PSs.nox (pss_cons (ps_set (i := 3) sc__law_test.nd rfl (Or.inl rfl) (pe_call G__law_tree hr__law_tree rfl E.g__law_tree E.F__law_tree.kp b__law_tree .nil pass0 (pa_cons (pv 0) (pa_cons (pe_op (op_addU K rfl) pe_int (pe_call G__law_pick hr__law_pick rfl E.g__law_pick E.F__law_pick.kp b__law_pick .nil pass0 (pa_cons (pv 0) (pa_cons pe_int pa_nil)))) (pa_cons (pv 1) (pa_cons (pv 2) pa_nil))))))
(pss_one (ps_ret (pe_join (pe_ifExp (pt_cmpR (op_lt) (pe_call G__law_parts hr__law_parts rfl E.g__law_parts E.F__law_parts.kp b__law_parts .nil pass0 (pa_cons (pv 3) pa_nil)) pe_int (nomark _)) (pv 3) (pe_tup (pa_cons pe_str (pa_cons (pe_call G__law_leaf hr__law_leaf rfl E.g__law_leaf E.F__law_leaf.kp b__law_leaf .nil pass0 (pa_cons (pv 0) (pa_cons (pv 1) (pa_cons (pv 2) pa_nil)))) pa_nil)))))))), ?_⟩
    refine k_body (s1 := some _ :: some _ :: some _ :: [none]) rfl ?_
    walk_at "s"
    walk_at "pk"
    intro r H hS r0 r1
    walk_at "s"
    refine ⟨d, pn, pk, 1 + r, _, rfl, by show 1 + r ≤ (5 : Nat) + 1; omega, hS, by walk_at "mem", hn, hk, fun pt t H hto htd hd2 hS => ?_⟩
    have h5 : t.deep ≤ 5 := by have := deep_pos t; omega
    walk_at "s"
    refine k_joinS (fun v (M : List (As K)) => ∃ (p : Addr) (u : Tst), v = .ref p ∧ u.ok ∧ u.deep ≤ 5 ∧ u.parts ≤ 15 ∧ M = im (.ref p) u.D :: L) ?_ ?_
    · walk_at "s"
      refine ⟨pt, t, _, rfl, by show t.deep ≤ 9; omega, hS, by walk_at "mem", fun H hS => ?_⟩
      walk_at "s"
      by_cases h16 : t.parts < 16
      · rw [if_pos (decide_eq_true (by omega))]
        walk_at "s"
        exact ⟨_, ⟨pt, t, rfl, hto, h5, by omega, rfl⟩, hS⟩
      · rw [if_neg (by rw [decide_eq_false (by omega)]; exact Bool.false_ne_true)]
        walk_at "s"
        refine ⟨d, pn, pk, _, rfl, hS, by walk_at "mem", hn.mono (fun A h => by walk_at "mem"), hk.mono (fun A h => by walk_at "mem"), fun p2 u H huo hu1 hS => ?_⟩
        walk_at "s"
        rename Addr => p3
        have hp : u.parts = 1 := by
          have := parts_deep u
          have := parts_pos u
          rw [hu1] at *
          omega
        exact ⟨_, ⟨p3, .no u, rfl, huo, by show u.deep + 1 ≤ 5; omega, by show u.parts + 1 ≤ 15; omega, rfl⟩, Sub.ok (by show Sub _ (im (V.ref _) (PyData.tuple [.str "not", u.D]) :: L); walk_at "sub") hS⟩
    · rintro _ M H ⟨p, u, rfl, huo, hu5, hup, rfl⟩ hS
      exact q p u _ huo hu5 hup hS
end Lw
namespace Ls
open PySem PySem.Spec PyProof.Rows L2 LamX
end Ls
namespace Lw
open PySem PySem.Spec PyProof.Rows L2 Ls LamX
end Lw
namespace Ls
open PySem PySem.Spec PyProof.Rows L2 LamX
abbrev intsT (us : List Int) : PyData := .tuple (us.map PyData.int)
def spVals3 (K : PySem.W.Frag) : Sp := fun vs H Q _ => ∃ (d f : Addr) (k : Kd) (L : List (As K)), vs = [.ref d, .ref f] ∧ Ls.Sep L H ∧ dr d ∈ L ∧ im (.ref f) (fdsD k.2) ∈ L ∧ GoodK k ∧ ∀ p us H', us.length = k.2.length → Ls.Sep (im (.ref p) (intsT us) :: L) H' → Q (.ref p) H'
def spBent3 (K : PySem.W.Frag) : Sp := fun vs H Q _ => ∃ (d v : Addr) (f : V) (us : List Int) (L : List (As K)), vs = [.ref d, f, .ref v] ∧ Ls.Sep L H ∧ dr d ∈ L ∧ im (.ref v) (intsT us) ∈ L ∧ us.length ≤ 50 ∧ ∀ p ws H', ws.length ≤ us.length + 2 → Ls.Sep (im (.ref p) (intsT ws) :: L) H' → Q (.ref p) H'
theorem bv_len3 {i : Int} (h : i.natAbs < 10 ^ 100) : ("badvalue " : Str).length + (Str.ofString (toString i)).length ≤ sizeLine := by
  have := num_len (k := 100) (by decide) h
  have e : ("badvalue " : Str).length = 9 := by decide +kernel
  rw [e, sizeLine_eq]
  omega
def wordV (fs : List Fd) (us : List Int) : Str := match needV 0 fs us with | none => ("" : Str) | some i => ("badvalue " : Str) ++ (toString ((i : Nat) : Int) : String)
def spWord3 (K : PySem.W.Frag) : Sp := fun vs H Q _ => ∃ (f v : Addr) (fs : List Fd) (us : List Int) (L : List (As K)), vs = [.ref f, .ref v] ∧ Ls.Sep L H ∧ im (.ref f) (fdsD fs) ∈ L ∧ im (.ref v) (intsT us) ∈ L ∧ fs.length ≤ 4 ∧ us.length ≤ 100 ∧ ∀ H', Ls.Sep L H' → Q (.str (wordV fs us)) H'
end Ls
namespace Lw
open PySem PySem.Spec PyProof.Rows L2 Ls LamX
theorem ok__law_values {P : Program} {w : World} {K : PySem.W.Frag} {mg : Str → Option Value} {base : Heap} (E : Env K mg w) : FnOk P w K mg base CX0 4 E.a__law_values E.fd__law_values ["_law_d", "_law_fields_here"] (spVals3 K) := by
  refine E.F__law_values.ok sc__law_values (fun vs H Q E h => ?_) (fun cdv A outer s H vs Q E' hr h => ?_)
  · walk_at "hl"
  · have hu := huOf hr
    have G__law_value := ok__law_value (P := P) (w := w) (base := base) E
    have hr__law_value := hr.mono (show 3 ≤ 3 by decide)
    have b__law_value := b__law_value E
    have hcl_Kind := E.cl_Kind
    obtain ⟨d, f, k, L, rfl, hS, hd, hm, gk, q⟩ := h
    refine ⟨_, PSs.nox (pss_one (ps_ret (pe_callTy (call_tupleU K rfl) (by rfl) E.n_tuple boot_tuple (pa_cons (pe_lc (own := [("_law_field", 2)]) rfl sc__law_values.nd (pi_seqU K rfl (pv 1)) (blkOk_by (N := ["_law_d", "_law_fields_here", "_law_field"]) (sc := defScope s__law_values) (by decide +kernel)) (fun _ _ _ _ _ => (pg_name (i := 2) sc__law_values.nd rfl (Or.inl rfl))) (fun _ _ _ _ _ => pts_nil) (fun _ _ _ _ _ => (pe_call G__law_value hr__law_value rfl E.g__law_value E.F__law_value.kp b__law_value .nil pass0 (pa_cons (pv 0) (pa_cons (pv 2) pa_nil))))) pa_nil)))), ?_⟩
    refine k_body (s1 := some _ :: some _ :: [none]) rfl ?_
    walk_at "s"
    revert p
    intro D hS
    refine lc_wk (L := L) (n := k.2.length) (Y := fun i q => ∀ z, k.2[i]? = some z → Gv (fdD z) q) (fun i acc L' => L' = L ∧ ∃ us : List Int, acc = us.map PyData.int ∧ us.length = i) (fun i acc L' e => by obtain ⟨rfl, _⟩ := e; exact wk_imm (by walk_at "mem")) hS ⟨rfl, [], rfl, rfl⟩ (fun i acc L' hi iv z hz => ?_) (fun acc L' H iv hS => ?_)
    · obtain ⟨rfl, us, rfl, hl⟩ := iv
      walk_at "gi"
      walk_at "ls"
      have gz := gk.2.2.2 z (List.mem_of_getElem? hz)
      refine ⟨d, _, z, _, rfl, hS, by walk_at "mem", by walk_at "mem", gz, ?_⟩
      clear hS
      intro n H _ _ hS
      have h4 := gk.2.1
      exact lc_keep hS (.int _) (by walk_at "sub") (by rw [sizeLine_eq, List.length_map]; omega) ⟨rfl, us ++ [n], by rw [List.map_append]; rfl, by rw [List.length_append, hl]; rfl⟩
    · obtain ⟨rfl, us, rfl, hl⟩ := iv
      walk_at "s"
      exact q _ us _ hl (Sub.ok (by walk_at "sub") hS)
theorem ok__law_bent_values {P : Program} {w : World} {K : PySem.W.Frag} {mg : Str → Option Value} {base : Heap} (E : Env K mg w) : FnOk P w K mg base CX0 4 E.a__law_bent_values E.fd__law_bent_values ["_law_d", "_law_fields_here", "_law_values_here"] (spBent3 K) := by
  refine E.F__law_bent_values.ok sc__law_bent_values (fun vs H Q E h => ?_) (fun cdv A outer s H vs Q E' hr h => ?_)
  · walk_at "hl"
  · have hu := huOf hr
    have G__law_pick := ok__law_pick (P := P) (w := w) (base := base) E
    have hr__law_pick := hr.mono (show 1 ≤ 3 by decide)
    have b__law_pick := b__law_pick E
    have G__law_of := ok__law_of E (ok__law_pick (P := P) (w := w) (base := base) E)
    have hr__law_of := hr.mono (show 2 ≤ 3 by decide)
    have b__law_of := b__law_of E
    have G__law_far := ok__law_far (P := P) (w := w) (base := base) E
    have hr__law_far := hr.mono (show 2 ≤ 3 by decide)
    have b__law_far := b__law_far E
    have hcl_Kind := E.cl_Kind
    obtain ⟨d, v, f, us, L, rfl, hS, hd, hv, hl, q⟩ := h
    refine ⟨_, PSs.nox (pss_cons (ps_set (i := 3) sc__law_bent_values.nd rfl (Or.inl rfl) (pe_callTy (call_listU K rfl) (by rfl) E.n_list boot_list (pa_cons (pv 2) pa_nil)))
(pss_cons (ps_for PassesOwn.never rfl (pi_range1 rfl E.n_range (pa_cons (pe_call G__law_pick hr__law_pick rfl E.g__law_pick E.F__law_pick.kp b__law_pick .nil pass0 (pa_cons (pv 0) (pa_cons pe_int pa_nil))) pa_nil)) (pg_name (i := 4) sc__law_bent_values.nd rfl (Or.inl rfl))
(pss_cons (ps_set (i := 5) sc__law_bent_values.nd rfl (Or.inl rfl) (pe_call G__law_pick hr__law_pick rfl E.g__law_pick E.F__law_pick.kp b__law_pick .nil pass0 (pa_cons (pv 0) (pa_cons (pe_op (op_addU K rfl) (pe_callB (call_lenU K rfl) (by rfl) E.n_len boot_len (pa_cons (pv 3) pa_nil)) pe_int) pa_nil))))
(pss_cons (ps_set (i := 6) sc__law_bent_values.nd rfl (Or.inl rfl) (pe_call G__law_pick hr__law_pick rfl E.g__law_pick E.F__law_pick.kp b__law_pick .nil pass0 (pa_cons (pv 0) (pa_cons pe_int pa_nil))))
(pss_one (ps_if (PW.pt (pw_or (pt_cmpR (op_eqU K rfl hu) (pv 5) (pe_callB (call_lenU K rfl) (by rfl) E.n_len boot_len (pa_cons (pv 3) pa_nil)) (nomark _)) (pw_or1 (pt_cmpR (op_eqU K rfl hu) (pv 6) pe_int (nomark _))))) (pss_one (ps_expr (kBM K rfl (pe_bm PySem.F.plainAttrs_list PySem.F.slot_list_insert PySem.F.type_list_insert mt_insU (pv 3) (pa_cons (pv 5) (pa_cons (pe_call G__law_of hr__law_of rfl E.g__law_of E.F__law_of.kp b__law_of .nil pass0 (pa_cons (pv 0) (pa_cons (pe_lst (pa_cons pe_int (pa_cons pe_int (pa_cons (pe_call G__law_far hr__law_far rfl E.g__law_far E.F__law_far.kp b__law_far .nil pass0 (pa_cons (pv 0) pa_nil)) pa_nil)))) pa_nil))) pa_nil)))))) (pss_one (ps_if (pt_cmpR (op_eqU K rfl hu) (pv 6) pe_int (nomark _)) (pss_one (ps_expr (kBM K rfl (pe_bm PySem.F.plainAttrs_list PySem.F.slot_list_pop PySem.F.type_list_pop mt_popAt (pv 3) (pa_cons (pv 5) pa_nil))))) (pss_one (ps_asg (pe_op (op_addU K rfl) (pe_ix (ix_U K rfl) (pv 3) (pv 5) (fun _ _ => rfl)) (pe_call G__law_of hr__law_of rfl E.g__law_of E.F__law_of.kp b__law_of .nil pass0 (pa_cons (pv 0) (pa_cons (pe_lst (pa_cons pe_int (pa_cons (pe_un un_neg pe_int) (pa_cons pe_int (pa_cons (pe_un un_neg pe_int) (pa_cons (pe_call G__law_far hr__law_far rfl E.g__law_far E.F__law_far.kp b__law_far .nil pass0 (pa_cons (pv 0) pa_nil)) pa_nil)))))) pa_nil)))) (pg_sub (pv 3) (pv 5) set_list))))))))))
(pss_one (ps_ret (pe_callTy (call_tupleU K rfl) (by rfl) E.n_tuple boot_tuple (pa_cons (pv 3) pa_nil)))))), ?_⟩
    refine k_body (s1 := some _ :: some _ :: some _ :: [none, none, none, none]) rfl ?_
    walk_at "s"
    refine k_listI hS hv ?_
    clear hS
    intro pl H hS
    walk_at "s"
    walk_at "pk"
    intro r H hS r0 r1
    walk_at "s"
    refine for_wk (n := r.toNat) (fun i σ L' => ∃ ws : List Int, L' = Ls.ld pl (ws.map PyData.int) :: L ∧ ws.length ≤ us.length + i ∧ ∃ c4 c5 c6, σ = [some (.ref d), some f, some (.ref v), some (.ref pl), c4, c5, c6]) (fun i σ L' _ => wk_rng) hS ⟨us, rfl, Nat.le_refl _, _, _, _, rfl⟩ (fun i σ L' hi iv H hS => ?_) (fun σ L' H iv hS => ?_)
    · obtain ⟨ws, rfl, hlw, c4, c5, c6, rfl⟩ := iv
      walk_at "ns"
      walk_at "s"
      walk_at "pk"
      intro at' H hS a0 a1
      rw [List.length_map] at a1
      obtain ⟨j, rfl⟩ := Int.eq_ofNat_of_zero_le a0
      walk_at "s"
      walk_at "pk"
      intro wy H hS w0 w1
      walk_at "s"
      rw [List.length_map]
      by_cases e1 : j = ws.length
      · rw [if_pos (decide_eq_true (by rw [e1])), if_pos rfl]
        walk_at "s"
        refine ⟨d, _, rfl, hS, by walk_at "mem", ?_⟩
        clear hS
        intro n H hS
        walk_at "s"
        walk_at "ofI"
        intro u H _ hS
        walk_at "s"
        refine k_insD (i := ((j : Nat) : Int)) (ds := ws.map PyData.int) (d := .int u) hS (by walk_at "rep") (.int _) (by omega) (by omega) (by rw [List.length_map, sizeLine_eq]; omega) ?_
        clear hS
        intro H hS
        have em : (ws.map PyData.int).take ((j : Nat) : Int).toNat ++ [PyData.int u] ++ (ws.map PyData.int).drop ((j : Nat) : Int).toNat = (ws.take j ++ [u] ++ ws.drop j).map PyData.int := by
          rw [Int.toNat_natCast, List.map_append, List.map_append, List.map_take, List.map_drop]
          rfl
        rw [em] at hS
        walk_at "s"
        exact ⟨_, ⟨ws.take j ++ [u] ++ ws.drop j, rfl, by rw [List.length_append, List.length_append, List.length_take, List.length_drop, List.length_singleton]; omega, _, _, _, rfl⟩, Sub.ok (by walk_at "sub") hS⟩
      · rw [if_neg (by rw [decide_eq_false (by omega)]; exact Bool.false_ne_true)]
        have hj : j < ws.length := by omega
        obtain ⟨u0, hu0⟩ : ∃ u, ws[j]? = some u := ⟨_, List.getElem?_eq_getElem hj⟩
        have hx : atI (ws.map PyData.int) ((j : Nat) : Int) = some (.int u0) := atI_nat (by rw [List.getElem?_map, hu0]; rfl)
        walk_at "s"
        by_cases e2 : wy = 0
        · rw [if_pos (decide_eq_true e2)]
          walk_at "s"
          refine ⟨d, _, rfl, hS, by walk_at "mem", ?_⟩
          clear hS
          intro n H hS
          walk_at "s"
          walk_at "ofI"
          intro u H _ hS
          walk_at "s"
          refine k_insD (i := ((j : Nat) : Int)) (ds := ws.map PyData.int) (d := .int u) hS (by walk_at "rep") (.int _) (by omega) (by omega) (by rw [List.length_map, sizeLine_eq]; omega) ?_
          clear hS
          intro H hS
          have em : (ws.map PyData.int).take ((j : Nat) : Int).toNat ++ [PyData.int u] ++ (ws.map PyData.int).drop ((j : Nat) : Int).toNat = (ws.take j ++ [u] ++ ws.drop j).map PyData.int := by
            rw [Int.toNat_natCast, List.map_append, List.map_append, List.map_take, List.map_drop]
            rfl
          rw [em] at hS
          walk_at "s"
          exact ⟨_, ⟨ws.take j ++ [u] ++ ws.drop j, rfl, by rw [List.length_append, List.length_append, List.length_take, List.length_drop, List.length_singleton]; omega, _, _, _, rfl⟩, Sub.ok (by walk_at "sub") hS⟩
        · rw [if_neg (by rw [decide_eq_false e2]; exact Bool.false_ne_true)]
          walk_at "s"
          by_cases e3 : wy = 1
          · rw [if_pos (decide_eq_true e3)]
            walk_at "s"
            refine k_popAtD (ds := ws.map PyData.int) (d := .int u0) hS (by walk_at "rep") (by rw [List.getElem?_map, hu0]; rfl) (by omega) ?_
            clear hS
            intro w0 H hS
            have em : (ws.map PyData.int).eraseIdx j = (ws.eraseIdx j).map PyData.int := (erase_map PyData.int ws j).symm
            rw [em] at hS
            walk_at "s"
            exact ⟨_, ⟨ws.eraseIdx j, rfl, by rw [List.length_eraseIdx]; split <;> omega, _, _, _, rfl⟩, Sub.ok (by walk_at "sub") hS⟩
          · rw [if_neg (by rw [decide_eq_false e3]; exact Bool.false_ne_true)]
            walk_at "s"
            refine ⟨d, _, rfl, hS, by walk_at "mem", ?_⟩
            clear hS
            intro n H hS
            walk_at "s"
            walk_at "ofI"
            intro u H _ hS
            walk_at "s"
            refine k_setD (ds := ws.map PyData.int) (d := .int (u0 + u)) hS (by walk_at "rep") (.int _) (ixN_nat (by rw [List.length_map]; exact hj)) ?_
            clear hS
            intro H hS
            have em : (ws.map PyData.int).set j (.int (u0 + u)) = (ws.set j (u0 + u)).map PyData.int := by rw [List.map_set]
            rw [em] at hS
            walk_at "s"
            exact ⟨_, ⟨ws.set j (u0 + u), rfl, by rw [List.length_set]; omega, _, _, _, rfl⟩, Sub.ok (by walk_at "sub") hS⟩
    · obtain ⟨ws, rfl, hlw, c4, c5, c6, rfl⟩ := iv
      walk_at "s"
      exact q _ ws _ (by omega) (Sub.ok (by walk_at "sub") hS)
theorem ok__law_values_word {P : Program} {w : World} {K : PySem.W.Frag} {mg : Str → Option Value} {base : Heap} (E : Env K mg w) : FnOk P w K mg base CX0 2 E.a__law_values_word E.fd__law_values_word ["_law_fields_here", "_law_values_here"] (spWord3 K) := by
  refine E.F__law_values_word.ok sc__law_values_word (fun vs H Q E h => ?_) (fun cdv A outer s H vs Q E' hr h => ?_)
  · walk_at "hl"
  · have hu := huOf hr
    have hcl_Kind := E.cl_Kind
    obtain ⟨f, v, fs, us, L, rfl, hS, hf, hv, h4, hl, q⟩ := h
    refine ⟨_, PSs.nox (pss_cons (ps_set (i := 2) sc__law_values_word.nd rfl (Or.inl rfl) (pe_callB (call_minU K rfl rfl) (by rfl) E.n_min boot_min (pa_cons (pe_callB (call_lenU K rfl) (by rfl) E.n_len boot_len (pa_cons (pv 0) pa_nil)) (pa_cons (pe_callB (call_lenU K rfl) (by rfl) E.n_len boot_len (pa_cons (pv 1) pa_nil)) pa_nil))))
(pss_cons (ps_for PassesOwn.never rfl (pi_range1 rfl E.n_range (pa_cons (pv 2) pa_nil)) (pg_name (i := 3) sc__law_values_word.nd rfl (Or.inl rfl))
(pss_one (ps_if (pt_not (pt_chain op_le op_le (pe_ix (ix_U K rfl) (pe_ix (ix_U K rfl) (pv 0) (pv 3) (fun _ _ => rfl)) pe_int (fun _ _ => rfl)) (pe_ix (ix_U K rfl) (pv 1) (pv 3) (fun _ _ => rfl)) (pe_ix (ix_U K rfl) (pe_ix (ix_U K rfl) (pv 0) (pv 3) (fun _ _ => rfl)) pe_int (fun _ _ => rfl)))) (pss_one (ps_ret (pe_op (op_addU K rfl) pe_str (pe_callTy (call_str_int) (by rfl) E.n_str boot_str (pa_cons (pv 3) pa_nil))))) pss_nil)))
(pss_one (ps_ret (pe_join (pe_ifExp (pt_cmpR (op_eqU K rfl hu) (pe_callB (call_lenU K rfl) (by rfl) E.n_len boot_len (pa_cons (pv 0) pa_nil)) (pe_callB (call_lenU K rfl) (by rfl) E.n_len boot_len (pa_cons (pv 1) pa_nil)) (nomark _)) pe_str (pe_op (op_addU K rfl) pe_str (pe_callTy (call_str_int) (by rfl) E.n_str boot_str (pa_cons (pv 2) pa_nil))))))))), ?_⟩
    refine k_body (s1 := some _ :: some _ :: [none, none]) rfl ?_
    walk_at "s"
    have em : (if ((us.map PyData.int).length : Int) < ((fs.map fdD).length : Int) then ((us.map PyData.int).length : Int) else ((fs.map fdD).length : Int)) = ((min fs.length us.length : Nat) : Int) := by
      rw [List.length_map, List.length_map]
      split <;> omega
    rw [em]
    walk_at "s"
    refine for_wk (n := ((min fs.length us.length : Nat) : Int).toNat) (fun i σ L' => L' = L ∧ needV 0 fs us = needV i (fs.drop i) (us.drop i) ∧ ∃ c3, σ = [some (.ref f), some (.ref v), some (.int (min fs.length us.length : Nat)), c3]) (fun i σ L' _ => wk_rng) hS ⟨rfl, rfl, _, rfl⟩ (fun i σ L' hi iv H hS9 => ?_) (fun σ L' H iv hS9 => ?_)
    · obtain ⟨rfl, en, c3, rfl⟩ := iv
      clear hS
      have hS := hS9
      clear hS9
      rw [Int.toNat_natCast] at hi
      walk_at "ns"
      have hif : i < fs.length := by omega
      have hiu : i < us.length := by omega
      obtain ⟨z, hz⟩ : ∃ z, fs[i]? = some z := ⟨_, List.getElem?_eq_getElem hif⟩
      obtain ⟨u, hu'⟩ : ∃ u, us[i]? = some u := ⟨_, List.getElem?_eq_getElem hiu⟩
      have d1 : fs.drop i = z :: fs.drop (i + 1) := (List.drop_eq_getElem_cons hif).trans (by rw [(List.getElem?_eq_some_iff.mp hz).2])
      have d2 : us.drop i = u :: us.drop (i + 1) := (List.drop_eq_getElem_cons hiu).trans (by rw [(List.getElem?_eq_some_iff.mp hu').2])
      rw [d1, d2, needV] at en
      have hxf : atI (fs.map fdD) (0 + (i : Int)) = some (fdD z) := by
        rw [Int.zero_add]
        exact atI_nat (by rw [List.getElem?_map, hz]; rfl)
      have hxu : atI (us.map PyData.int) (0 + (i : Int)) = some (.int u) := by
        rw [Int.zero_add]
        exact atI_nat (by rw [List.getElem?_map, hu']; rfl)
      walk_at "s"
      try (refine k_ixS' hS (by walk_at "mem") hxf ?_; walk_at "gv"; walk_at "s")
      try (refine k_ixS' hS (by walk_at "mem") hxu ?_; walk_at "gv"; walk_at "s")
      by_cases b1 : z.2.1 ≤ u
      · rw [if_pos (decide_eq_true b1)]
        walk_at "s"
        try (refine k_ixS' hS (by walk_at "mem") hxf ?_; walk_at "gv"; walk_at "s")
        by_cases b2 : u ≤ z.2.2
        · rw [if_pos ⟨b1, b2⟩] at en
          rw [if_neg (by rw [decide_eq_true b2]; exact Bool.false_ne_true)]
          walk_at "s"
          exact ⟨_, ⟨rfl, en, _, rfl⟩, Sub.ok (by walk_at "sub") hS⟩
        · rw [if_neg (fun z => b2 z.2)] at en
          rw [if_pos (by rw [decide_eq_false b2]; rfl)]
          walk_at "s"
          refine ⟨_, rfl, log_lt (by omega), ?_⟩
          refine k_addS (bv_len3 (by omega)) ?_
          walk_at "s"
          show Q (.str (("badvalue " : Str) ++ (toString (0 + (i : Int)) : String))) _
          have ew : wordV fs us = ("badvalue " : Str) ++ (toString (0 + (i : Int)) : String) := by
            unfold wordV
            rw [en, Int.zero_add]
          rw [← ew]
          exact q _ (Sub.ok (by walk_at "sub") hS)
      · rw [if_neg (fun z => b1 z.1)] at en
        rw [if_neg (by rw [decide_eq_false b1]; exact Bool.false_ne_true)]
        walk_at "s"
        refine ⟨_, rfl, log_lt (by omega), ?_⟩
        refine k_addS (bv_len3 (by omega)) ?_
        walk_at "s"
        show Q (.str (("badvalue " : Str) ++ (toString (0 + (i : Int)) : String))) _
        have ew : wordV fs us = ("badvalue " : Str) ++ (toString (0 + (i : Int)) : String) := by
          unfold wordV
          rw [en, Int.zero_add]
        rw [← ew]
        exact q _ (Sub.ok (by walk_at "sub") hS)
    · obtain ⟨rfl, en, c3, rfl⟩ := iv
      clear hS
      have hS := hS9
      clear hS9
      rw [Int.toNat_natCast] at en
      refine k_joinS (fun v M => v = V.str (wordV fs us) ∧ M = L') ?_ ?_
      · walk_at "s"
        rw [List.length_map, List.length_map]
        by_cases e : fs.length = us.length
        · rw [if_pos (decide_eq_true (by rw [e]))]
          walk_at "s"
          rw [List.drop_of_length_le (by omega), List.drop_of_length_le (by omega)] at en
          refine ⟨_, ⟨?_, rfl⟩, hS⟩
          unfold wordV
          rw [en]
          rfl
        · rw [if_neg (by rw [decide_eq_false (by omega)]; exact Bool.false_ne_true)]
          have en2 := needV_end (n := min fs.length us.length) (fs := fs.drop (min fs.length us.length)) (us := us.drop (min fs.length us.length)) (by rw [List.length_drop, List.length_drop]; omega) (by
            rcases Nat.le_total fs.length us.length with h | h
            · exact .inl (List.drop_of_length_le (by omega))
            · exact .inr (List.drop_of_length_le (by omega)))
          rw [en2] at en
          walk_at "s"
          refine ⟨_, rfl, log_lt (by omega), ?_⟩
          refine k_addS (bv_len3 (by omega)) ?_
          walk_at "s"
          refine ⟨_, ⟨?_, rfl⟩, hS⟩
          unfold wordV
          rw [en]
      · clear hS
        rintro v M H ⟨rfl, rfl⟩ hS
        exact q _ hS
end Lw
namespace Ls
open PySem PySem.Spec PyProof.Rows L2 LamX TL
def spKeptWay (K : PySem.W.Frag) : Sp := fun vs H Q _ => ∃ (a pr : Addr) (s : Jp) (R : List RowW) (L : List (As K)), vs = [.ref a] ∧ Ls.Sep L H ∧ tu a [jV s, .ref pr] ∈ L ∧ Ls.ld pr (R.map rwD) ∈ L ∧ ∀ pw pq H', Ls.Sep (tu pw [jV s, .ref pq] :: Ls.ld pq (R.map rwD) :: L) H' → Q (.ref pw) H'
def spSomeWay (K : PySem.W.Frag) : Sp := fun vs H Q _ => ∃ (d f : Addr) (z : Str) (fs : List Fd) (L : List (As K)), vs = [.ref d, .str z, .ref f] ∧ Ls.Sep L H ∧ dr d ∈ L ∧ im (.ref f) (fdsD fs) ∈ L ∧ IsNm z ∧ GoodFs fs ∧ ∀ (t : Tst) pw pr H', t.ok → t.deep ≤ 5 → t.parts ≤ 15 → Ls.Sep (tu pw [jV (mkW t).1, .ref pr] :: Ls.ld pr ((mkW t).2.map rwD) :: L) H' → Q (.ref pw) H'
def spLWalked (K : PySem.W.Frag) : Sp := fun vs H Q _ => ∃ (a pr f v : Addr) (s : Jp) (R : List RowW) (k : Kd) (us : List Int) (b : Bool) (c : Nat) (L : List (As K)), vs = [.ref a, .str k.1, .ref f, .ref v] ∧ Ls.Sep L H ∧ tu a [jV s, .ref pr] ∈ L ∧ Ls.ld pr (R.map rwD) ∈ L ∧ im (.ref f) (fdsD k.2) ∈ L ∧ im (.ref v) (.tuple (us.map PyData.int)) ∈ L ∧ k.2.length ≤ 4 ∧ us.length = k.2.length ∧ WayOk s R ∧ Gn k us R s b c ∧ c ≤ R.length ∧ R.length ≤ 1000 ∧ ∀ p H', Ls.Sep (im (.ref p) (.tuple [.bool b, .int c]) :: L) H' → Q (.ref p) H'
def RawRows (c m : Nat) (R : List RowW) : Prop := ∀ r ∈ R, ∃ xs, r.1 = .tuple xs ∧ RawC c m (.tuple xs)
def spBentWay (K : PySem.W.Frag) : Sp := fun vs H Q _ => ∃ (d a pr : Addr) (s : Jp) (R : List RowW) (c m : Nat) (L : List (As K)), vs = [.ref d, .ref a] ∧ Ls.Sep L H ∧ dr d ∈ L ∧ tu a [jV s, .ref pr] ∈ L ∧ Ls.ld pr (R.map rwD) ∈ L ∧ R.length ≤ 60 ∧ RawRows c m R ∧ 3 ≤ c ∧ c ≤ 20 ∧ 1 ≤ m ∧ m ≤ 5 ∧ ∀ (s' : Jp) (R' : List RowW) pw pq H', R'.length ≤ R.length + 1 → RawRows (c + 1) (m + 2) R' → Ls.Sep (tu pw [jV s', .ref pq] :: Ls.ld pq (R'.map rwD) :: L) H' → Q (.ref pw) H'
theorem RawRows.mono {c m c' m' : Nat} {R : List RowW} (h : RawRows c m R) (h1 : c ≤ c') (h2 : m ≤ m') : RawRows c' m' R := fun r hr => by
  obtain ⟨xs, e, k⟩ := h r hr
  exact ⟨xs, e, k.mono h1 h2⟩
theorem RawRows.app {c m : Nat} {R S : List RowW} (h : RawRows c m R) (k : RawRows c m S) : RawRows c m (R ++ S) := fun r hr => (List.mem_append.mp hr).elim (h r) (k r)
theorem RawRows.set {c m i : Nat} {R : List RowW} {x : RowW} (h : RawRows c m R) (k : ∃ xs, x.1 = .tuple xs ∧ RawC c m (.tuple xs)) : RawRows c m (R.set i x) := fun r hr => by
  rcases List.mem_or_eq_of_mem_set hr with z | z
  · exact h r z
  · rw [z]
    exact k
theorem RawRows.one {c m : Nat} {x : RowW} (k : ∃ xs, x.1 = .tuple xs ∧ RawC c m (.tuple xs)) : RawRows c m [x] := fun r hr => by
  rw [List.mem_singleton.mp hr]
  exact k
theorem leafD_rawC {d : PyData} (h : LeafD d) : ∃ xs, d = .tuple xs ∧ RawC 3 1 (.tuple xs) := by
  obtain ⟨t, rfl, ho, hd, _⟩ := h
  obtain ⟨xs, e⟩ := t.D_tup
  exact ⟨xs, e, by rw [← e]; exact ok_rawC ho (by omega)⟩
theorem WayOk.rawR {s : Jp} {R : List RowW} (h : WayOk s R) : RawRows 3 1 R := fun r hr => by
  obtain ⟨i, hi⟩ := List.getElem?_of_mem hr
  exact leafD_rawC (h.leaf hi)
theorem RawRows.raw {c m : Nat} {R : List RowW} (h : RawRows c m R) (hc : c ≤ 100) : ∀ r ∈ R, RawL m r.1 := fun r hr => by
  obtain ⟨xs, e, k⟩ := h r hr
  exact ⟨xs, e, k.mono hc (Nat.le_refl _)⟩
def isJ : PyData → Bool
  | .bool _ => true
  | .int _ => true
  | _ => false
theorem isJ_jD {d : PyData} (h : isJ d = true) : ∃ j, d = jD j := by
  cases d with
  | bool b => exact ⟨.en b, rfl⟩
  | int n => exact ⟨.go n, rfl⟩
  | _ => cases h
theorem use_ofJ {K : PySem.W.Frag} {L : List (As K)} {H : Hp} {d l : Addr} {ds : List PyData} {Q : VK} {E : XK} (h : Ls.Sep L H) (m : dr d ∈ L) (m2 : Ls.ld l ds ∈ L) (h1 : 0 < ds.length) (h2 : ds.length < 100) (hj : ds.all isJ = true) (q : ∀ (j : Jp) H', Ls.Sep L H' → Q (jV j) H') : spOf K ([.ref d, .ref l] ++ []) H Q E :=
  use_ofD h m m2 h1 (Nat.lt_of_lt_of_le h2 (by decide)) fun e x H' he hS => by
    obtain ⟨j, rfl⟩ := isJ_jD (List.all_eq_true.mp hj e he)
    obtain ⟨hi, hS2⟩ := Sep.im_iff.mp hS
    clear hS
    obtain rfl := im_jV hi
    exact q j H' hS2
theorem at_lastN {α : Type} (xs : List α) (x : α) : atI (xs ++ [x]) (-1) = some x := by
  unfold atI
  have e : ixN (xs ++ [x]).length (-1) = some xs.length := by
    rw [List.length_append, List.length_singleton]
    unfold ixN
    simp
    omega
  rw [e]
  simp
theorem k_alt {b : Bool} {P X Z : Prop} (hx : P → X) (hz : b = false → (P → X) → Z) (hb : b = true → P) : if b = true then X else Z := by
  cases b with
  | true => exact hx (hb rfl)
  | false => exact hz rfl hx
end Ls
namespace Lw
open PySem PySem.Spec PyProof.Rows L2 Ls LamX TL
theorem ok__law_kept_way {P : Program} {w : World} {K : PySem.W.Frag} {mg : Str → Option Value} {base : Heap} (E : Env K mg w) : FnOk P w K mg base CX0 3 E.a__law_kept_way E.fd__law_kept_way ["_law_way"] (spKeptWay K) := by
  refine E.F__law_kept_way.ok sc__law_kept_way (fun vs H Q E h => ?_) (fun cdv A outer s H vs Q E' hr h => ?_)
  · walk_at "hl"
  · have hu := huOf hr
    have hcl_Kind := E.cl_Kind
    obtain ⟨a, pr, s, R, L, rfl, hS, ht, hl, q⟩ := h
    refine ⟨_, PSs.nox (pss_one (ps_ret (pe_tup (pa_cons (pe_ix (ix_U K rfl) (pv 0) pe_int (fun _ _ => rfl)) (pa_cons (pe_callTy (call_listU K rfl) (by rfl) E.n_list boot_list (pa_cons (pe_ix (ix_U K rfl) (pv 0) pe_int (fun _ _ => rfl)) pa_nil)) pa_nil))))), ?_⟩
    refine k_body (s1 := some _ :: []) rfl ?_
    have h0 : atI [jV s, V.ref pr] 0 = some (jV s) := at00 _ _
    have h1 : atI [jV s, V.ref pr] 1 = some (.ref pr) := at01 _ _ _
    walk_at "s"
    exact q _ _ _ (Sub.ok (by walk_at "sub") hS)
theorem ok__law_some_way {P : Program} {w : World} {K : PySem.W.Frag} {mg : Str → Option Value} {base : Heap} (E : Env K mg w) : FnOk P w K mg base CX0 14 E.a__law_some_way E.fd__law_some_way ["_law_d", "_law_title", "_law_fields_here"] (spSomeWay K) := by
  refine E.F__law_some_way.ok sc__law_some_way (fun vs H Q E h => ?_) (fun cdv A outer s H vs Q E' hr h => ?_)
  · walk_at "hl"
  · have hu := huOf hr
    have G__law_names_of := ok__law_names_of (P := P) (w := w) (base := base) E
    have hr__law_names_of := hr.mono (show 4 ≤ 13 by decide)
    have b__law_names_of := b__law_names_of E
    have G__law_test := ok__law_test (P := P) (w := w) (base := base) E
    have hr__law_test := hr.mono (show 13 ≤ 13 by decide)
    have b__law_test := b__law_test E
    have G_made := ok_made (P := P) (w := w) (base := base) E
    have hr_made := hr.mono (show 12 ≤ 13 by decide)
    have b_made := b_made E
    have hcl_Kind := E.cl_Kind
    obtain ⟨d, f, z, fs, L, rfl, hS, hd, hf, hz, gfs, q⟩ := h
    refine ⟨_, PSs.nox (pss_cons (ps_set (i := 3) sc__law_some_way.nd rfl (Or.inl rfl) (pe_call G__law_names_of hr__law_names_of rfl E.g__law_names_of E.F__law_names_of.kp b__law_names_of .nil pass0 (pa_cons (pv 0) (pa_cons (pv 2) pa_nil))))
(pss_cons (ps_set (i := 4) sc__law_some_way.nd rfl (Or.inl rfl) (pe_call G__law_test hr__law_test rfl E.g__law_test E.F__law_test.kp b__law_test .nil pass0 (pa_cons (pv 0) (pa_cons (pv 3) (pa_cons (pe_lst (pa_cons (pv 1) (pa_cons (pe_ix (ix_U K rfl) (pv 3) (pe_un un_neg pe_int) (fun _ _ => rfl)) pa_nil))) pa_nil)))))
(pss_one (ps_ret (pe_call G_made hr_made rfl E.g_made E.F_made.kp b_made .nil pass0 (pa_cons (pv 4) pa_nil)))))), ?_⟩
    refine k_body (s1 := some _ :: some _ :: some _ :: [none, none]) rfl ?_
    walk_at "s"
    refine ⟨d, f, fs, _, rfl, hS, by walk_at "mem", by walk_at "mem", gfs, fun pn zs H hz0 hz1 hzn hS => ?_⟩
    obtain ⟨A, z2, rfl⟩ : ∃ A z2, zs = A ++ [z2] := by
      rcases List.eq_nil_or_concat zs with rfl | ⟨A, z2, rfl⟩
      · simp at hz0
      · exact ⟨A, z2, by simp⟩
    have hat : atI ((A ++ [z2]).map PyData.str) (-1) = some (.str z2) := by rw [List.map_append]; exact at_lastN _ _
    have hz2 : IsNm z2 := hzn z2 (List.mem_append_right _ List.mem_cons_self)
    walk_at "s"
    obtain ⟨pk, epk⟩ : ∃ pk : Addr, pk = p := ⟨_, rfl⟩
    rw [← epk] at hS ⊢
    clear epk
    have hQn : ∀ y ∈ [z, z2], IsNm y := fun y hy => by
      simp only [List.mem_cons, List.not_mem_nil, or_false] at hy
      rcases hy with rfl | rfl
      · exact hz
      · exact hz2
    replace hS : Ls.Sep (Ls.ld pk ([z, z2].map PyData.str) :: Ls.ld pn ((A ++ [z2]).map PyData.str) :: L) H' := hS
    refine ⟨d, pn, pk, _, rfl, hS, by walk_at "mem", ⟨_, by walk_at "mem", hz0, by omega, hzn⟩, ⟨[z, z2], List.mem_cons_self, by show 0 < 2; decide, by show 2 ≤ 1000; decide, hQn⟩, fun p1 t H hto htd htp hS => ?_⟩
    walk_at "s"
    refine ⟨p1, t, _, rfl, hS, by walk_at "mem", hto, htd, htp, fun pw pr H hS => ?_⟩
    walk_at "s"
    exact q t pw pr _ hto htd htp (Sub.ok (by walk_at "sub") hS)
theorem ok__law_walked {P : Program} {w : World} {K : PySem.W.Frag} {mg : Str → Option Value} {base : Heap} (E : Env K mg w) : FnOk P w K mg base CX0 10 E.a__law_walked E.fd__law_walked ["_law_way", "_law_title", "_law_fields_here", "_law_values_here"] (spLWalked K) := by
  refine E.F__law_walked.ok sc__law_walked (fun vs H Q E h => ?_) (fun cdv A outer s H vs Q E' hr h => ?_)
  · walk_at "hl"
  · have hu := huOf hr
    have G__law_ended := ok__law_ended (P := P) (w := w) (base := base) E
    have hr__law_ended := hr.mono (show 1 ≤ 9 by decide)
    have b__law_ended := b__law_ended E
    have G__law_passes := ok__law_passes (P := P) (w := w) (base := base) E 8
    have hr__law_passes := hr.mono (show 9 ≤ 9 by decide)
    have b__law_passes := b__law_passes E
    have hcl_Kind := E.cl_Kind
    obtain ⟨a, pr, f, va, s, R, k, us, b, c, L, rfl, hS, ht, hl, hf, hv, h4, hul, hw, hg, hcR, hR, q⟩ := h
    refine ⟨_, PSs.nox (pss_cons (ps_asg (pv 0) (kGTup (n := 2) K rfl (pg_tup rfl (pgs_cons (pg_name (i := 4) sc__law_walked.nd rfl (Or.inl rfl)) (pgs_cons (pg_name (i := 5) sc__law_walked.nd rfl (Or.inl rfl)) pgs_nil)))))
(pss_cons (ps_set (i := 6) sc__law_walked.nd rfl (Or.inl rfl) pe_int)
(pss_cons (ps_for PassesOwn.never rfl (pi_range1 rfl E.n_range (pa_cons (pe_op (op_addU K rfl) (pe_callB (call_lenU K rfl) (by rfl) E.n_len boot_len (pa_cons (pv 5) pa_nil)) pe_int) pa_nil)) (pg_name (i := 7) sc__law_walked.nd rfl (Or.inl rfl))
(pss_one (ps_if (pt_not (pt_val (pe_call G__law_ended hr__law_ended rfl E.g__law_ended E.F__law_ended.kp b__law_ended .nil pass0 (pa_cons (pv 4) pa_nil)))) (pss_cons (ps_asg (pe_ix (ix_U K rfl) (pv 5) (pv 4) (fun _ _ => rfl)) (kGTup (n := 3) K rfl (pg_tup rfl (pgs_cons (pg_name (i := 8) sc__law_walked.nd rfl (Or.inl rfl)) (pgs_cons (pg_name (i := 9) sc__law_walked.nd rfl (Or.inl rfl)) (pgs_cons (pg_name (i := 10) sc__law_walked.nd rfl (Or.inl rfl)) pgs_nil))))))
(pss_cons (ps_set (i := 4) sc__law_walked.nd rfl (Or.inl rfl) (pe_join (pe_ifExp (pt_val (pe_call G__law_passes hr__law_passes rfl E.g__law_passes E.F__law_passes.kp b__law_passes .nil pass0 (pa_cons (pv 8) (pa_cons (pv 1) (pa_cons (pv 2) (pa_cons (pv 3) pa_nil)))))) (pv 9) (pv 10))))
(pss_one (ps_set (i := 6) sc__law_walked.nd rfl (Or.inl rfl) (pe_op (op_addU K rfl) (pv 6) pe_int))))) pss_nil)))
(pss_one (ps_ret (pe_tup (pa_cons (pv 4) (pa_cons (pv 6) pa_nil)))))))), ?_⟩
    refine k_body (s1 := some _ :: some _ :: some _ :: some _ :: [none, none, none, none, none, none, none]) rfl ?_
    walk_at "s"
    rw [List.length_map]
    have en : (((R.length : Nat) : Int) + 1).toNat = R.length + 1 := by omega
    refine ⟨_, rfl, by omega, by omega, ?_⟩
    rw [en]
    refine for_wk (L := L) (n := R.length + 1) (fun i σ L' => L' = L ∧ ∃ (j : Jp) (n m : Nat) (e7 e8 e9 e10 : Option V), Gn k us R j b m ∧ n = min i c ∧ n + m = c ∧ σ = [some (.ref a), some (.str k.1), some (.ref f), some (.ref va), some (jV j), some (.ref pr), some (.int (n : Int)), e7, e8, e9, e10]) (fun i σ L' _ => wk_rng) hS ⟨rfl, s, 0, c, _, _, _, _, hg, (Nat.zero_min _).symm, Nat.zero_add c, rfl⟩ (fun i σ L' hi iv H hS9 => ?_) (fun σ L' H iv hS => ?_)
    · obtain ⟨eL, j, n, m, e7, e8, e9, e10, hg, hn, hnm, rfl⟩ := iv
      replace eL := eL.symm
      subst eL
      clear hS
      have hS := hS9
      clear hS9
      walk_at "ns"
      walk_at "s"
      refine ⟨j, rfl, ?_⟩
      cases hg with
      | en =>
        rw [show enB (.en b) = true from rfl]
        walk_at "s"
        exact ⟨_, ⟨rfl, .en b, n, 0, _, _, _, _, .en b, by omega, hnm, rfl⟩, Sub.ok (by walk_at "sub") hS⟩
      | @go j2 r _ m h0 hr hg =>
        obtain ⟨j2, rfl⟩ := Int.eq_ofNat_of_zero_le h0
        rw [Int.toNat_natCast] at hr
        rw [show enB (.go (j2 : Int)) = false from rfl, jV_go]
        have hat : atI (R.map rwD) (j2 : Int) = some (rwD r) := at_natW (by rw [List.getElem?_map, hr]; rfl)
        walk_at "s"
        obtain ⟨t, et, hto, htd, hta⟩ := hw.leaf hr
        rw [← et] at hS
        obtain ⟨pl, rfl⟩ := im_isD hS List.mem_cons_self
        have ep : passD k us r.1 = t.pass k us := by rw [← et]; exact passD_D hto (by omega)
        rw [ep] at hg
        refine k_join (fun u H => u = jV (if t.pass k us = true then r.2.1 else r.2.2) ∧ Ls.Sep (K := K) L H) ?_ ?_
        · walk_at "s"
          refine ⟨pl, f, va, t, k, us, _, rfl, by show t.deep ≤ 8; omega, hS, by walk_at "mem", by walk_at "mem", by walk_at "mem", h4, hul, fun H hS => ?_⟩
          refine ⟨_, rfl, ?_⟩
          cases e : t.pass k us with
          | true =>
            walk_at "s"
            exact ⟨rfl, Sub.ok (by walk_at "sub") hS⟩
          | false =>
            walk_at "s"
            exact ⟨rfl, Sub.ok (by walk_at "sub") hS⟩
        clear hS
        rintro u H ⟨rfl, hS⟩
        walk_at "s"
        exact ⟨_, ⟨rfl, _, n + 1, m, _, _, _, _, hg, by omega, by omega, rfl⟩, Sub.ok (by walk_at "sub") hS⟩
    · obtain ⟨eL, j, n, m, e7, e8, e9, e10, hg, hn, hnm, rfl⟩ := iv
      replace eL := eL.symm
      subst eL
      have : m = 0 := by omega
      subst this
      cases hg
      walk_at "s"
      have en : n = c := by omega
      subst en
      exact q p _ (show Ls.Sep (im (.ref p) (.tuple [.bool b, .int n]) :: L) _ from hS)
theorem ok__law_bent_way {P : Program} {w : World} {K : PySem.W.Frag} {mg : Str → Option Value} {base : Heap} (E : Env K mg w) : FnOk P w K mg base CX0 14 E.a__law_bent_way E.fd__law_bent_way ["_law_d", "_law_way"] (spBentWay K) := by
  refine E.F__law_bent_way.ok sc__law_bent_way (fun vs H Q E h => ?_) (fun cdv A outer s H vs Q E' hr h => ?_)
  · walk_at "hl"
  · have hu := huOf hr
    have G__law_pick := ok__law_pick (P := P) (w := w) (base := base) E
    have hr__law_pick := hr.mono (show 1 ≤ 13 by decide)
    have b__law_pick := b__law_pick E
    have G__law_of := ok__law_of E (ok__law_pick (P := P) (w := w) (base := base) E)
    have hr__law_of := hr.mono (show 2 ≤ 13 by decide)
    have b__law_of := b__law_of E
    have G__law_far := ok__law_far (P := P) (w := w) (base := base) E
    have hr__law_far := hr.mono (show 2 ≤ 13 by decide)
    have b__law_far := b__law_far E
    have G__law_bent_test := ok__law_bent_test (P := P) (w := w) (base := base) E 8
    have hr__law_bent_test := hr.mono (show 13 ≤ 13 by decide)
    have b__law_bent_test := b__law_bent_test E
    have hcl_Kind := E.cl_Kind
    obtain ⟨d, a, pr, s, R, c, m, L, rfl, hS, hd, ht, hl, hR, hrw, hc3, hc, hm1, hm, q⟩ := h
    refine ⟨_, PSs.nox (pss_cons (ps_asg (pv 1) (kGTup (n := 2) K rfl (pg_tup rfl (pgs_cons (pg_name (i := 2) sc__law_bent_way.nd rfl (Or.inl rfl)) (pgs_cons (pg_name (i := 3) sc__law_bent_way.nd rfl (Or.inl rfl)) pgs_nil)))))
(pss_cons (ps_set (i := 3) sc__law_bent_way.nd rfl (Or.inl rfl) (pe_callTy (call_listU K rfl) (by rfl) E.n_list boot_list (pa_cons (pv 3) pa_nil)))
(pss_cons (ps_set (i := 1) sc__law_bent_way.nd rfl (Or.inl rfl) (pe_call G__law_pick hr__law_pick rfl E.g__law_pick E.F__law_pick.kp b__law_pick .nil pass0 (pa_cons (pv 0) (pa_cons pe_int pa_nil))))
(pss_cons (ps_if (PW.pt (pw_or (pt_cmpR (op_eqZ K rfl hu) (pv 3) (pe_lst pa_nil) (nomark _)) (pw_or1 (pt_cmpR (op_eqU K rfl hu) (pv 1) pe_int (nomark _))))) (pss_cons (ps_expr (kBM K rfl (pe_bm PySem.F.plainAttrs_list PySem.F.slot_list_append PySem.F.type_list_append mt_append (pv 3) (pa_cons (pe_tup (pa_cons (pe_call G__law_of hr__law_of rfl E.g__law_of E.F__law_of.kp b__law_of .nil pass0 (pa_cons (pv 0) (pa_cons (pe_lst (pa_cons (pe_tup (pa_cons pe_str pa_nil)) (pa_cons (pe_tup (pa_cons pe_str (pa_cons pe_str pa_nil))) (pa_cons (pe_tup (pa_cons pe_str (pa_cons pe_str (pa_cons pe_int pa_nil)))) pa_nil)))) pa_nil))) (pa_cons pe_bl (pa_cons (pe_call G__law_of hr__law_of rfl E.g__law_of E.F__law_of.kp b__law_of .nil pass0 (pa_cons (pv 0) (pa_cons (pe_lst (pa_cons pe_bl (pa_cons pe_bl pa_nil))) pa_nil))) pa_nil)))) pa_nil))))
(pss_one (ps_ret (pe_tup (pa_cons (pe_call G__law_of hr__law_of rfl E.g__law_of E.F__law_of.kp b__law_of .nil pass0 (pa_cons (pv 0) (pa_cons (pe_lst (pa_cons (pv 2) (pa_cons pe_int (pa_cons pe_bl pa_nil)))) pa_nil))) (pa_cons (pv 3) pa_nil)))))) pss_nil)
(pss_cons (ps_set (i := 4) sc__law_bent_way.nd rfl (Or.inl rfl) (pe_call G__law_pick hr__law_pick rfl E.g__law_pick E.F__law_pick.kp b__law_pick .nil pass0 (pa_cons (pv 0) (pa_cons (pe_callB (call_lenU K rfl) (by rfl) E.n_len boot_len (pa_cons (pv 3) pa_nil)) pa_nil))))
(pss_cons (ps_asg (pe_ix (ix_U K rfl) (pv 3) (pv 4) (fun _ _ => rfl)) (kGTup (n := 3) K rfl (pg_tup rfl (pgs_cons (pg_name (i := 5) sc__law_bent_way.nd rfl (Or.inl rfl)) (pgs_cons (pg_name (i := 6) sc__law_bent_way.nd rfl (Or.inl rfl)) (pgs_cons (pg_name (i := 7) sc__law_bent_way.nd rfl (Or.inl rfl)) pgs_nil))))))
(pss_cons (ps_set (i := 8) sc__law_bent_way.nd rfl (Or.inl rfl) (pe_call G__law_of hr__law_of rfl E.g__law_of E.F__law_of.kp b__law_of .nil pass0 (pa_cons (pv 0) (pa_cons (pe_lst (pa_cons pe_bl (pa_cons pe_bl (pa_cons (pv 4) (pa_cons (pe_op (op_addU K rfl) (pv 4) pe_int) (pa_cons (pe_callB (call_lenU K rfl) (by rfl) E.n_len boot_len (pa_cons (pv 3) pa_nil)) (pa_cons (pe_op op_sub (pe_callB (call_lenU K rfl) (by rfl) E.n_len boot_len (pa_cons (pv 3) pa_nil)) pe_int) (pa_cons (pe_un un_neg pe_int) (pa_cons (pe_call G__law_far hr__law_far rfl E.g__law_far E.F__law_far.kp b__law_far .nil pass0 (pa_cons (pv 0) pa_nil)) pa_nil))))))))) pa_nil))))
(pss_cut (ps_if (pt_cmpR (op_eqU K rfl hu) (pv 1) pe_int (nomark _)) (pss_one (ps_asg (pe_tup (pa_cons (pv 5) (pa_cons (pv 8) (pa_cons (pv 7) pa_nil)))) (pg_sub (pv 3) (pv 4) set_list))) pss_nil)
(pss_cut (ps_if (pt_cmpR (op_eqU K rfl hu) (pv 1) pe_int (nomark _)) (pss_one (ps_asg (pe_tup (pa_cons (pv 5) (pa_cons (pv 6) (pa_cons (pv 8) pa_nil)))) (pg_sub (pv 3) (pv 4) set_list))) pss_nil)
(pss_cut (ps_if (pt_cmpR (op_eqU K rfl hu) (pv 1) pe_int (nomark _)) (pss_one (ps_asg (pe_tup (pa_cons (pe_call G__law_bent_test hr__law_bent_test rfl E.g__law_bent_test E.F__law_bent_test.kp b__law_bent_test .nil pass0 (pa_cons (pv 0) (pa_cons (pv 5) pa_nil))) (pa_cons (pv 6) (pa_cons (pv 7) pa_nil)))) (pg_sub (pv 3) (pv 4) set_list))) pss_nil)
(pss_cut (ps_if (pt_cmpR (op_eqU K rfl hu) (pv 1) pe_int (nomark _)) (pss_one (ps_set (i := 2) sc__law_bent_way.nd rfl (Or.inl rfl) (pe_call G__law_of hr__law_of rfl E.g__law_of E.F__law_of.kp b__law_of .nil pass0 (pa_cons (pv 0) (pa_cons (pe_lst (pa_cons pe_bl (pa_cons pe_bl (pa_cons pe_int (pa_cons (pe_un un_neg pe_int) (pa_cons pe_int pa_nil)))))) pa_nil))))) pss_nil)
(pss_cut (ps_if (pt_cmpR (op_eqU K rfl hu) (pv 1) pe_int (nomark _)) (pss_one (ps_expr (kBM K rfl (pe_bm PySem.F.plainAttrs_list PySem.F.slot_list_pop PySem.F.type_list_pop mt_popAt (pv 3) (pa_cons (pv 4) pa_nil))))) pss_nil)
(pss_cut (ps_if (pt_cmpR (op_eqU K rfl hu) (pv 1) pe_int (nomark _)) (pss_one (ps_expr (kBM K rfl (pe_bm PySem.F.plainAttrs_list PySem.F.slot_list_insert PySem.F.type_list_insert mt_insU (pv 3) (pa_cons (pv 4) (pa_cons (pe_ix (ix_U K rfl) (pv 3) (pv 4) (fun _ _ => rfl)) pa_nil)))))) pss_nil)
(pss_cut (ps_if (pt_cmpR (op_eqU K rfl hu) (pv 1) pe_int (nomark _)) (pss_one (ps_asg (pe_tup (pa_cons (pv 5) (pa_cons (pv 7) (pa_cons (pv 6) pa_nil)))) (pg_sub (pv 3) (pv 4) set_list))) pss_nil)
(pss_cut (ps_if (pt_cmpR (op_eqU K rfl hu) (pv 1) pe_int (nomark _)) (pss_one (ps_asg (pe_tup (pa_cons (pv 5) (pa_cons (pv 6) (pa_cons (pv 6) pa_nil)))) (pg_sub (pv 3) (pv 4) set_list))) pss_nil)
(pss_one (ps_ret (pe_tup (pa_cons (pv 2) (pa_cons (pv 3) pa_nil)))))))))))))))))))), ?_⟩
    refine k_body (s1 := some _ :: some _ :: [none, none, none, none, none, none, none]) rfl ?_
    walk_at "s"
    rename Addr => pq
    walk_at "pk"
    intro w0 H hS w00 w01
    walk_at "s"
    have hM : RawRows (c + 1) (m + 2) R := hrw.mono (by omega) (by omega)
    have hnl : (R.map rwD).length = R.length := List.length_map _
    refine k_alt (P := R = [] ∨ w0 = 0) (fun _ => ?_) (fun hb hx => ?_) (fun hb => .inl (List.map_eq_nil_iff.mp (of_decide_eq_true hb)))
    · walk_at "s"
      refine use_ofD hS (by walk_at "mem") (by walk_at "mem") (by show 0 < 3; decide) (by show 3 < 2 ^ 100; decide) fun e v H he hS => ?_
      have hraw : ∃ xs, e = .tuple xs ∧ RawC (c + 1) (m + 2) (.tuple xs) := by
        have h3 : ∃ xs, e = .tuple xs ∧ RawC 3 1 (.tuple xs) := by
          have nmA : IsNm ("a" : Str) := by decide +kernel
          have nmB : IsNm ("b" : Str) := by decide +kernel
          simp only [List.mem_cons, List.not_mem_nil, or_false] at he
          rcases he with rfl | rfl | rfl
          · exact ⟨_, rfl, ok_rawC (t := .all) trivial (by decide)⟩
          · exact ⟨_, rfl, ok_rawC (t := .is "a") nmA (by decide)⟩
          · exact ⟨_, rfl, ok_rawC (t := .less "b" 4) ⟨nmB, by decide +kernel⟩ (by decide)⟩
        obtain ⟨xs, h1, h2⟩ := h3
        exact ⟨xs, h1, h2.mono (by omega) (by omega)⟩
      clear he
      walk_at "s"
      refine use_ofJ hS (by walk_at "mem") (by walk_at "mem") (by show 0 < 2; decide) (by show 2 < 100; decide) (by rfl) fun jn H hS => ?_
      walk_at "s"
      have eap : R.map rwD ++ [PyData.tuple [e, .bool true, jD jn]] = (R ++ [(e, Jp.en true, jn)]).map rwD := by rw [List.map_append]; rfl
      rw [eap] at hS
      walk_at "s"
      refine use_ofJ (ds := [jD s, .int 0, .bool true]) hS (by walk_at "mem") (by walk_at "mem") (by show 0 < 3; decide) (by show 3 < 100; decide) (by cases s <;> rfl) fun js H hS => ?_
      walk_at "s"
      exact q js (R ++ [(e, Jp.en true, jn)]) _ _ _ (by rw [List.length_append]; exact Nat.le_refl _) (hM.app (.one hraw)) (Sub.ok (by walk_at "sub") hS)
    walk_at "s"
    by_cases hw0 : w0 = 0
    · rw [if_pos (decide_eq_true hw0)]
      exact hx (.inr hw0)
    rw [if_neg (by rw [decide_eq_false hw0]; exact Bool.false_ne_true)]
    clear hx
    have hRne : R ≠ [] := fun e => by rw [e] at hb; cases hb
    have hRp := List.length_pos_iff.mpr hRne
    walk_at "s"
    walk_at "pk"
    intro at0 H hS at00' at01'
    rw [hnl] at at01'
    obtain ⟨n0, rfl⟩ := Int.eq_ofNat_of_zero_le at00'
    have hn0 : n0 < R.length := by omega
    obtain ⟨r, hr⟩ : ∃ r, R[n0]? = some r := ⟨_, List.getElem?_eq_getElem hn0⟩
    have hati : atI (R.map rwD) ((n0 : Nat) : Int) = some (rwD r) := at_natW (by rw [List.getElem?_map, hr]; rfl)
    obtain ⟨xs, exs, hxs⟩ := hrw r (List.mem_of_getElem? hr)
    have hix : ixN (R.map rwD).length ((n0 : Nat) : Int) = some n0 := by rw [hnl]; exact ixN_nat hn0
    have hleaf : ∃ xs, r.1 = .tuple xs ∧ RawC (c + 1) (m + 2) (.tuple xs) := hM r (List.mem_of_getElem? hr)
    walk_at "s"
    refine ⟨d, _, rfl, hS, by walk_at "mem", fun nf H hS => ?_⟩
    walk_at "s"
    refine use_ofJ hS (by walk_at "mem") (by walk_at "mem") (by show 0 < 8; decide) (by show 8 < 100; decide) (by rfl) fun j H hS => ?_
    replace hS : Ls.Sep (im v r.1 :: Ls.ld pq (R.map rwD) :: L) H := Sub.ok (by walk_at "sub") hS
    walk_at "s"
    have setE : ∀ x : RowW, (R.map rwD).set n0 (rwD x) = (R.set n0 x).map rwD := fun x => by rw [List.map_set]
    obtain ⟨M, hMd⟩ : ∃ M : Int → L2.St → Hp → Prop, ∀ k σ H, M k σ H ↔ ∃ (s' : Jp) (R' : List RowW), (k ≤ w0 → R' = R ∧ s' = s) ∧ R'.length ≤ R.length + 1 ∧ RawRows (c + 1) (m + 2) R' ∧ σ = [some (.ref d), some (.int w0), some (jV s'), some (.ref pq), some (.int (n0 : Nat)), some v, some (jV r.2.1), some (jV r.2.2), some (jV j)] ∧ Ls.Sep (K := K) (im v r.1 :: Ls.ld pq (R'.map rwD) :: L) H := ⟨_, fun _ _ _ => Iff.rfl⟩
    refine k_cut (M 2) ?_ ?_
    · walk_at "s"
      by_cases hk : w0 = 1
      · rw [if_pos (decide_eq_true hk)]
        walk_at "s"
        refine k_setLd (j := n0) (d := rwD (r.1, j, r.2.2)) hS (by walk_at "rep") (by show Dat _ _ (.tuple [r.1, jD j, jD r.2.2]); walk_at "dat") hix fun H hS => ?_
        rw [setE] at hS
        walk_at "s"
        exact (hMd _ _ _).mpr ⟨s, R.set n0 (r.1, j, r.2.2), fun h => by omega, by rw [List.length_set]; omega, hM.set hleaf, rfl, Sub.ok (by walk_at "sub") hS⟩
      · rw [if_neg (by rw [decide_eq_false hk]; exact Bool.false_ne_true)]
        walk_at "s"
        exact (hMd _ _ _).mpr ⟨s, R, fun _ => ⟨rfl, rfl⟩, by omega, hM, rfl, hS⟩
    clear hS
    rintro σ H hm9
    obtain ⟨s', R', hsame, hRl, hRr, rfl, hS⟩ := (hMd _ _ _).mp hm9
    clear hm9
    walk_at "s"
    refine k_cut (M 3) ?_ ?_
    · walk_at "s"
      by_cases hk : w0 = 2
      · rw [if_pos (decide_eq_true hk)]
        obtain ⟨eR, es⟩ := hsame (by omega)
        rw [eR] at hS
        rw [es]
        walk_at "s"
        refine k_setLd (j := n0) (d := rwD (r.1, r.2.1, j)) hS (by walk_at "rep") (by show Dat _ _ (.tuple [r.1, jD r.2.1, jD j]); walk_at "dat") hix fun H hS => ?_
        rw [setE] at hS
        walk_at "s"
        exact (hMd _ _ _).mpr ⟨s, R.set n0 (r.1, r.2.1, j), fun h => by omega, by rw [List.length_set]; omega, hM.set hleaf, rfl, Sub.ok (by walk_at "sub") hS⟩
      · rw [if_neg (by rw [decide_eq_false hk]; exact Bool.false_ne_true)]
        walk_at "s"
        exact (hMd _ _ _).mpr ⟨s', R', fun h => hsame (by omega), hRl, hRr, rfl, hS⟩
    clear hS hRl hRr hsame
    clear R' s'
    rintro σ H hm9
    obtain ⟨s', R', hsame, hRl, hRr, rfl, hS⟩ := (hMd _ _ _).mp hm9
    clear hm9
    walk_at "s"
    refine k_cut (M 4) ?_ ?_
    · walk_at "s"
      by_cases hk : w0 = 3
      · rw [if_pos (decide_eq_true hk)]
        obtain ⟨eR, es⟩ := hsame (by omega)
        rw [eR] at hS
        rw [es]
        obtain ⟨pl, rfl⟩ : ∃ pl, v = .ref pl := by
          rw [exs] at hS
          exact im_isRef hS List.mem_cons_self
        walk_at "s"
        refine ⟨d, .ref pl, r.1, c, m, _, rfl, by show m ≤ 7; omega, by omega, by omega, hc3, hS, by walk_at "mem", by walk_at "mem", by rw [exs]; exact hxs, fun u y H hy hty hS => ?_⟩
        obtain ⟨ys, rfl⟩ := hty ⟨xs, exs⟩
        walk_at "s"
        refine k_setLd (j := n0) (d := rwD (.tuple ys, r.2.1, r.2.2)) hS (by walk_at "rep") (by show Dat _ _ (.tuple [.tuple ys, jD r.2.1, jD r.2.2]); walk_at "dat") hix fun H hS => ?_
        rw [setE] at hS
        walk_at "s"
        exact (hMd _ _ _).mpr ⟨s, R.set n0 (.tuple ys, r.2.1, r.2.2), fun h => by omega, by rw [List.length_set]; omega, hM.set ⟨ys, rfl, hy⟩, rfl, Sub.ok (by walk_at "sub") hS⟩
      · rw [if_neg (by rw [decide_eq_false hk]; exact Bool.false_ne_true)]
        walk_at "s"
        exact (hMd _ _ _).mpr ⟨s', R', fun h => hsame (by omega), hRl, hRr, rfl, hS⟩
    clear hS hRl hRr hsame
    clear R' s'
    rintro σ H hm9
    obtain ⟨s', R', hsame, hRl, hRr, rfl, hS⟩ := (hMd _ _ _).mp hm9
    clear hm9
    walk_at "s"
    refine k_cut (M 5) ?_ ?_
    · walk_at "s"
      by_cases hk : w0 = 4
      · rw [if_pos (decide_eq_true hk)]
        obtain ⟨eR, es⟩ := hsame (by omega)
        rw [eR] at hS
        rw [es]
        walk_at "s"
        refine use_ofJ hS (by walk_at "mem") (by walk_at "mem") (by show 0 < 5; decide) (by show 5 < 100; decide) (by rfl) fun js H hS => ?_
        walk_at "s"
        exact (hMd _ _ _).mpr ⟨js, R, fun h => by omega, by omega, hM, rfl, Sub.ok (by walk_at "sub") hS⟩
      · rw [if_neg (by rw [decide_eq_false hk]; exact Bool.false_ne_true)]
        walk_at "s"
        exact (hMd _ _ _).mpr ⟨s', R', fun h => hsame (by omega), hRl, hRr, rfl, hS⟩
    clear hS hRl hRr hsame
    clear R' s'
    rintro σ H hm9
    obtain ⟨s', R', hsame, hRl, hRr, rfl, hS⟩ := (hMd _ _ _).mp hm9
    clear hm9
    walk_at "s"
    refine k_cut (M 6) ?_ ?_
    · walk_at "s"
      by_cases hk : w0 = 5
      · rw [if_pos (decide_eq_true hk)]
        obtain ⟨eR, es⟩ := hsame (by omega)
        rw [eR] at hS
        rw [es]
        walk_at "s"
        refine k_popAtD hS (j := n0) (by walk_at "rep") (by rw [List.getElem?_map, hr]; rfl) (by omega) fun v5 H hS => ?_
        rw [← erase_map] at hS
        walk_at "s"
        exact (hMd _ _ _).mpr ⟨s, R.eraseIdx n0, fun h => by omega, by have := List.length_eraseIdx_le R n0; omega, fun x hx => hM x (List.mem_of_mem_eraseIdx hx), rfl, Sub.ok (by walk_at "sub") hS⟩
      · rw [if_neg (by rw [decide_eq_false hk]; exact Bool.false_ne_true)]
        walk_at "s"
        exact (hMd _ _ _).mpr ⟨s', R', fun h => hsame (by omega), hRl, hRr, rfl, hS⟩
    clear hS hRl hRr hsame
    clear R' s'
    rintro σ H hm9
    obtain ⟨s', R', hsame, hRl, hRr, rfl, hS⟩ := (hMd _ _ _).mp hm9
    clear hm9
    walk_at "s"
    refine k_cut (M 7) ?_ ?_
    · walk_at "s"
      by_cases hk : w0 = 6
      · rw [if_pos (decide_eq_true hk)]
        obtain ⟨eR, es⟩ := hsame (by omega)
        rw [eR] at hS
        rw [es]
        walk_at "s"
        refine k_insD (d := rwD r) hS (by walk_at "rep") (by show Dat _ _ (.tuple [r.1, jD r.2.1, jD r.2.2]); walk_at "dat") (by omega) (by omega) (by rw [hnl, sizeLine_eq]; omega) fun H hS => ?_
        rw [show (R.map rwD).take ((n0 : Nat) : Int).toNat ++ [rwD r] ++ (R.map rwD).drop ((n0 : Nat) : Int).toNat = (R.take n0 ++ [r] ++ R.drop n0).map rwD by rw [Int.toNat_natCast, List.map_append, List.map_append, List.map_take, List.map_drop]; rfl] at hS
        walk_at "s"
        exact (hMd _ _ _).mpr ⟨s, R.take n0 ++ [r] ++ R.drop n0, fun h => by omega, by simp only [List.length_append, List.length_take, List.length_drop, List.length_singleton]; omega, ((RawRows.app (fun x hx => hM x (List.mem_of_mem_take hx)) (.one hleaf)).app fun x hx => hM x (List.mem_of_mem_drop hx)), rfl, Sub.ok (by walk_at "sub") hS⟩
      · rw [if_neg (by rw [decide_eq_false hk]; exact Bool.false_ne_true)]
        walk_at "s"
        exact (hMd _ _ _).mpr ⟨s', R', fun h => hsame (by omega), hRl, hRr, rfl, hS⟩
    clear hS hRl hRr hsame
    clear R' s'
    rintro σ H hm9
    obtain ⟨s', R', hsame, hRl, hRr, rfl, hS⟩ := (hMd _ _ _).mp hm9
    clear hm9
    walk_at "s"
    refine k_cut (M 8) ?_ ?_
    · walk_at "s"
      by_cases hk : w0 = 7
      · rw [if_pos (decide_eq_true hk)]
        obtain ⟨eR, es⟩ := hsame (by omega)
        rw [eR] at hS
        rw [es]
        walk_at "s"
        refine k_setLd (j := n0) (d := rwD (r.1, r.2.2, r.2.1)) hS (by walk_at "rep") (by show Dat _ _ (.tuple [r.1, jD r.2.2, jD r.2.1]); walk_at "dat") hix fun H hS => ?_
        rw [setE] at hS
        walk_at "s"
        exact (hMd _ _ _).mpr ⟨s, R.set n0 (r.1, r.2.2, r.2.1), fun h => by omega, by rw [List.length_set]; omega, hM.set hleaf, rfl, Sub.ok (by walk_at "sub") hS⟩
      · rw [if_neg (by rw [decide_eq_false hk]; exact Bool.false_ne_true)]
        walk_at "s"
        exact (hMd _ _ _).mpr ⟨s', R', fun h => hsame (by omega), hRl, hRr, rfl, hS⟩
    clear hS hRl hRr hsame
    clear R' s'
    rintro σ H hm9
    obtain ⟨s', R', hsame, hRl, hRr, rfl, hS⟩ := (hMd _ _ _).mp hm9
    clear hm9
    walk_at "s"
    refine k_cut (M 9) ?_ ?_
    · walk_at "s"
      by_cases hk : w0 = 8
      · rw [if_pos (decide_eq_true hk)]
        obtain ⟨eR, es⟩ := hsame (by omega)
        rw [eR] at hS
        rw [es]
        walk_at "s"
        refine k_setLd (j := n0) (d := rwD (r.1, r.2.1, r.2.1)) hS (by walk_at "rep") (by show Dat _ _ (.tuple [r.1, jD r.2.1, jD r.2.1]); walk_at "dat") hix fun H hS => ?_
        rw [setE] at hS
        walk_at "s"
        exact (hMd _ _ _).mpr ⟨s, R.set n0 (r.1, r.2.1, r.2.1), fun h => by omega, by rw [List.length_set]; omega, hM.set hleaf, rfl, Sub.ok (by walk_at "sub") hS⟩
      · rw [if_neg (by rw [decide_eq_false hk]; exact Bool.false_ne_true)]
        walk_at "s"
        exact (hMd _ _ _).mpr ⟨s', R', fun h => hsame (by omega), hRl, hRr, rfl, hS⟩
    clear hS hRl hRr hsame
    clear R' s'
    rintro σ H hm9
    obtain ⟨s', R', _, hRl, hRr, rfl, hS⟩ := (hMd _ _ _).mp hm9
    clear hm9
    walk_at "s"
    exact q s' R' _ _ _ hRl hRr (Sub.ok (by walk_at "sub") hS)
end Lw
namespace Ls
open PySem PySem.Spec PyProof.Rows L2 LamX TL
def spLookWayX (K : PySem.W.Frag) (CW : Addr) : Sp := fun vs H Q E => ∃ (a pr : Addr) (s : Jp) (R : List RowW) (N : Nat) (L : List (As K)), vs = [.ref a] ∧ Ls.Sep L H ∧ tu a [jV s, .ref pr] ∈ L ∧ Ls.ld pr (R.map rwD) ∈ L ∧ R.length ≤ 1000 ∧ (∀ r ∈ R, RawL N r.1) ∧ N ≤ 50 ∧ (WayOk s R → ∀ H', Ls.Sep L H' → Q .non H') ∧ (¬ WayOk s R → Lets L CW "badway" E)
def spRunX (K : PySem.W.Frag) (C CW CV : Addr) : Sp := fun vs H Q E => ∃ (a pr x v : Addr) (s : Jp) (R : List RowW) (N : Nat) (k : Kd) (us : List Int) (L : List (As K)), vs = [.ref a, .ref x, .ref v] ∧ Ls.Sep L H ∧ tu a [jV s, .ref pr] ∈ L ∧ Ls.ld pr (R.map rwD) ∈ L ∧ kindF C x k ∈ L ∧ im (.ref v) (.tuple (us.map PyData.int)) ∈ L ∧ R.length ≤ 1000 ∧ (∀ r ∈ R, RawL N r.1) ∧ N ≤ 50 ∧ k.2.length ≤ 4 ∧ us.length ≤ 100 ∧
  (WayOk s R → needV 0 k.2 us = none → ∃ b c, Gn k us R s b c ∧ c ≤ 1000 ∧ ∀ H', Ls.Sep L H' → Q (.bl b) H') ∧ (¬ WayOk s R → Lets L CW "badway" E) ∧ (WayOk s R → ∀ i, needV 0 k.2 us = some i → LetsA L CV "at" "badvalue" (.int (i : Nat)) E)
def spStepsX (K : PySem.W.Frag) (C CW CV : Addr) : Sp := fun vs H Q E => ∃ (a pr x v : Addr) (s : Jp) (R : List RowW) (N : Nat) (k : Kd) (us : List Int) (L : List (As K)), vs = [.ref a, .ref x, .ref v] ∧ Ls.Sep L H ∧ tu a [jV s, .ref pr] ∈ L ∧ Ls.ld pr (R.map rwD) ∈ L ∧ kindF C x k ∈ L ∧ im (.ref v) (.tuple (us.map PyData.int)) ∈ L ∧ R.length ≤ 1000 ∧ (∀ r ∈ R, RawL N r.1) ∧ N ≤ 50 ∧ k.2.length ≤ 4 ∧ us.length ≤ 100 ∧
  (WayOk s R → needV 0 k.2 us = none → ∃ b c, Gn k us R s b c ∧ c ≤ 1000 ∧ ∀ H', Ls.Sep L H' → Q (.int (c : Nat)) H') ∧ (¬ WayOk s R → Lets L CW "badway" E) ∧ (WayOk s R → ∀ i, needV 0 k.2 us = some i → LetsA L CV "at" "badvalue" (.int (i : Nat)) E)
end Ls
namespace Lw
open PySem PySem.Spec PyProof.Rows L2 Ls LamX
theorem okX_look_way {P : Program} {w : World} {K : PySem.W.Frag} {mg : Str → Option Value} {base : Heap} (E : Env K mg w) : FnOk P w K mg base (L2.CX P w) 14 E.a_look_way E.fd_look_way ["way"] (spLookWayX K E.C_BadWay) := by
  refine E.F_look_way.ok sc_look_way (fun vs H Q E h => ?_) (fun cdv A outer s H vs Q E' hr h => ?_)
  · walk_at "hl"
  · have hu := huOf hr
    have G_is_way := ok_is_way (P := P) (w := w) (base := base) E
    have hr_is_way := hr.mono (show 13 ≤ 13 by decide)
    have b_is_way := b_is_way E
    have GI_BadWay := okI_BadWay (P := P) (w := w) (base := base) E
    have hrI_BadWay := hr.mono (show 3 ≤ 13 by decide)
    have bI_BadWay := bI_BadWay E
    have hcl_Kind := E.cl_Kind
    obtain ⟨a, pr, s, R, N, L, rfl, hS, ht, hl, hR, hrw, hN, q1, q2⟩ := h
    refine ⟨_, (pss_one (ps_if (pt_not (pt_val (pe_call G_is_way hr_is_way rfl E.g_is_way E.F_is_way.kp b_is_way .nil pass0 (pa_cons (pv 0) pa_nil)))) (pss_one (ps_raise rfl (takes_of rfl rfl rfl rfl) (pmk_oex0 E.o_BadWay E.i_BadWay E.t_BadWay GI_BadWay hrI_BadWay bI_BadWay .nil pass0 rfl E.g_BadWay))) pss_nil)), ?_⟩
    refine k_body (s1 := some _ :: []) rfl ?_
    walk_at "s"
    refine ⟨a, pr, s, R, N, _, rfl, hS, ht, hl, hR, hrw, hN, fun H hS => ?_⟩
    by_cases hi : WayOk s R
    · rw [decide_eq_true hi]
      walk_at "s"
      exact q1 hi _ hS
    · rw [decide_eq_false hi]
      walk_at "s"
      exact raise_lets E.o_BadWay E.w_BadWay hS ((q2 hi).sub (by walk_at "sub"))
theorem okX_run {P : Program} {w : World} {K : PySem.W.Frag} {mg : Str → Option Value} {base : Heap} (E : Env K mg w) : FnOk P w K mg base (L2.CX P w) 15 E.a_run E.fd_run ["way", "kind", "values"] (spRunX K E.C_Kind E.C_BadWay E.C_BadValue) := by
  refine E.F_run.ok sc_run (fun vs H Q E h => ?_) (fun cdv A outer s H vs Q E' hr h => ?_)
  · walk_at "hl"
  · have hu := huOf hr
    have G_look_way := okX_look_way (P := P) (w := w) (base := base) E
    have hr_look_way := hr.mono (show 14 ≤ 14 by decide)
    have b_look_way := b_look_way E
    have G_Kind_need := okX_Kind_need (P := P) (w := w) (base := base) E
    have hr_Kind_need := hr.mono (show 4 ≤ 14 by decide)
    have b_Kind_need := b_Kind_need E
    have G_walked := ok_walked (P := P) (w := w) (base := base) E
    have hr_walked := hr.mono (show 8 ≤ 14 by decide)
    have b_walked := b_walked E
    have hcl_Kind := E.cl_Kind
    obtain ⟨a, pr, x, v, s, R, N, k, us, L, rfl, hS, ht, hl, hk, hv, hR, hrw, hN, h4, h5, q1, q2, q3⟩ := h
    refine ⟨_, (pss_cons (ps_expr (pe_call G_look_way hr_look_way rfl E.g_look_way E.F_look_way.kp b_look_way .nil (passes_call (takes_of rfl rfl rfl rfl) fun _ _ _ _ h => h) (pa_cons (pv 0) pa_nil)))
(pss_cons (ps_expr (pe_meth (pv 1) E.cl_Kind E.m_Kind_need G_Kind_need hr_Kind_need b_Kind_need .nil (passes_call (takes_of rfl rfl rfl rfl) fun _ _ _ _ h => h) (pa_cons (pv 2) pa_nil)))
(pss_one (ps_ret (pe_ix (ix_U K rfl) (pe_call G_walked hr_walked rfl E.g_walked E.F_walked.kp b_walked .nil pass0 (pa_cons (pv 0) (pa_cons (pv 1) (pa_cons (pv 2) pa_nil)))) pe_int (fun _ _ => rfl)))))), ?_⟩
    refine k_body (s1 := some _ :: some _ :: some _ :: []) rfl ?_
    walk_at "s"
    refine ⟨a, pr, s, R, N, _, rfl, hS, ht, hl, hR, hrw, hN, fun hw H hS => ?_, q2⟩
    walk_at "s"
    refine ⟨x, v, k, us, _, rfl, hS, by walk_at "mem", by walk_at "mem", h4, h5, fun en H hS => ?_, q3 hw⟩
    obtain ⟨b, c, hg, hc, q⟩ := q1 hw en
    walk_at "s"
    refine ⟨a, pr, x, v, s, R, k, us, b, c, _, rfl, hS, ht, hl, by walk_at "mem", by walk_at "mem", h4, (needV_inF.mp en).1, hw, hg, hc, fun p H hS => ?_⟩
    walk_at "s"
    exact q _ (Sub.ok (by walk_at "sub") hS)
theorem okX_steps {P : Program} {w : World} {K : PySem.W.Frag} {mg : Str → Option Value} {base : Heap} (E : Env K mg w) : FnOk P w K mg base (L2.CX P w) 15 E.a_steps E.fd_steps ["way", "kind", "values"] (spStepsX K E.C_Kind E.C_BadWay E.C_BadValue) := by
  refine E.F_steps.ok sc_steps (fun vs H Q E h => ?_) (fun cdv A outer s H vs Q E' hr h => ?_)
  · walk_at "hl"
  · have hu := huOf hr
    have G_look_way := okX_look_way (P := P) (w := w) (base := base) E
    have hr_look_way := hr.mono (show 14 ≤ 14 by decide)
    have b_look_way := b_look_way E
    have G_Kind_need := okX_Kind_need (P := P) (w := w) (base := base) E
    have hr_Kind_need := hr.mono (show 4 ≤ 14 by decide)
    have b_Kind_need := b_Kind_need E
    have G_walked := ok_walked (P := P) (w := w) (base := base) E
    have hr_walked := hr.mono (show 8 ≤ 14 by decide)
    have b_walked := b_walked E
    have hcl_Kind := E.cl_Kind
    obtain ⟨a, pr, x, v, s, R, N, k, us, L, rfl, hS, ht, hl, hk, hv, hR, hrw, hN, h4, h5, q1, q2, q3⟩ := h
    refine ⟨_, (pss_cons (ps_expr (pe_call G_look_way hr_look_way rfl E.g_look_way E.F_look_way.kp b_look_way .nil (passes_call (takes_of rfl rfl rfl rfl) fun _ _ _ _ h => h) (pa_cons (pv 0) pa_nil)))
(pss_cons (ps_expr (pe_meth (pv 1) E.cl_Kind E.m_Kind_need G_Kind_need hr_Kind_need b_Kind_need .nil (passes_call (takes_of rfl rfl rfl rfl) fun _ _ _ _ h => h) (pa_cons (pv 2) pa_nil)))
(pss_one (ps_ret (pe_ix (ix_U K rfl) (pe_call G_walked hr_walked rfl E.g_walked E.F_walked.kp b_walked .nil pass0 (pa_cons (pv 0) (pa_cons (pv 1) (pa_cons (pv 2) pa_nil)))) pe_int (fun _ _ => rfl)))))), ?_⟩
    refine k_body (s1 := some _ :: some _ :: some _ :: []) rfl ?_
    walk_at "s"
    refine ⟨a, pr, s, R, N, _, rfl, hS, ht, hl, hR, hrw, hN, fun hw H hS => ?_, q2⟩
    walk_at "s"
    refine ⟨x, v, k, us, _, rfl, hS, by walk_at "mem", by walk_at "mem", h4, h5, fun en H hS => ?_, q3 hw⟩
    obtain ⟨b, c, hg, hc, q⟩ := q1 hw en
    walk_at "s"
    refine ⟨a, pr, x, v, s, R, k, us, b, c, _, rfl, hS, ht, hl, by walk_at "mem", by walk_at "mem", h4, (needV_inF.mp en).1, hw, hg, hc, fun p H hS => ?_⟩
    walk_at "s"
    exact q _ (Sub.ok (by walk_at "sub") hS)
end Lw
namespace Ls
open PySem PySem.Spec PyProof.Rows L2 LamX TL
def plcK (ks : List Nat) : List (Key × V) := ks.mapIdx fun i a => (.inl ((a : Nat) : Int), V.int ((i : Nat) : Int))
theorem plc_snoc (ks : List Nat) (a : Nat) : plcK (ks ++ [a]) = plcK ks ++ [(.inl ((a : Nat) : Int), V.int ((ks.length : Nat) : Int))] := by
  unfold plcK
  rw [List.mapIdx_concat]
theorem plc_any {ks : List Nat} {a : Nat} : (plcK ks).any (fun kv => decide (kv.1 = .inl ((a : Nat) : Int))) = decide (a ∈ ks) := by
  by_cases h : a ∈ ks
  · rw [decide_eq_true h]
    obtain ⟨i, hi, e⟩ := List.getElem_of_mem h
    refine List.any_eq_true.mpr ⟨(.inl ((a : Nat) : Int), V.int ((i : Nat) : Int)), ?_, decide_eq_true rfl⟩
    unfold plcK
    refine List.mem_iff_getElem?.mpr ⟨i, ?_⟩
    rw [List.getElem?_mapIdx, List.getElem?_eq_getElem hi, e]
    rfl
  · rw [decide_eq_false h]
    refine List.any_eq_false.mpr fun x hx => ?_
    unfold plcK at hx
    obtain ⟨i, hi⟩ := List.mem_iff_getElem?.mp hx
    rw [List.getElem?_mapIdx] at hi
    obtain ⟨b, hb, rfl⟩ := Option.map_eq_some_iff.mp hi
    show ¬ decide ((Sum.inl ((b : Nat) : Int) : Key) = .inl ((a : Nat) : Int)) = true
    rw [decide_eq_false fun z => by injection z with z; exact h ((show b = a by omega) ▸ List.mem_of_getElem? hb)]
    exact Bool.false_ne_true
theorem plc_put {ks : List Nat} {a : Nat} (h : a ∉ ks) : putK (plcK ks) (.inl ((a : Nat) : Int)) (.int ((ks.length : Nat) : Int)) = plcK (ks ++ [a]) := by
  rw [put_new (by rw [plc_any]; exact decide_eq_false h), plc_snoc]
theorem plc_val : ∀ (n : Nat) {ks : List Nat} {a : Nat}, ks.length = n → a ∈ ks → valV (plcK ks) (.inl ((a : Nat) : Int)) = some (.int ((ks.idxOf a : Nat) : Int))
  | 0, ks, a, hn, h => by
    rw [List.length_eq_zero_iff.mp hn] at h
    cases h
  | n + 1, ks, a, hn, h => by
    obtain ⟨ls, x, rfl⟩ : ∃ ls x, ks = ls ++ [x] := by
      rcases List.eq_nil_or_concat ks with e | ⟨ls, x, e⟩
      · rw [e] at h; cases h
      · exact ⟨ls, x, by rw [e, List.concat_eq_append]⟩
    have hl : ls.length = n := by rw [List.length_append] at hn; exact Nat.succ.inj hn
    rw [plc_snoc]
    by_cases m : a ∈ ls
    · have ih := plc_val n hl m
      unfold valV at ih ⊢
      obtain ⟨kv, hk, e⟩ := Option.map_eq_some_iff.mp ih
      rw [List.find?_append, hk, List.idxOf_append, if_pos m]
      exact congrArg some e
    · have e : a = x := by
        rcases List.mem_append.mp h with z | z
        · exact (m z).elim
        · exact List.mem_singleton.mp z
      subst e
      have hn0 : valV (plcK ls) (.inl ((a : Nat) : Int)) = none := by
        have := valV_any (.inl ((a : Nat) : Int) : Key) (plcK ls)
        rw [plc_any, decide_eq_false m] at this
        cases q : valV (plcK ls) (.inl ((a : Nat) : Int)) with
        | none => rfl
        | some v => rw [q] at this; cases this
      rw [valV_snoc _ _ _ _ hn0, if_pos rfl, List.idxOf_append, if_neg m]
      simp
theorem it_keepI {K : PySem.W.Frag} {L N : List (As K)} {H : Hp} {D : Addr} {z : V} {j : Nat} {Iv : Nat → List (As K) → Prop} {kvs : List (Key × V)} {k : Int} (h : Ls.Sep N H) (s : Sub N (ob D (.dK kvs) :: L)) (hl : kvs.length < sizeLine) (iv : Iv j (ob D (.dK (putK kvs (.inl k) z)) :: L)) : ∃ kvs k', V.int k = kV k' ∧ H D = some (.dK kvs) ∧ kvs.length < sizeLine ∧ Lg Iv j (upd H D (.dK (putK kvs k' z))) := by
  have g := s.ok h
  exact ⟨kvs, .inl k, rfl, g.obm List.mem_cons_self, hl, _, iv, g.set rfl⟩
theorem wk_ldJ {K : PySem.W.Frag} {L : List (As K)} {a : Addr} {js : List Jp} (m : Ls.ld a (js.map jD) ∈ L) : Wk (Itl K a) L js.length fun i q => ∀ z, js[i]? = some z → q (jV z) [] where
  go := by have := (wk_ld m).go; rwa [List.length_map] at this
  yl := fun i H x H' R hi h ⟨e, y⟩ q => by
    subst e
    obtain ⟨xs, h1, h2⟩ := h.ldm m
    obtain ⟨d, hd, hm⟩ := h2.get (y xs (sql_of h1))
    rw [List.getElem?_map] at hd
    obtain ⟨z, hz, rfl⟩ := Option.map_eq_some_iff.mp hd
    obtain rfl := im_jV hm
    exact q z hz _ h
  st := by have := (wk_ld m).st; rwa [List.length_map] at this
theorem k_ixLJ {K : PySem.W.Frag} {L : List (As K)} {H : Hp} {Q : VK} {a : Addr} {js : List Jp} {i : Int} {j : Jp} (h : Ls.Sep L H) (m : Ls.ld a (js.map jD) ∈ L) (e : atI js i = some j) (q : Q (jV j) H) : rIx K (.ref a) (.int i) H Q := by
  obtain ⟨xs, h1, h2⟩ := h.ldm m
  have e2 : atI (js.map jD) i = some (jD j) := by
    unfold atI at e ⊢
    rw [List.length_map]
    cases ix : ixN js.length i with
    | none => rw [ix] at e; cases e
    | some k =>
      rw [ix] at e
      show (js.map jD)[k]? = _
      rw [List.getElem?_map, show js[k]? = some j from e]
      rfl
  obtain ⟨v, hv, hd⟩ := atI_all h2 e2
  obtain rfl := im_jV hd
  exact k_ixL (sql_of h1) hv q
theorem up_newN {ks : List Nat} (up : ks.Pairwise (· < ·)) {i a : Nat} (h : ks[i]? = some a) : a ∉ ks.take i := fun m => by
  obtain ⟨j, hj, e⟩ := List.getElem_of_mem m
  obtain ⟨hi, e2⟩ := List.getElem?_eq_some_iff.mp h
  rw [List.length_take] at hj
  rw [List.getElem_take] at e
  have := List.pairwise_iff_getElem.mp up j i (by omega) hi (by omega)
  omega
def spShorterX (K : PySem.W.Frag) (CW : Addr) : Sp := fun vs H Q E => ∃ (a pr : Addr) (s : Jp) (R : List RowW) (N : Nat) (L : List (As K)), vs = [.ref a] ∧ Ls.Sep L H ∧ tu a [jV s, .ref pr] ∈ L ∧ Ls.ld pr (R.map rwD) ∈ L ∧ R.length < 64 ∧ (∀ r ∈ R, RawL N r.1) ∧ N ≤ 50 ∧ (WayOk s R → ∀ S pw pq H', ShOf s R S → Ls.Sep (tu pw [jV S.1, .ref pq] :: Ls.ld pq (S.2.map rwD) :: L) H' → Q (.ref pw) H') ∧ (¬ WayOk s R → Lets L CW "badway" E)
end Ls
namespace Lw
open PySem PySem.Spec PyProof.Rows L2 Ls LamX
theorem okX_shorter {P : Program} {w : World} {K : PySem.W.Frag} {mg : Str → Option Value} {base : Heap} (E : Env K mg w) : FnOk P w K mg base (L2.CX P w) 15 E.a_shorter E.fd_shorter ["way"] (spShorterX K E.C_BadWay) := by
  refine E.F_shorter.ok sc_shorter (fun vs H Q E h => ?_) (fun cdv A outer s H vs Q E' hr h => ?_)
  · walk_at "hl"
  · have hu := huOf hr
    have G_look_way := okX_look_way (P := P) (w := w) (base := base) E
    have hr_look_way := hr.mono (show 14 ≤ 14 by decide)
    have b_look_way := b_look_way E
    have G_joined := ok_joined (P := P) (w := w) (base := base) E
    have hr_joined := hr.mono (show 3 ≤ 14 by decide)
    have b_joined := b_joined E
    have G_led := ok_led (P := P) (w := w) (base := base) E
    have hr_led := hr.mono (show 2 ≤ 14 by decide)
    have b_led := b_led E
    have G_is_end := ok_is_end (P := P) (w := w) (base := base) E
    have hr_is_end := hr.mono (show 1 ≤ 14 by decide)
    have b_is_end := b_is_end E
    have G_reached := ok_reached (P := P) (w := w) (base := base) E
    have hr_reached := hr.mono (show 3 ≤ 14 by decide)
    have b_reached := b_reached E
    have hcl_Kind := E.cl_Kind
    obtain ⟨a, pr, s, R, N, L, rfl, hS, ht, hl, hR, hrw, hN, q1, q2⟩ := h
    refine ⟨_, (pss_cons (ps_expr (pe_call G_look_way hr_look_way rfl E.g_look_way E.F_look_way.kp b_look_way .nil (passes_call (takes_of rfl rfl rfl rfl) fun _ _ _ _ h => h) (pa_cons (pv 0) pa_nil)))
(pss_cons (ps_asg (pv 0) (kGTup (n := 2) K rfl (pg_tup rfl (pgs_cons (pg_name (i := 1) sc_shorter.nd rfl (Or.inl rfl)) (pgs_cons (pg_name (i := 2) sc_shorter.nd rfl (Or.inl rfl)) pgs_nil)))))
(pss_cons (ps_set (i := 3) sc_shorter.nd rfl (Or.inl rfl) (pe_call G_joined hr_joined rfl E.g_joined E.F_joined.kp b_joined .nil pass0 (pa_cons (pv 2) pa_nil)))
(pss_cons (ps_set (i := 4) sc_shorter.nd rfl (Or.inl rfl) (pe_call G_led hr_led rfl E.g_led E.F_led.kp b_led .nil pass0 (pa_cons (pv 1) (pa_cons (pv 3) pa_nil))))
(pss_cons (ps_if (pt_val (pe_call G_is_end hr_is_end rfl E.g_is_end E.F_is_end.kp b_is_end .nil pass0 (pa_cons (pv 4) pa_nil))) (pss_one (ps_ret (pe_tup (pa_cons (pv 4) (pa_cons (pe_lst pa_nil) pa_nil))))) pss_nil)
(pss_cons (ps_set (i := 5) sc_shorter.nd rfl (Or.inl rfl) (pe_call G_reached hr_reached rfl E.g_reached E.F_reached.kp b_reached .nil pass0 (pa_cons (pv 4) (pa_cons (pv 2) (pa_cons (pv 3) pa_nil)))))
(pss_cons (ps_set (i := 6) sc_shorter.nd rfl (Or.inr rfl) (pe_dc (own := [("number", 7), ("at", 8)]) rfl sc_shorter.nd (pi_enumU K rfl rfl E.n_enumerate (pa_cons (pv 5) pa_nil)) (blkOk_by (N := ["way", "start", "rows", "heads", "begin", "kept", "places", "number", "at", "found", "leaf", "yes", "no", "jumps", "jump"]) (sc := defScope s_shorter) (by decide +kernel)) (fun _ _ _ _ _ => (kGTup (n := 2) K rfl (pg_tup rfl (pgs_cons (pg_name (i := 7) sc_shorter.nd rfl (Or.inl rfl)) (pgs_cons (pg_name (i := 8) sc_shorter.nd rfl (Or.inl rfl)) pgs_nil))))) (fun _ _ _ _ _ => pts_nil) (fun _ _ _ _ _ => (pv 8)) (fun _ _ _ _ _ => (pv 7))))
(pss_cons (ps_set (i := 9) sc_shorter.nd rfl (Or.inl rfl) (pe_lst pa_nil))
(pss_cons (ps_for (passes_of rfl) rfl (pi_seqU K rfl (pv 5)) (pg_name (i := 8) sc_shorter.nd rfl (Or.inl rfl))
(pss_cons (ps_asg (pe_ix (ix_U K rfl) (pv 2) (pv 8) (fun _ _ => rfl)) (kGTup (n := 3) K rfl (pg_tup rfl (pgs_cons (pg_name (i := 10) sc_shorter.nd rfl (Or.inl rfl)) (pgs_cons (pg_name (i := 11) sc_shorter.nd rfl (Or.inl rfl)) (pgs_cons (pg_name (i := 12) sc_shorter.nd rfl (Or.inl rfl)) pgs_nil))))))
(pss_cons (ps_set (i := 13) sc_shorter.nd rfl (Or.inl rfl) (pe_lst (pa_cons (pe_call G_led hr_led rfl E.g_led E.F_led.kp b_led .nil pass0 (pa_cons (pv 11) (pa_cons (pv 3) pa_nil))) (pa_cons (pe_call G_led hr_led rfl E.g_led E.F_led.kp b_led .nil pass0 (pa_cons (pv 12) (pa_cons (pv 3) pa_nil))) pa_nil))))
(pss_cons (ps_setLc (i := 13) (own := [("jump", 14)]) rfl sc_shorter.nd rfl rfl (sw_true rfl rfl rfl (by decide +kernel)) (pi_seqU K rfl (pv 13)) (blkOk_by (N := ["way", "start", "rows", "heads", "begin", "kept", "places", "number", "at", "found", "leaf", "yes", "no", "jumps", "jump"]) (sc := defScope s_shorter) (by decide +kernel)) (fun _ _ _ _ _ => (pg_name (i := 14) sc_shorter.nd rfl (Or.inl rfl))) (fun _ _ _ _ _ => pts_nil) (fun _ _ _ _ _ => (pe_join (pe_ifExp (pt_val (pe_call G_is_end hr_is_end rfl E.g_is_end E.F_is_end.kp b_is_end .nil pass0 (pa_cons (pv 14) pa_nil))) (pv 14) (pe_dget (hu1 hu) (pv 6) (pv 14) (fun _ _ => rfl))))))
(pss_one (ps_expr (kBM K rfl (pe_bm PySem.F.plainAttrs_list PySem.F.slot_list_append PySem.F.type_list_append mt_append (pv 9) (pa_cons (pe_tup (pa_cons (pv 10) (pa_cons (pe_ix (ix_U K rfl) (pv 13) pe_int (fun _ _ => rfl)) (pa_cons (pe_ix (ix_U K rfl) (pv 13) pe_int (fun _ _ => rfl)) pa_nil)))) pa_nil)))))))))
(pss_one (ps_ret (pe_tup (pa_cons pe_int (pa_cons (pv 9) pa_nil)))))))))))))), ?_⟩
    refine k_body (s1 := some _ :: [none, none, none, none, none, none, none, none, none, none, none, none, none, none]) rfl ?_
    walk_at "s"
    refine ⟨a, pr, s, R, N, _, rfl, hS, ht, hl, by omega, hrw, hN, fun hw H hS => ?_, q2⟩
    have q := q1 hw
    have hfw := hw.fw
    have hd := hds_of hfw
    have hleaf : ∀ r ∈ R, LeafD r.1 := fun r hr => by
      obtain ⟨i, hi⟩ := List.getElem?_of_mem hr
      exact hw.leaf hi
    walk_at "s"
    refine ⟨pr, R, _, rfl, hS, hl, by omega, hfw, hleaf, fun ph H hS => ?_⟩
    walk_at "s"
    refine ⟨s, ledJ (hdJ R) s, ph, _, rfl, hS.obm List.mem_cons_self, ledK_all fun n e => ?_, ?_⟩
    · subst e
      obtain ⟨rfl, hn, _⟩ := hw
      exact ⟨Int.le_refl _, by have := List.length_pos_iff.mpr hn; omega⟩
    walk_at "s"
    refine ⟨ledJ (hdJ R) s, rfl, ?_⟩
    have hcase : (∃ b, ledJ (hdJ R) s = .en b) ∨ ∃ a : Nat, ledJ (hdJ R) s = .go (a : Nat) ∧ 0 ≤ a ∧ a < R.length ∧ hdJ R a = .go (a : Nat) := by
      cases s with
      | en b => exact .inl ⟨b, rfl⟩
      | go n =>
        obtain ⟨rfl, hn, _⟩ := hw
        exact hd.to hfw _ 0 rfl (List.length_pos_iff.mpr hn)
    rcases hcase with ⟨b, eb⟩ | ⟨a0, ea, _, hal, ha0⟩
    · rw [eb, show enB (.en b) = true from rfl]
      walk_at "s"
      exact q (.en b, []) _ _ _ (.inl ⟨b, eb, rfl⟩) (Sub.ok (by show Sub _ (tu _ [jV (.en b), _] :: Ls.ld _ [] :: L); walk_at "sub") hS)
    rw [ea, show enB (.go (a0 : Nat)) = false from rfl]
    walk_at "s"
    refine ⟨a0, pr, ph, R, _, rfl, hS, by walk_at "mem", by walk_at "mem", hR, hfw, hal, ha0, fun ks pk H hk hS => ?_⟩
    walk_at "s"
    obtain ⟨pp, epp⟩ : ∃ pp : Addr, pp = p := ⟨_, rfl⟩
    rw [← epp] at hS ⊢
    clear epp
    have hkl := hk.len hfw hd ha0 hal
    refine it_wk (n := ks.length) (Y := fun i q => ∀ z T, ks[i]? = some z → q (.ref T) [im (.ref T) (.tuple [.int (i : Nat), .int (z : Nat)])]) (fun i L' => L' = ob pp (.dK (plcK (ks.take i))) :: Ls.ld pk (ks.map fun a : Nat => PyData.int (a : Int)) :: ob ph (.dK (kvK R R.length)) :: L) (fun i L' e => by subst e; exact wk_enD (f := fun a : Nat => PyData.int (a : Int)) (by walk_at "mem")) hS rfl (fun i L' hi iv z T hz => ?_) (fun L' H iv hS => ?_)
    · subst iv
      clear hS
      intro H hS
      simp only [List.nil_append, List.cons_append] at hS
      have hti : (ks.take i).length = i := by rw [List.length_take]; omega
      have hpl := plc_put (up_newN hk.up hz)
      rw [hti] at hpl
      walk_at "ls"
      refine it_keepI (L := Ls.ld pk (ks.map fun a : Nat => PyData.int (a : Int)) :: ob ph (.dK (kvK R R.length)) :: L) hS (by walk_at "sub") (by unfold plcK; rw [List.length_mapIdx, hti, sizeLine_eq]; omega) ?_
      rw [hpl, List.take_add_one, hz]
      rfl
    subst iv
    rw [List.take_length] at hS
    walk_at "s"
    obtain ⟨pf, epf⟩ : ∃ pf : Addr, pf = p := ⟨_, rfl⟩
    rw [← epf] at hS ⊢
    clear epf
    refine for_wk (n := ks.length) (Y := fun i q => ∀ z, ks[i]? = some z → Gv (.int (z : Nat)) q) (fun i σ L' => L' = Ls.ld pf ((ks.take i).map fun a => rwD (shrow R (hdJ R) ks a)) :: ob pp (.dK (plcK ks)) :: Ls.ld pk (ks.map fun a : Nat => PyData.int (a : Int)) :: ob ph (.dK (kvK R R.length)) :: L ∧ ∃ e7 e8 e10 e11 e12 e13 e14, σ = [some (.ref a), some (jV s), some (.ref pr), some (.ref ph), some (jV (.go (a0 : Nat))), some (.ref pk), some (.ref pp), e7, e8, some (.ref pf), e10, e11, e12, e13, e14]) (fun i σ L' e => by obtain ⟨rfl, _⟩ := e; exact wk_ldm (f := fun a : Nat => PyData.int (a : Int)) (by walk_at "mem")) hS ⟨rfl, _, _, _, _, _, _, _, rfl⟩ (fun i σ L' hi iv z hz => ?_) (fun σ L' H iv hS => ?_)
    · obtain ⟨rfl, e7, e8, e10, e11, e12, e13, e14, rfl⟩ := iv
      clear hS
      obtain ⟨r, hr, er, hj⟩ := hk.row hfw hd ha0 hal (List.mem_of_getElem? hz)
      have hti : (ks.take i).length = i := by rw [List.length_take]; omega
      have hati : atI (R.map rwD) ((z : Nat) : Int) = some (rwD r) := at_natL (by rw [List.getElem?_map, hr]; rfl)
      have led : ∀ j', (j' = r.2.1 ∨ j' = r.2.2) → LedK (kvK R R.length) j' (ledJ (hdJ R) j') := fun j' hj => ledK_all fun n e => by
        obtain ⟨f1, f2⟩ := hfw z r hr
        have hjo : JOk z R.length j' := by rcases hj with rfl | rfl <;> assumption
        rw [e] at hjo
        obtain ⟨g1, g2⟩ := hjo
        omega
      walk_at "gi"
      walk_at "ns"
      walk_at "s"
      refine ⟨r.2.1, ledJ (hdJ R) r.2.1, ph, _, rfl, hS.obm (by walk_at "mem"), led _ (.inl rfl), ?_⟩
      walk_at "s"
      refine ⟨r.2.2, ledJ (hdJ R) r.2.2, ph, _, rfl, hS.obm (by walk_at "mem"), led _ (.inr rfl), ?_⟩
      walk_at "s"
      rename Addr => pd
      obtain ⟨pj, epj⟩ : ∃ pj : Addr, pj = p := ⟨_, rfl⟩
      rw [← epj] at hS ⊢
      clear epj
      have hjj : ∀ j ∈ [ledJ (hdJ R) r.2.1, ledJ (hdJ R) r.2.2], (∃ b, j = .en b) ∨ ∃ a' : Nat, j = .go (a' : Nat) ∧ a' ∈ ks := fun j m => by
        have : ∃ j', (j' = r.2.1 ∨ j' = r.2.2) ∧ j = ledJ (hdJ R) j' := by
          rcases List.mem_cons.mp m with m | m
          · exact ⟨_, .inl rfl, m⟩
          · exact ⟨_, .inr rfl, List.mem_singleton.mp m⟩
        obtain ⟨j', hj', e⟩ := this
        rw [e]
        rcases hj j' hj' with z | ⟨a', z1, _, z3⟩
        · exact .inl z
        · exact .inr ⟨a', z1, z3⟩
      obtain ⟨l1, el1⟩ : ∃ l1, l1 = ledJ (hdJ R) r.2.1 := ⟨_, rfl⟩
      obtain ⟨l2, el2⟩ : ∃ l2, l2 = ledJ (hdJ R) r.2.2 := ⟨_, rfl⟩
      rw [← el1, ← el2] at hS hjj er
      obtain ⟨LC, eLC⟩ : ∃ LC : List (As K), LC = Ls.ld pj [jD l1, jD l2] :: im v r.1 :: Ls.ld pf ((ks.take i).map fun a => rwD (shrow R (hdJ R) ks a)) :: ob pp (.dK (plcK ks)) :: Ls.ld pk (ks.map fun a : Nat => PyData.int (a : Int)) :: ob ph (.dK (kvK R R.length)) :: L := ⟨_, rfl⟩
      replace hS : Ls.Sep (Ls.ld pd [] :: LC) H' := by
        rw [eLC]
        exact Sub.ok (by walk_at "sub") hS
      have mJ : Ls.ld pj ([l1, l2].map jD) ∈ LC := by rw [eLC]; exact List.mem_cons_self
      have mP : ob pp (.dK (plcK ks)) ∈ LC := by rw [eLC]; walk_at "mem"
      refine lc_flat (zs := [l1, l2]) (fun j => [jD (plJ ks j)]) hS (fun acc => wk_ldJ (js := [l1, l2]) (List.mem_cons_of_mem _ mJ)) (fun j2 jz acc hz2 hk2 _ la => ?_) (fun H hS => ?_)
      · clear hS
        have hj2 := (List.getElem?_eq_some_iff.mp hz2).1
        have hj3 : j2 < 2 := hj2
        have hjz := hjj jz (List.mem_of_getElem? hz2)
        intro H hS
        walk_at "ls"
        refine k_join (fun u H => u = jV (plJ ks jz) ∧ Ls.Sep (K := K) (Ls.ld pd acc :: LC) H) ?_ ?_
        · walk_at "s"
          refine ⟨jz, rfl, ?_⟩
          rcases hjz with ⟨b, rfl⟩ | ⟨a', rfl, ma⟩
          · rw [show enB (.en b) = true from rfl]
            walk_at "s"
            exact ⟨rfl, hS⟩
          · rw [show enB (.go (a' : Nat)) = false from rfl]
            walk_at "s"
            refine k_getI (hS.obm (List.mem_cons_of_mem _ mP)) (plc_val _ rfl ma) ⟨?_, hS⟩
            show V.int _ = V.int ((ks.idxOf ((a' : Int)).toNat : Nat) : Int)
            rw [Int.toNat_natCast]
        · clear hS
          rintro u H ⟨rfl, hS⟩
          exact lc_keep hS (d := jD (plJ ks jz)) (.j _) (by walk_at "sub") (by rw [sizeLine_eq]; omega) (hk2 _ rfl)
      replace hS : Ls.Sep (Ls.ld pd ([plJ ks l1, plJ ks l2].map jD) :: LC) H := hS
      rw [eLC] at hS
      walk_at "s"
      refine k_ixLJ (j := plJ ks l1) hS (by walk_at "mem") rfl ?_
      walk_at "s"
      refine k_ixLJ (j := plJ ks l2) hS (by walk_at "mem") rfl ?_
      walk_at "s"
      have ea2 : (ks.take i).map (fun a => rwD (shrow R (hdJ R) ks a)) ++ [PyData.tuple [r.1, jD (plJ ks l1), jD (plJ ks l2)]] = (ks.take (i + 1)).map (fun a => rwD (shrow R (hdJ R) ks a)) := by
        rw [List.take_add_one, hz, List.map_append]
        show _ = _ ++ [rwD (shrow R (hdJ R) ks z)]
        rw [er]
      rw [ea2] at hS
      exact ⟨_, ⟨rfl, _, _, _, _, _, _, _, rfl⟩, Sub.ok (by walk_at "sub") hS⟩
    obtain ⟨rfl, e7, e8, e10, e11, e12, e13, e14, rfl⟩ := iv
    rw [List.take_length] at hS
    walk_at "s"
    exact q (.go 0, shR R (hdJ R) ks) _ _ _ (.inr ⟨a0, ks, ea, ha0, hal, hk, rfl⟩) (Sub.ok (by show Sub _ (tu _ [.int 0, _] :: Ls.ld _ ((ks.map (shrow R (hdJ R) ks)).map rwD) :: L); rw [List.map_map]; show Sub _ (tu _ [.int 0, _] :: Ls.ld pf (ks.map fun a => rwD (shrow R (hdJ R) ks a)) :: L); walk_at "sub") hS)
end Lw
namespace Ls
open PySem PySem.Spec PyProof.Rows L2 LamX TL
instance {K : PySem.W.Frag} {C a : Addr} {k : Kd} : NoTb (kindF (K := K) C a k) := ⟨fun z a q => (z.1 a q).elim⟩
theorem needV_le : ∀ {fs : List Fd} {us : List Int} {n i : Nat}, needV n fs us = some i → i ≤ n + fs.length
  | [], [], _, _, h => by cases h
  | [], _ :: _, n, i, h => by
    have : n = i := Option.some.inj h
    omega
  | _ :: _, [], n, i, h => by
    have : n = i := Option.some.inj h
    omega
  | f :: fs, u :: us, n, i, h => by
    rw [needV] at h
    split at h
    · have := needV_le h
      rw [List.length_cons]
      omega
    · have : n = i := Option.some.inj h
      omega
theorem wordV_strOk {fs : List Fd} {us : List Int} (h : fs.length ≤ 4) : PyData.strOk (wordV fs us) = true := by
  unfold wordV
  cases e : needV 0 fs us with
  | none => decide +kernel
  | some i =>
    have hi := needV_le e
    have : i = 0 ∨ i = 1 ∨ i = 2 ∨ i = 3 ∨ i = 4 := by omega
    rcases this with rfl | rfl | rfl | rfl | rfl <;> decide +kernel
theorem wordV_nil {fs : List Fd} {us : List Int} : wordV fs us = "" ↔ needV 0 fs us = none := by
  unfold wordV
  cases e : needV 0 fs us with
  | none => exact Iff.intro (fun _ => rfl) (fun _ => rfl)
  | some i =>
    refine Iff.intro (fun h => ?_) (fun h => (by cases h))
    have h2 := congrArg Str.length h
    rw [sapT] at h2
    have e1 : ("badvalue " : Str).length = 9 := by decide +kernel
    have e2 : ("" : Str).length = 0 := by decide +kernel
    rw [e1, e2] at h2
    omega
theorem okd_two {n : Nat} {d e : PyData} (h1 : OkD n d) (h2 : OkD n e) : OkD (n + 1) (.list [d, e]) := by
  refine ⟨by show 2 ≤ 100000; decide, fun x hx => ?_⟩
  rcases List.mem_cons.mp hx with rfl | hx
  · exact h1
  · rw [List.mem_singleton.mp hx]
    exact h2
def oB : Option Bool → PyData
  | none => .none
  | some b => .bool b
def oBV : Option Bool → V
  | none => .non
  | some b => .bl b
theorem im_oB {K : PySem.W.Frag} {L : List (As K)} (o : Option Bool) : Dat L (oBV o) (oB o) := by
  cases o
  · exact .non
  · exact .bl _
theorem oB_ok {n : Nat} (o : Option Bool) : OkD n (oB o) := by
  cases o <;> cases n <;> trivial
def oI : Option Nat → PyData
  | none => .none
  | some n => .int (n : Int)
def oIV : Option Nat → V
  | none => .non
  | some n => .int (n : Int)
theorem im_oI {K : PySem.W.Frag} {L : List (As K)} (o : Option Nat) : Dat L (oIV o) (oI o) := by
  cases o
  · exact .non
  · exact .int _
theorem oI_ok {n : Nat} (o : Option Nat) : OkD n (oI o) := by
  cases o <;> cases n <;> trivial
theorem uni_oB {K : PySem.W.Frag} {H : Hp} {v : V} {o : Option Bool} (h : Im K H v (oB o)) : v = oBV o := by
  cases o with
  | none => cases h; rfl
  | some b => exact im_bl h
theorem uni_oI {K : PySem.W.Frag} {H : Hp} {v : V} {o : Option Nat} (h : Im K H v (oI o)) : v = oIV o := by
  cases o with
  | none => cases h; rfl
  | some n => exact im_int h
theorem tu_due {K : PySem.W.Frag} {L : List (As K)} {H : Hp} {p : Addr} {o1 : Option Bool} {o2 : Option Nat} (h : Ls.Sep L H) (m : im (.ref p) (.tuple [oB o1, oI o2]) ∈ L) : Ls.Sep (tu p [oBV o1, oIV o2] :: L) H := by
  obtain ⟨a', xs, e, h1, h2⟩ := im_tup (h.imm m)
  cases e
  cases h2 with
  | cons g1 h2 => cases h2 with
    | cons g2 h2 =>
      cases h2
      cases uni_oB g1
      cases uni_oI g2
      exact Sep.tu_iff.mpr ⟨h1, h⟩
theorem okd_rows {s : Jp} {R : List RowW} {c m : Nat} (h : RawRows c m R) (hc : c ≤ 100) (hm : m ≤ 20) (hR : R.length ≤ 1000) : OkD 24 (.tuple [jD s, .list (R.map rwD)]) := by
  have okj : ∀ {n : Nat} (j : Jp), OkD n (jD j) := fun {n} j => by cases j <;> cases n <;> trivial
  refine ⟨by show 2 ≤ 100000; decide, fun x hx => ?_⟩
  rcases List.mem_cons.mp hx with h1 | hx
  · rw [h1]; exact okj s
  · rw [List.mem_singleton.mp hx]
    refine ⟨by rw [List.length_map]; omega, fun y hy => ?_⟩
    obtain ⟨r, hr, rfl⟩ := List.mem_map.mp hy
    refine ⟨by show 3 ≤ 100000; decide, fun z hz => ?_⟩
    simp only [List.mem_cons, List.not_mem_nil, or_false] at hz
    rcases hz with rfl | rfl | rfl
    · obtain ⟨xs, e, k⟩ := h r hr
      rw [e]
      exact raw_okd (c := c) (Nat.le_trans hc (by decide)) (k.mono (Nat.le_refl _) (Nat.le_trans hm (by decide)))
    · exact okj _
    · exact okj _
end Ls
namespace Lw
open PySem PySem.Spec PyProof.Rows L2 Ls LamX TL
local macro_rules | `(tactic| walk_at "dat") => `(tactic| with_reducible first | exact im_oB _ | exact im_oI _)
theorem ok_law {P : Program} {w : World} {K : PySem.W.Frag} {mg : Str → Option Value} {base : Heap} (E : Env K mg w) {c Pt : Addr} {T : List (Addr × Str)} (hc : E.fd_law.code = .ref c) (TB : LamX.TabB base mg c Pt) (hmT : (Pt, lq_law ++ ("<lambda>" : Str)) ∈ T) (huT : ∀ p ∈ T, p.1 = Pt → p.2 = lq_law ++ ("<lambda>" : Str)) : FnOk P w K mg base (L2.CX P w) 20 E.a_law E.fd_law ["_law_script"] (spLaw K T) := by
  obtain ⟨oc, od, dV, kV, doc, pm, an, cdv, ct, osl, e, lk, hcd, _, _⟩ := E.F_law.ex
  rw [e] at lk hc ⊢
  change cdv = .ref c at hc
  subst hc
  refine fn_of lk hcd sc_law (fun vs H Q E h => ?_) (fun A outer s H vs Q E' hr h => ?_)
  · walk_at "hl"
  · have hu := huOf hr
    have G__law_begin := ok__law_begin (P := P) (w := w) (base := base) E
    have hr__law_begin := hr.mono (show 1 ≤ 19 by decide)
    have b__law_begin := b__law_begin E
    have G__law_same := ok__law_same (P := P) (w := w) (base := base) E 4
    have hr__law_same := hr.mono (show 5 ≤ 19 by decide)
    have b__law_same := b__law_same E
    have G__law_kind_of := ok__law_kind_of (P := P) (w := w) (base := base) E
    have hr__law_kind_of := hr.mono (show 6 ≤ 19 by decide)
    have b__law_kind_of := b__law_kind_of E
    have G__law_some_way := ok__law_some_way (P := P) (w := w) (base := base) E
    have hr__law_some_way := hr.mono (show 14 ≤ 19 by decide)
    have b__law_some_way := b__law_some_way E
    have G__law_kept_way := ok__law_kept_way (P := P) (w := w) (base := base) E
    have hr__law_kept_way := hr.mono (show 3 ≤ 19 by decide)
    have b__law_kept_way := b__law_kept_way E
    have G__law_way_ok := ok__law_way_ok (P := P) (w := w) (base := base) E
    have hr__law_way_ok := hr.mono (show 14 ≤ 19 by decide)
    have b__law_way_ok := b__law_way_ok E
    have G__law_values := ok__law_values (P := P) (w := w) (base := base) E
    have hr__law_values := hr.mono (show 4 ≤ 19 by decide)
    have b__law_values := b__law_values E
    have G_Kind___init__ := ok_Kind___init__ (P := P) (w := w) (base := base) E
    have hr_Kind___init__ := hr.mono (show 3 ≤ 19 by decide)
    have hrm_Kind := hr.mono (show 3 + 1 ≤ 19 by decide)
    have b_Kind___init__ := b_Kind___init__ E
    have G__law_pick := ok__law_pick (P := P) (w := w) (base := base) E
    have hr__law_pick := hr.mono (show 1 ≤ 19 by decide)
    have b__law_pick := b__law_pick E
    have G__law_bent_way := ok__law_bent_way (P := P) (w := w) (base := base) E
    have hr__law_bent_way := hr.mono (show 14 ≤ 19 by decide)
    have b__law_bent_way := b__law_bent_way E
    have G__law_bent_values := ok__law_bent_values (P := P) (w := w) (base := base) E
    have hr__law_bent_values := hr.mono (show 4 ≤ 19 by decide)
    have b__law_bent_values := b__law_bent_values E
    have G__law_values_word := ok__law_values_word (P := P) (w := w) (base := base) E
    have hr__law_values_word := hr.mono (show 2 ≤ 19 by decide)
    have b__law_values_word := b__law_values_word E
    have G__law_walked := ok__law_walked (P := P) (w := w) (base := base) E
    have hr__law_walked := hr.mono (show 10 ≤ 19 by decide)
    have b__law_walked := b__law_walked E
    have G_is_way := ok_is_way (P := P) (w := w) (base := base) E
    have hr_is_way := hr.mono (show 13 ≤ 19 by decide)
    have b_is_way := b_is_way E
    have G_run := okX_run (P := P) (w := w) (base := base) E
    have hr_run := hr.mono (show 15 ≤ 19 by decide)
    have b_run := b_run E
    have G_steps := okX_steps (P := P) (w := w) (base := base) E
    have hr_steps := hr.mono (show 15 ≤ 19 by decide)
    have b_steps := b_steps E
    have G_shorter := okX_shorter (P := P) (w := w) (base := base) E
    have hr_shorter := hr.mono (show 15 ≤ 19 by decide)
    have b_shorter := b_shorter E
    have hcl_Kind := E.cl_Kind
    obtain ⟨a, ns, rfl, hT, hs, hl, q⟩ := h
    refine ⟨_, PSs.nox (pss_cons (ps_set (i := 1) sc_law.nd rfl (Or.inl rfl) (pe_call G__law_begin hr__law_begin rfl E.g__law_begin E.F__law_begin.kp b__law_begin .nil pass0 (pa_cons (pv 0) pa_nil)))
(pss_cons (ps_for PassesOwn.never rfl (pi_range1 rfl E.n_range (pa_cons pe_int pa_nil)) (pg_name (i := 2) sc_law.nd rfl (Or.inl rfl))
(pss_cons (ps_asg (pe_call G__law_kind_of hr__law_kind_of rfl E.g__law_kind_of E.F__law_kind_of.kp b__law_kind_of .nil pass0 (pa_cons (pv 1) pa_nil)) (kGTup (n := 2) K rfl (pg_tup rfl (pgs_cons (pg_name (i := 3) sc_law.nd rfl (Or.inl rfl)) (pgs_cons (pg_name (i := 4) sc_law.nd rfl (Or.inl rfl)) pgs_nil)))))
(pss_cons (ps_set (i := 5) sc_law.nd rfl (Or.inl rfl) (pe_call G__law_some_way hr__law_some_way rfl E.g__law_some_way E.F__law_some_way.kp b__law_some_way .nil pass0 (pa_cons (pv 1) (pa_cons (pv 3) (pa_cons (pv 4) pa_nil)))))
(pss_cons (ps_for PassesOwn.never rfl (pi_range1 rfl E.n_range (pa_cons (pe_call G__law_pick hr__law_pick rfl E.g__law_pick E.F__law_pick.kp b__law_pick .nil pass0 (pa_cons (pv 1) (pa_cons pe_int pa_nil))) pa_nil)) (pg_name (i := 6) sc_law.nd rfl (Or.inl rfl))
(pss_one (ps_set (i := 5) sc_law.nd rfl (Or.inl rfl) (pe_call G__law_bent_way hr__law_bent_way rfl E.g__law_bent_way E.F__law_bent_way.kp b__law_bent_way .nil pass0 (pa_cons (pv 1) (pa_cons (pv 5) pa_nil))))))
(pss_cons (ps_set (i := 7) sc_law.nd rfl (Or.inr rfl) (pe_call G__law_kept_way hr__law_kept_way rfl E.g__law_kept_way E.F__law_kept_way.kp b__law_kept_way .nil pass0 (pa_cons (pv 5) pa_nil)))
(pss_cons (ps_set (i := 8) sc_law.nd rfl (Or.inl rfl) (pe_call G__law_way_ok hr__law_way_ok rfl E.g__law_way_ok E.F__law_way_ok.kp b__law_way_ok .nil pass0 (pa_cons (pv 5) pa_nil)))
(pss_cons (ps_if (pt_not (pt_val (pe_call G__law_same hr__law_same rfl E.g__law_same E.F__law_same.kp b__law_same .nil pass0 (pa_cons (pe_call G_is_way hr_is_way rfl E.g_is_way E.F_is_way.kp b_is_way .nil pass0 (pa_cons (pv 7) pa_nil)) (pa_cons (pv 8) pa_nil))))) (pss_one (ps_ret pe_bl)) pss_nil)
(pss_cons (ps_set (i := 9) sc_law.nd rfl (Or.inr rfl) (pe_call G__law_values hr__law_values rfl E.g__law_values E.F__law_values.kp b__law_values .nil pass0 (pa_cons (pv 1) (pa_cons (pv 4) pa_nil))))
(pss_cut (ps_if (pt_cmpR (op_eqU K rfl hu) (pe_call G__law_pick hr__law_pick rfl E.g__law_pick E.F__law_pick.kp b__law_pick .nil pass0 (pa_cons (pv 1) (pa_cons pe_int pa_nil))) pe_int (nomark _)) (pss_one (ps_set (i := 9) sc_law.nd rfl (Or.inr rfl) (pe_call G__law_bent_values hr__law_bent_values rfl E.g__law_bent_values E.F__law_bent_values.kp b__law_bent_values .nil pass0 (pa_cons (pv 1) (pa_cons (pv 4) (pa_cons (pv 9) pa_nil)))))) pss_nil)
(pss_cons (ps_set (i := 10) sc_law.nd rfl (Or.inl rfl) (pe_join (pe_ifExp (pt_val (pv 8)) (pe_call G__law_values_word hr__law_values_word rfl E.g__law_values_word E.F__law_values_word.kp b__law_values_word .nil pass0 (pa_cons (pv 4) (pa_cons (pv 9) pa_nil))) pe_str)))
(pss_cons (ps_set (i := 11) sc_law.nd rfl (Or.inl rfl) (pe_join (pe_ifExp (pt_cmpR (op_eqU K rfl hu) (pv 10) pe_str (nomark _)) (pe_call G__law_walked hr__law_walked rfl E.g__law_walked E.F__law_walked.kp b__law_walked .nil pass0 (pa_cons (pv 5) (pa_cons (pv 3) (pa_cons (pv 4) (pa_cons (pv 9) pa_nil))))) (pe_tup (pa_cons pe_non (pa_cons pe_non pa_nil))))))
(pss_cons (ps_set (i := 12) sc_law.nd rfl (Or.inr rfl) (pe_make E.mk_Kind G_Kind___init__ hrm_Kind rfl E.g_Kind b_Kind___init__ .nil pass0 (pa_cons (pv 3) (pa_cons (pv 4) pa_nil))))
(pss_cons (ps_if (pt_not (pt_val (pe_call G__law_same hr__law_same rfl E.g__law_same E.F__law_same.kp b__law_same .nil pass0 (pa_cons (pe_askT E rfl rfl (q := lq_law) rfl TB rfl hmT huT hr (lamS_by rfl) rfl (fun _ _ _ _ _ => rfl) (fun A outer s H E' f c' hr' => (pe_call G_run (hr'.mono (show 15 ≤ 17 by decide)) rfl E.g_run E.F_run.kp b_run .nil (passes_call (takes_of rfl rfl rfl rfl) fun _ _ _ _ h => h) (pa_cons (pv 7) (pa_cons (pv 12) (pa_cons (pv 9) pa_nil)))))) (pa_cons (pe_lst (pa_cons (pv 10) (pa_cons (pe_ix (ix_U K rfl) (pv 11) pe_int (fun _ _ => rfl)) pa_nil))) pa_nil))))) (pss_one (ps_ret pe_bl)) pss_nil)
(pss_cons (ps_if (pt_not (pt_val (pe_call G__law_same hr__law_same rfl E.g__law_same E.F__law_same.kp b__law_same .nil pass0 (pa_cons (pe_askT E rfl rfl (q := lq_law) rfl TB rfl hmT huT hr (lamS_by rfl) rfl (fun _ _ _ _ _ => rfl) (fun A outer s H E' f c' hr' => (pe_call G_steps (hr'.mono (show 15 ≤ 17 by decide)) rfl E.g_steps E.F_steps.kp b_steps .nil (passes_call (takes_of rfl rfl rfl rfl) fun _ _ _ _ h => h) (pa_cons (pv 7) (pa_cons (pv 12) (pa_cons (pv 9) pa_nil)))))) (pa_cons (pe_lst (pa_cons (pv 10) (pa_cons (pe_ix (ix_U K rfl) (pv 11) pe_int (fun _ _ => rfl)) pa_nil))) pa_nil))))) (pss_one (ps_ret pe_bl)) pss_nil)
(pss_one (ps_if (PW.pt (pw_or (pt_cmpR (op_neU K rfl hu) (pe_ix (ix_U K rfl) (pe_askT E rfl rfl (q := lq_law) rfl TB rfl hmT huT hr (lamS_by rfl) rfl (fun _ _ _ _ _ => rfl) (fun A outer s H E' f c' hr' => (pe_call G_shorter (hr'.mono (show 15 ≤ 17 by decide)) rfl E.g_shorter E.F_shorter.kp b_shorter .nil (passes_call (takes_of rfl rfl rfl rfl) fun _ _ _ _ h => h) (pa_cons (pv 7) pa_nil)))) pe_int (fun _ _ => rfl)) (pe_join (pe_ifExp (pt_val (pv 8)) pe_str pe_str)) (nomark _)) (pw_or1 (pt_cmpR (op_neU K rfl hu) (pv 7) (pv 5) (nomark _))))) (pss_one (ps_ret pe_bl)) pss_nil))))))))))))))))
(pss_one (ps_ret (pe_call G__law_same hr__law_same rfl E.g__law_same E.F__law_same.kp b__law_same .nil pass0 (pa_cons (pe_lst (pa_cons (pe_call G_is_way hr_is_way rfl E.g_is_way E.F_is_way.kp b_is_way .nil pass0 (pa_cons (pe_tup (pa_cons pe_bl (pa_cons (pe_lst pa_nil) pa_nil))) pa_nil)) (pa_cons (pe_call G_is_way hr_is_way rfl E.g_is_way E.F_is_way.kp b_is_way .nil pass0 (pa_cons (pe_tup (pa_cons pe_int (pa_cons (pe_lst pa_nil) pa_nil))) pa_nil)) pa_nil))) (pa_cons (pe_lst (pa_cons pe_bl (pa_cons pe_bl pa_nil))) pa_nil))))))), ?_⟩
    refine k_body (s1 := some _ :: [none, none, none, none, none, none, none, none, none, none, none, none]) rfl ?_
    have hS := Sep.tabs0 (K := K) hT
    walk_at "s"
    refine use_beginS (L := [tabsA T]) hS hs hl (fun d H hS => ?_)
    walk_at "s"
    refine for_wk (n := (4 : Int).toNat) (fun i σ L' => L' = [dr d, tabsA T] ∧ ∃ c2 c3 c4 c5 c6 c7 c8 c9 c10 c11 c12, σ = [some (.ref a), some (.ref d), c2, c3, c4, c5, c6, c7, c8, c9, c10, c11, c12]) (fun i σ L' _ => wk_rng) hS ⟨rfl, _, _, _, _, _, _, _, _, _, _, _, rfl⟩ (fun i σ L' hi iv H hS => ?_) (fun σ L' H iv hS => ?_)
    · obtain ⟨rfl, c2, c3, c4, c5, c6, c7, c8, c9, c10, c11, c12, rfl⟩ := iv
      walk_at "ns"
      walk_at "s"
      refine ⟨d, _, rfl, hS, by walk_at "mem", fun pk k H gk hS => ?_⟩
      have gfs := gk.2
      have h4 := gfs.1
      walk_at "s"
      obtain ⟨pf, epf⟩ : ∃ pf, pf = v := ⟨_, rfl⟩
      rw [← epf] at hS ⊢
      clear epf
      refine ⟨d, pf, k.1, k.2, _, rfl, hS, by walk_at "mem", by walk_at "mem", gk.1, gfs, fun t pw0 pr0 H hto htd htp hS => ?_⟩
      obtain ⟨hwk, hwl, _⟩ := mkW_ok hto
      have hll := leaves_len t
      walk_at "s"
      walk_at "pk"
      intro rr H hS rr0 rr1
      walk_at "s"
      obtain ⟨n2, rfl⟩ := Int.eq_ofNat_of_zero_le rr0
      have hn2 : n2 ≤ 2 := by omega
      rw [Int.toNat_natCast]
      refine for_wk (D := { nx := _, rt := Q, bk := fun _ _ => True, ct := fun _ _ => True }) (n := n2) (fun j σ L' => ∃ (pw pr : Addr) (s : Jp) (R : List RowW), R.length ≤ 15 + j ∧ RawRows (3 + j) (1 + 2 * j) R ∧ L' = [tu pw [jV s, .ref pr], Ls.ld pr (R.map rwD), im (.ref pf) (fdsD k.2), dr d, tabsA T] ∧ ∃ e6, σ = [some (.ref a), some (.ref d), some (.int (0 + i)), some (.str k.1), some (.ref pf), some (.ref pw), e6, c7, c8, c9, c10, c11, c12]) (fun j σ L' _ => wk_rng) (show Ls.Sep [tu pw0 [jV (mkW t).1, .ref pr0], Ls.ld pr0 ((mkW t).2.map rwD), im (.ref pf) (fdsD k.2), dr d, tabsA T] _ from Sub.ok (by walk_at "sub") hS) ⟨pw0, pr0, _, _, by omega, hwk.rawR, rfl, _, rfl⟩ (fun j σ L' hj iv H hS => ?_) (fun σ L' H iv hS => ?_)
      · obtain ⟨pw, pr, s, R, hRl, hRr, rfl, e6, rfl⟩ := iv
        walk_at "ns"
        walk_at "s"
        refine ⟨d, pw, pr, s, R, 3 + j, 1 + 2 * j, _, rfl, hS, by walk_at "mem", by walk_at "mem", by walk_at "mem", by omega, hRr, by omega, by omega, by omega, by omega, fun s' R' pw' pr' H hR' hr' hS => ?_⟩
        walk_at "s"
        exact ⟨_, ⟨pw', pr', s', R', by omega, hr'.mono (by omega) (by omega), rfl, _, rfl⟩, Sub.ok (by walk_at "sub") hS⟩
      obtain ⟨pw, pr, s, R, hRl, hRr, rfl, e6, rfl⟩ := iv
      replace hRl : R.length ≤ 17 := by omega
      replace hRr : RawRows 5 5 R := hRr.mono (by omega) (by omega)
      have hraw := hRr.raw (by decide)
      clear hwk hwl hll hto htd htp
      walk_at "s"
      refine ⟨pw, pr, s, R, _, rfl, hS, by walk_at "mem", by walk_at "mem", fun ph pr2 H hS => ?_⟩
      walk_at "s"
      refine ⟨pw, pr, s, R, 5, _, rfl, hS, by walk_at "mem", by walk_at "mem", by omega, hraw, by decide, fun H hS => ?_⟩
      walk_at "s"
      refine ⟨ph, pr2, s, R, 5, _, rfl, hS, by walk_at "mem", by walk_at "mem", by omega, hraw, by decide, fun H hS => ?_⟩
      walk_at "s"
      refine use_sameD (n := 4) (d := .bool (decide (WayOk s R))) hS (.dat (.bl _)) (.dat (.bl _)) trivial fun H hS => ?_
      walk_at "s"
      refine ⟨d, pf, k, _, rfl, hS, by walk_at "mem", by walk_at "mem", gk, fun pv us H hul hS => ?_⟩
      walk_at "s"
      obtain ⟨LA, eLA⟩ : ∃ LA : List (As K), LA = [tu ph [jV s, .ref pr2], Ls.ld pr2 (R.map rwD), tu pw [jV s, .ref pr], Ls.ld pr (R.map rwD), im (.ref pf) (fdsD k.2), dr d, tabsA T] := ⟨_, rfl⟩
      refine k_cut (fun σ H => ∃ (pv : Addr) (us : List Int), σ = [some (.ref a), some (.ref d), some (.int (0 + i)), some (.str k.1), some (.ref pf), some (.ref pw), e6, some (.ref ph), some (.bl (decide (WayOk s R))), some (.ref pv), c10, c11, c12] ∧ us.length ≤ 50 ∧ Ls.Sep (K := K) [im (.ref pv) (intsT us), tu ph [jV s, .ref pr2], Ls.ld pr2 (R.map rwD), tu pw [jV s, .ref pr], Ls.ld pr (R.map rwD), im (.ref pf) (fdsD k.2), dr d, tabsA T] H) ?_ ?_
      · walk_at "s"
        walk_at "pk"
        intro r2 H hS r20 r21
        walk_at "s"
        by_cases b : r2 = 0
        · rw [if_pos (decide_eq_true b)]
          walk_at "s"
          refine ⟨d, pv, _, us, _, rfl, hS, by walk_at "mem", by walk_at "mem", by omega, fun p2 ws H hl2 hS => ?_⟩
          walk_at "s"
          exact ⟨p2, ws, rfl, by omega, Sub.ok (by walk_at "sub") hS⟩
        · rw [if_neg (by rw [decide_eq_false b]; exact Bool.false_ne_true)]
          walk_at "s"
          exact ⟨pv, us, rfl, by omega, Sub.ok (by walk_at "sub") hS⟩
      clear hS hul
      rintro σ H ⟨pv, us, rfl, hul, hS⟩
      walk_at "s"
      obtain ⟨zw, ezw⟩ : ∃ zw : Str, (WayOk s R → zw = wordV k.2 us) ∧ (¬ WayOk s R → zw = "badway") := by
        by_cases hw : WayOk s R
        · exact ⟨wordV k.2 us, fun _ => rfl, fun n => (n hw).elim⟩
        · exact ⟨"badway", fun h => (hw h).elim, fun _ => rfl⟩
      have zwok : PyData.strOk zw = true := by
        by_cases hw : WayOk s R
        · rw [ezw.1 hw]; exact wordV_strOk h4
        · rw [ezw.2 hw]; decide +kernel
      obtain ⟨o, eo⟩ : ∃ o : Option (Bool × Nat), (WayOk s R → needV 0 k.2 us = none → ∃ b c, Gn k us R s b c ∧ c ≤ R.length ∧ o = some (b, c)) ∧ ((¬ WayOk s R ∨ needV 0 k.2 us ≠ none) → o = none) := by
        by_cases hw : WayOk s R
        · cases en : needV 0 k.2 us with
          | none =>
            obtain ⟨b, c, hg, hc⟩ := hw.wk (k := k) (us := us)
            exact ⟨some (b, c), fun _ _ => ⟨b, c, hg, hc, rfl⟩, fun h => h.elim (fun n => (n hw).elim) fun n => (n rfl).elim⟩
          | some i0 => exact ⟨none, fun _ z => (by cases z), fun _ => rfl⟩
        · exact ⟨none, fun h => (hw h).elim, fun _ => rfl⟩
      have hz0 : zw = "" ↔ WayOk s R ∧ needV 0 k.2 us = none := by
        by_cases hw : WayOk s R
        · rw [ezw.1 hw, wordV_nil]
          exact ⟨fun h => ⟨hw, h⟩, fun h => h.2⟩
        · rw [ezw.2 hw]
          exact ⟨fun h => absurd h (by decide +kernel), fun h => (hw h.1).elim⟩
      refine k_join (fun u H => u = V.str zw ∧ Ls.Sep (K := K) [im (.ref pv) (intsT us), tu ph [jV s, .ref pr2], Ls.ld pr2 (R.map rwD), tu pw [jV s, .ref pr], Ls.ld pr (R.map rwD), im (.ref pf) (fdsD k.2), dr d, tabsA T] H) ?_ ?_
      · walk_at "s"
        by_cases hw : WayOk s R
        · rw [decide_eq_true hw, ezw.1 hw]
          walk_at "s"
          refine ⟨pf, pv, k.2, us, _, rfl, hS, by walk_at "mem", by walk_at "mem", h4, by omega, fun H hS => ?_⟩
          walk_at "s"
          exact ⟨rfl, Sub.ok (by walk_at "sub") hS⟩
        · rw [decide_eq_false hw, ezw.2 hw]
          walk_at "s"
          exact ⟨rfl, hS⟩
      clear hS
      rintro _ H ⟨rfl, hS⟩
      walk_at "s"
      refine k_join (fun u H => ∃ pd, u = V.ref pd ∧ Ls.Sep (K := K) [tu pd [oBV (o.map (·.1)), oIV (o.map (·.2))], im (.ref pv) (intsT us), tu ph [jV s, .ref pr2], Ls.ld pr2 (R.map rwD), tu pw [jV s, .ref pr], Ls.ld pr (R.map rwD), im (.ref pf) (fdsD k.2), dr d, tabsA T] H) ?_ ?_
      · walk_at "s"
        by_cases hz : zw = ""
        · obtain ⟨hw, en⟩ := hz0.mp hz
          obtain ⟨b, c, hg, hc, rfl⟩ := eo.1 hw en
          rw [if_pos (decide_eq_true hz)]
          walk_at "s"
          refine ⟨pw, pr, pf, pv, s, R, k, us, b, c, _, rfl, hS, by walk_at "mem", by walk_at "mem", by walk_at "mem", by walk_at "mem", h4, (needV_inF.mp en).1, hw, hg, hc, by omega, fun p H hS => ?_⟩
          walk_at "s"
          exact ⟨p, rfl, Sub.ok (by show Sub _ (tu p [oBV (some b), oIV (some c)] :: _); walk_at "sub") (tu_due (o1 := some b) (o2 := some c) hS List.mem_cons_self)⟩
        · have eo2 : o = none := eo.2 (by
            by_cases hw : WayOk s R
            · exact .inr fun en => hz (hz0.mpr ⟨hw, en⟩)
            · exact .inl hw)
          rw [if_neg (by rw [decide_eq_false hz]; exact Bool.false_ne_true), eo2]
          walk_at "s"
          exact ⟨p, rfl, Sub.ok (by show Sub _ (tu p [oBV none, oIV none] :: _); walk_at "sub") (tu_due (o1 := none) (o2 := none) hS List.mem_cons_self)⟩
      clear hS
      rintro _ H ⟨pd, rfl, hS⟩
      walk_at "s"
      obtain ⟨xk, exk⟩ : ∃ xk : Addr, xk = x := ⟨_, rfl⟩
      rw [← exk] at hS ⊢
      clear exk
      refine ⟨_, pf, k, _, rfl, hS, by walk_at "mem", gk, fun H hS => ?_⟩
      refine ⟨rfl, ?_⟩
      walk_at "s"
      refine k_lamS hS (by walk_at "rem") ?_
      clear hS
      intro H hS
      refine task_by (fun v w H => w = zw ∧ v = oBV (o.map (·.1)) ∧ Ls.Sep (K := K) [tabsA T, kindF E.C_Kind xk k, tu pd [oBV (o.map (·.1)), oIV (o.map (·.2))], im (.ref pv) (intsT us), tu ph [jV s, .ref pr2], Ls.ld pr2 (R.map rwD), tu pw [jV s, .ref pr], Ls.ld pr (R.map rwD), im (.ref pf) (fdsD k.2), dr d] H) ?_ ?_
      · clear hS
        rintro v1 w1 H ⟨ew, ev, hS⟩ pz hp
        obtain rfl : zw = w1 := ew.symm
        subst ev
        replace hS := hS.newD (p := pz) (xs := [.str zw, oBV (o.map (·.1))]) (ds := [.str zw, oB (o.map (·.1))]) hp (.cons (.str _) (.cons (im_oB _) .nil))
        walk_at "s"
        refine use_sameD hS (.ld (by walk_at "mem")) (.ld (by walk_at "mem")) (n := 4) (d := .list [.str zw, oB (o.map (·.1))]) (okd_two (show PyData.strOk _ = true from zwok) (oB_ok _)) fun H hS => ?_
        refine ⟨_, rfl, ?_⟩
        rw [if_neg (by decide)]
        walk_at "s"
        replace hS : Ls.Sep [kindF E.C_Kind xk k, tu pd [oBV (o.map (·.1)), oIV (o.map (·.2))], im (.ref pv) (intsT us), tu ph [jV s, .ref pr2], Ls.ld pr2 (R.map rwD), tu pw [jV s, .ref pr], Ls.ld pr (R.map rwD), im (.ref pf) (fdsD k.2), dr d, tabsA T] _ := Sub.ok (by walk_at "sub") hS
        refine k_lamS hS (by walk_at "rem") ?_
        clear hS
        intro H hS
        refine task_by (fun v w H => w = zw ∧ v = oIV (o.map (·.2)) ∧ Ls.Sep (K := K) [tabsA T, kindF E.C_Kind xk k, tu pd [oBV (o.map (·.1)), oIV (o.map (·.2))], im (.ref pv) (intsT us), tu ph [jV s, .ref pr2], Ls.ld pr2 (R.map rwD), tu pw [jV s, .ref pr], Ls.ld pr (R.map rwD), im (.ref pf) (fdsD k.2), dr d] H) ?_ ?_
        · clear hS
          rintro v1 w1 H ⟨ew, ev, hS⟩ pz hp
          obtain rfl : zw = w1 := ew.symm
          subst ev
          replace hS := hS.newD (p := pz) (xs := [.str zw, oIV (o.map (·.2))]) (ds := [.str zw, oI (o.map (·.2))]) hp (.cons (.str _) (.cons (im_oI _) .nil))
          walk_at "s"
          refine use_sameD hS (.ld (by walk_at "mem")) (.ld (by walk_at "mem")) (n := 4) (d := .list [.str zw, oI (o.map (·.2))]) (okd_two (show PyData.strOk _ = true from zwok) (oI_ok _)) fun H hS => ?_
          refine ⟨_, rfl, ?_⟩
          rw [if_neg (by decide)]
          walk_at "s"
          replace hS : Ls.Sep [kindF E.C_Kind xk k, tu pd [oBV (o.map (·.1)), oIV (o.map (·.2))], im (.ref pv) (intsT us), tu ph [jV s, .ref pr2], Ls.ld pr2 (R.map rwD), tu pw [jV s, .ref pr], Ls.ld pr (R.map rwD), im (.ref pf) (fdsD k.2), dr d, tabsA T] _ := Sub.ok (by walk_at "sub") hS
          obtain ⟨zg, ezg⟩ : ∃ zg : Str, (WayOk s R → zg = "") ∧ (¬ WayOk s R → zg = "badway") := by
            by_cases hw : WayOk s R
            · exact ⟨"", fun _ => rfl, fun n => (n hw).elim⟩
            · exact ⟨"badway", fun h => (hw h).elim, fun _ => rfl⟩
          refine k_lamS hS (by walk_at "rem") ?_
          clear hS
          intro H hS
          refine task_by (fun v w H => w = zg ∧ Ls.Sep (K := K) [tabsA T, tu ph [jV s, .ref pr2], Ls.ld pr2 (R.map rwD), tu pw [jV s, .ref pr], Ls.ld pr (R.map rwD), dr d] H) ?_ ?_
          · clear hS
            rintro v w2 H ⟨ew, hS⟩ pz hp
            obtain rfl : zg = w2 := ew.symm
            replace hS := hS.new (p := pz) (o := .lst [.str zg, v]) hp rfl
            have h0 : atI [V.str zg, v] 0 = some (.str zg) := at00 _ _
            walk_at "s"
            replace hS : Ls.Sep [tu ph [jV s, .ref pr2], Ls.ld pr2 (R.map rwD), tu pw [jV s, .ref pr], Ls.ld pr (R.map rwD), dr d, tabsA T] _ := Sub.ok (by walk_at "sub") hS
            generalize upd H pz (.lst [.str zg, v]) = H9 at hS ⊢
            refine k_join (fun u H => u = V.str zg ∧ Ls.Sep (K := K) [tu ph [jV s, .ref pr2], Ls.ld pr2 (R.map rwD), tu pw [jV s, .ref pr], Ls.ld pr (R.map rwD), dr d, tabsA T] H) ?_ ?_
            · walk_at "s"
              by_cases hw : WayOk s R
              · rw [decide_eq_true hw, ezg.1 hw]
                walk_at "s"
                exact ⟨rfl, hS⟩
              · rw [decide_eq_false hw, ezg.2 hw]
                walk_at "s"
                exact ⟨rfl, hS⟩
            clear hS
            rintro _ H ⟨rfl, hS⟩
            walk_at "s"
            have okr := okd_rows (s := s) hRr (by decide) (by decide) (by omega)
            have hd1 : Dp K H (.ref pr2) (.list (R.map rwD)) := (Dl.ld (by walk_at "mem")).is hS
            have hd2 : Dp K H (.ref pr) (.list (R.map rwD)) := (Dl.ld (by walk_at "mem")).is hS
            refine k_neD (d := .tuple [jD s, .list (R.map rwD)]) (e := .tuple [jD s, .list (R.map rwD)]) (.tup (hS.tum (a := ph) (xs := [jV s, .ref pr2]) (by walk_at "mem")) (.cons (jV_im s).dp (.cons hd1 .nil))) (.tup (hS.tum (a := pw) (xs := [jV s, .ref pr]) (by walk_at "mem")) (.cons (jV_im s).dp (.cons hd2 .nil))) (okr.shaped (by decide)) (okr.shaped (by decide)) ?_
            rw [eqv_self okr]
            walk_at "s"
            exact ⟨_, ⟨rfl, _, _, _, _, _, _, _, _, _, _, _, rfl⟩, Sub.ok (by walk_at "sub") hS⟩
          · intro E' Q' qO qS qM qV
            walk_at "s"
            refine ⟨ph, pr2, s, R, 5, _, rfl, hS, by walk_at "mem", by walk_at "mem", by omega, hraw, by decide, fun hw S p1 p2 H _ hS => ?_, fun n => ?_⟩
            · exact qO _ _ ⟨(ezg.1 hw).symm, Sub.ok (by walk_at "sub") hS⟩
            · exact qS _ _ _ E.e_BadWay_BadValue E.e_BadWay_ScribeError E.x_BadWay E.w_BadWay fun H hS => ⟨(ezg.2 n).symm, Sub.ok (by walk_at "sub") hS⟩
        · intro E' Q' qO qS qM qV
          walk_at "s"
          refine ⟨ph, pr2, xk, pv, s, R, 5, k, us, _, rfl, hS, by walk_at "mem", by walk_at "mem", by walk_at "mem", by walk_at "mem", by omega, hraw, by decide, h4, by omega, fun hw en => ?_, fun n => ?_, fun hw i0 en => ?_⟩
          · obtain ⟨b, c, hg, hc, eo2⟩ := eo.1 hw en
            refine ⟨b, c, hg, by omega, fun H hS => ?_⟩
            exact qO _ _ ⟨((ezw.1 hw).trans (wordV_nil.mpr en)).symm, by rw [eo2]; rfl, Sub.ok (by walk_at "sub") hS⟩
          · exact qS _ _ _ E.e_BadWay_BadValue E.e_BadWay_ScribeError E.x_BadWay E.w_BadWay fun H hS => ⟨(ezw.2 n).symm, by rw [eo.2 (.inl n)]; rfl, Sub.ok (by walk_at "sub") hS⟩
          · have hi0 := needV_le en
            refine qV _ _ _ _ E.e_BadValue_BadValue E.x_BadValue E.f_BadValue (by
              have : ((i0 : Nat) : Int).natAbs < 10 ^ 7 := by omega
              exact Nat.lt_of_lt_of_le this (Nat.pow_le_pow_right (by decide) (by decide))) fun dx H hS => ⟨?_, by rw [eo.2 (.inr (by rw [en]; intro z; cases z))]; rfl, Sub.ok (by walk_at "sub") hS⟩
            rw [ezw.1 hw]
            show _ = wordV k.2 us
            unfold wordV
            rw [en]
      · intro E' Q' qO qS qM qV
        walk_at "s"
        refine ⟨ph, pr2, xk, pv, s, R, 5, k, us, _, rfl, hS, by walk_at "mem", by walk_at "mem", by walk_at "mem", by walk_at "mem", by omega, hraw, by decide, h4, by omega, fun hw en => ?_, fun n => ?_, fun hw i0 en => ?_⟩
        · obtain ⟨b, c, hg, hc, eo2⟩ := eo.1 hw en
          refine ⟨b, c, hg, by omega, fun H hS => ?_⟩
          exact qO _ _ ⟨((ezw.1 hw).trans (wordV_nil.mpr en)).symm, by rw [eo2]; rfl, Sub.ok (by walk_at "sub") hS⟩
        · exact qS _ _ _ E.e_BadWay_BadValue E.e_BadWay_ScribeError E.x_BadWay E.w_BadWay fun H hS => ⟨(ezw.2 n).symm, by rw [eo.2 (.inl n)]; rfl, Sub.ok (by walk_at "sub") hS⟩
        · have hi0 := needV_le en
          refine qV _ _ _ _ E.e_BadValue_BadValue E.x_BadValue E.f_BadValue (by
            have : ((i0 : Nat) : Int).natAbs < 10 ^ 7 := by omega
            exact Nat.lt_of_lt_of_le this (Nat.pow_le_pow_right (by decide) (by decide))) fun dx H hS => ⟨?_, by rw [eo.2 (.inr (by rw [en]; intro z; cases z))]; rfl, Sub.ok (by walk_at "sub") hS⟩
          rw [ezw.1 hw]
          show _ = wordV k.2 us
          unfold wordV
          rw [en]
    · obtain ⟨rfl, c2, c3, c4, c5, c6, c7, c8, c9, c10, c11, c12, rfl⟩ := iv
      walk_at "s"
      refine ⟨p, _, .en true, [], 0, _, rfl, hS, List.mem_cons_self, List.mem_cons_of_mem _ List.mem_cons_self, by decide, (fun r hr => nomatch hr), by decide, fun H hS => ?_⟩
      rw [decide_eq_true (show WayOk (.en true) [] from rfl)]
      walk_at "s"
      refine ⟨p, _, .go 0, [], 0, _, rfl, hS, List.mem_cons_self, List.mem_cons_of_mem _ List.mem_cons_self, by decide, (fun r hr => nomatch hr), by decide, fun H hS => ?_⟩
      rw [decide_eq_false (fun h : WayOk (.go 0) [] => h.2.1 rfl)]
      walk_at "s"
      refine use_sameD hS (.ld (by walk_at "mem")) (.ld (by walk_at "mem")) (n := 4) (d := .list [.bool true, .bool false]) (okd_two trivial trivial) fun H hS => ?_
      walk_at "s"
      exact q _
end Lw
theorem PySem.Challenge.cw_lanescribe_k09_ways_judged_and_gone_holds : PySem.Challenge.rw_lanescribe_k09_ways_judged_and_gone.Holds :=
  Lw.head_of @Lw.ok_law
