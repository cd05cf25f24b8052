import PyProof.Rows.All
import Wide.All
import OpenK.AllK
import Wide.FinOn
import PySem.Challenge.RW_lanescribe_k23_tallies_refused
import HandS.Head0
import HandS.Head1
import HandS.Head2
import HandS.HeadEnd
import HandS.HeadHook1
import HandS.HeadHook2
import HandS.HeadHook3
import HandS.HeadHook4
import HandS.HeadWalk
import HandS.EndTab
import KE.KNestM
import KE.KStateDown
import HandS.ForMost
import HandS.Exc
import HandS.TryOnly
import HandS.TryMany
import HandS.WordsExc
import HandS.Flow
import HandS.Style
import HandS.DictComp
import HandS.Deep
import HandS.Wide
import HandS.Defaults
import HandS.MakeKwOnly
import HandS.Zip
import HandS.TupAny
import HandS.TupLe
import HandS.IsInst
import HandS.Walk
import HandS.EndBits
import HandS.ClsMeth
import HandS.ExcInit
import HandS.ExcField
import HandS.Lambda
import HandS.ExcOwn
import KE.GoesMore
import HandS.Codes
import HandS.MakeKw
import HandS.OwnEq
import HandS.NamedTupGet
import OpenK.KOps
import KE.KDictZip
import HandS.Dict
import HandS.SetFor
import HandS.FStr
import KE.SortKeyHeap
import HandS.SortKw
import HandS.ExcValue
import KE.DataMinMax
import HandS.Strs
import HandS.Conv
import PyProof.WalksMore
import PyProof.CollectIter
import PyProof.InstNe
import HandS.More
import HandS.RaiseMore
import HandS.Text
import HandS.SortInts
import KE.IntTextLaws
import KE.KCallOwn
import PyProof.Conv_bool
set_option Elab.async false
set_option linter.all false
set_option maxRecDepth 100000
set_option maxHeartbeats 4000000
open PySem PySem.Spec PyProof.Rows L2
namespace Ls
end Ls
open Ls
-- own part: places
namespace Lw
open PySem PySem.Spec PyProof.Rows L2 Ls
def top (i : Nat) : Stmt := PySem.Challenge.pw_lanescribe_k23_tallies_refused.main.body.getD i (.Pass ⟨0, 0, 0, 0⟩)
abbrev s_law : Stmt := top 47
theorem sc_law : FnScope ["_law_script", "_law_d", "_law_turn", "_law_names", "_law_probe", "_law_cols", "_law_at", "_law_few", "_law_due", "_law_key", "_law_word_here", "_law_tally", "_law_found"] ["_law_script"] (defScope s_law) := ⟨rfl, rfl, rfl, by decide +kernel, rfl, by decide +kernel, by decide +kernel⟩
abbrev s__law_begin : Stmt := top 27
theorem sc__law_begin : FnScope ["_law_script", "_law_seed", "_law_cell"] ["_law_script"] (defScope s__law_begin) := ⟨rfl, rfl, rfl, by decide +kernel, rfl, by decide +kernel, by decide +kernel⟩
abbrev s__law_words : Stmt := top 33
theorem sc__law_words : FnScope ["_law_d", "_law_many", "_law_found", "_law_k", "_law_word_here", "_law_step"] ["_law_d", "_law_many"] (defScope s__law_words) := ⟨rfl, rfl, rfl, by decide +kernel, rfl, by decide +kernel, by decide +kernel⟩
abbrev s__law_test : Stmt := top 42
theorem sc__law_test : FnScope ["_law_d", "_law_names", "_law_kinds", "_law_test_here"] ["_law_d", "_law_names", "_law_kinds"] (defScope s__law_test) := ⟨rfl, rfl, rfl, by decide +kernel, rfl, by decide +kernel, by decide +kernel⟩
abbrev s__law_of : Stmt := top 29
theorem sc__law_of : FnScope ["_law_d", "_law_things"] ["_law_d", "_law_things"] (defScope s__law_of) := ⟨rfl, rfl, rfl, by decide +kernel, rfl, by decide +kernel, by decide +kernel⟩
abbrev s__law_ask : Stmt := top 35
theorem sc__law_ask : FnScope ["_law_ask_here", "_law_told", "_law_word_here", "e"] ["_law_ask_here"] (defScope s__law_ask) := ⟨rfl, rfl, rfl, by decide +kernel, rfl, by decide +kernel, by decide +kernel⟩
abbrev s__law_pick : Stmt := top 28
theorem sc__law_pick : FnScope ["_law_d", "_law_many", "_law_cell", "_law_digit", "_law_one"] ["_law_d", "_law_many"] (defScope s__law_pick) := ⟨rfl, rfl, rfl, by decide +kernel, rfl, by decide +kernel, by decide +kernel⟩
abbrev s__law_bent_test : Stmt := top 46
theorem sc__law_bent_test : FnScope ["_law_d", "_law_test_here", "_law_way", "_law_at"] ["_law_d", "_law_test_here"] (defScope s__law_bent_test) := ⟨rfl, rfl, rfl, by decide +kernel, rfl, by decide +kernel, by decide +kernel⟩
abbrev s__law_test_ok : Stmt := top 45
theorem sc__law_test_ok : FnScope ["_law_test_here"] ["_law_test_here"] (defScope s__law_test_ok) := ⟨rfl, rfl, rfl, by decide +kernel, rfl, by decide +kernel, by decide +kernel⟩
abbrev s__law_same : Stmt := top 31
theorem sc__law_same : FnScope ["_law_found", "_law_due", "_law_k"] ["_law_found", "_law_due"] (defScope s__law_same) := ⟨rfl, rfl, rfl, by decide +kernel, rfl, by decide +kernel, by decide +kernel⟩
abbrev s__law_far : Stmt := top 30
theorem sc__law_far : FnScope ["_law_d", "_law_number_here"] ["_law_d"] (defScope s__law_far) := ⟨rfl, rfl, rfl, by decide +kernel, rfl, by decide +kernel, by decide +kernel⟩
abbrev s_Tally___init__ : Stmt := inClass (top 25) 0
theorem sc_Tally___init__ : FnScope ["self", "test", "keys", "most", "key"] ["self", "test", "keys", "most"] (defScope s_Tally___init__) := ⟨rfl, rfl, rfl, by decide +kernel, rfl, by decide +kernel, by decide +kernel⟩
abbrev s_Tally_table : Stmt := inClass (top 25) 3
theorem sc_Tally_table : FnScope ["self", "key"] ["self"] (defScope s_Tally_table) := ⟨rfl, rfl, rfl, by decide +kernel, rfl, by decide +kernel, by decide +kernel⟩
abbrev s_Tally_dropped : Stmt := inClass (top 25) 4
theorem sc_Tally_dropped : FnScope ["self"] ["self"] (defScope s_Tally_dropped) := ⟨rfl, rfl, rfl, by decide +kernel, rfl, by decide +kernel, by decide +kernel⟩
abbrev s__law_odd_name : Stmt := top 36
theorem sc__law_odd_name : FnScope ["_law_d", "_law_text", "_law_odd"] ["_law_d", "_law_text"] (defScope s__law_odd_name) := ⟨rfl, rfl, rfl, by decide +kernel, rfl, by decide +kernel, by decide +kernel⟩
abbrev s__law_is_name : Stmt := top 34
theorem sc__law_is_name : FnScope ["_law_text", "_law_sign"] ["_law_text"] (defScope s__law_is_name) := ⟨rfl, rfl, rfl, by decide +kernel, rfl, by decide +kernel, by decide +kernel⟩
abbrev s_Tally___len__ : Stmt := inClass (top 25) 1
theorem sc_Tally___len__ : FnScope ["self"] ["self"] (defScope s_Tally___len__) := ⟨rfl, rfl, rfl, by decide +kernel, rfl, by decide +kernel, by decide +kernel⟩
abbrev s__law_word : Stmt := top 32
theorem sc__law_word : FnScope ["_law_d", "_law_letters", "_law_first", "_law_size", "_law_some", "_law_k"] ["_law_d"] (defScope s__law_word) := ⟨rfl, rfl, rfl, by decide +kernel, rfl, by decide +kernel, by decide +kernel⟩
abbrev s__law_tree : Stmt := top 39
theorem sc__law_tree : FnScope ["_law_d", "_law_deep_here", "_law_names", "_law_kinds", "_law_way", "_law_word_here"] ["_law_d", "_law_deep_here", "_law_names", "_law_kinds"] (defScope s__law_tree) := ⟨rfl, rfl, rfl, by decide +kernel, rfl, by decide +kernel, by decide +kernel⟩
abbrev s__law_parts : Stmt := top 40
theorem sc__law_parts : FnScope ["_law_test_here", "_law_part"] ["_law_test_here"] (defScope s__law_parts) := ⟨rfl, rfl, rfl, by decide +kernel, rfl, by decide +kernel, by decide +kernel⟩
abbrev s__law_leaf : Stmt := top 38
theorem sc__law_leaf : FnScope ["_law_d", "_law_names", "_law_kinds", "_law_way"] ["_law_d", "_law_names", "_law_kinds"] (defScope s__law_leaf) := ⟨rfl, rfl, rfl, by decide +kernel, rfl, by decide +kernel, by decide +kernel⟩
abbrev s__law_shape_ok : Stmt := top 44
theorem sc__law_shape_ok : FnScope ["_law_test_here"] ["_law_test_here"] (defScope s__law_shape_ok) := ⟨rfl, rfl, rfl, by decide +kernel, rfl, by decide +kernel, by decide +kernel⟩
abbrev s__law_deep : Stmt := top 41
theorem sc__law_deep : FnScope ["_law_test_here", "_law_part"] ["_law_test_here"] (defScope s__law_deep) := ⟨rfl, rfl, rfl, by decide +kernel, rfl, by decide +kernel, by decide +kernel⟩
abbrev s_look_test : Stmt := top 20
theorem sc_look_test : FnScope ["test"] ["test"] (defScope s_look_test) := ⟨rfl, rfl, rfl, by decide +kernel, rfl, by decide +kernel, by decide +kernel⟩
abbrev s_is_name : Stmt := top 12
theorem sc_is_name : FnScope ["text", "sign"] ["text"] (defScope s_is_name) := ⟨rfl, rfl, rfl, by decide +kernel, rfl, by decide +kernel, by decide +kernel⟩
abbrev s__law_number : Stmt := top 37
theorem sc__law_number : FnScope ["_law_d"] ["_law_d"] (defScope s__law_number) := ⟨rfl, rfl, rfl, by decide +kernel, rfl, by decide +kernel, by decide +kernel⟩
abbrev s__law_leaf_ok : Stmt := top 43
theorem sc__law_leaf_ok : FnScope ["_law_test_here"] ["_law_test_here"] (defScope s__law_leaf_ok) := ⟨rfl, rfl, rfl, by decide +kernel, rfl, by decide +kernel, by decide +kernel⟩
abbrev s_is_test : Stmt := top 19
theorem sc_is_test : FnScope ["test"] ["test"] (defScope s_is_test) := ⟨rfl, rfl, rfl, by decide +kernel, rfl, by decide +kernel, by decide +kernel⟩
abbrev s_parts_of : Stmt := top 18
theorem sc_parts_of : FnScope ["test", "deep", "word", "inner", "many", "part", "more"] ["test", "deep"] (defScope s_parts_of) := ⟨rfl, rfl, rfl, by decide +kernel, rfl, by decide +kernel, by decide +kernel⟩
abbrev s_is_leaf : Stmt := top 17
theorem sc_is_leaf : FnScope ["test"] ["test"] (defScope s_is_leaf) := ⟨rfl, rfl, rfl, by decide +kernel, rfl, by decide +kernel, by decide +kernel⟩
abbrev s_ScribeError___init__ : Stmt := inClass (top 2) 0
theorem sc_ScribeError___init__ : FnScope ["self", "word"] ["self", "word"] (defScope s_ScribeError___init__) := ⟨rfl, rfl, rfl, by decide +kernel, rfl, by decide +kernel, by decide +kernel⟩
abbrev s_BadTest___init__ : Stmt := inClass (top 4) 0
theorem sc_BadTest___init__ : FnScope ["self"] ["self"] (defScope s_BadTest___init__) := ⟨rfl, rfl, rfl, by decide +kernel, rfl, by decide +kernel, by decide +kernel⟩
abbrev s_BadKeys___init__ : Stmt := inClass (top 6) 0
theorem sc_BadKeys___init__ : FnScope ["self"] ["self"] (defScope s_BadKeys___init__) := ⟨rfl, rfl, rfl, by decide +kernel, rfl, by decide +kernel, by decide +kernel⟩
abbrev s_BadSize___init__ : Stmt := inClass (top 5) 0
theorem sc_BadSize___init__ : FnScope ["self"] ["self"] (defScope s_BadSize___init__) := ⟨rfl, rfl, rfl, by decide +kernel, rfl, by decide +kernel, by decide +kernel⟩
end Lw
-- own part: U
namespace Ls
open PySem PySem.Spec PyProof.Rows L2

/-! ### rules joined: one for each sign, whatever the values -/
section
variable {X : Cx}
def rAddU (K : PySem.W.Frag) : R2 := fun x y H Q => (∃ i j, x = .int i ∧ y = .int j ∧ Q (.int (i + j)) H) ∨ (∃ i j, x = .str i ∧ y = .str j ∧ i.length + j.length ≤ sizeLine ∧ Q (.str (i ++ j)) H) ∨ rCat x y H Q ∨ rCatA K x y H Q
theorem op_addU0 : OpR X (binaryOp .Add) (rAddU X.K) := OpR.or op_add (OpR.or op_add_str (OpR.or op_cat op_catA))
def rEqU (K : PySem.W.Frag) : R2 := fun x y H Q => rEq x y H Q ∨ rEqD K x y H Q
def rNeU (K : PySem.W.Frag) : R2 := fun x y H Q => rNe x y H Q ∨ rNeD K x y H Q
theorem op_eqU0 (hu : X.A.units + 66 < cLine) : OpR X (compareOp .Eq) (rEqU X.K) := OpR.or op_eq (op_eqD (by omega))
theorem op_neU0 (hu : X.A.units + 66 < cLine) : OpR X (compareOp .NotEq) (rNeU X.K) := OpR.or op_ne (op_neD (by omega))
def rIsU : R2 := fun x y H Q => (y = .non ∧ Q (.bl (decide (x = .non))) H) ∨ (∃ a b, x = .bl a ∧ y = .bl b ∧ Q (.bl (decide (a = b))) H)
def rIsNotU : R2 := fun x y H Q => (y = .non ∧ Q (.bl (!decide (x = .non))) H) ∨ (∃ a b, x = .bl a ∧ y = .bl b ∧ Q (.bl (!decide (a = b))) H)
theorem op_isU : OpR X (compareOp .Is) rIsU := OpR.or op_isN op_is_bl
theorem op_isnotU : OpR X (compareOp .IsNot) rIsNotU := OpR.or op_notN op_isnot_bl
def rInSg : R2 := fun x y H Q => ∃ (c : Nat) (z : Str), x = .str ⟨#[c]⟩ ∧ y = .str z ∧ Q (.bl (decide (c ∈ z.cps.toList))) H
def rNotInSg : R2 := fun x y H Q => ∃ (c : Nat) (z : Str), x = .str ⟨#[c]⟩ ∧ y = .str z ∧ Q (.bl (!decide (c ∈ z.cps.toList))) H
def rInU (K : PySem.W.Frag) : R2 := fun x y H Q => rIn K false x y H Q ∨ rInD K x y H Q ∨ rInSg x y H Q
def rNotInU (K : PySem.W.Frag) : R2 := fun x y H Q => rIn K true x y H Q ∨ rNotInD K x y H Q ∨ rNotInSg x y H Q
theorem op_inU0 (hu : X.A.units + 66 < cLine) : OpR X (compareOp .In) (rInU X.K) := OpR.or op_in_seq (OpR.or (op_inD (by omega)) op_in_sign)
theorem op_notinU0 (hu : X.A.units + 66 < cLine) : OpR X (compareOp .NotIn) (rNotInU X.K) := OpR.or op_notIn_seq (OpR.or (op_notInD (by omega)) op_notIn_sign)
def rLenU (K : PySem.W.Frag) : List V → Hp → VK → Prop := fun xs H Q => (∃ p ys, xs = [.ref p] ∧ (SqL K H p ys ∨ SqT K H p ys) ∧ Q (.int ys.length) H) ∨ (∃ z, xs = [.str z] ∧ z.length ≤ sizeLine ∧ Q (.int z.length) H) ∨ (∃ a kvs, xs = [V.ref a] ∧ H a = some (.dK kvs) ∧ Q (.int kvs.length) H)
theorem call_lenU0 : CallR X (.builtin "len") (rLenU X.K) := CallR.or call_len_seq (CallR.or call_len_str call_lenD)
def rSlU (K : PySem.W.Frag) : V → Option Int → Option Int → Hp → VK → Prop := fun x lo hi H Q => rSlL K x lo hi H Q ∨ rSlA K x lo hi H Q ∨ rSlS x lo hi H Q
theorem sl_U0 : SlR X (rSlU X.K) := SlR.or sl_list (SlR.or sl_tupA sl_str)
def rMaxU (K : PySem.W.Frag) : List V → Hp → VK → Prop := fun vs H Q => (∃ i j, vs = [.int i, .int j] ∧ Q (.int (if j > i then j else i)) H) ∨ rMax K vs H Q
def rMinU (K : PySem.W.Frag) : List V → Hp → VK → Prop := fun vs H Q => (∃ i j, vs = [.int i, .int j] ∧ Q (.int (if j < i then j else i)) H) ∨ rMin K vs H Q
theorem call_maxU0 (hc : X.calm = true) : CallR X (.builtin "max") (rMaxU X.K) := CallR.or (call_max2 hc) (cr_max hc)
theorem call_minU0 (hc : X.calm = true) : CallR X (.builtin "min") (rMinU X.K) := CallR.or (call_min2 hc) (cr_min hc)
end
section
variable {X : Cx}
theorem op_addU (K : PySem.W.Frag) (hK : X.K = K)  : OpR X (binaryOp .Add) (rAddU K) := by
  subst hK
  exact op_addU0
theorem op_eqU (K : PySem.W.Frag) (hK : X.K = K) (hu : X.A.units + 66 < cLine) : OpR X (compareOp .Eq) (rEqU K) := by
  subst hK
  exact op_eqU0 hu
theorem op_neU (K : PySem.W.Frag) (hK : X.K = K) (hu : X.A.units + 66 < cLine) : OpR X (compareOp .NotEq) (rNeU K) := by
  subst hK
  exact op_neU0 hu
theorem op_inU (K : PySem.W.Frag) (hK : X.K = K) (hu : X.A.units + 66 < cLine) : OpR X (compareOp .In) (rInU K) := by
  subst hK
  exact op_inU0 hu
theorem op_notinU (K : PySem.W.Frag) (hK : X.K = K) (hu : X.A.units + 66 < cLine) : OpR X (compareOp .NotIn) (rNotInU K) := by
  subst hK
  exact op_notinU0 hu
theorem call_lenU (K : PySem.W.Frag) (hK : X.K = K)  : CallR X (.builtin "len") (rLenU K) := by
  subst hK
  exact call_lenU0
theorem sl_U (K : PySem.W.Frag) (hK : X.K = K)  : SlR X (rSlU K) := by
  subst hK
  exact sl_U0
theorem call_maxU (K : PySem.W.Frag) (hK : X.K = K) (hc : X.calm = true) : CallR X (.builtin "max") (rMaxU K) := by
  subst hK
  exact call_maxU0 hc
theorem call_minU (K : PySem.W.Frag) (hK : X.K = K) (hc : X.calm = true) : CallR X (.builtin "min") (rMinU K) := by
  subst hK
  exact call_minU0 hc
def rListU (K : PySem.W.Frag) : List V → Hp → VK → Prop := fun xs H Q => ∃ p ys, xs = [V.ref p] ∧ (SqL K H p ys ∨ SqT K H p ys) ∧ ∀ l, H l = none → Q (.ref l) (upd H l (.lst ys))
def rTupleU (K : PySem.W.Frag) : List V → Hp → VK → Prop := fun xs H Q => ∃ p ys, xs = [.ref p] ∧ ((SqL K H p ys ∧ ∀ l, H l = none → Q (.ref l) (upd H l (.tup ys))) ∨ (SqT K H p ys ∧ Q (.ref p) H))
theorem call_listU (K : PySem.W.Frag) (hK : X.K = K) : CallR X (.type "list") (rListU K) := by
  subst hK
  exact call_list_of
theorem call_tupleU (K : PySem.W.Frag) (hK : X.K = K) : CallR X (.type "tuple") (rTupleU K) := by
  subst hK
  exact call_tuple_of
theorem cr_sumU (K : PySem.W.Frag) (hK : X.K = K) (hc : X.calm = true) : CallR X (.builtin "sum") (rSum K) := by
  subst hK
  exact cr_sum hc
theorem cr_allU (K : PySem.W.Frag) (hK : X.K = K) (hc : X.calm = true) : CallR X (.builtin "all") (rAll K) := by
  subst hK
  exact cr_all hc
theorem cr_anyU (K : PySem.W.Frag) (hK : X.K = K) (hc : X.calm = true) : CallR X (.builtin "any") (rAny K) := by
  subst hK
  exact cr_any hc
theorem call_isiU (K : PySem.W.Frag) (hK : X.K = K) : CallR X (.builtin "isinstance") (rIsi K) := by
  subst hK
  exact call_isi
theorem call_isiTU (K : PySem.W.Frag) (hK : X.K = K) : CallR X (.builtin "isinstance") (rIsiT K) := by
  subst hK
  exact call_isiT
theorem ix_U (K : PySem.W.Frag) (hK : X.K = K) : IxR X (rIx K) := by
  subst hK
  exact ix_seq
theorem kBM {e : Expr} {T : String} {r : V → List V → Hp → VK → Prop} {to : TE} {t : TA} (K : PySem.W.Frag) (hK : X.K = K) (h : PE X e (tBM X.K T r to t)) : PE X e (tBM K T r to t) := hK ▸ h
theorem kBM0 {e : Expr} {T : String} {r : V → List V → Hp → VK → Prop} {to : TE} (K : PySem.W.Frag) (hK : X.K = K) (h : PE X e (tBM0 X.K T r to)) : PE X e (tBM0 K T r to) := hK ▸ h
theorem kFld {e : Expr} {f : Str} {ta : TE} (K : PySem.W.Frag) (hK : X.K = K) (h : PE X e (tFld X.K ta f)) : PE X e (tFld K ta f) := hK ▸ h
theorem kGTup {e : Expr} {n : Nat} {t : TGs} (K : PySem.W.Frag) (hK : X.K = K) (h : PG X e (gTup X.K n t)) : PG X e (gTup K n t) := hK ▸ h
theorem kIL {tg l : Expr} {tl : TE} (K : PySem.W.Frag) (hK : X.K = K) (h : PI X tg l (iList X.K tl)) : PI X tg l (iList K tl) := hK ▸ h
theorem kIT {tg l : Expr} {tl : TE} (K : PySem.W.Frag) (hK : X.K = K) (h : PI X tg l (iTup X.K tl)) : PI X tg l (iTup K tl) := hK ▸ h
theorem kIE {tg l : Expr} {tl : TA} (K : PySem.W.Frag) (hK : X.K = K) (h : PI X tg l (iEnum X.K tl)) : PI X tg l (iEnum K tl) := hK ▸ h
theorem kIZ {tg l : Expr} {tl : TA} (K : PySem.W.Frag) (hK : X.K = K) (h : PI X tg l (RZ.iZipA X.K tl)) : PI X tg l (RZ.iZipA K tl) := hK ▸ h
theorem kIV {tg l : Expr} {tl : TA} (K : PySem.W.Frag) (hK : X.K = K) (h : PI X tg l (iRev X.K tl)) : PI X tg l (iRev K tl) := hK ▸ h
end
theorem huOf {A : Around} {k : Nat} (hr : Room k A) : A.units + 66 < cLine := by
  have := hr.un
  omega
end Ls
-- own part: U2
namespace Ls
open PySem PySem.Spec PyProof.Rows L2

/-! ### y = {k: v for ..} -/
theorem swd_true {kx vx : Expr} {gs : List Comprehension} {scope : Scope} {pos py : Pos} {y : Str} {l : Nat} {env : Env} (hk : env.scope.kind = .function) (hy : env.scope.names.lookup y = some .local) (hl : (py.line == pos.line) = true)
    (ha : (scope.names.any fun (n, k) => n == y && (k == .local || k == .cell)) = false) : swapsWith (.DictComp kx vx gs scope pos) (some (.Name y py)) l env = pure true := by
  have ky : env.kindOf y = some .local := hy
  have hb : env.blockKind = .function := by unfold Env.blockKind; rw [hk]; rfl
  unfold swapsWith
  simp only [hb, ky, ha, Expr.pos, hl]
  rfl
theorem ps_setDc {X : Cx} {i : Nat} {y : Str} {py : Pos} {kx vx tg iter : Expr} {ifs : List Expr} {scope : Scope} {own : List (Str × Nat)} {pos spos : Pos} {wi : TI} {g : TG} {tt : TT} {tk tv : TE} (hc : X.calm = true) (hN : X.N.Nodup) (hy : X.N[i]? = some y) (hyl : X.env.scope.names.lookup y = some .local)
    (hsw : swapsWith (.DictComp kx vx [⟨tg, iter, ifs, 0⟩] scope pos) (some (.Name y py)) spos.line X.env = pure true) (hi : PI X tg iter wi) (ok : BlkOk X.N X.env.scope scope own)
    (hg : ∀ (s : Shared) (H : Hp) (C : Addr) (cl : List (Str × Addr)) (fp : List Addr), PG (X.blk s H scope (compEnvC scope cl C X.env) fp) tg g) (ht : ∀ (s : Shared) (H : Hp) (C : Addr) (cl : List (Str × Addr)) (fp : List Addr), PTs (X.blk s H scope (compEnvC scope cl C X.env) fp) ifs tt)
    (hk : ∀ (s : Shared) (H : Hp) (C : Addr) (cl : List (Str × Addr)) (fp : List Addr), PE (X.blk s H scope (compEnvC scope cl C X.env) fp) kx tk)
    (he : ∀ (s : Shared) (H : Hp) (C : Addr) (cl : List (Str × Addr)) (fp : List Addr), PE (X.blk s H scope (compEnvC scope cl C X.env) fp) vx tv) (hs : ∀ x, foldedSetIterable iter X.env x = pure x := by intro _; rfl) :
    PS X (.Assign [.Name y py] (.DictComp kx vx [⟨tg, iter, ifs, 0⟩] scope pos) spos) (tAsg (tDc wi g tt tk tv (own.map (·.2))) (gName i)) := by
  refine ⟨fun pins s σ H D I h => ?_⟩
  rw [exec_Assign_Name_used _ _ _ _ hsw]
  refine wpAny_bind (wpAny_standAt (wpAny_bind ?_))
  show wpAny _ X.A (do let _ ← comprehension (.DictComp kx vx [⟨tg, iter, ifs, 0⟩] scope pos) scope X.env (firstIterPos [⟨tg, iter, ifs, 0⟩] pos) newDict false (eval iter X.env) (some (assign (.Name y py) X.env))) _ _ s
  have h : tDc wi g tt tk tv (own.map (·.2)) σ H (fun x H1 => gName i x σ H1 D.nx) := h
  refine wpAny_bind (thn (dc_core (Qf := fun _ s' => SP X pins D .next s') hc hN I hi ok hg ht hk he hs h fun L C s' m H' I' q hn f => ?_) fun _ s' hq => wpAny_pure (wpAny_pure hq))
  show wpAny _ _ (assign (.Name y py) X.env (.ref L)) _ _ _
  refine wpAny_assign_Name (store_ok2 (v := V.ref L) I' hN hy (.inl hyl) rfl (fun s2 I2 ⟨a, sb, ha⟩ => ?_) (.inr hyl))
  obtain ⟨f0, f1, f2, f3, f4, f5⟩ := f
  have haC : C ≠ a := by
    rcases ha with z | z
    · rw [z]; exact f1
    · exact fun e => f4 y a z e.symm
  refine ⟨m, hn.sameBut sb haC, fun h3 sb3 => ?_⟩
  exact ⟨_, H', I2.turned (t' := s2.toks) (fun b o hb e => (sb3.2 b hb).trans e) f0 f1 f3 f4 f5, q⟩

/-! ### heaps: what stays -/
/-- tuples stay (they always do) -/
def Tp (K : PySem.W.Frag) (H H' : Hp) : Prop := ∀ a xs, SqT K H a xs → SqT K H' a xs
/-- all but the object at d stays -/
def Keep (d : Addr) (H H' : Hp) : Prop := ∀ b o, b ≠ d → H b = some o → H' b = some o
theorem same_new {H : Hp} {p : Addr} {o : HO} (h : H p = none) : Same H (upd H p o) := fun b x e => by
  rw [upd_ne (ne_of_none e h)]
  exact e
theorem rd_same {H H' : Hp} {a : Addr} {u : HO} (e : Same H H') (h : Rd H a u) : Rd H' a u := by
  rcases h with h | ⟨o, h⟩
  · exact .inl (e _ _ h)
  · exact .inr ⟨o, e _ _ h⟩
theorem sqt_same {K : PySem.W.Frag} {H H' : Hp} {a : Addr} {xs : List V} (e : Same H H') (h : SqT K H a xs) : SqT K H' a xs := by
  rcases h with h | h
  · exact .inl (rd_same e h)
  · exact .inr h
theorem Tp.refl {K : PySem.W.Frag} {H : Hp} : Tp K H H := fun _ _ h => h
theorem Tp.trans {K : PySem.W.Frag} {H H1 H2 : Hp} (a : Tp K H H1) (b : Tp K H1 H2) : Tp K H H2 := fun x xs h => b x xs (a x xs h)
theorem Tp.same {K : PySem.W.Frag} {H H' : Hp} (e : Same H H') : Tp K H H' := fun _ _ h => sqt_same e h
theorem Tp.new {K : PySem.W.Frag} {H : Hp} {p : Addr} {o : HO} (h : H p = none) : Tp K H (upd H p o) := Tp.same (same_new h)
/-- an object that is no tuple (nor a locked one) -/
def NoT : HO → Bool
  | .tup _ => false
  | .frz _ _ => false
  | _ => true
theorem keep_tp {K : PySem.W.Frag} {d : Addr} {H H' : Hp} {o : HO} (k : Keep d H H') (h : H d = some o) (n : NoT o = true) : Tp K H H' := fun a xs q => by
  have ne : ∀ u, NoT u = false → H a = some u → a ≠ d := fun u hu e z => by
    rw [z, h] at e
    cases e
    rw [n] at hu
    cases hu
  rcases q with (q | ⟨u, q⟩) | q
  · exact .inl (.inl (k _ _ (ne _ rfl q) q))
  · exact .inl (.inr ⟨u, k _ _ (ne _ rfl q) q⟩)
  · exact .inr q
theorem Keep.refl {d : Addr} {H : Hp} : Keep d H H := fun _ _ _ h => h
theorem Keep.trans {d : Addr} {H H1 H2 : Hp} (a : Keep d H H1) (b : Keep d H1 H2) : Keep d H H2 := fun c o n h => b c o n (a c o n h)
theorem Keep.same {d : Addr} {H H' : Hp} (e : Same H H') : Keep d H H' := fun b o _ h => e b o h
theorem Keep.new {d p : Addr} {H H' : Hp} {o : HO} (k : Keep d H H') (h : H' p = none) : Keep d H (upd H' p o) := fun b u n e => same_new h _ _ (k b u n e)
theorem Keep.put {d : Addr} {H H' : Hp} {o : HO} (k : Keep d H H') : Keep d H (upd H' d o) := fun b u n e => by
  rw [upd_ne n]
  exact k b u n e
/-- a write to what did not stand there at first -/
theorem Keep.wr {d p : Addr} {H H' : Hp} {o : HO} (k : Keep d H H') (h : H p = none) : Keep d H (upd H' p o) := fun b u n e => by
  rw [upd_ne (ne_of_none e h)]
  exact k b u n e
theorem Same.wr {p : Addr} {H H' : Hp} {o : HO} (k : Same H H') (h : H p = none) : Same H (upd H' p o) := fun b u e => by
  rw [upd_ne (ne_of_none e h)]
  exact k b u e
theorem Keep.free {d p : Addr} {H H' : Hp} {o : HO} (k : Keep d H H') (hd : H' d = some o) (h : H' p = none) : H p = none := by
  cases q : H p with
  | none => rfl
  | some u =>
    by_cases e : p = d
    · rw [e, hd] at h
      cases h
    · rw [k p u e q] at h
      cases h
theorem wr_tp {K : PySem.W.Frag} {l : Addr} {H : Hp} {o u : HO} (h : H l = some o) (n : NoT o = true) : Tp K H (upd H l u) := keep_tp (d := l) (Keep.put Keep.refl) h n
theorem sql_same {K : PySem.W.Frag} {H H' : Hp} {a : Addr} {xs : List V} (e : Same H H') (h : SqL K H a xs) : SqL K H' a xs := e.seq h
theorem sql_keep {K : PySem.W.Frag} {d : Addr} {H H' : Hp} {a : Addr} {xs : List V} {kvs : List (Key × V)} (k : Keep d H H') (hd : H d = some (.dK kvs)) (h : SqL K H a xs) : SqL K H' a xs := by
  have ne : ∀ u, (∀ ks, u ≠ .dK ks) → H a = some u → a ≠ d := fun u hu e z => by
    rw [z, hd] at e
    exact hu _ (Option.some.inj e).symm
  rcases h with (q | ⟨u, q⟩) | q
  · exact .inl (.inl (k _ _ (ne _ (fun _ z => by cases z) q) q))
  · exact .inl (.inr ⟨u, k _ _ (ne _ (fun _ z => by cases z) q) q⟩)
  · exact .inr q

/-! ### data that never changes -/
mutual
inductive Im (K : PySem.W.Frag) (H : Hp) : V → PyData → Prop
  | non : Im K H .non .none
  | bl (b : Bool) : Im K H (.bl b) (.bool b)
  | int (i : Int) : Im K H (.int i) (.int i)
  | str (x : Str) : Im K H (.str x) (.str x)
  | tup {a : Addr} {xs : List V} {ds : List PyData} : SqT K H a xs → ImAll K H xs ds → Im K H (.ref a) (.tuple ds)
inductive ImAll (K : PySem.W.Frag) (H : Hp) : List V → List PyData → Prop
  | nil : ImAll K H [] []
  | cons {v : V} {vs : List V} {d : PyData} {ds : List PyData} : Im K H v d → ImAll K H vs ds → ImAll K H (v :: vs) (d :: ds)
end
section
variable {K : PySem.W.Frag} {H H' : Hp}
mutual
theorem Im.mono (t : Tp K H H') : ∀ {v : V} {d : PyData}, Im K H v d → Im K H' v d
  | _, _, .non => .non
  | _, _, .bl b => .bl b
  | _, _, .int i => .int i
  | _, _, .str x => .str x
  | _, _, .tup h hs => .tup (t _ _ h) (ImAll.mono t hs)
theorem ImAll.mono (t : Tp K H H') : ∀ {vs : List V} {ds : List PyData}, ImAll K H vs ds → ImAll K H' vs ds
  | _, _, .nil => .nil
  | _, _, .cons h hs => .cons (Im.mono t h) (ImAll.mono t hs)
end
mutual
theorem Im.dp : ∀ {v : V} {d : PyData}, Im K H v d → Dp K H v d
  | _, _, .non => .non
  | _, _, .bl b => .bl b
  | _, _, .int i => .int i
  | _, _, .str x => .str x
  | _, _, .tup h hs => .tup h (ImAll.dp hs)
theorem ImAll.dp : ∀ {vs : List V} {ds : List PyData}, ImAll K H vs ds → DpAll K H vs ds
  | _, _, .nil => .nil
  | _, _, .cons h hs => .cons (Im.dp h) (ImAll.dp hs)
end
theorem ImAll.length : ∀ {vs : List V} {ds : List PyData}, ImAll K H vs ds → vs.length = ds.length
  | _, _, .nil => rfl
  | _, _, .cons _ hs => congrArg Nat.succ (ImAll.length hs)
theorem ImAll.app : ∀ {vs ws : List V} {ds es : List PyData}, ImAll K H vs ds → ImAll K H ws es → ImAll K H (vs ++ ws) (ds ++ es)
  | _, _, _, _, .nil, h => h
  | _, _, _, _, .cons a b, h => .cons a (ImAll.app b h)
theorem ImAll.snoc {vs : List V} {ds : List PyData} {v : V} {d : PyData} (h : ImAll K H vs ds) (a : Im K H v d) : ImAll K H (vs ++ [v]) (ds ++ [d]) := h.app (.cons a .nil)
theorem ImAll.get : ∀ {vs : List V} {ds : List PyData} {i : Nat} {v : V}, ImAll K H vs ds → vs[i]? = some v → ∃ d, ds[i]? = some d ∧ Im K H v d
  | _, _, i, _, .nil, e => by simp at e
  | _, _, 0, _, .cons a _, e => by
    simp at e
    subst e
    exact ⟨_, rfl, a⟩
  | _, _, i + 1, v, .cons _ b, e => by
    obtain ⟨d, h1, h2⟩ := ImAll.get (i := i) (v := v) b (by simpa using e)
    exact ⟨d, by simpa using h1, h2⟩
theorem ImAll.getD : ∀ {vs : List V} {ds : List PyData} {i : Nat} {d : PyData}, ImAll K H vs ds → ds[i]? = some d → ∃ v, vs[i]? = some v ∧ Im K H v d
  | _, _, i, _, .nil, e => by simp at e
  | _, _, 0, _, .cons a _, e => by
    simp at e
    subst e
    exact ⟨_, rfl, a⟩
  | _, _, i + 1, d, .cons _ b, e => by
    obtain ⟨v, h1, h2⟩ := ImAll.getD (i := i) (d := d) b (by simpa using e)
    exact ⟨v, by simpa using h1, h2⟩
theorem ImAll.take : ∀ {vs : List V} {ds : List PyData} (n : Nat), ImAll K H vs ds → ImAll K H (vs.take n) (ds.take n)
  | _, _, 0, _ => by simp only [List.take_zero]; exact .nil
  | _, _, n + 1, .nil => by simp only [List.take_nil]; exact .nil
  | _, _, n + 1, .cons a b => .cons a (ImAll.take n b)
theorem ImAll.drop : ∀ {vs : List V} {ds : List PyData} (n : Nat), ImAll K H vs ds → ImAll K H (vs.drop n) (ds.drop n)
  | _, _, 0, h => h
  | _, _, n + 1, .nil => by simp only [List.drop_nil]; exact .nil
  | _, _, n + 1, .cons a b => ImAll.drop n b
theorem im_int {v : V} {i : Int} (h : Im K H v (.int i)) : v = .int i := by cases h; rfl
theorem im_str {v : V} {x : Str} (h : Im K H v (.str x)) : v = .str x := by cases h; rfl
theorem im_bl {v : V} {b : Bool} (h : Im K H v (.bool b)) : v = .bl b := by cases h; rfl
theorem im_non {v : V} (h : Im K H v .none) : v = .non := by cases h; rfl
theorem im_tup {v : V} {ds : List PyData} (h : Im K H v (.tuple ds)) : ∃ a xs, v = .ref a ∧ SqT K H a xs ∧ ImAll K H xs ds := by
  cases h with
  | tup h hs => exact ⟨_, _, rfl, h, hs⟩
theorem ImAll.ints : ∀ (ns : List Int), ImAll K H (ns.map V.int) (ns.map PyData.int)
  | [] => .nil
  | n :: r => .cons (.int n) (ImAll.ints r)
theorem ImAll.strs : ∀ (ns : List Str), ImAll K H (ns.map V.str) (ns.map PyData.str)
  | [] => .nil
  | n :: r => .cons (.str n) (ImAll.strs r)
end
/-- a new tuple -/
theorem sqt_new {K : PySem.W.Frag} {H : Hp} {p : Addr} {xs : List V} : SqT K (upd H p (.tup xs)) p xs := .inl (.inl upd_same)
theorem sqt_of {K : PySem.W.Frag} {H : Hp} {p : Addr} {xs : List V} (h : H p = some (.tup xs)) : SqT K H p xs := .inl (.inl h)
theorem sql_of {K : PySem.W.Frag} {H : Hp} {p : Addr} {xs : List V} (h : H p = some (.lst xs)) : SqL K H p xs := .inl (.inl h)
end Ls
-- own part: U3
namespace Ls
open PySem PySem.Spec PyProof.Rows L2

/-! ### the readings step by step: what is left to show -/
section
variable {K : PySem.W.Frag} {σ : L2.St} {H : Hp} {Q : VK} {D : Ends} {ta tb tc te td ty tv : TE} {tt tu : TT} {t u : TS} {tl : TA} {x y z v : V} {i j : Int} {b c : Bool} {a p l : Addr} {xs ys : List V}
theorem k_seq (h : t { D with nx := u D } σ H) : tSeq t u D σ H := h
theorem k_next (h : D.nx σ H) : tNext D σ H := h
theorem k_brk (h : D.bk σ H) : tBreak D σ H := h
theorem k_cont (h : D.ct σ H) : tCont D σ H := h
theorem k_drop (h : te σ H fun _ H1 => D.nx σ H1) : tDrop te D σ H := h
theorem k_ret (h : te σ H D.rt) : tRet te D σ H := h
theorem k_retN (h : D.rt .non H) : tRetN D σ H := h
theorem k_if (h : tt σ H fun b H1 => if b = true then t D σ H1 else u D σ H1) : tIfS tt t u D σ H := h
theorem k_set {i : Nat} (h : te σ H fun x H1 => D.nx (σ.set i (some x)) H1) : tAsg te (gName i) D σ H := h
theorem k_asg {g : TG} (h : te σ H fun x H1 => g x σ H1 D.nx) : tAsg te g D σ H := h
theorem k_par {i j : Nat} (h : tl σ H fun vs H1 => ∃ v w, vs = [v, w] ∧ D.nx ((σ.set i (some v)).set j (some w)) H1) : tPar i j tl D σ H := h
theorem k_par2 {Q : V → V → Prop} (h : Q x y) : ∃ v w, [x, y] = [v, w] ∧ Q v w := ⟨x, y, rfl, h⟩
theorem k_gname {i : Nat} {R : L2.St → Hp → Prop} (h : R (σ.set i (some v)) H) : gName i v σ H R := h
theorem k_gtup {n : Nat} {tg : TGs} {R : L2.St → Hp → Prop} (h1 : SqT K H a xs) (h2 : xs.length = n) (h : tg xs σ H R) : gTup K n tg (.ref a) σ H R := ⟨a, xs, rfl, h1, h2, h⟩
theorem k_gcons {tg : TG} {ug : TGs} {R : L2.St → Hp → Prop} (h : tg x σ H fun σ' H' => ug xs σ' H' R) : gCons tg ug (x :: xs) σ H R := ⟨x, xs, rfl, h⟩
theorem k_gnil {R : L2.St → Hp → Prop} (h : R σ H) : gNil [] σ H R := ⟨rfl, h⟩
theorem k_var {i : Nat} (e : σ[i]? = some (some v)) (q : Q v H) : tVar i σ H Q := ⟨v, e, q⟩
theorem k_c (q : Q v H) : tC v σ H Q := q
theorem k_op {r : R2} (h : ta σ H fun x H1 => tb σ H1 fun y H2 => r x y H2 Q) : tOp r ta tb σ H Q := h
theorem k_un {r : V → Hp → VK → Prop} (h : ta σ H fun x H1 => r x H1 Q) : tUn r ta σ H Q := h
theorem k_cb {r : List V → Hp → VK → Prop} (h : tl σ H fun vs H1 => r vs H1 Q) : tCB r tl σ H Q := h
theorem k_nil {R : List V → Hp → Prop} (h : R [] H) : tNil σ H R := h
theorem k_cons {R : List V → Hp → Prop} (h : ta σ H fun x H1 => tl σ H1 fun xs H2 => R (x :: xs) H2) : tCons ta tl σ H R := h
theorem k_call {sp : Sp} {dvs : List V} {E : XK} (h : tl σ H fun vs H1 => sp (vs ++ dvs) H1 Q E) : tCall sp dvs E tl σ H Q := h
theorem k_callN {n m : Nat} {sp : Sp} {gV : List V → List V → List V} {E : XK} {tk : TA} (h : tl σ H fun vs H1 => tk σ H1 fun zs H2 => vs.length = n ∧ zs.length = m ∧ sp (gV vs zs) H2 Q E) : tCallN n m sp gV E tl tk σ H Q := h
theorem k_tup (h : tl σ H fun xs H1 => xs.length ≤ sizeLine ∧ ∀ p, H1 p = none → Q (.ref p) (upd H1 p (.tup xs))) : tTup tl σ H Q := h
theorem k_lst (h : tl σ H fun xs H1 => xs.length ≤ sizeLine ∧ ∀ p, H1 p = none → Q (.ref p) (upd H1 p (.lst xs))) : tLst tl σ H Q := h
theorem k_new {P : Prop} (h1 : xs.length ≤ sizeLine) (h : P) : xs.length ≤ sizeLine ∧ P := ⟨h1, h⟩
theorem k_test {R : Bool → Hp → Prop} (h : te σ H fun x H' => ∃ k, x = .bl k ∧ R k H') : tTest te σ H R := h
theorem k_B {R : Bool → Hp → Prop} (h : te σ H fun x H' => ∃ k, x = .bl k ∧ R k H') : tB te σ H R := h
theorem k_bl {R : Bool → Prop} (h : R b) : ∃ k, V.bl b = .bl k ∧ R k := ⟨b, rfl, h⟩
theorem k_and {R : Bool → Hp → Prop} (h : tt σ H fun c H1 => if c = true then tu σ H1 R else R false H1) : tAnd tt tu σ H R := h
theorem k_or {R : Bool → Hp → Prop} (h : tt σ H fun c H1 => if c = true then R true H1 else tu σ H1 R) : tOr tt tu σ H R := h
theorem k_not {R : Bool → Hp → Prop} (h : tt σ H fun c H1 => R (!c) H1) : tNot tt σ H R := h
theorem k_andV (h : ta σ H fun x H1 => ∃ c, x = .bl c ∧ if c = true then tb σ H1 Q else Q (.bl false) H1) : tAndV ta tb σ H Q := h
theorem k_orV (h : ta σ H fun x H1 => ∃ c, x = .bl c ∧ if c = true then Q (.bl true) H1 else tb σ H1 Q) : tOrV ta tb σ H Q := h
theorem k_notV (h : ta σ H fun x H1 => ∃ c, x = .bl c ∧ Q (.bl (!c)) H1) : tNotV ta σ H Q := h
theorem k_ifE (h : tt σ H fun c H1 => if c = true then ta σ H1 Q else tb σ H1 Q) : tIf tt ta tb σ H Q := h
theorem k_yes {R : Bool → Hp → Prop} (h : R true H) : tYes σ H R := h
theorem k_chain {r r' : R2} (h : ta σ H fun x H1 => tb σ H1 fun y H2 => r x y H2 fun z H3 => ∃ k, z = .bl k ∧ (if k = true then tc σ H3 fun w' H4 => r' y w' H4 Q else Q (.bl false) H3)) : tChain r r' ta tb tc σ H Q := h
theorem k_dget (h : td σ H fun x H1 => ty σ H1 fun y H2 => ∃ a v, x = .ref a ∧ DGet H2 a y (some v) ∧ Q v H2) : tDGet td ty σ H Q := h
theorem k_dput (h : tv σ H fun v H1 => td σ H1 fun x H2 => ty σ H2 fun y H3 => ∃ a H4, x = .ref a ∧ DPut H3 a y v H4 ∧ D.nx σ H4) : sDPut td ty tv D σ H := h
theorem k_din (h : ty σ H fun y H1 => td σ H1 fun x H2 => ∃ a o, x = .ref a ∧ DGet H2 a y o ∧ Q (.bl o.isSome) H2) : tDIn ty td σ H Q := h
theorem k_dnotin (h : ty σ H fun y H1 => td σ H1 fun x H2 => ∃ a o, x = .ref a ∧ DGet H2 a y o ∧ Q (.bl (!o.isSome)) H2) : tDNotIn ty td σ H Q := h
theorem k_getI {kvs : List (Key × V)} {R : V → Prop} {k : Int} (h1 : H a = some (.dK kvs)) (h2 : valV kvs (.inl k) = some v) (h : R v) : ∃ b w, V.ref a = .ref b ∧ DGet H b (.int k) (some w) ∧ R w :=
  ⟨a, v, rfl, .inl ⟨kvs, .inl k, .inl h1, rfl, h2.symm⟩, h⟩
theorem k_getS {kvs : List (Key × V)} {R : V → Prop} {k : Str} (h1 : H a = some (.dK kvs)) (h2 : valV kvs (.inr k) = some v) (h : R v) : ∃ b w, V.ref a = .ref b ∧ DGet H b (.str k) (some w) ∧ R w :=
  ⟨a, v, rfl, .inl ⟨kvs, .inr k, .inl h1, rfl, h2.symm⟩, h⟩
theorem k_isI {kvs : List (Key × V)} {R : Option V → Prop} {k : Int} (h1 : H a = some (.dK kvs)) (h : R (valV kvs (.inl k))) : ∃ b o, V.ref a = .ref b ∧ DGet H b (.int k) o ∧ R o := ⟨a, _, rfl, .inl ⟨kvs, .inl k, .inl h1, rfl, rfl⟩, h⟩
theorem k_isS {kvs : List (Key × V)} {R : Option V → Prop} {k : Str} (h1 : H a = some (.dK kvs)) (h : R (valV kvs (.inr k))) : ∃ b o, V.ref a = .ref b ∧ DGet H b (.str k) o ∧ R o := ⟨a, _, rfl, .inl ⟨kvs, .inr k, .inl h1, rfl, rfl⟩, h⟩
theorem k_putI {kvs : List (Key × V)} {R : Hp → Prop} {k : Int} (h1 : H a = some (.dK kvs)) (h2 : kvs.length < sizeLine) (h : R (upd H a (.dK (putK kvs (.inl k) v)))) : ∃ b H4, V.ref a = .ref b ∧ DPut H b (.int k) v H4 ∧ R H4 :=
  ⟨a, _, rfl, .inl ⟨kvs, .inl k, h1, rfl, h2, rfl⟩, h⟩
theorem k_putS {kvs : List (Key × V)} {R : Hp → Prop} {k : Str} (h1 : H a = some (.dK kvs)) (h2 : kvs.length < sizeLine) (h : R (upd H a (.dK (putK kvs (.inr k) v)))) : ∃ b H4, V.ref a = .ref b ∧ DPut H b (.str k) v H4 ∧ R H4 :=
  ⟨a, _, rfl, .inl ⟨kvs, .inr k, h1, rfl, h2, rfl⟩, h⟩
theorem k_addI (q : Q (.int (i + j)) H) : rAddU K (.int i) (.int j) H Q := .inl ⟨i, j, rfl, rfl, q⟩
theorem k_addS {x y : Str} (h : x.length + y.length ≤ sizeLine) (q : Q (.str (x ++ y)) H) : rAddU K (.str x) (.str y) H Q := .inr (.inl ⟨x, y, rfl, rfl, h, q⟩)
theorem k_addL (h1 : H a = some (.lst xs)) (h2 : H l = some (.lst ys)) (h3 : xs.length + ys.length ≤ sizeLine) (q : ∀ p, H p = none → Q (.ref p) (upd H p (.lst (xs ++ ys)))) : rAddU K (.ref a) (.ref l) H Q := .inr (.inr (.inl ⟨a, l, xs, ys, rfl, rfl, h1, h2, h3, q⟩))
theorem k_addT (h1 : SqT K H a xs) (h2 : SqT K H l ys) (h3 : xs.length + ys.length ≤ sizeLine) (q1 : xs = [] → Q (.ref l) H) (q2 : xs ≠ [] → ys = [] → Q (.ref a) H) (q : ∀ p, H p = none → Q (.ref p) (upd H p (.tup (xs ++ ys)))) : rAddU K (.ref a) (.ref l) H Q :=
  .inr (.inr (.inr ⟨a, l, xs, ys, rfl, rfl, h1, h2, h3, q1, q2, fun _ _ => q⟩))
theorem k_sub (q : Q (.int (i - j)) H) : rI0 (fun i j => .int (i - j)) (.int i) (.int j) H Q := ⟨i, j, rfl, rfl, q⟩
theorem k_mulR (h : -(2 ^ 64) < j ∧ j < 2 ^ 64) (q : Q (.int (i * j)) H) : rI CMul (fun i j => .int (i * j)) (.int i) (.int j) H Q := ⟨i, j, rfl, rfl, .inr h, q⟩
theorem k_mulL (h : -(2 ^ 64) < i ∧ i < 2 ^ 64) (q : Q (.int (i * j)) H) : rI CMul (fun i j => .int (i * j)) (.int i) (.int j) H Q := ⟨i, j, rfl, rfl, .inl h, q⟩
theorem k_mod (h : 0 < j) (q : Q (.int (i % j)) H) : rI (fun _ j => 0 < j) (fun i j => .int (i % j)) (.int i) (.int j) H Q := ⟨i, j, rfl, rfl, h, q⟩
theorem k_fdiv (h : 0 < j) (h2 : j < 2 ^ 200) (q : Q (.int (i / j)) H) : rI CDivW (fun i j => .int (i / j)) (.int i) (.int j) H Q := ⟨i, j, rfl, rfl, wide_div h (b := 200) (by omega) (by decide) (by decide), q⟩
theorem k_pow {n : Nat} (h2 : n ≤ 1000000) (h3 : i.natAbs < 2 ^ 64) (q : Q (.int (i ^ n)) H) : rI CPow (fun i j => .int (i ^ j.toNat)) (.int i) (.int (n : Int)) H Q := ⟨i, n, rfl, rfl, ⟨by omega, by omega, h3⟩, q⟩
theorem k_neg (q : Q (.int (-i)) H) : rU (fun i => .int (-i)) (.int i) H Q := ⟨i, rfl, q⟩
theorem k_lt (q : Q (.bl (decide (i < j))) H) : rI0 (fun i j => .bl (decide (i < j))) (.int i) (.int j) H Q := ⟨i, j, rfl, rfl, q⟩
theorem k_le (q : Q (.bl (decide (i ≤ j))) H) : rI0 (fun i j => .bl (decide (i ≤ j))) (.int i) (.int j) H Q := ⟨i, j, rfl, rfl, q⟩
theorem k_gt (q : Q (.bl (decide (j < i))) H) : rI0 (fun i j => .bl (decide (j < i))) (.int i) (.int j) H Q := ⟨i, j, rfl, rfl, q⟩
theorem k_ge (q : Q (.bl (decide (j ≤ i))) H) : rI0 (fun i j => .bl (decide (j ≤ i))) (.int i) (.int j) H Q := ⟨i, j, rfl, rfl, q⟩
theorem dec_eqI : decide (V.int i = V.int j) = decide (i = j) := by
  by_cases h : i = j
  · subst h; simp
  · rw [decide_eq_false h]; exact decide_eq_false fun e => h (V.int.inj e)
theorem dec_eqS {x y : Str} : decide (V.str x = V.str y) = decide (x = y) := by
  by_cases h : x = y
  · subst h; simp
  · rw [decide_eq_false h]; exact decide_eq_false fun e => h (V.str.inj e)
theorem k_eqI (q : Q (.bl (decide (i = j))) H) : rEqU K (.int i) (.int j) H Q := .inl ⟨rfl, by rw [dec_eqI]; exact q⟩
theorem k_neI (q : Q (.bl (!decide (i = j))) H) : rNeU K (.int i) (.int j) H Q := .inl ⟨rfl, by rw [dec_eqI]; exact q⟩
theorem k_eqS {x y : Str} (q : Q (.bl (decide (x = y))) H) : rEqU K (.str x) (.str y) H Q := .inl ⟨rfl, by rw [dec_eqS]; exact q⟩
theorem k_neS {x y : Str} (q : Q (.bl (!decide (x = y))) H) : rNeU K (.str x) (.str y) H Q := .inl ⟨rfl, by rw [dec_eqS]; exact q⟩
theorem k_eqB (q : Q (.bl (decide (b = c))) H) : rEqU K (.bl b) (.bl c) H Q := .inl ⟨rfl, by
  have e : decide (V.bl b = V.bl c) = decide (b = c) := by cases b <;> cases c <;> decide
  rw [e]; exact q⟩
theorem k_neB (q : Q (.bl (!decide (b = c))) H) : rNeU K (.bl b) (.bl c) H Q := .inl ⟨rfl, by
  have e : decide (V.bl b = V.bl c) = decide (b = c) := by cases b <;> cases c <;> decide
  rw [e]; exact q⟩
theorem k_eqD {d e : PyData} (h1 : Dp K H x d) (h2 : Dp K H y e) (s1 : SeqAt.shaped d = true) (s2 : SeqAt.shaped e = true) (q : Q (.bl (PyData.eqv d e)) H) : rEqU K x y H Q := .inr ⟨d, e, h1, h2, s1, s2, q⟩
theorem k_neD {d e : PyData} (h1 : Dp K H x d) (h2 : Dp K H y e) (s1 : SeqAt.shaped d = true) (s2 : SeqAt.shaped e = true) (q : Q (.bl (!PyData.eqv d e)) H) : rNeU K x y H Q := .inr ⟨d, e, h1, h2, s1, s2, q⟩
theorem k_isN (q : Q (.bl (decide (x = .non))) H) : rIsU x .non H Q := .inl ⟨rfl, q⟩
theorem k_isnotN (q : Q (.bl (!decide (x = .non))) H) : rIsNotU x .non H Q := .inl ⟨rfl, q⟩
theorem k_lenL (h : SqL K H a xs) (q : Q (.int xs.length) H) : rLenU K [.ref a] H Q := .inl ⟨a, xs, rfl, .inl h, q⟩
theorem k_lenT (h : SqT K H a xs) (q : Q (.int xs.length) H) : rLenU K [.ref a] H Q := .inl ⟨a, xs, rfl, .inr h, q⟩
theorem k_lenS {w : Str} (h : w.length ≤ sizeLine) (q : Q (.int w.length) H) : rLenU K [.str w] H Q := .inr (.inl ⟨w, rfl, h, q⟩)
theorem k_ixL (h : SqL K H a xs) (h2 : atI xs i = some v) (q : Q v H) : rIx K (.ref a) (.int i) H Q := .inl ⟨a, xs, i, v, rfl, rfl, h, h2, q⟩
theorem k_ixT (h : SqT K H a xs) (h2 : atI xs i = some v) (q : Q v H) : rIx K (.ref a) (.int i) H Q := .inr (.inl ⟨a, xs, i, v, rfl, rfl, h, h2, q⟩)
theorem k_ixS {w : Str} {c : Nat} (h : w.length ≤ sizeLine) (h2 : atI w.cps.toList i = some c) (q : Q (.str ⟨#[c]⟩) H) : rIx K (.str w) (.int i) H Q := .inr (.inr ⟨w, i, c, rfl, rfl, h, h2, q⟩)
theorem k_bm {T : String} {r : V → List V → Hp → VK → Prop} (h : ta σ H fun x H1 => tyV K T x H1 ∧ tl σ H1 fun xs H2 => r x xs H2 Q) : tBM K T r ta tl σ H Q := h
theorem k_bm0 {T : String} {r : V → List V → Hp → VK → Prop} (h : ta σ H fun x H1 => tyV K T x H1 ∧ r x [] H1 Q) : tBM0 K T r ta σ H Q := h
theorem k_tyL {P : Prop} (h : SqL K H a xs) (q : P) : tyV K "list" (.ref a) H ∧ P := ⟨.inl ⟨rfl, _, h⟩, q⟩
theorem k_app (h : H a = some (.lst xs)) (hl : xs.length < sizeLine) (q : Q .non (upd H a (.lst (xs ++ [x])))) : rAppend (.ref a) [x] H Q := ⟨a, xs, x, rfl, rfl, h, hl, q⟩
theorem k_sl {r : V → Option Int → Option Int → Hp → VK → Prop} {tlo thi : TO} (h : te σ H fun x H1 => tlo σ H1 fun l H2 => thi σ H2 fun u H3 => r x l u H3 Q) : tSl r te tlo thi σ H Q := h
theorem k_nop {R : Option Int → Hp → Prop} (h : R none H) : tNoPart σ H R := h
theorem k_part {R : Option Int → Hp → Prop} (h : te σ H fun x H1 => ∃ i, x = .int i ∧ R (some i) H1) : tPart te σ H R := h
theorem k_partI {R : Int → Prop} (h : R i) : ∃ k, V.int i = .int k ∧ R k := ⟨i, rfl, h⟩
theorem k_slL {lo hi : Option Int} (h : SqL K H a xs) (q : ∀ p, H p = none → Q (.ref p) (upd H p (.lst (cutV xs lo hi)))) : rSlU K (.ref a) lo hi H Q := .inl ⟨a, xs, rfl, h, q⟩
theorem k_list (h : SqL K H a xs) (q : ∀ p, H p = none → Q (.ref p) (upd H p (.lst xs))) : rListU K [V.ref a] H Q := ⟨a, xs, rfl, .inl h, q⟩
theorem k_for {wi : TI} {g : TG} {tb : TS} (h : wi σ H fun J H1 => ∃ W : Nat → Nat → L2.St → Hp → Prop, (∃ m, W 0 m σ H1) ∧ ∀ i m σ H, W i m σ H → (J.stop i H ∧ D.nx σ H) ∨ (J.go i H ∧ ∃ N : L2.St → Hp → Prop, (∀ σ' H', N σ' H' → ∃ m', m' < m ∧ W (i + 1) m' σ' H') ∧ ∀ x H', J.yld i H x H' → g x σ H' fun σ2 H2 => tb { D with nx := N, ct := N, bk := D.nx } σ2 H2)) : tFor wi g tb D σ H := h
theorem k_itL {R : It → Hp → Prop} (h : te σ H fun x H1 => ∃ a, x = .ref a ∧ (∃ xs, SqL K H1 a xs) ∧ R (Itl K a) H1) : iList K te σ H R := h
theorem k_itl {R : Addr → Prop} (h1 : SqL K H a xs) (h : R a) : ∃ b, V.ref a = .ref b ∧ (∃ xs, SqL K H b xs) ∧ R b := ⟨a, rfl, ⟨xs, h1⟩, h⟩
theorem k_itT {R : It → Hp → Prop} (h : te σ H fun x H1 => ∃ a, x = .ref a ∧ (∃ xs, SqT K H1 a xs) ∧ R (Itt K a) H1) : iTup K te σ H R := h
theorem k_itt {R : Addr → Prop} (h1 : SqT K H a xs) (h : R a) : ∃ b, V.ref a = .ref b ∧ (∃ xs, SqT K H b xs) ∧ R b := ⟨a, rfl, ⟨xs, h1⟩, h⟩
theorem k_itR1 {R : It → Hp → Prop} (h : tl σ H fun vs H1 => ∃ j : Int, vs = [.int j] ∧ -(2 ^ 62) ≤ j ∧ j < 2 ^ 62 ∧ R (Itr 0 j.toNat) H1) : iRng1 tl σ H R := h
theorem k_itr1 {R : Int → Prop} (h1 : -(2 ^ 62) ≤ j ∧ j < 2 ^ 62) (h : R j) : ∃ k : Int, [V.int j] = [.int k] ∧ -(2 ^ 62) ≤ k ∧ k < 2 ^ 62 ∧ R k := ⟨j, rfl, h1.1, h1.2, h⟩
theorem k_itR2 {R : It → Hp → Prop} (h : tl σ H fun vs H1 => ∃ i j : Int, vs = [.int i, .int j] ∧ (-(2 ^ 62) ≤ i ∧ i < 2 ^ 62 ∧ -(2 ^ 62) ≤ j ∧ j < 2 ^ 62) ∧ R (Itr i (j - i).toNat) H1) : iRng2 tl σ H R := h
theorem k_itr2 {R : Int → Int → Prop} (h1 : -(2 ^ 62) ≤ i ∧ i < 2 ^ 62 ∧ -(2 ^ 62) ≤ j ∧ j < 2 ^ 62) (h : R i j) : ∃ k m : Int, [V.int i, V.int j] = [.int k, .int m] ∧ (-(2 ^ 62) ≤ k ∧ k < 2 ^ 62 ∧ -(2 ^ 62) ≤ m ∧ m < 2 ^ 62) ∧ R k m := ⟨i, j, rfl, h1, h⟩
theorem k_dnew (q : ∀ p, H p = none → Q (.ref p) (upd H p (.dK []))) : tDNewK σ H Q := q
end
/-! ### ifs -/
theorem k_ite {b : Bool} {A B : Prop} (h1 : b = true → A) (h2 : b = false → B) : if b = true then A else B := by
  cases b with
  | true => rw [if_pos rfl]; exact h1 rfl
  | false => rw [if_neg Bool.false_ne_true]; exact h2 rfl
theorem k_itd {p A B : Prop} [Decidable p] (h1 : p → A) (h2 : ¬ p → B) : if decide p = true then A else B := k_ite (fun h => h1 (of_decide_eq_true h)) fun h => h2 (of_decide_eq_false h)
theorem k_itn {p A B : Prop} [Decidable p] (h1 : ¬ p → A) (h2 : p → B) : if (!decide p) = true then A else B := k_ite (fun h => h1 (of_decide_eq_false (by simpa using h))) fun h => h2 (of_decide_eq_true (by simpa using h))
theorem k_pos {p A B : Prop} [Decidable p] (hp : p) (h1 : A) : if decide p = true then A else B := k_itd (fun _ => h1) fun h => absurd hp h
theorem k_neg' {p A B : Prop} [Decidable p] (hp : ¬ p) (h1 : B) : if decide p = true then A else B := k_itd (fun h => absurd h hp) fun _ => h1
theorem k_npos {p A B : Prop} [Decidable p] (hp : ¬ p) (h1 : A) : if (!decide p) = true then A else B := k_itn (fun _ => h1) fun h => absurd h hp
theorem k_nneg {p A B : Prop} [Decidable p] (hp : p) (h1 : B) : if (!decide p) = true then A else B := k_itn (fun h => absurd hp h) fun _ => h1
theorem k_tt {A B : Prop} (h : A) : if true = true then A else B := by rw [if_pos rfl]; exact h
theorem k_ff {A B : Prop} (h : B) : if false = true then A else B := by rw [if_neg Bool.false_ne_true]; exact h
/-! ### what stands where -/
theorem up_new {H : Hp} {a p : Addr} {o u : HO} (hp : H p = none) (h : H a = some o) : upd H p u a = some o := same_new hp _ _ h
theorem up_ne {H : Hp} {a p : Addr} {o u : HO} (n : a ≠ p) (h : H a = some o) : upd H p u a = some o := by rw [upd_ne n]; exact h
theorem Keep.at {d a : Addr} {H H' : Hp} {o : HO} (k : Keep d H H') (n : a ≠ d) (h : H a = some o) : H' a = some o := k a o n h
end Ls
namespace Ls
theorem hu1 {n : Nat} (h : n + 66 < PySem.cLine) : n + 1 < PySem.cLine := by omega
end Ls
namespace Ls
open PySem PySem.Spec PyProof.Rows L2
theorem k_body {t : TS} {D : Ends} {s0 s1 : L2.St} {H : Hp} (e : s0 = s1) (h : t D s1 H) : t D s0 H := e ▸ h
end Ls
namespace Ls
open PySem PySem.Spec PyProof.Rows L2
/-- a statement, then the rest, the ways joined between: M what holds there -/
def tCut (t u : TS) : TS := fun D σ H => ∃ M : L2.St → Hp → Prop, t { D with nx := M } σ H ∧ ∀ σ' H', M σ' H' → u D σ' H'
theorem k_cut {t u : TS} {D : Ends} {σ : L2.St} {H : Hp} (M : L2.St → Hp → Prop) (h1 : t { D with nx := M } σ H) (h2 : ∀ σ' H', M σ' H' → u D σ' H') : tCut t u D σ H := ⟨M, h1, h2⟩
end Ls
namespace Ls
open PySem PySem.Spec PyProof.Rows L2
theorem pss_cut {X : Cx} {st : Stmt} {rest : List Stmt} {t u : TS} (h1 : PS X st t) (h2 : PSs X rest u) : PSs X (st :: rest) (tCut t u) := by
  refine ⟨fun pins s σ H D I h => ?_⟩
  obtain ⟨M, hm, hu⟩ := h
  refine wpAny_execs_cons (thn (h1.run pins s σ H { D with nx := M } I hm) fun f s1 q => ?_)
  cases f with
  | next =>
    obtain ⟨σ', H', I', q⟩ := q
    exact h2.run pins s1 σ' H' D I' (hu σ' H' q)
  | ret v => exact q
  | brk => exact q
  | cont => exact q
theorem k_powL {H : Hp} {Q : VK} {i j v : Int} (h1 : 0 ≤ j ∧ j ≤ 1000000) (h3 : i.natAbs < 2 ^ 64) (e : i ^ j.toNat = v) (q : Q (.int v) H) : rI CPow (fun i j => .int (i ^ j.toNat)) (.int i) (.int j) H Q := ⟨i, j, rfl, rfl, ⟨h1.1, h1.2, h3⟩, by
  show Q (.int (i ^ j.toNat)) H
  rw [e]
  exact q⟩
end Ls
namespace Ls
open PySem PySem.Spec PyProof.Rows L2
theorem pe_ty {X : Cx} {x : Str} {pos : Pos} (T : String) (hg : Gl X x) (hm : X.mg x = none) (hv : bootBuiltins x = some (.type T)) (hn : x ≠ "__name__" := by decide) (hd : (x == ("__debug__" : Str)) = false := by decide) : PE X (.Name x pos) (tC (.ty T)) := pe_bltn (v := .ty T) hg hm hv rfl hn hd
end Ls
namespace Ls
open PySem PySem.Spec PyProof.Rows L2
theorem pe_gc {X : Cx} {x : Str} {pos : Pos} {v : V} (hg : Gl X x) (h : ∃ u, X.mg x = some u ∧ RelV v u) (hd : (x == ("__debug__" : Str)) = false := by decide) : PE X (.Name x pos) (tC v) := by
  obtain ⟨u, h1, h2⟩ := h
  exact pe_glob hg h1 h2 hd
end Ls
namespace Ls
theorem k_nt {A B : Prop} (h : B) : if (!true) = true then A else B := by rw [if_neg (by decide)]; exact h
theorem k_nf {A B : Prop} (h : A) : if (!false) = true then A else B := by rw [if_pos (by decide)]; exact h
end Ls
-- own part: U4
namespace Ls
open PySem PySem.Spec PyProof.Rows L2
/-! ### slots by number -/
section
variable {H : Hp} {Q : VK} {D : Ends} {te : TE} {v x : V} {s : L2.St} {R : L2.St → Hp → Prop} {o0 o1 o2 o3 o4 o5 o6 o7 o8 o9 o10 o11 o12 o13 o14 o15 o16 o17 o18 o19 o20 o21 o22 o23 o24 o25 o26 o27 o28 o29 o30 o31 o32 o33 o34 o35 o36 o37 o38 o39 o40 o41 o42 o43 : Option V}
theorem k_v0 (q : Q v H) : tVar 0 (some v :: s) H Q := ⟨v, rfl, q⟩
theorem k_s0 (q : te (o0 :: s) H fun x H1 => D.nx (some x :: s) H1) : tAsg te (gName 0) D (o0 :: s) H := q
theorem k_g0 (q : R (some x :: s) H) : gName 0 x (o0 :: s) H R := q
theorem k_v1 (q : Q v H) : tVar 1 (o0 :: some v :: s) H Q := ⟨v, rfl, q⟩
theorem k_s1 (q : te (o0 :: o1 :: s) H fun x H1 => D.nx (o0 :: some x :: s) H1) : tAsg te (gName 1) D (o0 :: o1 :: s) H := q
theorem k_g1 (q : R (o0 :: some x :: s) H) : gName 1 x (o0 :: o1 :: s) H R := q
theorem k_v2 (q : Q v H) : tVar 2 (o0 :: o1 :: some v :: s) H Q := ⟨v, rfl, q⟩
theorem k_s2 (q : te (o0 :: o1 :: o2 :: s) H fun x H1 => D.nx (o0 :: o1 :: some x :: s) H1) : tAsg te (gName 2) D (o0 :: o1 :: o2 :: s) H := q
theorem k_g2 (q : R (o0 :: o1 :: some x :: s) H) : gName 2 x (o0 :: o1 :: o2 :: s) H R := q
theorem k_v3 (q : Q v H) : tVar 3 (o0 :: o1 :: o2 :: some v :: s) H Q := ⟨v, rfl, q⟩
theorem k_s3 (q : te (o0 :: o1 :: o2 :: o3 :: s) H fun x H1 => D.nx (o0 :: o1 :: o2 :: some x :: s) H1) : tAsg te (gName 3) D (o0 :: o1 :: o2 :: o3 :: s) H := q
theorem k_g3 (q : R (o0 :: o1 :: o2 :: some x :: s) H) : gName 3 x (o0 :: o1 :: o2 :: o3 :: s) H R := q
theorem k_v4 (q : Q v H) : tVar 4 (o0 :: o1 :: o2 :: o3 :: some v :: s) H Q := ⟨v, rfl, q⟩
theorem k_s4 (q : te (o0 :: o1 :: o2 :: o3 :: o4 :: s) H fun x H1 => D.nx (o0 :: o1 :: o2 :: o3 :: some x :: s) H1) : tAsg te (gName 4) D (o0 :: o1 :: o2 :: o3 :: o4 :: s) H := q
theorem k_g4 (q : R (o0 :: o1 :: o2 :: o3 :: some x :: s) H) : gName 4 x (o0 :: o1 :: o2 :: o3 :: o4 :: s) H R := q
theorem k_v5 (q : Q v H) : tVar 5 (o0 :: o1 :: o2 :: o3 :: o4 :: some v :: s) H Q := ⟨v, rfl, q⟩
theorem k_s5 (q : te (o0 :: o1 :: o2 :: o3 :: o4 :: o5 :: s) H fun x H1 => D.nx (o0 :: o1 :: o2 :: o3 :: o4 :: some x :: s) H1) : tAsg te (gName 5) D (o0 :: o1 :: o2 :: o3 :: o4 :: o5 :: s) H := q
theorem k_g5 (q : R (o0 :: o1 :: o2 :: o3 :: o4 :: some x :: s) H) : gName 5 x (o0 :: o1 :: o2 :: o3 :: o4 :: o5 :: s) H R := q
theorem k_v6 (q : Q v H) : tVar 6 (o0 :: o1 :: o2 :: o3 :: o4 :: o5 :: some v :: s) H Q := ⟨v, rfl, q⟩
theorem k_s6 (q : te (o0 :: o1 :: o2 :: o3 :: o4 :: o5 :: o6 :: s) H fun x H1 => D.nx (o0 :: o1 :: o2 :: o3 :: o4 :: o5 :: some x :: s) H1) : tAsg te (gName 6) D (o0 :: o1 :: o2 :: o3 :: o4 :: o5 :: o6 :: s) H := q
theorem k_g6 (q : R (o0 :: o1 :: o2 :: o3 :: o4 :: o5 :: some x :: s) H) : gName 6 x (o0 :: o1 :: o2 :: o3 :: o4 :: o5 :: o6 :: s) H R := q
theorem k_v7 (q : Q v H) : tVar 7 (o0 :: o1 :: o2 :: o3 :: o4 :: o5 :: o6 :: some v :: s) H Q := ⟨v, rfl, q⟩
theorem k_s7 (q : te (o0 :: o1 :: o2 :: o3 :: o4 :: o5 :: o6 :: o7 :: s) H fun x H1 => D.nx (o0 :: o1 :: o2 :: o3 :: o4 :: o5 :: o6 :: some x :: s) H1) : tAsg te (gName 7) D (o0 :: o1 :: o2 :: o3 :: o4 :: o5 :: o6 :: o7 :: s) H := q
theorem k_g7 (q : R (o0 :: o1 :: o2 :: o3 :: o4 :: o5 :: o6 :: some x :: s) H) : gName 7 x (o0 :: o1 :: o2 :: o3 :: o4 :: o5 :: o6 :: o7 :: s) H R := q
theorem k_v8 (q : Q v H) : tVar 8 (o0 :: o1 :: o2 :: o3 :: o4 :: o5 :: o6 :: o7 :: some v :: s) H Q := ⟨v, rfl, q⟩
theorem k_s8 (q : te (o0 :: o1 :: o2 :: o3 :: o4 :: o5 :: o6 :: o7 :: o8 :: s) H fun x H1 => D.nx (o0 :: o1 :: o2 :: o3 :: o4 :: o5 :: o6 :: o7 :: some x :: s) H1) : tAsg te (gName 8) D (o0 :: o1 :: o2 :: o3 :: o4 :: o5 :: o6 :: o7 :: o8 :: s) H := q
theorem k_g8 (q : R (o0 :: o1 :: o2 :: o3 :: o4 :: o5 :: o6 :: o7 :: some x :: s) H) : gName 8 x (o0 :: o1 :: o2 :: o3 :: o4 :: o5 :: o6 :: o7 :: o8 :: s) H R := q
theorem k_v9 (q : Q v H) : tVar 9 (o0 :: o1 :: o2 :: o3 :: o4 :: o5 :: o6 :: o7 :: o8 :: some v :: s) H Q := ⟨v, rfl, q⟩
theorem k_s9 (q : te (o0 :: o1 :: o2 :: o3 :: o4 :: o5 :: o6 :: o7 :: o8 :: o9 :: s) H fun x H1 => D.nx (o0 :: o1 :: o2 :: o3 :: o4 :: o5 :: o6 :: o7 :: o8 :: some x :: s) H1) : tAsg te (gName 9) D (o0 :: o1 :: o2 :: o3 :: o4 :: o5 :: o6 :: o7 :: o8 :: o9 :: s) H := q
theorem k_g9 (q : R (o0 :: o1 :: o2 :: o3 :: o4 :: o5 :: o6 :: o7 :: o8 :: some x :: s) H) : gName 9 x (o0 :: o1 :: o2 :: o3 :: o4 :: o5 :: o6 :: o7 :: o8 :: o9 :: s) H R := q
theorem k_v10 (q : Q v H) : tVar 10 (o0 :: o1 :: o2 :: o3 :: o4 :: o5 :: o6 :: o7 :: o8 :: o9 :: some v :: s) H Q := ⟨v, rfl, q⟩
theorem k_s10 (q : te (o0 :: o1 :: o2 :: o3 :: o4 :: o5 :: o6 :: o7 :: o8 :: o9 :: o10 :: s) H fun x H1 => D.nx (o0 :: o1 :: o2 :: o3 :: o4 :: o5 :: o6 :: o7 :: o8 :: o9 :: some x :: s) H1) : tAsg te (gName 10) D (o0 :: o1 :: o2 :: o3 :: o4 :: o5 :: o6 :: o7 :: o8 :: o9 :: o10 :: s) H := q
theorem k_g10 (q : R (o0 :: o1 :: o2 :: o3 :: o4 :: o5 :: o6 :: o7 :: o8 :: o9 :: some x :: s) H) : gName 10 x (o0 :: o1 :: o2 :: o3 :: o4 :: o5 :: o6 :: o7 :: o8 :: o9 :: o10 :: s) H R := q
theorem k_v11 (q : Q v H) : tVar 11 (o0 :: o1 :: o2 :: o3 :: o4 :: o5 :: o6 :: o7 :: o8 :: o9 :: o10 :: some v :: s) H Q := ⟨v, rfl, q⟩
theorem k_s11 (q : te (o0 :: o1 :: o2 :: o3 :: o4 :: o5 :: o6 :: o7 :: o8 :: o9 :: o10 :: o11 :: s) H fun x H1 => D.nx (o0 :: o1 :: o2 :: o3 :: o4 :: o5 :: o6 :: o7 :: o8 :: o9 :: o10 :: some x :: s) H1) : tAsg te (gName 11) D (o0 :: o1 :: o2 :: o3 :: o4 :: o5 :: o6 :: o7 :: o8 :: o9 :: o10 :: o11 :: s) H := q
theorem k_g11 (q : R (o0 :: o1 :: o2 :: o3 :: o4 :: o5 :: o6 :: o7 :: o8 :: o9 :: o10 :: some x :: s) H) : gName 11 x (o0 :: o1 :: o2 :: o3 :: o4 :: o5 :: o6 :: o7 :: o8 :: o9 :: o10 :: o11 :: s) H R := q
theorem k_v12 (q : Q v H) : tVar 12 (o0 :: o1 :: o2 :: o3 :: o4 :: o5 :: o6 :: o7 :: o8 :: o9 :: o10 :: o11 :: some v :: s) H Q := ⟨v, rfl, q⟩
theorem k_s12 (q : te (o0 :: o1 :: o2 :: o3 :: o4 :: o5 :: o6 :: o7 :: o8 :: o9 :: o10 :: o11 :: o12 :: s) H fun x H1 => D.nx (o0 :: o1 :: o2 :: o3 :: o4 :: o5 :: o6 :: o7 :: o8 :: o9 :: o10 :: o11 :: some x :: s) H1) : tAsg te (gName 12) D (o0 :: o1 :: o2 :: o3 :: o4 :: o5 :: o6 :: o7 :: o8 :: o9 :: o10 :: o11 :: o12 :: s) H := q
theorem k_g12 (q : R (o0 :: o1 :: o2 :: o3 :: o4 :: o5 :: o6 :: o7 :: o8 :: o9 :: o10 :: o11 :: some x :: s) H) : gName 12 x (o0 :: o1 :: o2 :: o3 :: o4 :: o5 :: o6 :: o7 :: o8 :: o9 :: o10 :: o11 :: o12 :: s) H R := q
theorem k_v13 (q : Q v H) : tVar 13 (o0 :: o1 :: o2 :: o3 :: o4 :: o5 :: o6 :: o7 :: o8 :: o9 :: o10 :: o11 :: o12 :: some v :: s) H Q := ⟨v, rfl, q⟩
theorem k_s13 (q : te (o0 :: o1 :: o2 :: o3 :: o4 :: o5 :: o6 :: o7 :: o8 :: o9 :: o10 :: o11 :: o12 :: o13 :: s) H fun x H1 => D.nx (o0 :: o1 :: o2 :: o3 :: o4 :: o5 :: o6 :: o7 :: o8 :: o9 :: o10 :: o11 :: o12 :: some x :: s) H1) : tAsg te (gName 13) D (o0 :: o1 :: o2 :: o3 :: o4 :: o5 :: o6 :: o7 :: o8 :: o9 :: o10 :: o11 :: o12 :: o13 :: s) H := q
theorem k_g13 (q : R (o0 :: o1 :: o2 :: o3 :: o4 :: o5 :: o6 :: o7 :: o8 :: o9 :: o10 :: o11 :: o12 :: some x :: s) H) : gName 13 x (o0 :: o1 :: o2 :: o3 :: o4 :: o5 :: o6 :: o7 :: o8 :: o9 :: o10 :: o11 :: o12 :: o13 :: s) H R := q
theorem k_v14 (q : Q v H) : tVar 14 (o0 :: o1 :: o2 :: o3 :: o4 :: o5 :: o6 :: o7 :: o8 :: o9 :: o10 :: o11 :: o12 :: o13 :: some v :: s) H Q := ⟨v, rfl, q⟩
theorem k_s14 (q : te (o0 :: o1 :: o2 :: o3 :: o4 :: o5 :: o6 :: o7 :: o8 :: o9 :: o10 :: o11 :: o12 :: o13 :: o14 :: s) H fun x H1 => D.nx (o0 :: o1 :: o2 :: o3 :: o4 :: o5 :: o6 :: o7 :: o8 :: o9 :: o10 :: o11 :: o12 :: o13 :: some x :: s) H1) : tAsg te (gName 14) D (o0 :: o1 :: o2 :: o3 :: o4 :: o5 :: o6 :: o7 :: o8 :: o9 :: o10 :: o11 :: o12 :: o13 :: o14 :: s) H := q
theorem k_g14 (q : R (o0 :: o1 :: o2 :: o3 :: o4 :: o5 :: o6 :: o7 :: o8 :: o9 :: o10 :: o11 :: o12 :: o13 :: some x :: s) H) : gName 14 x (o0 :: o1 :: o2 :: o3 :: o4 :: o5 :: o6 :: o7 :: o8 :: o9 :: o10 :: o11 :: o12 :: o13 :: o14 :: s) H R := q
theorem k_v15 (q : Q v H) : tVar 15 (o0 :: o1 :: o2 :: o3 :: o4 :: o5 :: o6 :: o7 :: o8 :: o9 :: o10 :: o11 :: o12 :: o13 :: o14 :: some v :: s) H Q := ⟨v, rfl, q⟩
theorem k_s15 (q : te (o0 :: o1 :: o2 :: o3 :: o4 :: o5 :: o6 :: o7 :: o8 :: o9 :: o10 :: o11 :: o12 :: o13 :: o14 :: o15 :: s) H fun x H1 => D.nx (o0 :: o1 :: o2 :: o3 :: o4 :: o5 :: o6 :: o7 :: o8 :: o9 :: o10 :: o11 :: o12 :: o13 :: o14 :: some x :: s) H1) : tAsg te (gName 15) D (o0 :: o1 :: o2 :: o3 :: o4 :: o5 :: o6 :: o7 :: o8 :: o9 :: o10 :: o11 :: o12 :: o13 :: o14 :: o15 :: s) H := q
theorem k_g15 (q : R (o0 :: o1 :: o2 :: o3 :: o4 :: o5 :: o6 :: o7 :: o8 :: o9 :: o10 :: o11 :: o12 :: o13 :: o14 :: some x :: s) H) : gName 15 x (o0 :: o1 :: o2 :: o3 :: o4 :: o5 :: o6 :: o7 :: o8 :: o9 :: o10 :: o11 :: o12 :: o13 :: o14 :: o15 :: s) H R := q
theorem k_v16 (q : Q v H) : tVar 16 (o0 :: o1 :: o2 :: o3 :: o4 :: o5 :: o6 :: o7 :: o8 :: o9 :: o10 :: o11 :: o12 :: o13 :: o14 :: o15 :: some v :: s) H Q := ⟨v, rfl, q⟩
theorem k_s16 (q : te (o0 :: o1 :: o2 :: o3 :: o4 :: o5 :: o6 :: o7 :: o8 :: o9 :: o10 :: o11 :: o12 :: o13 :: o14 :: o15 :: o16 :: s) H fun x H1 => D.nx (o0 :: o1 :: o2 :: o3 :: o4 :: o5 :: o6 :: o7 :: o8 :: o9 :: o10 :: o11 :: o12 :: o13 :: o14 :: o15 :: some x :: s) H1) : tAsg te (gName 16) D (o0 :: o1 :: o2 :: o3 :: o4 :: o5 :: o6 :: o7 :: o8 :: o9 :: o10 :: o11 :: o12 :: o13 :: o14 :: o15 :: o16 :: s) H := q
theorem k_g16 (q : R (o0 :: o1 :: o2 :: o3 :: o4 :: o5 :: o6 :: o7 :: o8 :: o9 :: o10 :: o11 :: o12 :: o13 :: o14 :: o15 :: some x :: s) H) : gName 16 x (o0 :: o1 :: o2 :: o3 :: o4 :: o5 :: o6 :: o7 :: o8 :: o9 :: o10 :: o11 :: o12 :: o13 :: o14 :: o15 :: o16 :: s) H R := q
theorem k_v17 (q : Q v H) : tVar 17 (o0 :: o1 :: o2 :: o3 :: o4 :: o5 :: o6 :: o7 :: o8 :: o9 :: o10 :: o11 :: o12 :: o13 :: o14 :: o15 :: o16 :: some v :: s) H Q := ⟨v, rfl, q⟩
theorem k_s17 (q : te (o0 :: o1 :: o2 :: o3 :: o4 :: o5 :: o6 :: o7 :: o8 :: o9 :: o10 :: o11 :: o12 :: o13 :: o14 :: o15 :: o16 :: o17 :: s) H fun x H1 => D.nx (o0 :: o1 :: o2 :: o3 :: o4 :: o5 :: o6 :: o7 :: o8 :: o9 :: o10 :: o11 :: o12 :: o13 :: o14 :: o15 :: o16 :: some x :: s) H1) : tAsg te (gName 17) D (o0 :: o1 :: o2 :: o3 :: o4 :: o5 :: o6 :: o7 :: o8 :: o9 :: o10 :: o11 :: o12 :: o13 :: o14 :: o15 :: o16 :: o17 :: s) H := q
theorem k_g17 (q : R (o0 :: o1 :: o2 :: o3 :: o4 :: o5 :: o6 :: o7 :: o8 :: o9 :: o10 :: o11 :: o12 :: o13 :: o14 :: o15 :: o16 :: some x :: s) H) : gName 17 x (o0 :: o1 :: o2 :: o3 :: o4 :: o5 :: o6 :: o7 :: o8 :: o9 :: o10 :: o11 :: o12 :: o13 :: o14 :: o15 :: o16 :: o17 :: s) H R := q
theorem k_v18 (q : Q v H) : tVar 18 (o0 :: o1 :: o2 :: o3 :: o4 :: o5 :: o6 :: o7 :: o8 :: o9 :: o10 :: o11 :: o12 :: o13 :: o14 :: o15 :: o16 :: o17 :: some v :: s) H Q := ⟨v, rfl, q⟩
theorem k_s18 (q : te (o0 :: o1 :: o2 :: o3 :: o4 :: o5 :: o6 :: o7 :: o8 :: o9 :: o10 :: o11 :: o12 :: o13 :: o14 :: o15 :: o16 :: o17 :: o18 :: s) H fun x H1 => D.nx (o0 :: o1 :: o2 :: o3 :: o4 :: o5 :: o6 :: o7 :: o8 :: o9 :: o10 :: o11 :: o12 :: o13 :: o14 :: o15 :: o16 :: o17 :: some x :: s) H1) : tAsg te (gName 18) D (o0 :: o1 :: o2 :: o3 :: o4 :: o5 :: o6 :: o7 :: o8 :: o9 :: o10 :: o11 :: o12 :: o13 :: o14 :: o15 :: o16 :: o17 :: o18 :: s) H := q
theorem k_g18 (q : R (o0 :: o1 :: o2 :: o3 :: o4 :: o5 :: o6 :: o7 :: o8 :: o9 :: o10 :: o11 :: o12 :: o13 :: o14 :: o15 :: o16 :: o17 :: some x :: s) H) : gName 18 x (o0 :: o1 :: o2 :: o3 :: o4 :: o5 :: o6 :: o7 :: o8 :: o9 :: o10 :: o11 :: o12 :: o13 :: o14 :: o15 :: o16 :: o17 :: o18 :: s) H R := q
theorem k_v19 (q : Q v H) : tVar 19 (o0 :: o1 :: o2 :: o3 :: o4 :: o5 :: o6 :: o7 :: o8 :: o9 :: o10 :: o11 :: o12 :: o13 :: o14 :: o15 :: o16 :: o17 :: o18 :: some v :: s) H Q := ⟨v, rfl, q⟩
theorem k_s19 (q : te (o0 :: o1 :: o2 :: o3 :: o4 :: o5 :: o6 :: o7 :: o8 :: o9 :: o10 :: o11 :: o12 :: o13 :: o14 :: o15 :: o16 :: o17 :: o18 :: o19 :: s) H fun x H1 => D.nx (o0 :: o1 :: o2 :: o3 :: o4 :: o5 :: o6 :: o7 :: o8 :: o9 :: o10 :: o11 :: o12 :: o13 :: o14 :: o15 :: o16 :: o17 :: o18 :: some x :: s) H1) : tAsg te (gName 19) D (o0 :: o1 :: o2 :: o3 :: o4 :: o5 :: o6 :: o7 :: o8 :: o9 :: o10 :: o11 :: o12 :: o13 :: o14 :: o15 :: o16 :: o17 :: o18 :: o19 :: s) H := q
theorem k_g19 (q : R (o0 :: o1 :: o2 :: o3 :: o4 :: o5 :: o6 :: o7 :: o8 :: o9 :: o10 :: o11 :: o12 :: o13 :: o14 :: o15 :: o16 :: o17 :: o18 :: some x :: s) H) : gName 19 x (o0 :: o1 :: o2 :: o3 :: o4 :: o5 :: o6 :: o7 :: o8 :: o9 :: o10 :: o11 :: o12 :: o13 :: o14 :: o15 :: o16 :: o17 :: o18 :: o19 :: s) H R := q
theorem k_v20 (q : Q v H) : tVar 20 (o0 :: o1 :: o2 :: o3 :: o4 :: o5 :: o6 :: o7 :: o8 :: o9 :: o10 :: o11 :: o12 :: o13 :: o14 :: o15 :: o16 :: o17 :: o18 :: o19 :: some v :: s) H Q := ⟨v, rfl, q⟩
theorem k_s20 (q : te (o0 :: o1 :: o2 :: o3 :: o4 :: o5 :: o6 :: o7 :: o8 :: o9 :: o10 :: o11 :: o12 :: o13 :: o14 :: o15 :: o16 :: o17 :: o18 :: o19 :: o20 :: s) H fun x H1 => D.nx (o0 :: o1 :: o2 :: o3 :: o4 :: o5 :: o6 :: o7 :: o8 :: o9 :: o10 :: o11 :: o12 :: o13 :: o14 :: o15 :: o16 :: o17 :: o18 :: o19 :: some x :: s) H1) : tAsg te (gName 20) D (o0 :: o1 :: o2 :: o3 :: o4 :: o5 :: o6 :: o7 :: o8 :: o9 :: o10 :: o11 :: o12 :: o13 :: o14 :: o15 :: o16 :: o17 :: o18 :: o19 :: o20 :: s) H := q
theorem k_g20 (q : R (o0 :: o1 :: o2 :: o3 :: o4 :: o5 :: o6 :: o7 :: o8 :: o9 :: o10 :: o11 :: o12 :: o13 :: o14 :: o15 :: o16 :: o17 :: o18 :: o19 :: some x :: s) H) : gName 20 x (o0 :: o1 :: o2 :: o3 :: o4 :: o5 :: o6 :: o7 :: o8 :: o9 :: o10 :: o11 :: o12 :: o13 :: o14 :: o15 :: o16 :: o17 :: o18 :: o19 :: o20 :: s) H R := q
theorem k_v21 (q : Q v H) : tVar 21 (o0 :: o1 :: o2 :: o3 :: o4 :: o5 :: o6 :: o7 :: o8 :: o9 :: o10 :: o11 :: o12 :: o13 :: o14 :: o15 :: o16 :: o17 :: o18 :: o19 :: o20 :: some v :: s) H Q := ⟨v, rfl, q⟩
theorem k_s21 (q : te (o0 :: o1 :: o2 :: o3 :: o4 :: o5 :: o6 :: o7 :: o8 :: o9 :: o10 :: o11 :: o12 :: o13 :: o14 :: o15 :: o16 :: o17 :: o18 :: o19 :: o20 :: o21 :: s) H fun x H1 => D.nx (o0 :: o1 :: o2 :: o3 :: o4 :: o5 :: o6 :: o7 :: o8 :: o9 :: o10 :: o11 :: o12 :: o13 :: o14 :: o15 :: o16 :: o17 :: o18 :: o19 :: o20 :: some x :: s) H1) : tAsg te (gName 21) D (o0 :: o1 :: o2 :: o3 :: o4 :: o5 :: o6 :: o7 :: o8 :: o9 :: o10 :: o11 :: o12 :: o13 :: o14 :: o15 :: o16 :: o17 :: o18 :: o19 :: o20 :: o21 :: s) H := q
theorem k_g21 (q : R (o0 :: o1 :: o2 :: o3 :: o4 :: o5 :: o6 :: o7 :: o8 :: o9 :: o10 :: o11 :: o12 :: o13 :: o14 :: o15 :: o16 :: o17 :: o18 :: o19 :: o20 :: some x :: s) H) : gName 21 x (o0 :: o1 :: o2 :: o3 :: o4 :: o5 :: o6 :: o7 :: o8 :: o9 :: o10 :: o11 :: o12 :: o13 :: o14 :: o15 :: o16 :: o17 :: o18 :: o19 :: o20 :: o21 :: s) H R := q
theorem k_v22 (q : Q v H) : tVar 22 (o0 :: o1 :: o2 :: o3 :: o4 :: o5 :: o6 :: o7 :: o8 :: o9 :: o10 :: o11 :: o12 :: o13 :: o14 :: o15 :: o16 :: o17 :: o18 :: o19 :: o20 :: o21 :: some v :: s) H Q := ⟨v, rfl, q⟩
theorem k_s22 (q : te (o0 :: o1 :: o2 :: o3 :: o4 :: o5 :: o6 :: o7 :: o8 :: o9 :: o10 :: o11 :: o12 :: o13 :: o14 :: o15 :: o16 :: o17 :: o18 :: o19 :: o20 :: o21 :: o22 :: s) H fun x H1 => D.nx (o0 :: o1 :: o2 :: o3 :: o4 :: o5 :: o6 :: o7 :: o8 :: o9 :: o10 :: o11 :: o12 :: o13 :: o14 :: o15 :: o16 :: o17 :: o18 :: o19 :: o20 :: o21 :: some x :: s) H1) : tAsg te (gName 22) D (o0 :: o1 :: o2 :: o3 :: o4 :: o5 :: o6 :: o7 :: o8 :: o9 :: o10 :: o11 :: o12 :: o13 :: o14 :: o15 :: o16 :: o17 :: o18 :: o19 :: o20 :: o21 :: o22 :: s) H := q
theorem k_g22 (q : R (o0 :: o1 :: o2 :: o3 :: o4 :: o5 :: o6 :: o7 :: o8 :: o9 :: o10 :: o11 :: o12 :: o13 :: o14 :: o15 :: o16 :: o17 :: o18 :: o19 :: o20 :: o21 :: some x :: s) H) : gName 22 x (o0 :: o1 :: o2 :: o3 :: o4 :: o5 :: o6 :: o7 :: o8 :: o9 :: o10 :: o11 :: o12 :: o13 :: o14 :: o15 :: o16 :: o17 :: o18 :: o19 :: o20 :: o21 :: o22 :: s) H R := q
theorem k_v23 (q : Q v H) : tVar 23 (o0 :: o1 :: o2 :: o3 :: o4 :: o5 :: o6 :: o7 :: o8 :: o9 :: o10 :: o11 :: o12 :: o13 :: o14 :: o15 :: o16 :: o17 :: o18 :: o19 :: o20 :: o21 :: o22 :: some v :: s) H Q := ⟨v, rfl, q⟩
theorem k_s23 (q : te (o0 :: o1 :: o2 :: o3 :: o4 :: o5 :: o6 :: o7 :: o8 :: o9 :: o10 :: o11 :: o12 :: o13 :: o14 :: o15 :: o16 :: o17 :: o18 :: o19 :: o20 :: o21 :: o22 :: o23 :: s) H fun x H1 => D.nx (o0 :: o1 :: o2 :: o3 :: o4 :: o5 :: o6 :: o7 :: o8 :: o9 :: o10 :: o11 :: o12 :: o13 :: o14 :: o15 :: o16 :: o17 :: o18 :: o19 :: o20 :: o21 :: o22 :: some x :: s) H1) : tAsg te (gName 23) D (o0 :: o1 :: o2 :: o3 :: o4 :: o5 :: o6 :: o7 :: o8 :: o9 :: o10 :: o11 :: o12 :: o13 :: o14 :: o15 :: o16 :: o17 :: o18 :: o19 :: o20 :: o21 :: o22 :: o23 :: s) H := q
theorem k_g23 (q : R (o0 :: o1 :: o2 :: o3 :: o4 :: o5 :: o6 :: o7 :: o8 :: o9 :: o10 :: o11 :: o12 :: o13 :: o14 :: o15 :: o16 :: o17 :: o18 :: o19 :: o20 :: o21 :: o22 :: some x :: s) H) : gName 23 x (o0 :: o1 :: o2 :: o3 :: o4 :: o5 :: o6 :: o7 :: o8 :: o9 :: o10 :: o11 :: o12 :: o13 :: o14 :: o15 :: o16 :: o17 :: o18 :: o19 :: o20 :: o21 :: o22 :: o23 :: s) H R := q
theorem k_v24 (q : Q v H) : tVar 24 (o0 :: o1 :: o2 :: o3 :: o4 :: o5 :: o6 :: o7 :: o8 :: o9 :: o10 :: o11 :: o12 :: o13 :: o14 :: o15 :: o16 :: o17 :: o18 :: o19 :: o20 :: o21 :: o22 :: o23 :: some v :: s) H Q := ⟨v, rfl, q⟩
theorem k_s24 (q : te (o0 :: o1 :: o2 :: o3 :: o4 :: o5 :: o6 :: o7 :: o8 :: o9 :: o10 :: o11 :: o12 :: o13 :: o14 :: o15 :: o16 :: o17 :: o18 :: o19 :: o20 :: o21 :: o22 :: o23 :: o24 :: s) H fun x H1 => D.nx (o0 :: o1 :: o2 :: o3 :: o4 :: o5 :: o6 :: o7 :: o8 :: o9 :: o10 :: o11 :: o12 :: o13 :: o14 :: o15 :: o16 :: o17 :: o18 :: o19 :: o20 :: o21 :: o22 :: o23 :: some x :: s) H1) : tAsg te (gName 24) D (o0 :: o1 :: o2 :: o3 :: o4 :: o5 :: o6 :: o7 :: o8 :: o9 :: o10 :: o11 :: o12 :: o13 :: o14 :: o15 :: o16 :: o17 :: o18 :: o19 :: o20 :: o21 :: o22 :: o23 :: o24 :: s) H := q
theorem k_g24 (q : R (o0 :: o1 :: o2 :: o3 :: o4 :: o5 :: o6 :: o7 :: o8 :: o9 :: o10 :: o11 :: o12 :: o13 :: o14 :: o15 :: o16 :: o17 :: o18 :: o19 :: o20 :: o21 :: o22 :: o23 :: some x :: s) H) : gName 24 x (o0 :: o1 :: o2 :: o3 :: o4 :: o5 :: o6 :: o7 :: o8 :: o9 :: o10 :: o11 :: o12 :: o13 :: o14 :: o15 :: o16 :: o17 :: o18 :: o19 :: o20 :: o21 :: o22 :: o23 :: o24 :: s) H R := q
theorem k_v25 (q : Q v H) : tVar 25 (o0 :: o1 :: o2 :: o3 :: o4 :: o5 :: o6 :: o7 :: o8 :: o9 :: o10 :: o11 :: o12 :: o13 :: o14 :: o15 :: o16 :: o17 :: o18 :: o19 :: o20 :: o21 :: o22 :: o23 :: o24 :: some v :: s) H Q := ⟨v, rfl, q⟩
theorem k_s25 (q : te (o0 :: o1 :: o2 :: o3 :: o4 :: o5 :: o6 :: o7 :: o8 :: o9 :: o10 :: o11 :: o12 :: o13 :: o14 :: o15 :: o16 :: o17 :: o18 :: o19 :: o20 :: o21 :: o22 :: o23 :: o24 :: o25 :: s) H fun x H1 => D.nx (o0 :: o1 :: o2 :: o3 :: o4 :: o5 :: o6 :: o7 :: o8 :: o9 :: o10 :: o11 :: o12 :: o13 :: o14 :: o15 :: o16 :: o17 :: o18 :: o19 :: o20 :: o21 :: o22 :: o23 :: o24 :: some x :: s) H1) : tAsg te (gName 25) D (o0 :: o1 :: o2 :: o3 :: o4 :: o5 :: o6 :: o7 :: o8 :: o9 :: o10 :: o11 :: o12 :: o13 :: o14 :: o15 :: o16 :: o17 :: o18 :: o19 :: o20 :: o21 :: o22 :: o23 :: o24 :: o25 :: s) H := q
theorem k_g25 (q : R (o0 :: o1 :: o2 :: o3 :: o4 :: o5 :: o6 :: o7 :: o8 :: o9 :: o10 :: o11 :: o12 :: o13 :: o14 :: o15 :: o16 :: o17 :: o18 :: o19 :: o20 :: o21 :: o22 :: o23 :: o24 :: some x :: s) H) : gName 25 x (o0 :: o1 :: o2 :: o3 :: o4 :: o5 :: o6 :: o7 :: o8 :: o9 :: o10 :: o11 :: o12 :: o13 :: o14 :: o15 :: o16 :: o17 :: o18 :: o19 :: o20 :: o21 :: o22 :: o23 :: o24 :: o25 :: s) H R := q
theorem k_v26 (q : Q v H) : tVar 26 (o0 :: o1 :: o2 :: o3 :: o4 :: o5 :: o6 :: o7 :: o8 :: o9 :: o10 :: o11 :: o12 :: o13 :: o14 :: o15 :: o16 :: o17 :: o18 :: o19 :: o20 :: o21 :: o22 :: o23 :: o24 :: o25 :: some v :: s) H Q := ⟨v, rfl, q⟩
theorem k_s26 (q : te (o0 :: o1 :: o2 :: o3 :: o4 :: o5 :: o6 :: o7 :: o8 :: o9 :: o10 :: o11 :: o12 :: o13 :: o14 :: o15 :: o16 :: o17 :: o18 :: o19 :: o20 :: o21 :: o22 :: o23 :: o24 :: o25 :: o26 :: s) H fun x H1 => D.nx (o0 :: o1 :: o2 :: o3 :: o4 :: o5 :: o6 :: o7 :: o8 :: o9 :: o10 :: o11 :: o12 :: o13 :: o14 :: o15 :: o16 :: o17 :: o18 :: o19 :: o20 :: o21 :: o22 :: o23 :: o24 :: o25 :: some x :: s) H1) : tAsg te (gName 26) D (o0 :: o1 :: o2 :: o3 :: o4 :: o5 :: o6 :: o7 :: o8 :: o9 :: o10 :: o11 :: o12 :: o13 :: o14 :: o15 :: o16 :: o17 :: o18 :: o19 :: o20 :: o21 :: o22 :: o23 :: o24 :: o25 :: o26 :: s) H := q
theorem k_g26 (q : R (o0 :: o1 :: o2 :: o3 :: o4 :: o5 :: o6 :: o7 :: o8 :: o9 :: o10 :: o11 :: o12 :: o13 :: o14 :: o15 :: o16 :: o17 :: o18 :: o19 :: o20 :: o21 :: o22 :: o23 :: o24 :: o25 :: some x :: s) H) : gName 26 x (o0 :: o1 :: o2 :: o3 :: o4 :: o5 :: o6 :: o7 :: o8 :: o9 :: o10 :: o11 :: o12 :: o13 :: o14 :: o15 :: o16 :: o17 :: o18 :: o19 :: o20 :: o21 :: o22 :: o23 :: o24 :: o25 :: o26 :: s) H R := q
theorem k_v27 (q : Q v H) : tVar 27 (o0 :: o1 :: o2 :: o3 :: o4 :: o5 :: o6 :: o7 :: o8 :: o9 :: o10 :: o11 :: o12 :: o13 :: o14 :: o15 :: o16 :: o17 :: o18 :: o19 :: o20 :: o21 :: o22 :: o23 :: o24 :: o25 :: o26 :: some v :: s) H Q := ⟨v, rfl, q⟩
theorem k_s27 (q : te (o0 :: o1 :: o2 :: o3 :: o4 :: o5 :: o6 :: o7 :: o8 :: o9 :: o10 :: o11 :: o12 :: o13 :: o14 :: o15 :: o16 :: o17 :: o18 :: o19 :: o20 :: o21 :: o22 :: o23 :: o24 :: o25 :: o26 :: o27 :: s) H fun x H1 => D.nx (o0 :: o1 :: o2 :: o3 :: o4 :: o5 :: o6 :: o7 :: o8 :: o9 :: o10 :: o11 :: o12 :: o13 :: o14 :: o15 :: o16 :: o17 :: o18 :: o19 :: o20 :: o21 :: o22 :: o23 :: o24 :: o25 :: o26 :: some x :: s) H1) : tAsg te (gName 27) D (o0 :: o1 :: o2 :: o3 :: o4 :: o5 :: o6 :: o7 :: o8 :: o9 :: o10 :: o11 :: o12 :: o13 :: o14 :: o15 :: o16 :: o17 :: o18 :: o19 :: o20 :: o21 :: o22 :: o23 :: o24 :: o25 :: o26 :: o27 :: s) H := q
theorem k_g27 (q : R (o0 :: o1 :: o2 :: o3 :: o4 :: o5 :: o6 :: o7 :: o8 :: o9 :: o10 :: o11 :: o12 :: o13 :: o14 :: o15 :: o16 :: o17 :: o18 :: o19 :: o20 :: o21 :: o22 :: o23 :: o24 :: o25 :: o26 :: some x :: s) H) : gName 27 x (o0 :: o1 :: o2 :: o3 :: o4 :: o5 :: o6 :: o7 :: o8 :: o9 :: o10 :: o11 :: o12 :: o13 :: o14 :: o15 :: o16 :: o17 :: o18 :: o19 :: o20 :: o21 :: o22 :: o23 :: o24 :: o25 :: o26 :: o27 :: s) H R := q
theorem k_v28 (q : Q v H) : tVar 28 (o0 :: o1 :: o2 :: o3 :: o4 :: o5 :: o6 :: o7 :: o8 :: o9 :: o10 :: o11 :: o12 :: o13 :: o14 :: o15 :: o16 :: o17 :: o18 :: o19 :: o20 :: o21 :: o22 :: o23 :: o24 :: o25 :: o26 :: o27 :: some v :: s) H Q := ⟨v, rfl, q⟩
theorem k_s28 (q : te (o0 :: o1 :: o2 :: o3 :: o4 :: o5 :: o6 :: o7 :: o8 :: o9 :: o10 :: o11 :: o12 :: o13 :: o14 :: o15 :: o16 :: o17 :: o18 :: o19 :: o20 :: o21 :: o22 :: o23 :: o24 :: o25 :: o26 :: o27 :: o28 :: s) H fun x H1 => D.nx (o0 :: o1 :: o2 :: o3 :: o4 :: o5 :: o6 :: o7 :: o8 :: o9 :: o10 :: o11 :: o12 :: o13 :: o14 :: o15 :: o16 :: o17 :: o18 :: o19 :: o20 :: o21 :: o22 :: o23 :: o24 :: o25 :: o26 :: o27 :: some x :: s) H1) : tAsg te (gName 28) D (o0 :: o1 :: o2 :: o3 :: o4 :: o5 :: o6 :: o7 :: o8 :: o9 :: o10 :: o11 :: o12 :: o13 :: o14 :: o15 :: o16 :: o17 :: o18 :: o19 :: o20 :: o21 :: o22 :: o23 :: o24 :: o25 :: o26 :: o27 :: o28 :: s) H := q
theorem k_g28 (q : R (o0 :: o1 :: o2 :: o3 :: o4 :: o5 :: o6 :: o7 :: o8 :: o9 :: o10 :: o11 :: o12 :: o13 :: o14 :: o15 :: o16 :: o17 :: o18 :: o19 :: o20 :: o21 :: o22 :: o23 :: o24 :: o25 :: o26 :: o27 :: some x :: s) H) : gName 28 x (o0 :: o1 :: o2 :: o3 :: o4 :: o5 :: o6 :: o7 :: o8 :: o9 :: o10 :: o11 :: o12 :: o13 :: o14 :: o15 :: o16 :: o17 :: o18 :: o19 :: o20 :: o21 :: o22 :: o23 :: o24 :: o25 :: o26 :: o27 :: o28 :: s) H R := q
theorem k_v29 (q : Q v H) : tVar 29 (o0 :: o1 :: o2 :: o3 :: o4 :: o5 :: o6 :: o7 :: o8 :: o9 :: o10 :: o11 :: o12 :: o13 :: o14 :: o15 :: o16 :: o17 :: o18 :: o19 :: o20 :: o21 :: o22 :: o23 :: o24 :: o25 :: o26 :: o27 :: o28 :: some v :: s) H Q := ⟨v, rfl, q⟩
theorem k_s29 (q : te (o0 :: o1 :: o2 :: o3 :: o4 :: o5 :: o6 :: o7 :: o8 :: o9 :: o10 :: o11 :: o12 :: o13 :: o14 :: o15 :: o16 :: o17 :: o18 :: o19 :: o20 :: o21 :: o22 :: o23 :: o24 :: o25 :: o26 :: o27 :: o28 :: o29 :: s) H fun x H1 => D.nx (o0 :: o1 :: o2 :: o3 :: o4 :: o5 :: o6 :: o7 :: o8 :: o9 :: o10 :: o11 :: o12 :: o13 :: o14 :: o15 :: o16 :: o17 :: o18 :: o19 :: o20 :: o21 :: o22 :: o23 :: o24 :: o25 :: o26 :: o27 :: o28 :: some x :: s) H1) : tAsg te (gName 29) D (o0 :: o1 :: o2 :: o3 :: o4 :: o5 :: o6 :: o7 :: o8 :: o9 :: o10 :: o11 :: o12 :: o13 :: o14 :: o15 :: o16 :: o17 :: o18 :: o19 :: o20 :: o21 :: o22 :: o23 :: o24 :: o25 :: o26 :: o27 :: o28 :: o29 :: s) H := q
theorem k_g29 (q : R (o0 :: o1 :: o2 :: o3 :: o4 :: o5 :: o6 :: o7 :: o8 :: o9 :: o10 :: o11 :: o12 :: o13 :: o14 :: o15 :: o16 :: o17 :: o18 :: o19 :: o20 :: o21 :: o22 :: o23 :: o24 :: o25 :: o26 :: o27 :: o28 :: some x :: s) H) : gName 29 x (o0 :: o1 :: o2 :: o3 :: o4 :: o5 :: o6 :: o7 :: o8 :: o9 :: o10 :: o11 :: o12 :: o13 :: o14 :: o15 :: o16 :: o17 :: o18 :: o19 :: o20 :: o21 :: o22 :: o23 :: o24 :: o25 :: o26 :: o27 :: o28 :: o29 :: s) H R := q
theorem k_v30 (q : Q v H) : tVar 30 (o0 :: o1 :: o2 :: o3 :: o4 :: o5 :: o6 :: o7 :: o8 :: o9 :: o10 :: o11 :: o12 :: o13 :: o14 :: o15 :: o16 :: o17 :: o18 :: o19 :: o20 :: o21 :: o22 :: o23 :: o24 :: o25 :: o26 :: o27 :: o28 :: o29 :: some v :: s) H Q := ⟨v, rfl, q⟩
theorem k_s30 (q : te (o0 :: o1 :: o2 :: o3 :: o4 :: o5 :: o6 :: o7 :: o8 :: o9 :: o10 :: o11 :: o12 :: o13 :: o14 :: o15 :: o16 :: o17 :: o18 :: o19 :: o20 :: o21 :: o22 :: o23 :: o24 :: o25 :: o26 :: o27 :: o28 :: o29 :: o30 :: s) H fun x H1 => D.nx (o0 :: o1 :: o2 :: o3 :: o4 :: o5 :: o6 :: o7 :: o8 :: o9 :: o10 :: o11 :: o12 :: o13 :: o14 :: o15 :: o16 :: o17 :: o18 :: o19 :: o20 :: o21 :: o22 :: o23 :: o24 :: o25 :: o26 :: o27 :: o28 :: o29 :: some x :: s) H1) : tAsg te (gName 30) D (o0 :: o1 :: o2 :: o3 :: o4 :: o5 :: o6 :: o7 :: o8 :: o9 :: o10 :: o11 :: o12 :: o13 :: o14 :: o15 :: o16 :: o17 :: o18 :: o19 :: o20 :: o21 :: o22 :: o23 :: o24 :: o25 :: o26 :: o27 :: o28 :: o29 :: o30 :: s) H := q
theorem k_g30 (q : R (o0 :: o1 :: o2 :: o3 :: o4 :: o5 :: o6 :: o7 :: o8 :: o9 :: o10 :: o11 :: o12 :: o13 :: o14 :: o15 :: o16 :: o17 :: o18 :: o19 :: o20 :: o21 :: o22 :: o23 :: o24 :: o25 :: o26 :: o27 :: o28 :: o29 :: some x :: s) H) : gName 30 x (o0 :: o1 :: o2 :: o3 :: o4 :: o5 :: o6 :: o7 :: o8 :: o9 :: o10 :: o11 :: o12 :: o13 :: o14 :: o15 :: o16 :: o17 :: o18 :: o19 :: o20 :: o21 :: o22 :: o23 :: o24 :: o25 :: o26 :: o27 :: o28 :: o29 :: o30 :: s) H R := q
theorem k_v31 (q : Q v H) : tVar 31 (o0 :: o1 :: o2 :: o3 :: o4 :: o5 :: o6 :: o7 :: o8 :: o9 :: o10 :: o11 :: o12 :: o13 :: o14 :: o15 :: o16 :: o17 :: o18 :: o19 :: o20 :: o21 :: o22 :: o23 :: o24 :: o25 :: o26 :: o27 :: o28 :: o29 :: o30 :: some v :: s) H Q := ⟨v, rfl, q⟩
theorem k_s31 (q : te (o0 :: o1 :: o2 :: o3 :: o4 :: o5 :: o6 :: o7 :: o8 :: o9 :: o10 :: o11 :: o12 :: o13 :: o14 :: o15 :: o16 :: o17 :: o18 :: o19 :: o20 :: o21 :: o22 :: o23 :: o24 :: o25 :: o26 :: o27 :: o28 :: o29 :: o30 :: o31 :: s) H fun x H1 => D.nx (o0 :: o1 :: o2 :: o3 :: o4 :: o5 :: o6 :: o7 :: o8 :: o9 :: o10 :: o11 :: o12 :: o13 :: o14 :: o15 :: o16 :: o17 :: o18 :: o19 :: o20 :: o21 :: o22 :: o23 :: o24 :: o25 :: o26 :: o27 :: o28 :: o29 :: o30 :: some x :: s) H1) : tAsg te (gName 31) D (o0 :: o1 :: o2 :: o3 :: o4 :: o5 :: o6 :: o7 :: o8 :: o9 :: o10 :: o11 :: o12 :: o13 :: o14 :: o15 :: o16 :: o17 :: o18 :: o19 :: o20 :: o21 :: o22 :: o23 :: o24 :: o25 :: o26 :: o27 :: o28 :: o29 :: o30 :: o31 :: s) H := q
theorem k_g31 (q : R (o0 :: o1 :: o2 :: o3 :: o4 :: o5 :: o6 :: o7 :: o8 :: o9 :: o10 :: o11 :: o12 :: o13 :: o14 :: o15 :: o16 :: o17 :: o18 :: o19 :: o20 :: o21 :: o22 :: o23 :: o24 :: o25 :: o26 :: o27 :: o28 :: o29 :: o30 :: some x :: s) H) : gName 31 x (o0 :: o1 :: o2 :: o3 :: o4 :: o5 :: o6 :: o7 :: o8 :: o9 :: o10 :: o11 :: o12 :: o13 :: o14 :: o15 :: o16 :: o17 :: o18 :: o19 :: o20 :: o21 :: o22 :: o23 :: o24 :: o25 :: o26 :: o27 :: o28 :: o29 :: o30 :: o31 :: s) H R := q
theorem k_v32 (q : Q v H) : tVar 32 (o0 :: o1 :: o2 :: o3 :: o4 :: o5 :: o6 :: o7 :: o8 :: o9 :: o10 :: o11 :: o12 :: o13 :: o14 :: o15 :: o16 :: o17 :: o18 :: o19 :: o20 :: o21 :: o22 :: o23 :: o24 :: o25 :: o26 :: o27 :: o28 :: o29 :: o30 :: o31 :: some v :: s) H Q := ⟨v, rfl, q⟩
theorem k_s32 (q : te (o0 :: o1 :: o2 :: o3 :: o4 :: o5 :: o6 :: o7 :: o8 :: o9 :: o10 :: o11 :: o12 :: o13 :: o14 :: o15 :: o16 :: o17 :: o18 :: o19 :: o20 :: o21 :: o22 :: o23 :: o24 :: o25 :: o26 :: o27 :: o28 :: o29 :: o30 :: o31 :: o32 :: s) H fun x H1 => D.nx (o0 :: o1 :: o2 :: o3 :: o4 :: o5 :: o6 :: o7 :: o8 :: o9 :: o10 :: o11 :: o12 :: o13 :: o14 :: o15 :: o16 :: o17 :: o18 :: o19 :: o20 :: o21 :: o22 :: o23 :: o24 :: o25 :: o26 :: o27 :: o28 :: o29 :: o30 :: o31 :: some x :: s) H1) : tAsg te (gName 32) D (o0 :: o1 :: o2 :: o3 :: o4 :: o5 :: o6 :: o7 :: o8 :: o9 :: o10 :: o11 :: o12 :: o13 :: o14 :: o15 :: o16 :: o17 :: o18 :: o19 :: o20 :: o21 :: o22 :: o23 :: o24 :: o25 :: o26 :: o27 :: o28 :: o29 :: o30 :: o31 :: o32 :: s) H := q
theorem k_g32 (q : R (o0 :: o1 :: o2 :: o3 :: o4 :: o5 :: o6 :: o7 :: o8 :: o9 :: o10 :: o11 :: o12 :: o13 :: o14 :: o15 :: o16 :: o17 :: o18 :: o19 :: o20 :: o21 :: o22 :: o23 :: o24 :: o25 :: o26 :: o27 :: o28 :: o29 :: o30 :: o31 :: some x :: s) H) : gName 32 x (o0 :: o1 :: o2 :: o3 :: o4 :: o5 :: o6 :: o7 :: o8 :: o9 :: o10 :: o11 :: o12 :: o13 :: o14 :: o15 :: o16 :: o17 :: o18 :: o19 :: o20 :: o21 :: o22 :: o23 :: o24 :: o25 :: o26 :: o27 :: o28 :: o29 :: o30 :: o31 :: o32 :: s) H R := q
theorem k_v33 (q : Q v H) : tVar 33 (o0 :: o1 :: o2 :: o3 :: o4 :: o5 :: o6 :: o7 :: o8 :: o9 :: o10 :: o11 :: o12 :: o13 :: o14 :: o15 :: o16 :: o17 :: o18 :: o19 :: o20 :: o21 :: o22 :: o23 :: o24 :: o25 :: o26 :: o27 :: o28 :: o29 :: o30 :: o31 :: o32 :: some v :: s) H Q := ⟨v, rfl, q⟩
theorem k_s33 (q : te (o0 :: o1 :: o2 :: o3 :: o4 :: o5 :: o6 :: o7 :: o8 :: o9 :: o10 :: o11 :: o12 :: o13 :: o14 :: o15 :: o16 :: o17 :: o18 :: o19 :: o20 :: o21 :: o22 :: o23 :: o24 :: o25 :: o26 :: o27 :: o28 :: o29 :: o30 :: o31 :: o32 :: o33 :: s) H fun x H1 => D.nx (o0 :: o1 :: o2 :: o3 :: o4 :: o5 :: o6 :: o7 :: o8 :: o9 :: o10 :: o11 :: o12 :: o13 :: o14 :: o15 :: o16 :: o17 :: o18 :: o19 :: o20 :: o21 :: o22 :: o23 :: o24 :: o25 :: o26 :: o27 :: o28 :: o29 :: o30 :: o31 :: o32 :: some x :: s) H1) : tAsg te (gName 33) D (o0 :: o1 :: o2 :: o3 :: o4 :: o5 :: o6 :: o7 :: o8 :: o9 :: o10 :: o11 :: o12 :: o13 :: o14 :: o15 :: o16 :: o17 :: o18 :: o19 :: o20 :: o21 :: o22 :: o23 :: o24 :: o25 :: o26 :: o27 :: o28 :: o29 :: o30 :: o31 :: o32 :: o33 :: s) H := q
theorem k_g33 (q : R (o0 :: o1 :: o2 :: o3 :: o4 :: o5 :: o6 :: o7 :: o8 :: o9 :: o10 :: o11 :: o12 :: o13 :: o14 :: o15 :: o16 :: o17 :: o18 :: o19 :: o20 :: o21 :: o22 :: o23 :: o24 :: o25 :: o26 :: o27 :: o28 :: o29 :: o30 :: o31 :: o32 :: some x :: s) H) : gName 33 x (o0 :: o1 :: o2 :: o3 :: o4 :: o5 :: o6 :: o7 :: o8 :: o9 :: o10 :: o11 :: o12 :: o13 :: o14 :: o15 :: o16 :: o17 :: o18 :: o19 :: o20 :: o21 :: o22 :: o23 :: o24 :: o25 :: o26 :: o27 :: o28 :: o29 :: o30 :: o31 :: o32 :: o33 :: s) H R := q
theorem k_v34 (q : Q v H) : tVar 34 (o0 :: o1 :: o2 :: o3 :: o4 :: o5 :: o6 :: o7 :: o8 :: o9 :: o10 :: o11 :: o12 :: o13 :: o14 :: o15 :: o16 :: o17 :: o18 :: o19 :: o20 :: o21 :: o22 :: o23 :: o24 :: o25 :: o26 :: o27 :: o28 :: o29 :: o30 :: o31 :: o32 :: o33 :: some v :: s) H Q := ⟨v, rfl, q⟩
theorem k_s34 (q : te (o0 :: o1 :: o2 :: o3 :: o4 :: o5 :: o6 :: o7 :: o8 :: o9 :: o10 :: o11 :: o12 :: o13 :: o14 :: o15 :: o16 :: o17 :: o18 :: o19 :: o20 :: o21 :: o22 :: o23 :: o24 :: o25 :: o26 :: o27 :: o28 :: o29 :: o30 :: o31 :: o32 :: o33 :: o34 :: s) H fun x H1 => D.nx (o0 :: o1 :: o2 :: o3 :: o4 :: o5 :: o6 :: o7 :: o8 :: o9 :: o10 :: o11 :: o12 :: o13 :: o14 :: o15 :: o16 :: o17 :: o18 :: o19 :: o20 :: o21 :: o22 :: o23 :: o24 :: o25 :: o26 :: o27 :: o28 :: o29 :: o30 :: o31 :: o32 :: o33 :: some x :: s) H1) : tAsg te (gName 34) D (o0 :: o1 :: o2 :: o3 :: o4 :: o5 :: o6 :: o7 :: o8 :: o9 :: o10 :: o11 :: o12 :: o13 :: o14 :: o15 :: o16 :: o17 :: o18 :: o19 :: o20 :: o21 :: o22 :: o23 :: o24 :: o25 :: o26 :: o27 :: o28 :: o29 :: o30 :: o31 :: o32 :: o33 :: o34 :: s) H := q
theorem k_g34 (q : R (o0 :: o1 :: o2 :: o3 :: o4 :: o5 :: o6 :: o7 :: o8 :: o9 :: o10 :: o11 :: o12 :: o13 :: o14 :: o15 :: o16 :: o17 :: o18 :: o19 :: o20 :: o21 :: o22 :: o23 :: o24 :: o25 :: o26 :: o27 :: o28 :: o29 :: o30 :: o31 :: o32 :: o33 :: some x :: s) H) : gName 34 x (o0 :: o1 :: o2 :: o3 :: o4 :: o5 :: o6 :: o7 :: o8 :: o9 :: o10 :: o11 :: o12 :: o13 :: o14 :: o15 :: o16 :: o17 :: o18 :: o19 :: o20 :: o21 :: o22 :: o23 :: o24 :: o25 :: o26 :: o27 :: o28 :: o29 :: o30 :: o31 :: o32 :: o33 :: o34 :: s) H R := q
theorem k_v35 (q : Q v H) : tVar 35 (o0 :: o1 :: o2 :: o3 :: o4 :: o5 :: o6 :: o7 :: o8 :: o9 :: o10 :: o11 :: o12 :: o13 :: o14 :: o15 :: o16 :: o17 :: o18 :: o19 :: o20 :: o21 :: o22 :: o23 :: o24 :: o25 :: o26 :: o27 :: o28 :: o29 :: o30 :: o31 :: o32 :: o33 :: o34 :: some v :: s) H Q := ⟨v, rfl, q⟩
theorem k_s35 (q : te (o0 :: o1 :: o2 :: o3 :: o4 :: o5 :: o6 :: o7 :: o8 :: o9 :: o10 :: o11 :: o12 :: o13 :: o14 :: o15 :: o16 :: o17 :: o18 :: o19 :: o20 :: o21 :: o22 :: o23 :: o24 :: o25 :: o26 :: o27 :: o28 :: o29 :: o30 :: o31 :: o32 :: o33 :: o34 :: o35 :: s) H fun x H1 => D.nx (o0 :: o1 :: o2 :: o3 :: o4 :: o5 :: o6 :: o7 :: o8 :: o9 :: o10 :: o11 :: o12 :: o13 :: o14 :: o15 :: o16 :: o17 :: o18 :: o19 :: o20 :: o21 :: o22 :: o23 :: o24 :: o25 :: o26 :: o27 :: o28 :: o29 :: o30 :: o31 :: o32 :: o33 :: o34 :: some x :: s) H1) : tAsg te (gName 35) D (o0 :: o1 :: o2 :: o3 :: o4 :: o5 :: o6 :: o7 :: o8 :: o9 :: o10 :: o11 :: o12 :: o13 :: o14 :: o15 :: o16 :: o17 :: o18 :: o19 :: o20 :: o21 :: o22 :: o23 :: o24 :: o25 :: o26 :: o27 :: o28 :: o29 :: o30 :: o31 :: o32 :: o33 :: o34 :: o35 :: s) H := q
theorem k_g35 (q : R (o0 :: o1 :: o2 :: o3 :: o4 :: o5 :: o6 :: o7 :: o8 :: o9 :: o10 :: o11 :: o12 :: o13 :: o14 :: o15 :: o16 :: o17 :: o18 :: o19 :: o20 :: o21 :: o22 :: o23 :: o24 :: o25 :: o26 :: o27 :: o28 :: o29 :: o30 :: o31 :: o32 :: o33 :: o34 :: some x :: s) H) : gName 35 x (o0 :: o1 :: o2 :: o3 :: o4 :: o5 :: o6 :: o7 :: o8 :: o9 :: o10 :: o11 :: o12 :: o13 :: o14 :: o15 :: o16 :: o17 :: o18 :: o19 :: o20 :: o21 :: o22 :: o23 :: o24 :: o25 :: o26 :: o27 :: o28 :: o29 :: o30 :: o31 :: o32 :: o33 :: o34 :: o35 :: s) H R := q
theorem k_v36 (q : Q v H) : tVar 36 (o0 :: o1 :: o2 :: o3 :: o4 :: o5 :: o6 :: o7 :: o8 :: o9 :: o10 :: o11 :: o12 :: o13 :: o14 :: o15 :: o16 :: o17 :: o18 :: o19 :: o20 :: o21 :: o22 :: o23 :: o24 :: o25 :: o26 :: o27 :: o28 :: o29 :: o30 :: o31 :: o32 :: o33 :: o34 :: o35 :: some v :: s) H Q := ⟨v, rfl, q⟩
theorem k_s36 (q : te (o0 :: o1 :: o2 :: o3 :: o4 :: o5 :: o6 :: o7 :: o8 :: o9 :: o10 :: o11 :: o12 :: o13 :: o14 :: o15 :: o16 :: o17 :: o18 :: o19 :: o20 :: o21 :: o22 :: o23 :: o24 :: o25 :: o26 :: o27 :: o28 :: o29 :: o30 :: o31 :: o32 :: o33 :: o34 :: o35 :: o36 :: s) H fun x H1 => D.nx (o0 :: o1 :: o2 :: o3 :: o4 :: o5 :: o6 :: o7 :: o8 :: o9 :: o10 :: o11 :: o12 :: o13 :: o14 :: o15 :: o16 :: o17 :: o18 :: o19 :: o20 :: o21 :: o22 :: o23 :: o24 :: o25 :: o26 :: o27 :: o28 :: o29 :: o30 :: o31 :: o32 :: o33 :: o34 :: o35 :: some x :: s) H1) : tAsg te (gName 36) D (o0 :: o1 :: o2 :: o3 :: o4 :: o5 :: o6 :: o7 :: o8 :: o9 :: o10 :: o11 :: o12 :: o13 :: o14 :: o15 :: o16 :: o17 :: o18 :: o19 :: o20 :: o21 :: o22 :: o23 :: o24 :: o25 :: o26 :: o27 :: o28 :: o29 :: o30 :: o31 :: o32 :: o33 :: o34 :: o35 :: o36 :: s) H := q
theorem k_g36 (q : R (o0 :: o1 :: o2 :: o3 :: o4 :: o5 :: o6 :: o7 :: o8 :: o9 :: o10 :: o11 :: o12 :: o13 :: o14 :: o15 :: o16 :: o17 :: o18 :: o19 :: o20 :: o21 :: o22 :: o23 :: o24 :: o25 :: o26 :: o27 :: o28 :: o29 :: o30 :: o31 :: o32 :: o33 :: o34 :: o35 :: some x :: s) H) : gName 36 x (o0 :: o1 :: o2 :: o3 :: o4 :: o5 :: o6 :: o7 :: o8 :: o9 :: o10 :: o11 :: o12 :: o13 :: o14 :: o15 :: o16 :: o17 :: o18 :: o19 :: o20 :: o21 :: o22 :: o23 :: o24 :: o25 :: o26 :: o27 :: o28 :: o29 :: o30 :: o31 :: o32 :: o33 :: o34 :: o35 :: o36 :: s) H R := q
theorem k_v37 (q : Q v H) : tVar 37 (o0 :: o1 :: o2 :: o3 :: o4 :: o5 :: o6 :: o7 :: o8 :: o9 :: o10 :: o11 :: o12 :: o13 :: o14 :: o15 :: o16 :: o17 :: o18 :: o19 :: o20 :: o21 :: o22 :: o23 :: o24 :: o25 :: o26 :: o27 :: o28 :: o29 :: o30 :: o31 :: o32 :: o33 :: o34 :: o35 :: o36 :: some v :: s) H Q := ⟨v, rfl, q⟩
theorem k_s37 (q : te (o0 :: o1 :: o2 :: o3 :: o4 :: o5 :: o6 :: o7 :: o8 :: o9 :: o10 :: o11 :: o12 :: o13 :: o14 :: o15 :: o16 :: o17 :: o18 :: o19 :: o20 :: o21 :: o22 :: o23 :: o24 :: o25 :: o26 :: o27 :: o28 :: o29 :: o30 :: o31 :: o32 :: o33 :: o34 :: o35 :: o36 :: o37 :: s) H fun x H1 => D.nx (o0 :: o1 :: o2 :: o3 :: o4 :: o5 :: o6 :: o7 :: o8 :: o9 :: o10 :: o11 :: o12 :: o13 :: o14 :: o15 :: o16 :: o17 :: o18 :: o19 :: o20 :: o21 :: o22 :: o23 :: o24 :: o25 :: o26 :: o27 :: o28 :: o29 :: o30 :: o31 :: o32 :: o33 :: o34 :: o35 :: o36 :: some x :: s) H1) : tAsg te (gName 37) D (o0 :: o1 :: o2 :: o3 :: o4 :: o5 :: o6 :: o7 :: o8 :: o9 :: o10 :: o11 :: o12 :: o13 :: o14 :: o15 :: o16 :: o17 :: o18 :: o19 :: o20 :: o21 :: o22 :: o23 :: o24 :: o25 :: o26 :: o27 :: o28 :: o29 :: o30 :: o31 :: o32 :: o33 :: o34 :: o35 :: o36 :: o37 :: s) H := q
theorem k_g37 (q : R (o0 :: o1 :: o2 :: o3 :: o4 :: o5 :: o6 :: o7 :: o8 :: o9 :: o10 :: o11 :: o12 :: o13 :: o14 :: o15 :: o16 :: o17 :: o18 :: o19 :: o20 :: o21 :: o22 :: o23 :: o24 :: o25 :: o26 :: o27 :: o28 :: o29 :: o30 :: o31 :: o32 :: o33 :: o34 :: o35 :: o36 :: some x :: s) H) : gName 37 x (o0 :: o1 :: o2 :: o3 :: o4 :: o5 :: o6 :: o7 :: o8 :: o9 :: o10 :: o11 :: o12 :: o13 :: o14 :: o15 :: o16 :: o17 :: o18 :: o19 :: o20 :: o21 :: o22 :: o23 :: o24 :: o25 :: o26 :: o27 :: o28 :: o29 :: o30 :: o31 :: o32 :: o33 :: o34 :: o35 :: o36 :: o37 :: s) H R := q
theorem k_v38 (q : Q v H) : tVar 38 (o0 :: o1 :: o2 :: o3 :: o4 :: o5 :: o6 :: o7 :: o8 :: o9 :: o10 :: o11 :: o12 :: o13 :: o14 :: o15 :: o16 :: o17 :: o18 :: o19 :: o20 :: o21 :: o22 :: o23 :: o24 :: o25 :: o26 :: o27 :: o28 :: o29 :: o30 :: o31 :: o32 :: o33 :: o34 :: o35 :: o36 :: o37 :: some v :: s) H Q := ⟨v, rfl, q⟩
theorem k_s38 (q : te (o0 :: o1 :: o2 :: o3 :: o4 :: o5 :: o6 :: o7 :: o8 :: o9 :: o10 :: o11 :: o12 :: o13 :: o14 :: o15 :: o16 :: o17 :: o18 :: o19 :: o20 :: o21 :: o22 :: o23 :: o24 :: o25 :: o26 :: o27 :: o28 :: o29 :: o30 :: o31 :: o32 :: o33 :: o34 :: o35 :: o36 :: o37 :: o38 :: s) H fun x H1 => D.nx (o0 :: o1 :: o2 :: o3 :: o4 :: o5 :: o6 :: o7 :: o8 :: o9 :: o10 :: o11 :: o12 :: o13 :: o14 :: o15 :: o16 :: o17 :: o18 :: o19 :: o20 :: o21 :: o22 :: o23 :: o24 :: o25 :: o26 :: o27 :: o28 :: o29 :: o30 :: o31 :: o32 :: o33 :: o34 :: o35 :: o36 :: o37 :: some x :: s) H1) : tAsg te (gName 38) D (o0 :: o1 :: o2 :: o3 :: o4 :: o5 :: o6 :: o7 :: o8 :: o9 :: o10 :: o11 :: o12 :: o13 :: o14 :: o15 :: o16 :: o17 :: o18 :: o19 :: o20 :: o21 :: o22 :: o23 :: o24 :: o25 :: o26 :: o27 :: o28 :: o29 :: o30 :: o31 :: o32 :: o33 :: o34 :: o35 :: o36 :: o37 :: o38 :: s) H := q
theorem k_g38 (q : R (o0 :: o1 :: o2 :: o3 :: o4 :: o5 :: o6 :: o7 :: o8 :: o9 :: o10 :: o11 :: o12 :: o13 :: o14 :: o15 :: o16 :: o17 :: o18 :: o19 :: o20 :: o21 :: o22 :: o23 :: o24 :: o25 :: o26 :: o27 :: o28 :: o29 :: o30 :: o31 :: o32 :: o33 :: o34 :: o35 :: o36 :: o37 :: some x :: s) H) : gName 38 x (o0 :: o1 :: o2 :: o3 :: o4 :: o5 :: o6 :: o7 :: o8 :: o9 :: o10 :: o11 :: o12 :: o13 :: o14 :: o15 :: o16 :: o17 :: o18 :: o19 :: o20 :: o21 :: o22 :: o23 :: o24 :: o25 :: o26 :: o27 :: o28 :: o29 :: o30 :: o31 :: o32 :: o33 :: o34 :: o35 :: o36 :: o37 :: o38 :: s) H R := q
theorem k_v39 (q : Q v H) : tVar 39 (o0 :: o1 :: o2 :: o3 :: o4 :: o5 :: o6 :: o7 :: o8 :: o9 :: o10 :: o11 :: o12 :: o13 :: o14 :: o15 :: o16 :: o17 :: o18 :: o19 :: o20 :: o21 :: o22 :: o23 :: o24 :: o25 :: o26 :: o27 :: o28 :: o29 :: o30 :: o31 :: o32 :: o33 :: o34 :: o35 :: o36 :: o37 :: o38 :: some v :: s) H Q := ⟨v, rfl, q⟩
theorem k_s39 (q : te (o0 :: o1 :: o2 :: o3 :: o4 :: o5 :: o6 :: o7 :: o8 :: o9 :: o10 :: o11 :: o12 :: o13 :: o14 :: o15 :: o16 :: o17 :: o18 :: o19 :: o20 :: o21 :: o22 :: o23 :: o24 :: o25 :: o26 :: o27 :: o28 :: o29 :: o30 :: o31 :: o32 :: o33 :: o34 :: o35 :: o36 :: o37 :: o38 :: o39 :: s) H fun x H1 => D.nx (o0 :: o1 :: o2 :: o3 :: o4 :: o5 :: o6 :: o7 :: o8 :: o9 :: o10 :: o11 :: o12 :: o13 :: o14 :: o15 :: o16 :: o17 :: o18 :: o19 :: o20 :: o21 :: o22 :: o23 :: o24 :: o25 :: o26 :: o27 :: o28 :: o29 :: o30 :: o31 :: o32 :: o33 :: o34 :: o35 :: o36 :: o37 :: o38 :: some x :: s) H1) : tAsg te (gName 39) D (o0 :: o1 :: o2 :: o3 :: o4 :: o5 :: o6 :: o7 :: o8 :: o9 :: o10 :: o11 :: o12 :: o13 :: o14 :: o15 :: o16 :: o17 :: o18 :: o19 :: o20 :: o21 :: o22 :: o23 :: o24 :: o25 :: o26 :: o27 :: o28 :: o29 :: o30 :: o31 :: o32 :: o33 :: o34 :: o35 :: o36 :: o37 :: o38 :: o39 :: s) H := q
theorem k_g39 (q : R (o0 :: o1 :: o2 :: o3 :: o4 :: o5 :: o6 :: o7 :: o8 :: o9 :: o10 :: o11 :: o12 :: o13 :: o14 :: o15 :: o16 :: o17 :: o18 :: o19 :: o20 :: o21 :: o22 :: o23 :: o24 :: o25 :: o26 :: o27 :: o28 :: o29 :: o30 :: o31 :: o32 :: o33 :: o34 :: o35 :: o36 :: o37 :: o38 :: some x :: s) H) : gName 39 x (o0 :: o1 :: o2 :: o3 :: o4 :: o5 :: o6 :: o7 :: o8 :: o9 :: o10 :: o11 :: o12 :: o13 :: o14 :: o15 :: o16 :: o17 :: o18 :: o19 :: o20 :: o21 :: o22 :: o23 :: o24 :: o25 :: o26 :: o27 :: o28 :: o29 :: o30 :: o31 :: o32 :: o33 :: o34 :: o35 :: o36 :: o37 :: o38 :: o39 :: s) H R := q
theorem k_v40 (q : Q v H) : tVar 40 (o0 :: o1 :: o2 :: o3 :: o4 :: o5 :: o6 :: o7 :: o8 :: o9 :: o10 :: o11 :: o12 :: o13 :: o14 :: o15 :: o16 :: o17 :: o18 :: o19 :: o20 :: o21 :: o22 :: o23 :: o24 :: o25 :: o26 :: o27 :: o28 :: o29 :: o30 :: o31 :: o32 :: o33 :: o34 :: o35 :: o36 :: o37 :: o38 :: o39 :: some v :: s) H Q := ⟨v, rfl, q⟩
theorem k_s40 (q : te (o0 :: o1 :: o2 :: o3 :: o4 :: o5 :: o6 :: o7 :: o8 :: o9 :: o10 :: o11 :: o12 :: o13 :: o14 :: o15 :: o16 :: o17 :: o18 :: o19 :: o20 :: o21 :: o22 :: o23 :: o24 :: o25 :: o26 :: o27 :: o28 :: o29 :: o30 :: o31 :: o32 :: o33 :: o34 :: o35 :: o36 :: o37 :: o38 :: o39 :: o40 :: s) H fun x H1 => D.nx (o0 :: o1 :: o2 :: o3 :: o4 :: o5 :: o6 :: o7 :: o8 :: o9 :: o10 :: o11 :: o12 :: o13 :: o14 :: o15 :: o16 :: o17 :: o18 :: o19 :: o20 :: o21 :: o22 :: o23 :: o24 :: o25 :: o26 :: o27 :: o28 :: o29 :: o30 :: o31 :: o32 :: o33 :: o34 :: o35 :: o36 :: o37 :: o38 :: o39 :: some x :: s) H1) : tAsg te (gName 40) D (o0 :: o1 :: o2 :: o3 :: o4 :: o5 :: o6 :: o7 :: o8 :: o9 :: o10 :: o11 :: o12 :: o13 :: o14 :: o15 :: o16 :: o17 :: o18 :: o19 :: o20 :: o21 :: o22 :: o23 :: o24 :: o25 :: o26 :: o27 :: o28 :: o29 :: o30 :: o31 :: o32 :: o33 :: o34 :: o35 :: o36 :: o37 :: o38 :: o39 :: o40 :: s) H := q
theorem k_g40 (q : R (o0 :: o1 :: o2 :: o3 :: o4 :: o5 :: o6 :: o7 :: o8 :: o9 :: o10 :: o11 :: o12 :: o13 :: o14 :: o15 :: o16 :: o17 :: o18 :: o19 :: o20 :: o21 :: o22 :: o23 :: o24 :: o25 :: o26 :: o27 :: o28 :: o29 :: o30 :: o31 :: o32 :: o33 :: o34 :: o35 :: o36 :: o37 :: o38 :: o39 :: some x :: s) H) : gName 40 x (o0 :: o1 :: o2 :: o3 :: o4 :: o5 :: o6 :: o7 :: o8 :: o9 :: o10 :: o11 :: o12 :: o13 :: o14 :: o15 :: o16 :: o17 :: o18 :: o19 :: o20 :: o21 :: o22 :: o23 :: o24 :: o25 :: o26 :: o27 :: o28 :: o29 :: o30 :: o31 :: o32 :: o33 :: o34 :: o35 :: o36 :: o37 :: o38 :: o39 :: o40 :: s) H R := q
theorem k_v41 (q : Q v H) : tVar 41 (o0 :: o1 :: o2 :: o3 :: o4 :: o5 :: o6 :: o7 :: o8 :: o9 :: o10 :: o11 :: o12 :: o13 :: o14 :: o15 :: o16 :: o17 :: o18 :: o19 :: o20 :: o21 :: o22 :: o23 :: o24 :: o25 :: o26 :: o27 :: o28 :: o29 :: o30 :: o31 :: o32 :: o33 :: o34 :: o35 :: o36 :: o37 :: o38 :: o39 :: o40 :: some v :: s) H Q := ⟨v, rfl, q⟩
theorem k_s41 (q : te (o0 :: o1 :: o2 :: o3 :: o4 :: o5 :: o6 :: o7 :: o8 :: o9 :: o10 :: o11 :: o12 :: o13 :: o14 :: o15 :: o16 :: o17 :: o18 :: o19 :: o20 :: o21 :: o22 :: o23 :: o24 :: o25 :: o26 :: o27 :: o28 :: o29 :: o30 :: o31 :: o32 :: o33 :: o34 :: o35 :: o36 :: o37 :: o38 :: o39 :: o40 :: o41 :: s) H fun x H1 => D.nx (o0 :: o1 :: o2 :: o3 :: o4 :: o5 :: o6 :: o7 :: o8 :: o9 :: o10 :: o11 :: o12 :: o13 :: o14 :: o15 :: o16 :: o17 :: o18 :: o19 :: o20 :: o21 :: o22 :: o23 :: o24 :: o25 :: o26 :: o27 :: o28 :: o29 :: o30 :: o31 :: o32 :: o33 :: o34 :: o35 :: o36 :: o37 :: o38 :: o39 :: o40 :: some x :: s) H1) : tAsg te (gName 41) D (o0 :: o1 :: o2 :: o3 :: o4 :: o5 :: o6 :: o7 :: o8 :: o9 :: o10 :: o11 :: o12 :: o13 :: o14 :: o15 :: o16 :: o17 :: o18 :: o19 :: o20 :: o21 :: o22 :: o23 :: o24 :: o25 :: o26 :: o27 :: o28 :: o29 :: o30 :: o31 :: o32 :: o33 :: o34 :: o35 :: o36 :: o37 :: o38 :: o39 :: o40 :: o41 :: s) H := q
theorem k_g41 (q : R (o0 :: o1 :: o2 :: o3 :: o4 :: o5 :: o6 :: o7 :: o8 :: o9 :: o10 :: o11 :: o12 :: o13 :: o14 :: o15 :: o16 :: o17 :: o18 :: o19 :: o20 :: o21 :: o22 :: o23 :: o24 :: o25 :: o26 :: o27 :: o28 :: o29 :: o30 :: o31 :: o32 :: o33 :: o34 :: o35 :: o36 :: o37 :: o38 :: o39 :: o40 :: some x :: s) H) : gName 41 x (o0 :: o1 :: o2 :: o3 :: o4 :: o5 :: o6 :: o7 :: o8 :: o9 :: o10 :: o11 :: o12 :: o13 :: o14 :: o15 :: o16 :: o17 :: o18 :: o19 :: o20 :: o21 :: o22 :: o23 :: o24 :: o25 :: o26 :: o27 :: o28 :: o29 :: o30 :: o31 :: o32 :: o33 :: o34 :: o35 :: o36 :: o37 :: o38 :: o39 :: o40 :: o41 :: s) H R := q
theorem k_v42 (q : Q v H) : tVar 42 (o0 :: o1 :: o2 :: o3 :: o4 :: o5 :: o6 :: o7 :: o8 :: o9 :: o10 :: o11 :: o12 :: o13 :: o14 :: o15 :: o16 :: o17 :: o18 :: o19 :: o20 :: o21 :: o22 :: o23 :: o24 :: o25 :: o26 :: o27 :: o28 :: o29 :: o30 :: o31 :: o32 :: o33 :: o34 :: o35 :: o36 :: o37 :: o38 :: o39 :: o40 :: o41 :: some v :: s) H Q := ⟨v, rfl, q⟩
theorem k_s42 (q : te (o0 :: o1 :: o2 :: o3 :: o4 :: o5 :: o6 :: o7 :: o8 :: o9 :: o10 :: o11 :: o12 :: o13 :: o14 :: o15 :: o16 :: o17 :: o18 :: o19 :: o20 :: o21 :: o22 :: o23 :: o24 :: o25 :: o26 :: o27 :: o28 :: o29 :: o30 :: o31 :: o32 :: o33 :: o34 :: o35 :: o36 :: o37 :: o38 :: o39 :: o40 :: o41 :: o42 :: s) H fun x H1 => D.nx (o0 :: o1 :: o2 :: o3 :: o4 :: o5 :: o6 :: o7 :: o8 :: o9 :: o10 :: o11 :: o12 :: o13 :: o14 :: o15 :: o16 :: o17 :: o18 :: o19 :: o20 :: o21 :: o22 :: o23 :: o24 :: o25 :: o26 :: o27 :: o28 :: o29 :: o30 :: o31 :: o32 :: o33 :: o34 :: o35 :: o36 :: o37 :: o38 :: o39 :: o40 :: o41 :: some x :: s) H1) : tAsg te (gName 42) D (o0 :: o1 :: o2 :: o3 :: o4 :: o5 :: o6 :: o7 :: o8 :: o9 :: o10 :: o11 :: o12 :: o13 :: o14 :: o15 :: o16 :: o17 :: o18 :: o19 :: o20 :: o21 :: o22 :: o23 :: o24 :: o25 :: o26 :: o27 :: o28 :: o29 :: o30 :: o31 :: o32 :: o33 :: o34 :: o35 :: o36 :: o37 :: o38 :: o39 :: o40 :: o41 :: o42 :: s) H := q
theorem k_g42 (q : R (o0 :: o1 :: o2 :: o3 :: o4 :: o5 :: o6 :: o7 :: o8 :: o9 :: o10 :: o11 :: o12 :: o13 :: o14 :: o15 :: o16 :: o17 :: o18 :: o19 :: o20 :: o21 :: o22 :: o23 :: o24 :: o25 :: o26 :: o27 :: o28 :: o29 :: o30 :: o31 :: o32 :: o33 :: o34 :: o35 :: o36 :: o37 :: o38 :: o39 :: o40 :: o41 :: some x :: s) H) : gName 42 x (o0 :: o1 :: o2 :: o3 :: o4 :: o5 :: o6 :: o7 :: o8 :: o9 :: o10 :: o11 :: o12 :: o13 :: o14 :: o15 :: o16 :: o17 :: o18 :: o19 :: o20 :: o21 :: o22 :: o23 :: o24 :: o25 :: o26 :: o27 :: o28 :: o29 :: o30 :: o31 :: o32 :: o33 :: o34 :: o35 :: o36 :: o37 :: o38 :: o39 :: o40 :: o41 :: o42 :: s) H R := q
theorem k_v43 (q : Q v H) : tVar 43 (o0 :: o1 :: o2 :: o3 :: o4 :: o5 :: o6 :: o7 :: o8 :: o9 :: o10 :: o11 :: o12 :: o13 :: o14 :: o15 :: o16 :: o17 :: o18 :: o19 :: o20 :: o21 :: o22 :: o23 :: o24 :: o25 :: o26 :: o27 :: o28 :: o29 :: o30 :: o31 :: o32 :: o33 :: o34 :: o35 :: o36 :: o37 :: o38 :: o39 :: o40 :: o41 :: o42 :: some v :: s) H Q := ⟨v, rfl, q⟩
theorem k_s43 (q : te (o0 :: o1 :: o2 :: o3 :: o4 :: o5 :: o6 :: o7 :: o8 :: o9 :: o10 :: o11 :: o12 :: o13 :: o14 :: o15 :: o16 :: o17 :: o18 :: o19 :: o20 :: o21 :: o22 :: o23 :: o24 :: o25 :: o26 :: o27 :: o28 :: o29 :: o30 :: o31 :: o32 :: o33 :: o34 :: o35 :: o36 :: o37 :: o38 :: o39 :: o40 :: o41 :: o42 :: o43 :: s) H fun x H1 => D.nx (o0 :: o1 :: o2 :: o3 :: o4 :: o5 :: o6 :: o7 :: o8 :: o9 :: o10 :: o11 :: o12 :: o13 :: o14 :: o15 :: o16 :: o17 :: o18 :: o19 :: o20 :: o21 :: o22 :: o23 :: o24 :: o25 :: o26 :: o27 :: o28 :: o29 :: o30 :: o31 :: o32 :: o33 :: o34 :: o35 :: o36 :: o37 :: o38 :: o39 :: o40 :: o41 :: o42 :: some x :: s) H1) : tAsg te (gName 43) D (o0 :: o1 :: o2 :: o3 :: o4 :: o5 :: o6 :: o7 :: o8 :: o9 :: o10 :: o11 :: o12 :: o13 :: o14 :: o15 :: o16 :: o17 :: o18 :: o19 :: o20 :: o21 :: o22 :: o23 :: o24 :: o25 :: o26 :: o27 :: o28 :: o29 :: o30 :: o31 :: o32 :: o33 :: o34 :: o35 :: o36 :: o37 :: o38 :: o39 :: o40 :: o41 :: o42 :: o43 :: s) H := q
theorem k_g43 (q : R (o0 :: o1 :: o2 :: o3 :: o4 :: o5 :: o6 :: o7 :: o8 :: o9 :: o10 :: o11 :: o12 :: o13 :: o14 :: o15 :: o16 :: o17 :: o18 :: o19 :: o20 :: o21 :: o22 :: o23 :: o24 :: o25 :: o26 :: o27 :: o28 :: o29 :: o30 :: o31 :: o32 :: o33 :: o34 :: o35 :: o36 :: o37 :: o38 :: o39 :: o40 :: o41 :: o42 :: some x :: s) H) : gName 43 x (o0 :: o1 :: o2 :: o3 :: o4 :: o5 :: o6 :: o7 :: o8 :: o9 :: o10 :: o11 :: o12 :: o13 :: o14 :: o15 :: o16 :: o17 :: o18 :: o19 :: o20 :: o21 :: o22 :: o23 :: o24 :: o25 :: o26 :: o27 :: o28 :: o29 :: o30 :: o31 :: o32 :: o33 :: o34 :: o35 :: o36 :: o37 :: o38 :: o39 :: o40 :: o41 :: o42 :: o43 :: s) H R := q
end
end Ls
-- own part: lw0
/-! ### the law's draws -/
namespace Ls
open PySem PySem.Spec PyProof.Rows L2
def dd (c : Addr) (n r s : Int) : List (Key × V) := [(.inr ("cells" : Str), .ref c), (.inr ("at" : Str), .int n), (.inr ("rest" : Str), .int r), (.inr ("seed" : Str), .int s)]
theorem kne {a b : Str} (h : ¬ a = b) : ¬ (Sum.inr a : Key) = Sum.inr b := fun e => h (Sum.inr.inj e)
theorem n_ca : ¬ ("cells" : Str) = "at" := by decide +kernel
theorem n_cr : ¬ ("cells" : Str) = "rest" := by decide +kernel
theorem n_cs : ¬ ("cells" : Str) = "seed" := by decide +kernel
theorem n_ar : ¬ ("at" : Str) = "rest" := by decide +kernel
theorem n_as : ¬ ("at" : Str) = "seed" := by decide +kernel
theorem n_rs : ¬ ("rest" : Str) = "seed" := by decide +kernel
section
variable {c : Addr} {n r s m : Int}
theorem dd_cells : valV (dd c n r s) (.inr ("cells" : Str)) = some (.ref c) := valV_pos rfl
theorem dd_at : valV (dd c n r s) (.inr ("at" : Str)) = some (.int n) := (valV_neg (kne n_ca)).trans (valV_pos rfl)
theorem dd_rest : valV (dd c n r s) (.inr ("rest" : Str)) = some (.int r) := (valV_neg (kne n_cr)).trans ((valV_neg (kne n_ar)).trans (valV_pos rfl))
theorem dd_seed : valV (dd c n r s) (.inr ("seed" : Str)) = some (.int s) := (valV_neg (kne n_cs)).trans ((valV_neg (kne n_as)).trans ((valV_neg (kne n_rs)).trans (valV_pos rfl)))
theorem dd_len : (dd c n r s).length < sizeLine := by show 4 < sizeLine; decide
theorem put_of {kvs : List (Key × V)} {k : Key} {v w : V} (h : valV kvs k = some w) : putK kvs k v = kvs.map (fun kv => if kv.1 = k then (kv.1, v) else kv) := by
  unfold putK
  rw [valV_any, h]
  rfl
theorem dd_put_at : putK (dd c n r s) (.inr ("at" : Str)) (.int m) = dd c m r s := by
  rw [put_of dd_at]
  simp only [dd, List.map_cons, List.map_nil, if_neg (kne n_ca), if_neg (kne (fun e => n_ar e.symm)), if_neg (kne (fun e => n_as e.symm)), if_true]
theorem dd_put_rest : putK (dd c n r s) (.inr ("rest" : Str)) (.int m) = dd c n m s := by
  rw [put_of dd_rest]
  simp only [dd, List.map_cons, List.map_nil, if_neg (kne n_cr), if_neg (kne n_ar), if_neg (kne (fun e => n_rs e.symm)), if_true]
theorem dd_put_seed : putK (dd c n r s) (.inr ("seed" : Str)) (.int m) = dd c n r m := by
  rw [put_of dd_seed]
  simp only [dd, List.map_cons, List.map_nil, if_neg (kne n_cs), if_neg (kne n_as), if_neg (kne n_rs), if_true]
end
/-- the draws' dict: any state of it -/
def Draw (K : PySem.W.Frag) (H : Hp) (d c : Addr) : Prop := ∃ (n r s : Int) (ns : List Int), H d = some (.dK (dd c n r s)) ∧ H c = some (.lst (ns.map V.int)) ∧ 0 ≤ n ∧ 0 ≤ r ∧ 0 ≤ s ∧ s < 2305843009213693951
theorem Draw.keeps {K : PySem.W.Frag} {H H' : Hp} {d c : Addr} (h : Draw K H d c) (k : Same H H') : Draw K H' d c := by
  obtain ⟨n, r, s, ns, h1, h2, h3⟩ := h
  exact ⟨n, r, s, ns, k _ _ h1, k _ _ h2, h3⟩
theorem Draw.is {K : PySem.W.Frag} {H : Hp} {d c : Addr} (h : Draw K H d c) : ∃ kvs, H d = some (.dK kvs) := by
  obtain ⟨n, r, s, ns, h1, _⟩ := h
  exact ⟨_, h1⟩
theorem Draw.ne {K : PySem.W.Frag} {H : Hp} {d c a : Addr} {o : HO} (h : Draw K H d c) (e : H a = some o) (n : ∀ kvs, o ≠ .dK kvs) : a ≠ d := by
  obtain ⟨kvs, h1⟩ := h.is
  exact ne_of e h1 (n kvs)
theorem Draw.free {K : PySem.W.Frag} {H : Hp} {d c p : Addr} (h : Draw K H d c) (e : H p = none) : p ≠ d := by
  obtain ⟨kvs, h1⟩ := h.is
  exact fun z => by
    rw [z, h1] at e
    cases e
theorem Draw.tp {K : PySem.W.Frag} {H H' : Hp} {d c : Addr} (h : Draw K H d c) (k : Keep d H H') : Tp K H H' := by
  obtain ⟨kvs, h1⟩ := h.is
  exact keep_tp k h1 rfl
theorem Draw.sql {K : PySem.W.Frag} {H H' : Hp} {d c a : Addr} {xs : List V} (h : Draw K H d c) (k : Keep d H H') (q : SqL K H a xs) : SqL K H' a xs := by
  obtain ⟨kvs, h1⟩ := h.is
  exact sql_keep k h1 q
/-- a write to a list that the draws do not hold -/
theorem Draw.new {K : PySem.W.Frag} {H : Hp} {d c p : Addr} {o : HO} (h : Draw K H d c) (e : H p = none) : Draw K (upd H p o) d c := h.keeps (same_new e)
theorem Draw.nec {K : PySem.W.Frag} {H : Hp} {d c p : Addr} (h : Draw K H d c) (e : H p = none) : p ≠ c := by
  obtain ⟨n, r, s, ns, h1, h2, _⟩ := h
  rintro rfl
  rw [h2] at e
  cases e
theorem Draw.wr {K : PySem.W.Frag} {H : Hp} {d c p : Addr} {o : HO} (h : Draw K H d c) (n1 : p ≠ d) (n2 : p ≠ c) : Draw K (upd H p o) d c := by
  obtain ⟨n, r, s, ns, h1, h2, h3⟩ := h
  exact ⟨n, r, s, ns, by rw [upd_ne n1.symm]; exact h1, by rw [upd_ne n2.symm]; exact h2, h3⟩
def spBegin (K : PySem.W.Frag) : Sp := fun vs H Q _ => ∃ (a : Addr) (ns : List Int), vs = [.ref a] ∧ SqL K H a (ns.map V.int) ∧ ns.length ≤ 63 ∧ ∀ d c H', H d = none → H c = none → Same H H' → Draw K H' d c → Q (.ref d) H'
def spPick (K : PySem.W.Frag) : Sp := fun vs H Q _ => ∃ (d c : Addr) (many : Int), vs = [.ref d, .int many] ∧ Draw K H d c ∧ 0 < many ∧ many < 2 ^ 200 ∧ ∀ r H', Keep d H H' → Draw K H' d c → 0 ≤ r → r < many → Q (.int r) H'
theorem use_pick {K : PySem.W.Frag} {d c : Addr} {many : Int} {H : Hp} {Q : VK} {E : XK} (hD : Draw K H d c) (h1 : 0 < many) (h2 : many < 2 ^ 200) (q : ∀ r H', Keep d H H' → Draw K H' d c → 0 ≤ r → r < many → Q (.int r) H') : spPick K ([.ref d, .int many] ++ []) H Q E := ⟨d, c, many, rfl, hD, h1, h2, q⟩
end Ls
-- own part: lw2
namespace Ls
open PySem PySem.Spec PyProof.Rows L2
/-! ### data and their types -/
/-- data of at most this depth, its lists not too long -/
def OkD : Nat → PyData → Prop
  | _, .none => True
  | _, .bool _ => True
  | _, .int _ => True
  | _, .str x => PyData.strOk x = true
  | n + 1, .list xs => xs.length ≤ 100000 ∧ ∀ d ∈ xs, OkD n d
  | n + 1, .tuple xs => xs.length ≤ 100000 ∧ ∀ d ∈ xs, OkD n d
  | _, _ => False
theorem lay_all : ∀ {xs : List PyData}, (∀ d ∈ xs, d.canLay0 = true) → PyData.canLayAll0 xs = true
  | [], _ => by simp only [PyData.canLayAll0]
  | d :: r, h => by
    simp only [PyData.canLayAll0, Bool.and_eq_true]
    exact ⟨h d List.mem_cons_self, lay_all fun e he => h e (List.mem_cons_of_mem _ he)⟩
theorem depth_all {n : Nat} : ∀ {xs : List PyData}, (∀ d ∈ xs, d.depth ≤ n) → PyData.depthAll xs ≤ n
  | [], _ => by simp only [PyData.depthAll]; omega
  | d :: r, h => by
    simp only [PyData.depthAll]
    have h1 := h d List.mem_cons_self
    have h2 := depth_all fun e he => h e (List.mem_cons_of_mem _ he)
    omega
theorem OkD.lay : ∀ {n : Nat} {d : PyData}, OkD n d → d.canLay0 = true ∧ d.depth ≤ n
  | _, .none, _ => by simp only [PyData.canLay0, PyData.depth]; exact ⟨trivial, Nat.zero_le _⟩
  | _, .bool _, _ => by simp only [PyData.canLay0, PyData.depth]; exact ⟨trivial, Nat.zero_le _⟩
  | _, .int _, _ => by simp only [PyData.canLay0, PyData.depth]; exact ⟨trivial, Nat.zero_le _⟩
  | n, .str x, h => by
    cases n <;> exact ⟨by simp only [PyData.canLay0]; exact h, by simp only [PyData.depth]; omega⟩
  | n + 1, .list xs, h => by
    have ih : ∀ d ∈ xs, d.canLay0 = true ∧ d.depth ≤ n := fun d hd => OkD.lay (h.2 d hd)
    simp only [PyData.canLay0, PyData.depth]
    exact ⟨lay_all fun d hd => (ih d hd).1, Nat.succ_le_succ (depth_all fun d hd => (ih d hd).2)⟩
  | n + 1, .tuple xs, h => by
    have ih : ∀ d ∈ xs, d.canLay0 = true ∧ d.depth ≤ n := fun d hd => OkD.lay (h.2 d hd)
    simp only [PyData.canLay0, PyData.depth]
    exact ⟨lay_all fun d hd => (ih d hd).1, Nat.succ_le_succ (depth_all fun d hd => (ih d hd).2)⟩
  | 0, .list _, h => (show False from h).elim
  | 0, .tuple _, h => (show False from h).elim
  | n, .dict _, h => by
    cases n <;> exact (show False from h).elim
theorem OkD.shaped {n : Nat} {d : PyData} (h : OkD n d) (hn : n ≤ 64) : SeqAt.shaped d = true := by
  obtain ⟨h1, h2⟩ := h.lay
  show (d.canLay0 && decide (d.depth ≤ 64)) = true
  rw [h1, decide_eq_true (Nat.le_trans h2 hn)]
  rfl
theorem OkD.mono : ∀ {n m : Nat} {d : PyData}, n ≤ m → OkD n d → OkD m d
  | n, m, .none, _, _ => by cases m <;> trivial
  | n, m, .bool _, _, _ => by cases m <;> trivial
  | n, m, .int _, _, _ => by cases m <;> trivial
  | n, m, .str x, _, h => by cases n <;> cases m <;> exact h
  | n + 1, m + 1, .list xs, hl, h => ⟨h.1, fun d hd => OkD.mono (Nat.le_of_succ_le_succ hl) (h.2 d hd)⟩
  | n + 1, m + 1, .tuple xs, hl, h => ⟨h.1, fun d hd => OkD.mono (Nat.le_of_succ_le_succ hl) (h.2 d hd)⟩
  | 0, _, .list _, _, h => (show False from h).elim
  | 0, _, .tuple _, _, h => (show False from h).elim
  | n + 1, 0, .list _, hl, _ => absurd hl (by omega)
  | n + 1, 0, .tuple _, hl, _ => absurd hl (by omega)
  | n, m, .dict _, _, h => by cases n <;> exact (show False from h).elim
theorem kt_none_bool : kitB "NoneType" "bool" = some false := by decide +kernel
theorem kt_none_int : kitB "NoneType" "int" = some false := by decide +kernel
theorem kt_none_str : kitB "NoneType" "str" = some false := by decide +kernel
theorem kt_none_list : kitB "NoneType" "list" = some false := by decide +kernel
theorem kt_none_tuple : kitB "NoneType" "tuple" = some false := by decide +kernel
theorem kt_bool_bool : kitB "bool" "bool" = some true := by decide +kernel
theorem kt_bool_int : kitB "bool" "int" = some true := by decide +kernel
theorem kt_bool_str : kitB "bool" "str" = some false := by decide +kernel
theorem kt_bool_list : kitB "bool" "list" = some false := by decide +kernel
theorem kt_bool_tuple : kitB "bool" "tuple" = some false := by decide +kernel
theorem kt_int_bool : kitB "int" "bool" = some false := by decide +kernel
theorem kt_int_int : kitB "int" "int" = some true := by decide +kernel
theorem kt_int_str : kitB "int" "str" = some false := by decide +kernel
theorem kt_int_list : kitB "int" "list" = some false := by decide +kernel
theorem kt_int_tuple : kitB "int" "tuple" = some false := by decide +kernel
theorem kt_str_bool : kitB "str" "bool" = some false := by decide +kernel
theorem kt_str_int : kitB "str" "int" = some false := by decide +kernel
theorem kt_str_str : kitB "str" "str" = some true := by decide +kernel
theorem kt_str_list : kitB "str" "list" = some false := by decide +kernel
theorem kt_str_tuple : kitB "str" "tuple" = some false := by decide +kernel
theorem kt_list_bool : kitB "list" "bool" = some false := by decide +kernel
theorem kt_list_int : kitB "list" "int" = some false := by decide +kernel
theorem kt_list_str : kitB "list" "str" = some false := by decide +kernel
theorem kt_list_list : kitB "list" "list" = some true := by decide +kernel
theorem kt_list_tuple : kitB "list" "tuple" = some false := by decide +kernel
theorem kt_tuple_bool : kitB "tuple" "bool" = some false := by decide +kernel
theorem kt_tuple_int : kitB "tuple" "int" = some false := by decide +kernel
theorem kt_tuple_str : kitB "tuple" "str" = some false := by decide +kernel
theorem kt_tuple_list : kitB "tuple" "list" = some false := by decide +kernel
theorem kt_tuple_tuple : kitB "tuple" "tuple" = some true := by decide +kernel
/-- a datum's type -/
def tyn : PyData → String
  | .none => "NoneType"
  | .bool _ => "bool"
  | .int _ => "int"
  | .str _ => "str"
  | .list _ => "list"
  | .tuple _ => "tuple"
  | .dict _ => "dict"
section
variable {K : PySem.W.Frag} {H H' : Hp} {Q : VK} {x : V} {d : PyData} {b : Bool}
theorem sql_ty {a : Addr} {xs : List V} (h : SqL K H a xs) : TyX K H (.ref a) (.type "list") := by
  rcases h with (h | ⟨o, h⟩) | ⟨o, its, n, h1, h2, _⟩
  · exact .base (.lst h)
  · exact .base (.frz h)
  · exact .kList h1 h2
theorem sqt_ty {a : Addr} {xs : List V} (h : SqT K H a xs) : TyX K H (.ref a) (.type "tuple") := by
  rcases h with (h | ⟨o, h⟩) | ⟨o, its, n, h1, h2, _⟩
  · exact .base (.tup h)
  · exact .fTuple h
  · exact .kTuple h1 h2
theorem dp_ty (h : Dp K H x d) : TyX K H x (.type (tyn d)) := by
  cases h with
  | non => exact .base .non
  | bl b => exact .base (.bl b)
  | int i => exact .base (.int i)
  | str x => exact .base (.str x)
  | lst h _ => exact sql_ty h
  | tup h _ => exact sqt_ty h
theorem k_isi {T U : String} (h : Dp K H x d) (e0 : tyn d = U) (e : kitB U T = some b) (q : Q (.bl b) H) : rIsi K [x, .ty T] H Q := ⟨x, .ty T, _, _, b, rfl, .ty T, dp_ty h, kit_ty (by rw [e0]; exact e), q⟩
theorem k_isi2 {T U W : String} {b1 b2 b : Bool} {tp : Addr} (h : Dp K H x d) (ht : H tp = some (.tup [.ty T, .ty U])) (e0 : tyn d = W) (e1 : kitB W T = some b1) (e2 : kitB W U = some b2) (eb : (b1 || b2) = b) (q : Q (.bl b) H) : rIsiT K [x, .ref tp] H Q :=
  ⟨x, tp, _, _, [.type T, .type U], b1 || b2, rfl, ht, .cons (.ty T) (.cons (.ty U) .nil), dp_ty h, by
    subst e0
    refine kitAny_cons (kit_ty e1) (fun h1 => ?_) fun h1 => by rw [h1]; rfl
    rw [h1, Bool.false_or]
    refine kitAny_cons (kit_ty e2) (fun h2 => by rw [h2]; rfl) fun h2 => h2, by rw [eb]; exact q⟩
theorem k_all {a : Addr} {bs : List Bool} (h : SqL K H a (bs.map V.bl)) (q : Q (.bl (bs.all id)) H) : rAll K [.ref a] H Q := ⟨a, bs, rfl, h, q⟩
theorem k_any {a : Addr} {bs : List Bool} (h : SqL K H a (bs.map V.bl)) (q : Q (.bl (bs.any id)) H) : rAny K [.ref a] H Q := ⟨a, bs, rfl, h, q⟩
theorem k_lc {wi : TI} {g : TG} {tt : TT} {te : TE} {vs : List Nat} {σ : L2.St} (h : wi σ H fun J H1 => ∀ D, H1 D = none → ∃ W : Nat → Nat → Hp → Prop, (∃ m, W 0 m (upd H1 D (.lst []))) ∧ ∀ i m H, W i m H →
  (J.stop i H ∧ Q (.ref D) H) ∨ (J.go i H ∧ ∃ Nx : Hp → Prop, (∀ H', Nx H' → ∃ m', m' < m ∧ W (i + 1) m' H') ∧ ∀ x H', J.yld i H x H' → g x (wipe σ vs) H' fun σ2 H2 => wipe σ2 vs = wipe σ vs ∧ tt σ2 H2 fun b H3 =>
    if b = true then te σ2 H3 fun y H4 => ∃ acc, H4 D = some (.lst acc) ∧ acc.length < sizeLine ∧ Nx (upd H4 D (.lst (acc ++ [y]))) else Nx H3)) : tLc wi g tt te vs σ H Q := h
theorem k_lenE {a : Addr} {xs : List V} (h : SqL K H a xs ∨ SqT K H a xs) (q : Q (.int xs.length) H) : rLenU K [.ref a] H Q := .inl ⟨a, xs, rfl, h, q⟩
theorem k_ixE {a : Addr} {xs : List V} {v : V} {i : Int} (h : SqL K H a xs ∨ SqT K H a xs) (h2 : atI xs i = some v) (q : Q v H) : rIx K (.ref a) (.int i) H Q := by
  rcases h with h | h
  · exact k_ixL h h2 q
  · exact k_ixT h h2 q
theorem seq_same {a : Addr} {xs : List V} (e : Same H H') (h : SqL K H a xs ∨ SqT K H a xs) : SqL K H' a xs ∨ SqT K H' a xs := by
  rcases h with h | h
  · exact .inl (e.seq h)
  · exact .inr (sqt_same e h)
theorem dp_same (e : Same H H') : ∀ {x : V} {d : PyData}, Dp K H x d → Dp K H' x d := by
  intro x d h
  induction h using Dp.rec (motive_2 := fun vs ds _ => DpAll K H' vs ds) with
  | non => exact .non
  | bl b => exact .bl b
  | int i => exact .int i
  | str x => exact .str x
  | lst h _ ih => exact .lst (e.seq h) ih
  | tup h _ ih => exact .tup (sqt_same e h) ih
  | nil => exact .nil
  | cons _ _ h1 h2 => exact .cons h1 h2
theorem dpall_same (e : Same H H') : ∀ {vs : List V} {ds : List PyData}, DpAll K H vs ds → DpAll K H' vs ds
  | _, _, .nil => .nil
  | _, _, .cons a b => .cons (dp_same e a) (dpall_same e b)
theorem DpAll.length' : ∀ {vs : List V} {ds : List PyData}, DpAll K H vs ds → vs.length = ds.length
  | _, _, .nil => rfl
  | _, _, .cons _ hs => congrArg Nat.succ (DpAll.length' hs)
theorem DpAll.getD' : ∀ {vs : List V} {ds : List PyData} {i : Nat} {d : PyData}, DpAll K H vs ds → ds[i]? = some d → ∃ v, vs[i]? = some v ∧ Dp K H v d
  | _, _, i, _, .nil, e => by simp at e
  | _, _, 0, _, .cons a _, e => by
    simp at e
    subst e
    exact ⟨_, rfl, a⟩
  | _, _, i + 1, d, .cons _ b, e => by
    obtain ⟨v, h1, h2⟩ := DpAll.getD' (i := i) (d := d) b (by simpa using e)
    exact ⟨v, by simpa using h1, h2⟩
end
def spSame (K : PySem.W.Frag) (n : Nat) : Sp := fun vs H Q _ => ∃ (x y : V) (d : PyData), vs = [x, y] ∧ Dp K H x d ∧ Dp K H y d ∧ OkD n d ∧ ∀ H', Same H H' → Q (.bl true) H'
theorem use_same {K : PySem.W.Frag} {n : Nat} {x y : V} {d : PyData} {H : Hp} {Q : VK} {E : XK} (h1 : Dp K H x d) (h2 : Dp K H y d) (h3 : OkD n d) (q : ∀ H', Same H H' → Q (.bl true) H') : spSame K n ([x, y] ++ []) H Q E := ⟨x, y, d, rfl, h1, h2, h3, q⟩
end Ls
-- own part: lw4
namespace Ls
open PySem PySem.Spec PyProof.Rows L2
section
variable {σ : L2.St} {H : Hp} {Q : VK} {tk tv : TE} {r : List (TE × TE)}
theorem k_disp {trs : List (TE × TE)} (q : ∀ p, H p = none → tPairs trs σ (upd H p (.dK [])) fun ps H2 => H2 p = some (.dK []) ∧ ∃ kvs : List (Key × V), ps = kvs.map (fun kv => (kV kv.1, kv.2)) ∧ kvs.length ≤ 15 ∧ Q (.ref p) (upd H2 p (.dK (mergeK [] kvs)))) : tDisp trs σ H Q := q
theorem k_prs {R : List (V × V) → Hp → Prop} (h : tk σ H fun x H1 => tv σ H1 fun y H2 => tPairs r σ H2 fun ps H3 => R ((x, y) :: ps) H3) : tPairs ((tk, tv) :: r) σ H R := h
theorem k_prn {R : List (V × V) → Hp → Prop} (h : R [] H) : tPairs [] σ H R := h
theorem cut_to {xs : List V} {i : Int} (h : 0 ≤ i) : cutV xs none (some i) = xs.take i.toNat := by
  obtain ⟨k, rfl⟩ := Int.eq_ofNat_of_zero_le h
  show (xs.drop 0).take (HT.sIx xs.length xs.length (some (k : Int)) - 0) = _
  rw [HT.sIx_nat, List.drop_zero, Nat.sub_zero, Int.toNat_natCast]
  by_cases hk : k ≤ xs.length
  · rw [Nat.min_eq_left hk]
  · rw [Nat.min_eq_right (by omega), List.take_of_length_le (Nat.le_refl _), List.take_of_length_le (by omega)]
theorem cut_from {xs : List V} {i : Int} (h : 0 ≤ i) : cutV xs (some i) none = xs.drop i.toNat := by
  obtain ⟨k, rfl⟩ := Int.eq_ofNat_of_zero_le h
  show (xs.drop (HT.sIx xs.length 0 (some (k : Int)))).take (xs.length - HT.sIx xs.length 0 (some (k : Int))) = _
  rw [HT.sIx_nat, Int.toNat_natCast]
  by_cases hk : k ≤ xs.length
  · rw [Nat.min_eq_left hk]
    exact List.take_of_length_le (by rw [List.length_drop]; omega)
  · rw [Nat.min_eq_right (by omega), List.drop_of_length_le (Nat.le_refl _), List.drop_of_length_le (by omega), List.take_nil]
theorem cut_all {xs : List V} {i : Int} (h : (xs.length : Int) ≤ i) : cutV xs none (some i) = xs := by
  rw [cut_to (by omega), List.take_of_length_le (by omega)]
theorem put_none {kvs : List (Key × V)} {k : Key} {v : V} (h : valV kvs k = none) : putK kvs k v = kvs ++ [(k, v)] := by
  unfold putK
  rw [valV_any, h]
  rfl
theorem dd_merge {c : Addr} {n r s : Int} : mergeK [] (dd c n r s) = dd c n r s := by
  show putK (putK (putK (putK ([] : List (Key × V)) (Sum.inr ("cells" : Str) : Key) (V.ref c)) (Sum.inr ("at" : Str) : Key) (V.int n)) (Sum.inr ("rest" : Str) : Key) (V.int r)) (Sum.inr ("seed" : Str) : Key) (V.int s) = _
  rw [put_none (kvs := []) rfl]
  rw [put_none (kvs := [] ++ _) ((valV_neg (kne n_ca)).trans rfl)]
  rw [put_none (kvs := [] ++ _ ++ _) ((valV_neg (kne n_cr)).trans ((valV_neg (kne n_ar)).trans rfl))]
  rw [put_none (kvs := [] ++ _ ++ _ ++ _) ((valV_neg (kne n_cs)).trans ((valV_neg (kne n_as)).trans ((valV_neg (kne n_rs)).trans rfl)))]
  rfl
end
/-- some element of a list -/
def spOf (K : PySem.W.Frag) : Sp := fun vs H Q _ => ∃ (d c l : Addr) (xs : List V), vs = [.ref d, .ref l] ∧ Draw K H d c ∧ SqL K H l xs ∧ 0 < xs.length ∧ xs.length < 2 ^ 100 ∧ ∀ x H', Keep d H H' → Draw K H' d c → x ∈ xs → Q x H'
theorem use_of {K : PySem.W.Frag} {d c l : Addr} {xs : List V} {H : Hp} {Q : VK} {E : XK} (hD : Draw K H d c) (h : SqL K H l xs) (h1 : 0 < xs.length) (h2 : xs.length < 2 ^ 100) (q : ∀ x H', Keep d H H' → Draw K H' d c → x ∈ xs → Q x H') : spOf K ([.ref d, .ref l] ++ []) H Q E := ⟨d, c, l, xs, rfl, hD, h, h1, h2, q⟩
end Ls
-- own part: lm
namespace Lm
/-! ### least amounts and rings, in plain Lean -/
abbrev Tie := Int × Int × Int
structure S where
  row : Int → Int
  way : Int → Option Tie
  last : Option Int
def push1 (s : S) (t : Tie) : S :=
  if s.row t.1 < s.row t.2.1 + t.2.2 then ⟨fun p => if p = t.1 then s.row t.2.1 + t.2.2 else s.row p, fun p => if p = t.1 then some t else s.way p, some t.1⟩ else s
def pushedS (s : S) (es : List Tie) : S := es.foldl push1 { s with last := none }
def iter (es : List Tie) (s : S) : Nat → S
  | 0 => s
  | k + 1 => pushedS (iter es s k) es
/-- a tie is met -/
def Met (x : Int → Int) (t : Tie) : Prop := x t.2.1 + t.2.2 ≤ x t.1
theorem push1_pos {s : S} {t : Tie} (h : s.row t.1 < s.row t.2.1 + t.2.2) : push1 s t = ⟨fun p => if p = t.1 then s.row t.2.1 + t.2.2 else s.row p, fun p => if p = t.1 then some t else s.way p, some t.1⟩ := if_pos h
theorem push1_neg {s : S} {t : Tie} (h : ¬ s.row t.1 < s.row t.2.1 + t.2.2) : push1 s t = s := if_neg h
theorem push1_mono (s : S) (t : Tie) (p : Int) : s.row p ≤ (push1 s t).row p := by
  by_cases h : s.row t.1 < s.row t.2.1 + t.2.2
  · rw [push1_pos h]
    show s.row p ≤ if p = t.1 then s.row t.2.1 + t.2.2 else s.row p
    by_cases e : p = t.1
    · rw [if_pos e, e]; omega
    · rw [if_neg e]; omega
  · rw [push1_neg h]; omega
theorem fold_mono (p : Int) : ∀ (ts : List Tie) (s : S), s.row p ≤ (ts.foldl push1 s).row p
  | [], s => Int.le_refl _
  | t :: ts, s => Int.le_trans (push1_mono s t p) (fold_mono p ts (push1 s t))
theorem fold_none : ∀ (ts : List Tie) (s : S), (ts.foldl push1 s).last = none → s.last = none ∧ ts.foldl push1 s = s ∧ ∀ t ∈ ts, Met s.row t
  | [], s, h => ⟨h, rfl, fun t ht => by cases ht⟩
  | t :: ts, s, h => by
    obtain ⟨h1, h2, h3⟩ := fold_none ts (push1 s t) h
    by_cases c : s.row t.1 < s.row t.2.1 + t.2.2
    · rw [push1_pos c] at h1; cases h1
    · rw [push1_neg c] at h1 h2 h3
      refine ⟨h1, ?_, fun u hu => ?_⟩
      · show ts.foldl push1 (push1 s t) = s
        rw [push1_neg c]; exact h2
      · rcases List.mem_cons.mp hu with rfl | hu
        · show s.row u.2.1 + u.2.2 ≤ s.row u.1
          omega
        · exact h3 u hu
theorem fold_least (R : Int → Prop) (x : Int → Int) : ∀ (ts : List Tie) (s : S), (∀ t ∈ ts, R t.1 ∧ R t.2.1 ∧ Met x t) → (∀ p, R p → s.row p ≤ x p) → ∀ p, R p → (ts.foldl push1 s).row p ≤ x p
  | [], s, _, h => h
  | t :: ts, s, ht, h => by
    refine fold_least R x ts (push1 s t) (fun u hu => ht u (List.mem_cons_of_mem _ hu)) fun p hp => ?_
    by_cases c : s.row t.1 < s.row t.2.1 + t.2.2
    · rw [push1_pos c]
      show (if p = t.1 then s.row t.2.1 + t.2.2 else s.row p) ≤ x p
      obtain ⟨r1, r2, m⟩ := ht t List.mem_cons_self
      have m : x t.2.1 + t.2.2 ≤ x t.1 := m
      have := h _ r2
      by_cases e : p = t.1
      · rw [if_pos e, e]; omega
      · rw [if_neg e]; exact h p hp
    · rw [push1_neg c]; exact h p hp
theorem fold_push : ∀ (ts : List Tie) (s : S) (t : Tie), t ∈ ts → s.row t.2.1 + t.2.2 ≤ (ts.foldl push1 s).row t.1
  | u :: ts, s, t, h => by
    rcases List.mem_cons.mp h with rfl | h
    · refine Int.le_trans ?_ (fold_mono t.1 ts (push1 s t))
      by_cases c : s.row t.1 < s.row t.2.1 + t.2.2
      · rw [push1_pos c]
        show _ ≤ if t.1 = t.1 then s.row t.2.1 + t.2.2 else s.row t.1
        rw [if_pos rfl]; omega
      · rw [push1_neg c]; omega
    · have := fold_push ts (push1 s u) t h
      have := push1_mono s u t.2.1
      show _ ≤ (ts.foldl push1 (push1 s u)).row t.1
      omega
/-! ### counting -/
theorem count_le {α : Type} {p q : α → Bool} : ∀ (l : List α), (∀ a ∈ l, p a = true → q a = true) → l.countP p ≤ l.countP q
  | [], _ => Nat.le_refl _
  | a :: l, h => by
    have ih := count_le l fun b hb => h b (List.mem_cons_of_mem _ hb)
    have := h a List.mem_cons_self
    rw [List.countP_cons, List.countP_cons]
    by_cases c : p a = true
    · rw [if_pos c, if_pos (this c)]; omega
    · rw [if_neg c]; omega
theorem count_lt {α : Type} {p q : α → Bool} : ∀ (l : List α), (∀ a ∈ l, p a = true → q a = true) → (∃ a ∈ l, p a = false ∧ q a = true) → l.countP p < l.countP q
  | [], _, ⟨a, h, _⟩ => by cases h
  | a :: l, h, ⟨b, hb, b1, b2⟩ => by
    have h' := fun b hb => h b (List.mem_cons_of_mem a hb)
    have ih := count_le l h'
    have := h a List.mem_cons_self
    rw [List.countP_cons, List.countP_cons]
    rcases List.mem_cons.mp hb with rfl | hb
    · rw [b1, b2, if_neg (by decide), if_pos rfl]; omega
    · have ih := count_lt l h' ⟨b, hb, b1, b2⟩
      by_cases c : p a = true
      · rw [if_pos c, if_pos (this c)]; omega
      · rw [if_neg c]; omega
theorem sum_le (f g : Int → Int) : ∀ (l : List Int), (∀ a ∈ l, f a ≤ g a) → (l.map f).sum ≤ (l.map g).sum
  | [], _ => Int.le_refl _
  | a :: l, h => by
    have ih := sum_le f g l fun b hb => h b (List.mem_cons_of_mem _ hb)
    have := h a List.mem_cons_self
    rw [List.map_cons, List.map_cons, List.sum_cons, List.sum_cons]
    omega
theorem sum_lt (f g : Int → Int) : ∀ (l : List Int), (∀ a ∈ l, f a ≤ g a) → (∃ a ∈ l, f a < g a) → (l.map f).sum < (l.map g).sum
  | [], _, ⟨a, h, _⟩ => by cases h
  | a :: l, h, ⟨b, hb, b1⟩ => by
    have h' := fun b hb => h b (List.mem_cons_of_mem a hb)
    have ih := sum_le f g l h'
    have := h a List.mem_cons_self
    rw [List.map_cons, List.map_cons, List.sum_cons, List.sum_cons]
    rcases List.mem_cons.mp hb with rfl | hb
    · omega
    · have ih := sum_lt f g l h' ⟨b, hb, b1⟩
      omega
theorem sum_nn (f : Int → Int) : ∀ (l : List Int), (∀ a ∈ l, 0 ≤ f a) → 0 ≤ (l.map f).sum
  | [], _ => Int.le_refl _
  | a :: l, h => by
    have ih := sum_nn f l fun b hb => h b (List.mem_cons_of_mem _ hb)
    have := h a List.mem_cons_self
    rw [List.map_cons, List.sum_cons]
    omega
/-! ### when amounts there are, pushing ends -/
/-- amounts over the places ps -/
def Sol (ps : List Int) (es : List Tie) (x : Int → Int) : Prop := (∀ p ∈ ps, 0 ≤ x p) ∧ x (-1) = 0 ∧ ∀ t ∈ es, Met x t
theorem sol_min (ps : List Int) (es : List Tie) : ∀ (n : Nat) (x : Int → Int), Sol ps es x → ((ps.map x).sum).toNat = n → ∃ m, Sol ps es m ∧ ∀ y, Sol ps es y → (ps.map m).sum ≤ (ps.map y).sum := by
  intro n
  induction n using Nat.strongRecOn with
  | _ n ih =>
    intro x hx e
    by_cases c : ∃ y, Sol ps es y ∧ (ps.map y).sum < (ps.map x).sum
    · obtain ⟨y, hy, hl⟩ := c
      have := sum_nn y ps hy.1
      exact ih _ (by omega) y hy rfl
    · refine ⟨x, hx, fun y hy => ?_⟩
      by_cases d : (ps.map x).sum ≤ (ps.map y).sum
      · exact d
      · exact (c ⟨y, hy, by omega⟩).elim
theorem tight {ps : List Int} {es : List Tie} {m r : Int → Int} (hm : Sol ps es m) (mn : ∀ y, Sol ps es y → (ps.map m).sum ≤ (ps.map y).sum) (h0 : ∀ p ∈ ps, 0 ≤ r p) (h1 : ∀ p ∈ ps, r p ≤ m p) (hz : -1 ∈ ps) (hd : ∃ p ∈ ps, r p ≠ m p) :
    ∃ t ∈ es, r t.2.1 = m t.2.1 ∧ r t.1 ≠ m t.1 ∧ m t.1 = m t.2.1 + t.2.2 := by
  apply Classical.byContradiction
  intro hn
  have key : ∀ t ∈ es, r t.2.1 = m t.2.1 → r t.1 ≠ m t.1 → m t.2.1 + t.2.2 + 1 ≤ m t.1 := fun t ht a b => by
    have c := hm.2.2 t ht
    have c : m t.2.1 + t.2.2 ≤ m t.1 := c
    by_cases e : m t.1 = m t.2.1 + t.2.2
    · exact (hn ⟨t, ht, a, b, e⟩).elim
    · omega
  have hs : Sol ps es (fun p => if r p = m p then m p else m p - 1) := by
    refine ⟨fun p hp => ?_, ?_, fun t ht => ?_⟩
    · show 0 ≤ if r p = m p then m p else m p - 1
      have a := h0 p hp
      have b := h1 p hp
      by_cases c : r p = m p
      · rw [if_pos c]; omega
      · rw [if_neg c]; omega
    · show (if r (-1) = m (-1) then m (-1) else m (-1) - 1) = 0
      have a := h0 _ hz
      have b := h1 _ hz
      have c := hm.2.1
      rw [if_pos (by omega)]; exact c
    · show (if r t.2.1 = m t.2.1 then m t.2.1 else m t.2.1 - 1) + t.2.2 ≤ (if r t.1 = m t.1 then m t.1 else m t.1 - 1)
      have c : m t.2.1 + t.2.2 ≤ m t.1 := hm.2.2 t ht
      by_cases a : r t.2.1 = m t.2.1
      · by_cases b : r t.1 = m t.1
        · rw [if_pos a, if_pos b]; exact c
        · have := key t ht a b
          rw [if_pos a, if_neg b]; omega
      · by_cases b : r t.1 = m t.1
        · rw [if_neg a, if_pos b]; omega
        · rw [if_neg a, if_neg b]; omega
  have := mn _ hs
  obtain ⟨p, hp, hne⟩ := hd
  have lt := sum_lt (fun p => if r p = m p then m p else m p - 1) m ps (fun p _ => by
    show (if r p = m p then m p else m p - 1) ≤ m p
    by_cases c : r p = m p
    · rw [if_pos c]; omega
    · rw [if_neg c]; omega) ⟨p, hp, by
      show (if r p = m p then m p else m p - 1) < m p
      rw [if_neg hne]; omega⟩
  omega
/-- how many places are not at their amounts yet -/
def off (ps : List Int) (m : Int → Int) (s : S) : Nat := ps.countP fun p => decide (s.row p ≠ m p)
theorem off_round {ps : List Int} {es : List Tie} {m : Int → Int} {s : S} (hm : Sol ps es m) (mn : ∀ y, Sol ps es y → (ps.map m).sum ≤ (ps.map y).sum) (hp : ∀ t ∈ es, t.1 ∈ ps ∧ t.2.1 ∈ ps) (h0 : ∀ p ∈ ps, 0 ≤ s.row p) (h1 : ∀ p ∈ ps, s.row p ≤ m p) (hz : -1 ∈ ps) :
    (∀ p ∈ ps, 0 ≤ (pushedS s es).row p) ∧ (∀ p ∈ ps, (pushedS s es).row p ≤ m p) ∧ (off ps m (pushedS s es) < off ps m s ∨ off ps m s = 0 ∧ off ps m (pushedS s es) = 0) := by
  have up : ∀ p ∈ ps, (pushedS s es).row p ≤ m p := fold_least (fun p => p ∈ ps) m es { s with last := none } (fun t ht => ⟨(hp t ht).1, (hp t ht).2, hm.2.2 t ht⟩) h1
  have lo : ∀ p, s.row p ≤ (pushedS s es).row p := fun p => fold_mono p es { s with last := none }
  refine ⟨fun p hp => Int.le_trans (h0 p hp) (lo p), up, ?_⟩
  have keep : ∀ p ∈ ps, decide ((pushedS s es).row p ≠ m p) = true → decide (s.row p ≠ m p) = true := fun p hp h => by
    have h := of_decide_eq_true h
    have a := lo p
    have b := up p hp
    exact decide_eq_true (by omega)
  by_cases hd : ∃ p ∈ ps, s.row p ≠ m p
  · left
    obtain ⟨t, ht, a, b, c⟩ := tight hm mn h0 h1 hz hd
    refine count_lt ps keep ⟨t.1, (hp t ht).1, ?_, decide_eq_true b⟩
    have d : s.row t.2.1 + t.2.2 ≤ (pushedS s es).row t.1 := fold_push es { s with last := none } t ht
    have e := up t.1 (hp t ht).1
    exact decide_eq_false (by omega)
  · right
    have z : off ps m s = 0 := List.countP_eq_zero.mpr fun p hp h => hd ⟨p, hp, of_decide_eq_true h⟩
    refine ⟨z, ?_⟩
    have := count_le ps keep
    unfold off at z ⊢
    omega
theorem off_iter {ps : List Int} {es : List Tie} {m : Int → Int} {s : S} (hm : Sol ps es m) (mn : ∀ y, Sol ps es y → (ps.map m).sum ≤ (ps.map y).sum) (hp : ∀ t ∈ es, t.1 ∈ ps ∧ t.2.1 ∈ ps) (h0 : ∀ p ∈ ps, 0 ≤ s.row p) (h1 : ∀ p ∈ ps, s.row p ≤ m p) (hz : -1 ∈ ps) :
    ∀ k, (∀ p ∈ ps, 0 ≤ (iter es s k).row p) ∧ (∀ p ∈ ps, (iter es s k).row p ≤ m p) ∧ off ps m (iter es s k) ≤ off ps m s - k
  | 0 => ⟨h0, h1, Nat.le_refl _⟩
  | k + 1 => by
    obtain ⟨a, b, c⟩ := off_iter hm mn hp h0 h1 hz k
    obtain ⟨d, e, f⟩ := off_round hm mn hp a b hz
    refine ⟨d, e, ?_⟩
    show off ps m (pushedS (iter es s k) es) ≤ _
    omega
theorem fold_still : ∀ (ts : List Tie) (s : S), (∀ t ∈ ts, Met s.row t) → ts.foldl push1 s = s
  | [], s, _ => rfl
  | t :: ts, s, h => by
    have a : s.row t.2.1 + t.2.2 ≤ s.row t.1 := h t List.mem_cons_self
    show ts.foldl push1 (push1 s t) = s
    rw [push1_neg (by omega)]
    exact fold_still ts s fun u hu => h u (List.mem_cons_of_mem _ hu)
/-- when there are amounts, nothing is pushed any more after as many rounds as places -/
theorem ends {ps : List Int} {es : List Tie} {x : Int → Int} {s : S} (hx : Sol ps es x) (hp : ∀ t ∈ es, t.1 ∈ ps ∧ t.2.1 ∈ ps) (h0 : ∀ p, s.row p = 0) (hz : -1 ∈ ps) {k : Nat} (hk : ps.length ≤ k) : (iter es s (k + 1)).last = none := by
  obtain ⟨m, hm, mn⟩ := sol_min ps es _ x hx rfl
  obtain ⟨a, b, c⟩ := off_iter (s := s) hm mn hp (fun p _ => by rw [h0]; exact Int.le_refl _) (fun p q => by rw [h0]; exact hm.1 p q) hz k
  have d : off ps m s ≤ ps.length := List.countP_le_length
  have e : off ps m (iter es s k) = 0 := by omega
  have f : ∀ p ∈ ps, (iter es s k).row p = m p := fun p hp => by
    have := List.countP_eq_zero.mp e p hp
    exact Classical.byContradiction fun h => this (decide_eq_true h)
  show (pushedS (iter es s k) es).last = none
  unfold pushedS
  rw [fold_still es { iter es s k with last := none } fun t ht => by
    show (iter es s k).row t.2.1 + t.2.2 ≤ (iter es s k).row t.1
    rw [f _ (hp t ht).1, f _ (hp t ht).2]
    exact hm.2.2 t ht]
/-- when nothing is pushed any more, the row is the least amounts -/
theorem least {ps : List Int} {es : List Tie} {s : S} (hp : ∀ t ∈ es, t.1 ∈ ps ∧ t.2.1 ∈ ps) (h0 : ∀ p, s.row p = 0) (hz : -1 ∈ ps) {k : Nat} (hl : (iter es s (k + 1)).last = none) (hb : ∀ p ∈ ps, p ≠ -1 → (p, -1, 0) ∈ es) :
    Sol ps es (fun p => (iter es s (k + 1)).row p - (iter es s (k + 1)).row (-1)) ∧ (∀ x, Sol ps es x → ∀ p ∈ ps, (iter es s (k + 1)).row p ≤ x p) ∧ (iter es s (k + 1)).row (-1) = 0 := by
  obtain ⟨_, e, mt⟩ := fold_none es { iter es s k with last := none } hl
  have e : iter es s (k + 1) = { iter es s k with last := none } := e
  have rw0 : (iter es s (k + 1)).row = (iter es s k).row := by rw [e]
  have mt : ∀ t ∈ es, Met (iter es s (k + 1)).row t := fun t ht => by rw [rw0]; exact mt t ht
  have lo : ∀ j, ∀ p, 0 ≤ (iter es s j).row p := by
    intro j
    induction j with
    | zero => intro p; show 0 ≤ s.row p; rw [h0]; exact Int.le_refl _
    | succ j ih => exact fun p => Int.le_trans (ih p) (fold_mono p es { iter es s j with last := none })
  have up : ∀ x, Sol ps es x → ∀ j, ∀ p ∈ ps, (iter es s j).row p ≤ x p := by
    intro x hx j
    induction j with
    | zero => intro p hp; show s.row p ≤ x p; rw [h0]; exact hx.1 p hp
    | succ j ih => exact fold_least (fun p => p ∈ ps) x es { iter es s j with last := none } (fun t ht => ⟨(hp t ht).1, (hp t ht).2, hx.2.2 t ht⟩) ih
  have hs : Sol ps es (fun p => (iter es s (k + 1)).row p - (iter es s (k + 1)).row (-1)) := by
    refine ⟨fun p hp => ?_, ?_, fun t ht => ?_⟩
    · show 0 ≤ (iter es s (k + 1)).row p - (iter es s (k + 1)).row (-1)
      by_cases c : p = -1
      · rw [c]; omega
      · have := mt _ (hb p hp c)
        have : (iter es s (k + 1)).row (-1) + 0 ≤ (iter es s (k + 1)).row p := this
        omega
    · show (iter es s (k + 1)).row (-1) - (iter es s (k + 1)).row (-1) = 0
      omega
    · show (iter es s (k + 1)).row t.2.1 - (iter es s (k + 1)).row (-1) + t.2.2 ≤ (iter es s (k + 1)).row t.1 - (iter es s (k + 1)).row (-1)
      have : (iter es s (k + 1)).row t.2.1 + t.2.2 ≤ (iter es s (k + 1)).row t.1 := mt t ht
      omega
  refine ⟨hs, fun x hx => up x hx (k + 1), ?_⟩
  have a := up _ hs (k + 1) (-1) hz
  have b := lo (k + 1) (-1)
  have a : (iter es s (k + 1)).row (-1) ≤ (iter es s (k + 1)).row (-1) - (iter es s (k + 1)).row (-1) := a
  omega
end Lm
-- own part: lm2
namespace Lm
/-! ### the ring -/
theorem pigeon : ∀ (m : Nat) (f : Nat → Int) (a : Int), (∀ i, i ≤ m → a ≤ f i ∧ f i < a + m) → ∃ i j, i < j ∧ j ≤ m ∧ f i = f j
  | 0, f, a, h => by
    have := h 0 (Nat.le_refl _)
    omega
  | m + 1, f, a, h => by
    by_cases c : ∃ i, i ≤ m ∧ f i = f (m + 1)
    · obtain ⟨i, hi, e⟩ := c
      exact ⟨i, m + 1, by omega, Nat.le_refl _, e⟩
    · have c : ∀ i, i ≤ m → f i ≠ f (m + 1) := fun i hi e => c ⟨i, hi, e⟩
      have hl := h (m + 1) (Nat.le_refl _)
      obtain ⟨i, j, h1, h2, e⟩ := pigeon m (fun i => if f i = a + m then f (m + 1) else f i) a (fun i hi => by
        have := h i (by omega)
        have := c i hi
        show a ≤ (if f i = a + m then f (m + 1) else f i) ∧ (if f i = a + m then f (m + 1) else f i) < a + m
        by_cases d : f i = a + m
        · rw [if_pos d]; omega
        · rw [if_neg d]; omega)
      have e : (if f i = a + m then f (m + 1) else f i) = (if f j = a + m then f (m + 1) else f j) := e
      refine ⟨i, j, h1, by omega, ?_⟩
      have c1 := c i (by omega)
      have c2 := c j h2
      by_cases d1 : f i = a + m
      · by_cases d2 : f j = a + m
        · rw [d1, d2]
        · rw [if_pos d1, if_neg d2] at e
          exact (c2 e.symm).elim
      · by_cases d2 : f j = a + m
        · rw [if_neg d1, if_pos d2] at e
          exact (c1 e).elim
        · rw [if_neg d1, if_neg d2] at e
          exact e
/-- the tie that pushed a place, when there is one -/
def wy (w : Int → Option Tie) (v : Int) : Tie := (w v).getD (0, 0, 0)
def nx (w : Int → Option Tie) (v : Int) : Int := (wy w v).2.1
def go (w : Int → Option Tie) : Nat → Int → Int
  | 0, v => v
  | k + 1, v => nx w (go w k v)
theorem go_add (w : Int → Option Tie) (a v) : ∀ b, go w (a + b) v = go w b (go w a v)
  | 0 => rfl
  | b + 1 => by
    show nx w (go w (a + b) v) = nx w (go w b (go w a v))
    rw [go_add w a v b]
/-- what holds of a row and the ties that pushed it -/
def InvT (es : List Tie) (s : S) (T : Int → Nat) (c : Nat) : Prop :=
  (∀ p, T p ≤ c) ∧ ∀ v t, s.way v = some t → t.1 = v ∧ t ∈ es ∧ s.row v ≤ s.row t.2.1 + t.2.2 ∧ (T v ≤ T t.2.1 → s.row v < s.row t.2.1 + t.2.2)
theorem invT_push {es : List Tie} {s : S} {T : Int → Nat} {c : Nat} {t : Tie} (h : InvT es s T c) (ht : t ∈ es) (hn : t.1 ≠ t.2.1) : ∃ T' c', InvT es (push1 s t) T' c' := by
  by_cases q : s.row t.1 < s.row t.2.1 + t.2.2
  · rw [push1_pos q]
    refine ⟨fun p => if p = t.1 then c + 1 else T p, c + 1, fun p => ?_, fun v u hv => ?_⟩
    · show (if p = t.1 then c + 1 else T p) ≤ c + 1
      have := h.1 p
      by_cases e : p = t.1
      · rw [if_pos e]; omega
      · rw [if_neg e]; omega
    · have hv : (if v = t.1 then some t else s.way v) = some u := hv
      show u.1 = v ∧ u ∈ es ∧ (if v = t.1 then s.row t.2.1 + t.2.2 else s.row v) ≤ (if u.2.1 = t.1 then s.row t.2.1 + t.2.2 else s.row u.2.1) + u.2.2 ∧
        ((if v = t.1 then c + 1 else T v) ≤ (if u.2.1 = t.1 then c + 1 else T u.2.1) → (if v = t.1 then s.row t.2.1 + t.2.2 else s.row v) < (if u.2.1 = t.1 then s.row t.2.1 + t.2.2 else s.row u.2.1) + u.2.2)
      by_cases e : v = t.1
      · rw [if_pos e] at hv
        cases hv
        rw [if_pos e, if_neg hn.symm, if_pos e, if_neg hn.symm]
        refine ⟨e.symm, ht, by omega, fun z => ?_⟩
        have := h.1 t.2.1
        omega
      · rw [if_neg e] at hv
        obtain ⟨a, b, d, f⟩ := h.2 v u hv
        rw [if_neg e, if_neg e]
        by_cases g : u.2.1 = t.1
        · rw [if_pos g, if_pos g]
          rw [g] at d
          exact ⟨a, b, by omega, fun _ => by omega⟩
        · rw [if_neg g, if_neg g]
          exact ⟨a, b, d, f⟩
  · rw [push1_neg q]
    exact ⟨T, c, h⟩
theorem invT_fold {es : List Tie} : ∀ (ts : List Tie) (s : S), (∀ t ∈ ts, t ∈ es ∧ t.1 ≠ t.2.1) → (∃ T c, InvT es s T c) → ∃ T c, InvT es (ts.foldl push1 s) T c
  | [], _, _, h => h
  | t :: ts, s, ht, ⟨T, c, h⟩ => invT_fold ts (push1 s t) (fun u hu => ht u (List.mem_cons_of_mem _ hu)) (invT_push h (ht t List.mem_cons_self).1 (ht t List.mem_cons_self).2)
theorem invT_iter {es : List Tie} {s : S} (hn : ∀ t ∈ es, t.1 ≠ t.2.1) (h0 : ∀ p, s.way p = none) : ∀ k, ∃ T c, InvT es (iter es s k) T c
  | 0 => ⟨fun _ => 0, 0, fun _ => Nat.le_refl _, fun v t h => by
    have h : s.way v = some t := h
    rw [h0] at h; cases h⟩
  | k + 1 => by
    obtain ⟨T, c, h⟩ := invT_iter hn h0 k
    exact invT_fold es { iter es s k with last := none } (fun t ht => ⟨ht, hn t ht⟩) ⟨T, c, h⟩
/-- the rounds in which places were pushed last -/
structure InvR (r : Nat) (pre suf : List Tie) (s : S) (R : Int → Nat) : Prop where
  way : ∀ v t, s.way v = some t → R v ≤ R t.2.1 + 1
  has : ∀ v, s.way v = none → R v = 0
  top : ∀ v, R v ≤ r
  pre : ∀ t ∈ pre, Met s.row t ∨ r ≤ R t.2.1
  suf : ∀ t ∈ suf, Met s.row t ∨ r ≤ R t.2.1 + 1
  last : ∀ v, s.last = some v → R v = r
theorem met_push {s : S} {t u : Tie} (h : Met s.row u) (n : u.2.1 ≠ t.1) : Met (push1 s t).row u := by
  have a := push1_mono s t u.1
  have h : s.row u.2.1 + u.2.2 ≤ s.row u.1 := h
  show (push1 s t).row u.2.1 + u.2.2 ≤ (push1 s t).row u.1
  have b : (push1 s t).row u.2.1 = s.row u.2.1 := by
    by_cases q : s.row t.1 < s.row t.2.1 + t.2.2
    · rw [push1_pos q]
      exact if_neg n
    · rw [push1_neg q]
  omega
theorem met_self {s : S} {t : Tie} (n : t.1 ≠ t.2.1) : Met (push1 s t).row t := by
  by_cases q : s.row t.1 < s.row t.2.1 + t.2.2
  · rw [push1_pos q]
    show (if t.2.1 = t.1 then s.row t.2.1 + t.2.2 else s.row t.2.1) + t.2.2 ≤ (if t.1 = t.1 then s.row t.2.1 + t.2.2 else s.row t.1)
    rw [if_neg n.symm, if_pos rfl]
    exact Int.le_refl _
  · rw [push1_neg q]
    show s.row t.2.1 + t.2.2 ≤ s.row t.1
    omega
theorem invR_push {r : Nat} {pre suf : List Tie} {s : S} {R : Int → Nat} {t : Tie} (h : InvR r pre (t :: suf) s R) (hn : t.1 ≠ t.2.1) : ∃ R', InvR r (pre ++ [t]) suf (push1 s t) R' := by
  by_cases q : s.row t.1 < s.row t.2.1 + t.2.2
  · have ht : r ≤ R t.2.1 + 1 := by
      rcases h.suf t List.mem_cons_self with a | a
      · have a : s.row t.2.1 + t.2.2 ≤ s.row t.1 := a
        omega
      · exact a
    have up : ∀ p, R p ≤ (if p = t.1 then r else R p) := fun p => by
      by_cases e : p = t.1
      · rw [if_pos e]; exact h.top p
      · rw [if_neg e]; exact Nat.le_refl _
    refine ⟨fun p => if p = t.1 then r else R p, ⟨fun v u hv => ?_, fun v hv => ?_, fun v => ?_, fun u hu => ?_, fun u hu => ?_, fun v hv => ?_⟩⟩
    · rw [push1_pos q] at hv
      have hv : (if v = t.1 then some t else s.way v) = some u := hv
      show (if v = t.1 then r else R v) ≤ (if u.2.1 = t.1 then r else R u.2.1) + 1
      have := up u.2.1
      by_cases e : v = t.1
      · rw [if_pos e] at hv
        cases hv
        rw [if_pos e]
        omega
      · rw [if_neg e] at hv
        have := h.way v u hv
        rw [if_neg e]
        omega
    · rw [push1_pos q] at hv
      have hv : (if v = t.1 then some t else s.way v) = none := hv
      show (if v = t.1 then r else R v) = 0
      by_cases e : v = t.1
      · rw [if_pos e] at hv
        cases hv
      · rw [if_neg e] at hv
        rw [if_neg e]
        exact h.has v hv
    · show (if v = t.1 then r else R v) ≤ r
      have := h.top v
      by_cases e : v = t.1
      · rw [if_pos e]; omega
      · rw [if_neg e]; omega
    · show Met _ u ∨ r ≤ (if u.2.1 = t.1 then r else R u.2.1)
      by_cases e : u.2.1 = t.1
      · right; rw [if_pos e]; exact Nat.le_refl _
      · rw [if_neg e]
        rcases List.mem_append.mp hu with hu | hu
        · rcases h.pre u hu with a | a
          · exact .inl (met_push a e)
          · exact .inr a
        · rw [List.mem_singleton] at hu
          subst hu
          exact .inl (met_self hn)
    · show Met _ u ∨ r ≤ (if u.2.1 = t.1 then r else R u.2.1) + 1
      by_cases e : u.2.1 = t.1
      · right; rw [if_pos e]; omega
      · rw [if_neg e]
        rcases h.suf u (List.mem_cons_of_mem _ hu) with a | a
        · exact .inl (met_push a e)
        · exact .inr a
    · rw [push1_pos q] at hv
      have hv : some t.1 = some v := hv
      cases hv
      show (if t.1 = t.1 then r else R t.1) = r
      rw [if_pos rfl]
  · have hm : Met (push1 s t).row t := met_self hn
    rw [push1_neg q] at hm ⊢
    exact ⟨R, ⟨h.way, h.has, h.top, fun u hu => by
      rcases List.mem_append.mp hu with hu | hu
      · exact h.pre u hu
      · rw [List.mem_singleton] at hu
        subst hu
        exact .inl hm, fun u hu => h.suf u (List.mem_cons_of_mem _ hu), h.last⟩⟩
theorem invR_fold {r : Nat} : ∀ (suf pre : List Tie) (s : S), (∀ t ∈ suf, t.1 ≠ t.2.1) → (∃ R, InvR r pre suf s R) → ∃ R, InvR r (pre ++ suf) [] (suf.foldl push1 s) R
  | [], pre, s, _, h => by rw [List.append_nil]; exact h
  | t :: suf, pre, s, hn, ⟨R, h⟩ => by
    have := invR_fold suf (pre ++ [t]) (push1 s t) (fun u hu => hn u (List.mem_cons_of_mem _ hu)) (invR_push h (hn t List.mem_cons_self))
    rw [List.append_assoc] at this
    exact this
theorem invR_iter {es : List Tie} {s : S} (hn : ∀ t ∈ es, t.1 ≠ t.2.1) (h0 : ∀ p, s.way p = none) : ∀ k, ∃ R, InvR (k + 1) es [] (iter es s (k + 1)) R
  | 0 => by
    have := invR_fold (r := 1) es [] { s with last := none } hn ⟨fun _ => 0, fun v t h => by show 0 ≤ _; omega, fun _ _ => rfl, fun _ => by show 0 ≤ 1; decide, fun u hu => (by cases hu), fun u _ => .inr (by show 1 ≤ 0 + 1; decide), fun v h => by cases h⟩
    rw [List.nil_append] at this
    exact this
  | k + 1 => by
    obtain ⟨R, h⟩ := invR_iter hn h0 k
    have := invR_fold (r := k + 2) es [] { iter es s (k + 1) with last := none } hn ⟨R, fun v t hv => h.way v t hv, fun v hv => h.has v hv, fun v => Nat.le_succ_of_le (h.top v), fun u hu => (by cases hu), fun u hu => by
      rcases h.pre u hu with a | a
      · exact .inl a
      · exact .inr (by omega), fun v h => by cases h⟩
    rw [List.nil_append] at this
    exact this
/-- ties in a ring that come to more than nothing -/
structure Ring (es : List Tie) (rs : List Tie) : Prop where
  ne : rs ≠ []
  mem : ∀ r ∈ rs, r ∈ es
  link : ∀ (i : Nat) (t u : Tie), rs[i]? = some t → rs[i + 1]? = some u → t.2.1 = u.1
  clos : ∀ (t u : Tie), rs[0]? = some t → rs[rs.length - 1]? = some u → u.2.1 = t.1
  nodup : ∀ (i j : Nat) (t u : Tie), rs[i]? = some t → rs[j]? = some u → t.1 = u.1 → i = j
  sum : 0 < (rs.map (·.2.2)).sum
/-- what the ways show when pushing has not ended -/
structure Runs (es : List Tie) (w : Int → Option Tie) (n : Nat) (v b : Int) (q : Nat) : Prop where
  steps : ∀ k, k < n → ∃ t, w (go w k v) = some t ∧ t.2.1 = go w (k + 1) v
  begin : b = go w n v
  pos : 1 ≤ q
  le : q < n
  back : go w q b = b
  first : ∀ k, 0 < k → k < q → go w k b ≠ b
  all : ∀ k, ∃ t, w (go w k b) = some t ∧ t.1 = go w k b ∧ t.2.1 = go w (k + 1) b
  ring : Ring es ((List.range q).map fun k => wy w (go w k b))
theorem sum_range (f : Nat → Int) (n : Nat) : ((List.range (n + 1)).map f).sum = ((List.range n).map f).sum + f n := by
  rw [List.range_succ, List.map_append, List.sum_append]
  simp
theorem runs {lanes : Nat} {es : List Tie} {s : S} (hn : ∀ t ∈ es, t.1 ≠ t.2.1) (hp : ∀ t ∈ es, (-1 ≤ t.1 ∧ t.1 < lanes) ∧ -1 ≤ t.2.1 ∧ t.2.1 < lanes) (h0 : ∀ p, s.way p = none) {v : Int} (hl : (iter es s (lanes + 2)).last = some v) :
    ∃ q, Runs es (iter es s (lanes + 2)).way (lanes + 2) v (go (iter es s (lanes + 2)).way (lanes + 2) v) q := by
  obtain ⟨R, hR⟩ := invR_iter hn h0 (lanes + 1)
  obtain ⟨T, c, hT⟩ := invT_iter hn h0 (lanes + 2)
  generalize hs : iter es s (lanes + 2) = f at hl hT ⊢
  have hR : InvR (lanes + 2) es [] f R := by rw [← hs]; exact hR
  have wyS : ∀ u t, f.way u = some t → wy f.way u = t ∧ nx f.way u = t.2.1 := fun u t h => by
    have : wy f.way u = t := by unfold wy; rw [h]; rfl
    exact ⟨this, by unfold nx; rw [this]⟩
  have rnd : ∀ k, k ≤ lanes + 2 → lanes + 2 - k ≤ R (go f.way k v) := by
    intro k
    induction k with
    | zero => intro _; show _ ≤ R v; rw [hR.last v hl]; exact Nat.sub_le _ _
    | succ k ih =>
      intro hk
      have a := ih (by omega)
      cases hw : f.way (go f.way k v) with
      | none =>
        have := hR.has _ hw
        omega
      | some t =>
        have b := hR.way _ _ hw
        have e : go f.way (k + 1) v = t.2.1 := (wyS _ _ hw).2
        rw [e]
        omega
  have some1 : ∀ k, k < lanes + 2 → ∃ t, f.way (go f.way k v) = some t ∧ t.1 = go f.way k v ∧ t.2.1 = go f.way (k + 1) v := fun k hk => by
    cases hw : f.way (go f.way k v) with
    | none =>
      have := hR.has _ hw
      have := rnd k (by omega)
      omega
    | some t => exact ⟨t, rfl, (hT.2 _ _ hw).1, ((wyS _ _ hw).2).symm⟩
  obtain ⟨i, j, hij, hj, e⟩ := pigeon (lanes + 1) (fun k => go f.way k v) (-1) (fun k hk => by
    obtain ⟨t, h1, h2, _⟩ := some1 k (by omega)
    have a := hp t (hT.2 _ _ h1).2.1
    rw [h2] at a
    show -1 ≤ go f.way k v ∧ go f.way k v < -1 + ((lanes + 1 : Nat) : Int)
    omega)
  have e : go f.way i v = go f.way j v := e
  -- from i on, the way turns with period j - i
  have per : ∀ k, go f.way (i + k + (j - i)) v = go f.way (i + k) v := fun k => by
    have : i + k + (j - i) = j + k := by omega
    rw [this, go_add, go_add, e]
  have all1 : ∀ k, ∃ t, f.way (go f.way (i + k) v) = some t ∧ t.1 = go f.way (i + k) v ∧ t.2.1 = go f.way (i + k + 1) v := by
    intro k
    induction k using Nat.strongRecOn with
    | _ k ih =>
      by_cases hk : i + k < lanes + 2
      · exact some1 _ hk
      · have := ih (k - (j - i)) (by omega)
        have e1 : go f.way (i + k) v = go f.way (i + (k - (j - i))) v := by
          have := per (k - (j - i))
          have e2 : i + (k - (j - i)) + (j - i) = i + k := by omega
          rw [e2] at this
          exact this
        have e3 : go f.way (i + k + 1) v = go f.way (i + (k - (j - i)) + 1) v := congrArg (nx f.way) e1
        rw [e1, e3]
        exact this
  generalize hb : go f.way (lanes + 2) v = b
  have gb : ∀ k, go f.way k b = go f.way (i + (lanes + 2 - i + k)) v := fun k => by
    have : i + (lanes + 2 - i + k) = lanes + 2 + k := by omega
    rw [this, go_add, hb]
  have all : ∀ k, ∃ t, f.way (go f.way k b) = some t ∧ t.1 = go f.way k b ∧ t.2.1 = go f.way (k + 1) b := fun k => by
    have := all1 (lanes + 2 - i + k)
    rw [gb k, gb (k + 1)]
    exact this
  have hper : go f.way (j - i) b = b := by
    rw [gb]
    have := per (lanes + 2 - i)
    have e1 : i + (lanes + 2 - i) + (j - i) = i + (lanes + 2 - i + (j - i)) := by omega
    rw [e1] at this
    rw [this]
    have e2 : i + (lanes + 2 - i) = lanes + 2 := by omega
    rw [e2, hb]
  -- the first return
  have least : ∀ n, 1 ≤ n → go f.way n b = b → ∃ q, 1 ≤ q ∧ q ≤ n ∧ go f.way q b = b ∧ ∀ k, 0 < k → k < q → go f.way k b ≠ b := by
    intro n
    induction n using Nat.strongRecOn with
    | _ n ih =>
      intro h1 h2
      by_cases d : ∃ k, 0 < k ∧ k < n ∧ go f.way k b = b
      · obtain ⟨k, a, b', c'⟩ := d
        obtain ⟨q, q1, q2, q3⟩ := ih k b' a c'
        exact ⟨q, q1, by omega, q3⟩
      · exact ⟨n, h1, Nat.le_refl _, h2, fun k a b' c' => d ⟨k, a, b', c'⟩⟩
  obtain ⟨q, q1, q2, q3, q4⟩ := least (j - i) (by omega) hper
  have edge : ∀ k, wy f.way (go f.way k b) ∈ es ∧ (wy f.way (go f.way k b)).1 = go f.way k b ∧ (wy f.way (go f.way k b)).2.1 = go f.way (k + 1) b ∧ f.row (go f.way k b) ≤ f.row (go f.way (k + 1) b) + (wy f.way (go f.way k b)).2.2 ∧
      (T (go f.way k b) ≤ T (go f.way (k + 1) b) → f.row (go f.way k b) < f.row (go f.way (k + 1) b) + (wy f.way (go f.way k b)).2.2) := fun k => by
    obtain ⟨t, h1, h2, h3⟩ := all k
    obtain ⟨a, b', c', d⟩ := hT.2 _ _ h1
    rw [(wyS _ _ h1).1]
    rw [h3] at c' d
    exact ⟨b', h2, h3, c', d⟩
  have tele : ∀ n, f.row b ≤ f.row (go f.way n b) + ((List.range n).map fun k => (wy f.way (go f.way k b)).2.2).sum ∧
      (T (go f.way n b) + n ≤ T b ∨ f.row b < f.row (go f.way n b) + ((List.range n).map fun k => (wy f.way (go f.way k b)).2.2).sum) := by
    intro n
    induction n with
    | zero => exact ⟨by show f.row b ≤ f.row b + 0; omega, .inl (Nat.le_refl _)⟩
    | succ n ih =>
      obtain ⟨a, b'⟩ := ih
      obtain ⟨_, _, _, c', d⟩ := edge n
      rw [sum_range]
      refine ⟨by omega, ?_⟩
      by_cases z : T (go f.way n b) ≤ T (go f.way (n + 1) b)
      · have := d z
        right
        omega
      · rcases b' with b' | b'
        · left; omega
        · right; omega
  have inj : ∀ x y, x < y → y < q → go f.way x b ≠ go f.way y b := fun x y hx hy e => by
    have e1 : go f.way (x + (q - y)) b = go f.way (y + (q - y)) b := by rw [go_add, go_add, e]
    rw [show y + (q - y) = q by omega, q3] at e1
    exact q4 _ (by omega) (by omega) e1
  have get : ∀ x t, ((List.range q).map fun k => wy f.way (go f.way k b))[x]? = some t → x < q ∧ t = wy f.way (go f.way x b) := fun x t h => by
    rw [List.getElem?_map] at h
    obtain ⟨z, hz, rfl⟩ := Option.map_eq_some_iff.mp h
    obtain ⟨hz1, hz2⟩ := List.getElem?_eq_some_iff.mp hz
    rw [List.length_range] at hz1
    rw [List.getElem_range] at hz2
    subst hz2
    exact ⟨hz1, rfl⟩
  refine ⟨q, ⟨fun k hk => ?_, hb.symm ▸ rfl, q1, by omega, q3, q4, all, ⟨?_, ?_, ?_, ?_, ?_, ?_⟩⟩⟩
  · obtain ⟨t, h1, _, h3⟩ := some1 k hk
    exact ⟨t, h1, h3⟩
  · intro h
    have := congrArg List.length h
    rw [List.length_map, List.length_range] at this
    have : q = 0 := this
    omega
  · intro r hr
    obtain ⟨k, _, rfl⟩ := List.mem_map.mp hr
    exact (edge k).1
  · intro x t u h1 h2
    obtain ⟨a, rfl⟩ := get _ _ h1
    obtain ⟨b', rfl⟩ := get _ _ h2
    rw [(edge x).2.2.1, (edge (x + 1)).2.1]
  · intro t u h1 h2
    rw [List.length_map, List.length_range] at h2
    obtain ⟨a, rfl⟩ := get _ _ h1
    obtain ⟨b', rfl⟩ := get _ _ h2
    rw [(edge (q - 1)).2.2.1, (edge 0).2.1, show q - 1 + 1 = q by omega, q3]
    rfl
  · intro x y t u h1 h2 e
    obtain ⟨a, rfl⟩ := get _ _ h1
    obtain ⟨b', rfl⟩ := get _ _ h2
    rw [(edge x).2.1, (edge y).2.1] at e
    rcases Nat.lt_trichotomy x y with h | h | h
    · exact (inj x y h b' e).elim
    · exact h
    · exact (inj y x h a e.symm).elim
  · rw [List.map_map]
    have := (tele q).2
    rw [q3] at this
    have e1 : ((List.range q).map ((fun (x : Tie) => x.2.2) ∘ fun k => wy f.way (go f.way k b))).sum = ((List.range q).map fun k => (wy f.way (go f.way k b)).2.2).sum := rfl
    rw [e1]
    rcases this with h | h
    · omega
    · omega
/-- no amounts meet the ties of a ring -/
theorem Ring.bars {es rs : List Tie} (h : Ring es rs) (x : Int → Int) (hx : ∀ r ∈ rs, Met x r) : False := by
  have key : ∀ (n : Nat) (t u : Tie), n < rs.length → rs[0]? = some t → rs[n]? = some u → x u.2.1 + ((rs.take (n + 1)).map (·.2.2)).sum ≤ x t.1 := by
    intro n
    induction n with
    | zero =>
      intro t u _ h1 h2
      rw [h1] at h2
      cases h2
      have := hx t (List.mem_of_getElem? h1)
      have : x t.2.1 + t.2.2 ≤ x t.1 := this
      rw [List.take_add_one, h1]
      simp
      exact this
    | succ n ih =>
      intro t u hl h1 h2
      have hn : rs[n]? = some rs[n] := List.getElem?_eq_getElem (by omega)
      have a := ih t rs[n] (by omega) h1 hn
      have b := h.link n _ _ hn h2
      have c := hx u (List.mem_of_getElem? h2)
      have c : x u.2.1 + u.2.2 ≤ x u.1 := c
      rw [b] at a
      rw [List.take_add_one, h2, List.map_append, List.sum_append]
      have e1 : ((some u).toList.map fun (z : Tie) => z.2.2).sum = u.2.2 := by simp
      rw [e1]
      omega
  have hl : 0 < rs.length := List.length_pos_iff.mpr h.ne
  have a := key (rs.length - 1) rs[0] rs[rs.length - 1] (by omega) (List.getElem?_eq_getElem hl) (List.getElem?_eq_getElem (by omega))
  have b := h.clos _ _ (List.getElem?_eq_getElem hl) (List.getElem?_eq_getElem (by omega))
  rw [List.take_of_length_le (by omega)] at a
  have c := h.sum
  rw [b] at a
  omega
end Lm
-- own part: lw6
namespace Ls
open PySem PySem.Spec PyProof.Rows L2
/-! ### ties -/
abbrev Tie := Lm.Tie
def tieD (t : Tie) : PyData := .tuple [.int t.1, .int t.2.1, .int t.2.2]
def GoodT (lanes wide : Int) (t : Tie) : Prop := 0 ≤ t.1 ∧ t.1 < lanes ∧ 0 ≤ t.2.1 ∧ t.2.1 < lanes ∧ t.1 ≠ t.2.1 ∧ -wide ≤ t.2.2 ∧ t.2.2 ≤ wide
/-- a list of ties -/
def TieL (K : PySem.W.Frag) (H : Hp) (vs : List V) (ts : List Tie) : Prop := ImAll K H vs (ts.map tieD)
theorem TieL.mono {K : PySem.W.Frag} {H H' : Hp} {vs : List V} {ts : List Tie} (t : Tp K H H') (h : TieL K H vs ts) : TieL K H' vs ts := ImAll.mono t h
theorem TieL.len {K : PySem.W.Frag} {H : Hp} {vs : List V} {ts : List Tie} (h : TieL K H vs ts) : vs.length = ts.length := by
  have := ImAll.length h
  rwa [List.length_map] at this
theorem TieL.snoc {K : PySem.W.Frag} {H : Hp} {vs : List V} {ts : List Tie} {p : Addr} {a b c : Int} (h : TieL K H vs ts) (hp : SqT K H p [.int a, .int b, .int c]) : TieL K H (vs ++ [.ref p]) (ts ++ [(a, b, c)]) := by
  unfold TieL
  rw [List.map_append]
  exact ImAll.snoc h (.tup hp (.cons (.int a) (.cons (.int b) (.cons (.int c) .nil))))
theorem TieL.app {K : PySem.W.Frag} {H : Hp} {vs us : List V} {ts ss : List Tie} (h : TieL K H vs ts) (h2 : TieL K H us ss) : TieL K H (vs ++ us) (ts ++ ss) := by
  unfold TieL
  rw [List.map_append]
  exact ImAll.app h h2
theorem tie_of {K : PySem.W.Frag} {H : Hp} {v : V} {t : Tie} (h : Im K H v (tieD t)) : ∃ a, v = .ref a ∧ SqT K H a [.int t.1, .int t.2.1, .int t.2.2] := by
  obtain ⟨a, xs, rfl, h1, h2⟩ := im_tup h
  refine ⟨a, rfl, ?_⟩
  cases h2 with
  | cons a1 r1 =>
    cases r1 with
    | cons a2 r2 =>
      cases r2 with
      | cons a3 r3 =>
        cases r3
        cases im_int a1
        cases im_int a2
        cases im_int a3
        exact h1
theorem TieL.get {K : PySem.W.Frag} {H : Hp} {vs : List V} {ts : List Tie} {i : Nat} {v : V} (h : TieL K H vs ts) (e : vs[i]? = some v) : ∃ t a, ts[i]? = some t ∧ v = .ref a ∧ SqT K H a [.int t.1, .int t.2.1, .int t.2.2] := by
  obtain ⟨d, h1, h2⟩ := ImAll.get h e
  rw [List.getElem?_map] at h1
  obtain ⟨t, ht, rfl⟩ := Option.map_eq_some_iff.mp h1
  obtain ⟨a, rfl, h3⟩ := tie_of h2
  exact ⟨t, a, ht, rfl, h3⟩
theorem TieL.take {K : PySem.W.Frag} {H : Hp} {vs : List V} {ts : List Tie} (n : Nat) (h : TieL K H vs ts) : TieL K H (vs.take n) (ts.take n) := by
  unfold TieL
  rw [List.map_take]
  exact ImAll.take n h
theorem TieL.drop {K : PySem.W.Frag} {H : Hp} {vs : List V} {ts : List Tie} (n : Nat) (h : TieL K H vs ts) : TieL K H (vs.drop n) (ts.drop n) := by
  unfold TieL
  rw [List.map_drop]
  exact ImAll.drop n h
def spTies (K : PySem.W.Frag) : Sp := fun vs H Q _ => ∃ (d c : Addr) (lanes wide : Int), vs = [.ref d, .int lanes, .int wide] ∧ Draw K H d c ∧ 1 ≤ lanes ∧ lanes < 1000 ∧ 0 ≤ wide ∧ wide < 10000000 ∧
  ∀ p us ts H', H p = none → Keep d H H' → Draw K H' d c → H' p = some (.lst us) → TieL K H' us ts → ts.length ≤ 15 → (∀ t ∈ ts, GoodT lanes wide t) → Q (.ref p) H'
theorem use_ties {K : PySem.W.Frag} {d c : Addr} {lanes wide : Int} {H : Hp} {Q : VK} {E : XK} (hD : Draw K H d c) (h1 : 1 ≤ lanes) (h2 : lanes < 1000) (h3 : 0 ≤ wide) (h4 : wide < 10000000)
    (q : ∀ p us ts H', H p = none → Keep d H H' → Draw K H' d c → H' p = some (.lst us) → TieL K H' us ts → ts.length ≤ 15 → (∀ t ∈ ts, GoodT lanes wide t) → Q (.ref p) H') : spTies K ([.ref d, .int lanes, .int wide] ++ []) H Q E := ⟨d, c, lanes, wide, rfl, hD, h1, h2, h3, h4, q⟩
def moveT (lanes by' : Int) (t : Tie) : Tie := ((t.1 + by') % lanes, (t.2.1 + by') % lanes, t.2.2)
def spMoved (K : PySem.W.Frag) : Sp := fun vs H Q _ => ∃ (a : Addr) (lanes b : Int) (us : List V) (ts : List Tie), vs = [.ref a, .int lanes, .int b] ∧ SqL K H a us ∧ TieL K H us ts ∧ ts.length ≤ 1000 ∧ 0 < lanes ∧
  ∀ p us' H', H p = none → Same H H' → H' p = some (.lst us') → TieL K H' us' (ts.map (moveT lanes b)) → Q (.ref p) H'
theorem use_moved {K : PySem.W.Frag} {a : Addr} {lanes b : Int} {us : List V} {ts : List Tie} {H : Hp} {Q : VK} {E : XK} (h : SqL K H a us) (h1 : TieL K H us ts) (h2 : ts.length ≤ 1000) (h3 : 0 < lanes)
    (q : ∀ p us' H', H p = none → Same H H' → H' p = some (.lst us') → TieL K H' us' (ts.map (moveT lanes b)) → Q (.ref p) H') : spMoved K ([.ref a, .int lanes, .int b] ++ []) H Q E := ⟨a, lanes, b, us, ts, rfl, h, h1, h2, h3, q⟩
end Ls
-- own part: lw9
namespace Ls
open PySem PySem.Spec PyProof.Rows L2
/-! ### the program's own: clocks -/
/-- all but the objects at d and e stays -/
def Keep2 (d e : Addr) (H H' : Hp) : Prop := ∀ b o, b ≠ d → b ≠ e → H b = some o → H' b = some o
theorem Keep2.refl {d e : Addr} {H : Hp} : Keep2 d e H H := fun _ _ _ _ h => h
theorem Keep2.trans {d e : Addr} {H H1 H2 : Hp} (a : Keep2 d e H H1) (b : Keep2 d e H1 H2) : Keep2 d e H H2 := fun c o n m h => b c o n m (a c o n m h)
theorem Keep2.same {d e : Addr} {H H' : Hp} (k : Same H H') : Keep2 d e H H' := fun b o _ _ h => k b o h
theorem Keep2.put1 {d e : Addr} {H H' : Hp} {o : HO} (k : Keep2 d e H H') : Keep2 d e H (upd H' d o) := fun b u n m h => by
  rw [upd_ne n]
  exact k b u n m h
theorem Keep2.put2 {d e : Addr} {H H' : Hp} {o : HO} (k : Keep2 d e H H') : Keep2 d e H (upd H' e o) := fun b u n m h => by
  rw [upd_ne m]
  exact k b u n m h
theorem Keep2.tp {K : PySem.W.Frag} {d e : Addr} {H H' : Hp} {o u : HO} (k : Keep2 d e H H') (h1 : H d = some o) (n1 : NoT o = true) (h2 : H e = some u) (n2 : NoT u = true) : Tp K H H' := fun a xs q => by
  have ne : ∀ z, NoT z = false → H a = some z → a ≠ d := fun z hz e y => by
    rw [y, h1] at e
    cases e
    rw [n1] at hz
    cases hz
  have ne2 : ∀ z, NoT z = false → H a = some z → a ≠ e := fun z hz f y => by
    rw [y, h2] at f
    cases f
    rw [n2] at hz
    cases hz
  rcases q with (q | ⟨z, q⟩) | q
  · exact .inl (.inl (k _ _ (ne _ rfl q) (ne2 _ rfl q) q))
  · exact .inl (.inr ⟨z, k _ _ (ne _ rfl q) (ne2 _ rfl q) q⟩)
  · exact .inr q
theorem sql_keep2 {K : PySem.W.Frag} {d e : Addr} {H H' : Hp} {a : Addr} {xs : List V} {kvs kus : List (Key × V)} (k : Keep2 d e H H') (hd : H d = some (.dK kvs)) (he : H e = some (.dK kus)) (h : SqL K H a xs) : SqL K H' a xs := by
  have ne : ∀ (f : Addr) (kvs : List (Key × V)) u, H f = some (.dK kvs) → (∀ ks, u ≠ .dK ks) → H a = some u → a ≠ f := fun f kvs u hf hu e z => by
    rw [z, hf] at e
    exact hu _ (Option.some.inj e).symm
  rcases h with (q | ⟨u, q⟩) | q
  · exact .inl (.inl (k _ _ (ne _ _ _ hd (fun _ z => by cases z) q) (ne _ _ _ he (fun _ z => by cases z) q) q))
  · exact .inl (.inr ⟨u, k _ _ (ne _ _ _ hd (fun _ z => by cases z) q) (ne _ _ _ he (fun _ z => by cases z) q) q⟩)
  · exact .inr q
theorem Keep2.free {d e p : Addr} {H H' : Hp} {o u : HO} (k : Keep2 d e H H') (hd : H' d = some o) (he : H' e = some u) (h : H' p = none) : H p = none := by
  cases q : H p with
  | none => rfl
  | some z =>
    by_cases a : p = d
    · rw [a, hd] at h; cases h
    · by_cases b : p = e
      · rw [b, he] at h; cases h
      · rw [k p z a b q] at h; cases h
theorem k_dc {wi : TI} {g : TG} {tt : TT} {tk tv : TE} {vs : List Nat} {σ : L2.St} {H : Hp} {Q : VK} (h : wi σ H fun J H1 => ∀ D, H1 D = none → ∃ W : Nat → Nat → Hp → Prop, (∃ m, W 0 m (upd H1 D (.dK []))) ∧ ∀ i m H, W i m H →
  (J.stop i H ∧ Q (.ref D) H) ∨ (J.go i H ∧ ∃ Nx : Hp → Prop, (∀ H', Nx H' → ∃ m', m' < m ∧ W (i + 1) m' H') ∧ ∀ x H', J.yld i H x H' → g x (wipe σ vs) H' fun σ2 H2 => wipe σ2 vs = wipe σ vs ∧ tt σ2 H2 fun b H3 =>
    if b = true then tk σ2 H3 fun y H4 => tv σ2 H4 fun z H5 => ∃ kvs k, y = kV k ∧ H5 D = some (.dK kvs) ∧ kvs.length < sizeLine ∧ Nx (upd H5 D (.dK (putK kvs k z))) else Nx H3)) : tDc wi g tt tk tv vs σ H Q := h
theorem it_range {lo : Int} {n : Nat} {H0 : Hp} {Qd : Hp → Prop} {B : (Hp → Prop) → V → Hp → Prop} (Pv : Nat → Hp → Prop) (h0 : Pv 0 H0) (hs : ∀ i H, i < n → Pv i H → B (Pv (i + 1)) (.int (lo + i)) H) (hd : ∀ H, Pv n H → Qd H) :
    ∃ W : Nat → Nat → Hp → Prop, (∃ m, W 0 m H0) ∧ ∀ i m H, W i m H → ((Itr lo n).stop i H ∧ Qd H) ∨ ((Itr lo n).go i H ∧ ∃ Nx : Hp → Prop, (∀ H', Nx H' → ∃ m', m' < m ∧ W (i + 1) m' H') ∧ ∀ x H', (Itr lo n).yld i H x H' → B Nx x H') := by
  refine ⟨fun i m H => m = n - i ∧ i ≤ n ∧ Pv i H, ⟨n, (Nat.sub_zero n).symm, Nat.zero_le _, h0⟩, ?_⟩
  rintro i m H ⟨rfl, hi, p⟩
  by_cases hlt : i < n
  · exact .inr ⟨hlt, Pv (i + 1), fun H' p' => ⟨n - (i + 1), by omega, rfl, hlt, p'⟩, fun x H' ⟨e1, e2⟩ => by subst e1 e2; exact hs i _ hlt p⟩
  · have e : i = n := by omega
    subst e
    exact .inl ⟨Nat.le_refl _, hd H p⟩
theorem Keep2.over {d e : Addr} {H H1 H2 : Hp} (k : Keep2 d e H1 H2) (s : Same H H1) (hd : H d = none) (he : H e = none) : Same H H2 := fun b o h => k b o (ne_of_none h hd) (ne_of_none h he) (s b o h)
/-- amounts by places, in a dict -/
def RowK (n : Int) (kvs : List (Key × V)) (r : Int → Int) : Prop := (∀ p, -1 ≤ p → p < n → valV kvs (.inl p) = some (.int (r p))) ∧ kvs.length ≤ 1000
theorem RowK.put {n : Int} {kvs : List (Key × V)} {r : Int → Int} {p x : Int} (h : RowK n kvs r) (h1 : -1 ≤ p) (h2 : p < n) : RowK n (putK kvs (.inl p) (.int x)) (fun q => if q = p then x else r q) := by
  refine ⟨fun q q1 q2 => ?_, ?_⟩
  · rw [valV_put, h.1 q q1 q2]
    show _ = some (V.int (if q = p then x else r q))
    by_cases e : q = p
    · rw [if_pos (by rw [e]), if_pos e]
    · rw [if_neg (fun z => e (Sum.inl.inj z)), if_neg e]
  · rw [put_of (h.1 p h1 h2), List.length_map]
    exact h.2
/-- the ties that pushed places, in a dict -/
def WayK (K : PySem.W.Frag) (H : Hp) (kvs : List (Key × V)) (w : Int → Option Tie) : Prop := ∀ p, (w p = none → valV kvs (.inl p) = none) ∧ ∀ t, w p = some t → ∃ a, valV kvs (.inl p) = some (.ref a) ∧ SqT K H a [.int t.1, .int t.2.1, .int t.2.2]
theorem WayK.mono {K : PySem.W.Frag} {H H' : Hp} {kvs : List (Key × V)} {w : Int → Option Tie} (h : WayK K H kvs w) (t : Tp K H H') : WayK K H' kvs w := fun p => ⟨(h p).1, fun u hu => by
  obtain ⟨a, h1, h2⟩ := (h p).2 u hu
  exact ⟨a, h1, t _ _ h2⟩⟩
theorem WayK.put {K : PySem.W.Frag} {H : Hp} {kvs : List (Key × V)} {w : Int → Option Tie} {p : Int} {t : Tie} {a : Addr} (h : WayK K H kvs w) (ht : SqT K H a [.int t.1, .int t.2.1, .int t.2.2]) : WayK K H (putK kvs (.inl p) (.ref a)) (fun q => if q = p then some t else w q) := fun q => by
  rw [valV_put]
  show ((if q = p then some t else w q) = none → _) ∧ ∀ u, (if q = p then some t else w q) = some u → _
  by_cases e : q = p
  · rw [if_pos e, if_pos (by rw [e])]
    refine ⟨fun z => by (cases z), fun u hu => ?_⟩
    cases hu
    exact ⟨a, rfl, ht⟩
  · rw [if_neg e, if_neg (fun z => e (Sum.inl.inj z))]
    exact h q
def bnd (n : Nat) (most : Int) : List Tie := ((List.range n).map fun (i : Nat) => ((i : Int), (-1 : Int), (0 : Int))) ++ (List.range n).map fun (i : Nat) => ((-1 : Int), (i : Int), -most)
def lastV : Option Int → V
  | none => .non
  | some p => .int p
def spLook (K : PySem.W.Frag) : Sp := fun vs H Q _ => ∃ (lanes most : Int) (a : Addr) (us : List V) (ts : List Tie), vs = [.int lanes, .ref a, .int most] ∧ 1 ≤ lanes ∧ lanes ≤ 6 ∧ 0 ≤ most ∧ most ≤ 1000000000000 ∧ SqL K H a us ∧ TieL K H us ts ∧ (∀ t ∈ ts, GoodT lanes 999999 t) ∧ Q .non H
def spBounds (K : PySem.W.Frag) : Sp := fun vs H Q _ => ∃ (n : Nat) (most : Int), vs = [.int n, .int most] ∧ n ≤ 6 ∧ ∀ p us H', H p = none → Same H H' → H' p = some (.lst us) → TieL K H' us (bnd n most) → Q (.ref p) H'
def spPushed (K : PySem.W.Frag) : Sp := fun vs H Q _ => ∃ (n : Int) (rw' l wa : Addr) (kr kw : List (Key × V)) (us : List V) (ts : List Tie) (s : Lm.S), vs = [.ref rw', .ref l, .ref wa] ∧ rw' ≠ wa ∧ H rw' = some (.dK kr) ∧ RowK n kr s.row ∧ H wa = some (.dK kw) ∧ WayK K H kw s.way ∧
  SqL K H l us ∧ TieL K H us ts ∧ (∀ t ∈ ts, (-1 ≤ t.1 ∧ t.1 < n) ∧ -1 ≤ t.2.1 ∧ t.2.1 < n) ∧ kw.length + ts.length ≤ 1000000 ∧
  ∀ H' kr' kw', Keep2 rw' wa H H' → H' rw' = some (.dK kr') → RowK n kr' (Lm.pushedS s ts).row → H' wa = some (.dK kw') → WayK K H' kw' (Lm.pushedS s ts).way → kw'.length ≤ kw.length + ts.length → Q (lastV (Lm.pushedS s ts).last) H'
/-- nothing pushed yet -/
def s0 : Lm.S := ⟨fun _ => 0, fun _ => none, none⟩
def spSettled (K : PySem.W.Frag) : Sp := fun vs H Q _ => ∃ (n : Nat) (most : Int) (l : Addr) (us : List V) (ts : List Tie), vs = [.int n, .ref l, .int most] ∧ 1 ≤ n ∧ n ≤ 6 ∧ H l = some (.lst us) ∧ TieL K H us ts ∧ (∀ t ∈ ts, GoodT n 999999 t) ∧ ts.length ≤ 1000 ∧
  ∀ t rw' wa kr kw k H', Same H H' → SqT K H' t [.ref rw', .ref wa, lastV (Lm.iter (bnd n most ++ ts) s0 k).last] → H' rw' = some (.dK kr) → RowK n kr (Lm.iter (bnd n most ++ ts) s0 k).row → H' wa = some (.dK kw) → WayK K H' kw (Lm.iter (bnd n most ++ ts) s0 k).way →
    k ≤ n + 2 → 0 < k → ((Lm.iter (bnd n most ++ ts) s0 k).last = none ∨ k = n + 2) → Q (.ref t) H'
theorem bnd_ok {n : Nat} {most : Int} : ∀ t ∈ bnd n most, (-1 ≤ t.1 ∧ t.1 < n) ∧ (-1 ≤ t.2.1 ∧ t.2.1 < n) ∧ t.1 ≠ t.2.1 := by
  intro t ht
  rcases List.mem_append.mp ht with ht | ht
  · obtain ⟨i, hi, rfl⟩ := List.mem_map.mp ht
    have := List.mem_range.mp hi
    exact ⟨⟨by show -1 ≤ (i : Int); omega, by show (i : Int) < n; omega⟩, ⟨by show (-1 : Int) ≤ -1; omega, by show (-1 : Int) < n; omega⟩, by show (i : Int) ≠ -1; omega⟩
  · obtain ⟨i, hi, rfl⟩ := List.mem_map.mp ht
    have := List.mem_range.mp hi
    exact ⟨⟨by show (-1 : Int) ≤ -1; omega, by show (-1 : Int) < n; omega⟩, ⟨by show -1 ≤ (i : Int); omega, by show (i : Int) < n; omega⟩, by show (-1 : Int) ≠ (i : Int); omega⟩
theorem all_ok {n : Nat} {most : Int} {ts : List Tie} (h : ∀ t ∈ ts, GoodT n 999999 t) : ∀ t ∈ bnd n most ++ ts, (-1 ≤ t.1 ∧ t.1 < n) ∧ (-1 ≤ t.2.1 ∧ t.2.1 < n) ∧ t.1 ≠ t.2.1 := by
  intro t ht
  rcases List.mem_append.mp ht with ht | ht
  · exact bnd_ok t ht
  · obtain ⟨a, b, c, d, e, _⟩ := h t ht
    exact ⟨⟨by omega, b⟩, ⟨by omega, d⟩, e⟩
theorem bnd_len {n : Nat} {most : Int} : (bnd n most).length = 2 * n := by
  unfold bnd
  rw [List.length_append, List.length_map, List.length_map, List.length_range]
  omega
end Ls
-- own part: lw13
namespace Ls
open PySem PySem.Spec PyProof.Rows L2
/-! ### what amounts and ring answer -/
/-- amounts that lie within their bounds and meet the ties -/
def FeasT (n : Nat) (most : Int) (ts : List Tie) (x : Int → Int) : Prop := (∀ p : Int, 0 ≤ p → p < n → 0 ≤ x p ∧ x p ≤ most) ∧ ∀ t ∈ ts, Lm.Met x t
def LeastT (n : Nat) (most : Int) (ts : List Tie) (x : Int → Int) : Prop := FeasT n most ts x ∧ ∀ y, FeasT n most ts y → ∀ p : Int, 0 ≤ p → p < n → x p ≤ y p
def places (n : Nat) : List Int := (List.range (n + 1)).map fun (i : Nat) => (i : Int) - 1
theorem mem_places {n : Nat} {p : Int} : p ∈ places n ↔ -1 ≤ p ∧ p < n := by
  constructor
  · intro h
    obtain ⟨i, hi, rfl⟩ := List.mem_map.mp h
    have := List.mem_range.mp hi
    omega
  · intro h
    exact List.mem_map.mpr ⟨(p + 1).toNat, List.mem_range.mpr (by omega), by omega⟩
theorem sol_of {n : Nat} {most : Int} {ts : List Tie} {x : Int → Int} (h0 : ∀ t ∈ ts, GoodT n 999999 t) (h : FeasT n most ts x) : Lm.Sol (places n) (bnd n most ++ ts) (fun p => if 0 ≤ p ∧ p < n then x p else 0) := by
  refine ⟨fun p hp => ?_, ?_, fun t ht => ?_⟩
  · show 0 ≤ if 0 ≤ p ∧ p < n then x p else 0
    by_cases c : 0 ≤ p ∧ p < n
    · rw [if_pos c]; exact (h.1 p c.1 c.2).1
    · rw [if_neg c]; exact Int.le_refl _
  · show (if 0 ≤ (-1 : Int) ∧ (-1 : Int) < n then x (-1) else 0) = 0
    rw [if_neg (by omega)]
  · show (if 0 ≤ t.2.1 ∧ t.2.1 < n then x t.2.1 else 0) + t.2.2 ≤ (if 0 ≤ t.1 ∧ t.1 < n then x t.1 else 0)
    rcases List.mem_append.mp ht with ht | ht
    · rcases List.mem_append.mp ht with ht | ht
      · obtain ⟨i, hi, rfl⟩ := List.mem_map.mp ht
        have hi := List.mem_range.mp hi
        have := h.1 (i : Int) (by omega) (by omega)
        show (if 0 ≤ (-1 : Int) ∧ (-1 : Int) < n then x (-1) else 0) + 0 ≤ (if 0 ≤ (i : Int) ∧ (i : Int) < n then x i else 0)
        rw [if_neg (by omega), if_pos (by omega)]
        omega
      · obtain ⟨i, hi, rfl⟩ := List.mem_map.mp ht
        have hi := List.mem_range.mp hi
        have := h.1 (i : Int) (by omega) (by omega)
        show (if 0 ≤ (i : Int) ∧ (i : Int) < n then x i else 0) + -most ≤ (if 0 ≤ (-1 : Int) ∧ (-1 : Int) < n then x (-1) else 0)
        rw [if_pos (by omega), if_neg (by omega)]
        omega
    · obtain ⟨a, b, c, d, _⟩ := h0 t ht
      rw [if_pos ⟨c, d⟩, if_pos ⟨a, b⟩]
      exact h.2 t ht
theorem feas_of {n : Nat} {most : Int} {ts : List Tie} {y : Int → Int} (h : Lm.Sol (places n) (bnd n most ++ ts) y) : FeasT n most ts y := by
  refine ⟨fun p p0 p1 => ⟨h.1 p (mem_places.mpr ⟨by omega, p1⟩), ?_⟩, fun t ht => h.2.2 t (List.mem_append_right _ ht)⟩
  have a := h.2.2 (-1, p, -most) (List.mem_append_left _ (List.mem_append_right _ (List.mem_map.mpr ⟨p.toNat, List.mem_range.mpr (by omega), by rw [Int.toNat_of_nonneg p0]⟩)))
  have a : y p + -most ≤ y (-1) := a
  have b := h.2.1
  omega
theorem iter_some {n : Nat} {most : Int} {ts : List Tie} (h0 : ∀ t ∈ ts, GoodT n 999999 t) {v : Int} (hl : (Lm.iter (bnd n most ++ ts) s0 (n + 2)).last = some v) (x : Int → Int) : ¬ FeasT n most ts x := fun h => by
  have := Lm.ends (s := s0) (sol_of h0 h) (fun t ht => ⟨mem_places.mpr (all_ok h0 t ht).1, mem_places.mpr (all_ok h0 t ht).2.1⟩) (fun _ => rfl) (mem_places.mpr ⟨by omega, by omega⟩) (k := n + 1) (by unfold places; rw [List.length_map, List.length_range]; omega)
  rw [show n + 1 + 1 = n + 2 from rfl] at this
  rw [hl] at this
  cases this
theorem iter_none {n : Nat} {most : Int} {ts : List Tie} (h0 : ∀ t ∈ ts, GoodT n 999999 t) {k : Nat} (hk : 0 < k) (hl : (Lm.iter (bnd n most ++ ts) s0 k).last = none) : LeastT n most ts (Lm.iter (bnd n most ++ ts) s0 k).row := by
  obtain ⟨j, rfl⟩ : ∃ j, k = j + 1 := ⟨k - 1, by omega⟩
  obtain ⟨a, b, c⟩ := Lm.least (s := s0) (ps := places n) (fun t ht => ⟨mem_places.mpr (all_ok h0 t ht).1, mem_places.mpr (all_ok h0 t ht).2.1⟩) (fun _ => rfl) (mem_places.mpr ⟨by omega, by omega⟩) hl (fun p hp hn => by
    have := mem_places.mp hp
    exact List.mem_append_left _ (List.mem_append_left _ (List.mem_map.mpr ⟨p.toNat, List.mem_range.mpr (by omega), by rw [Int.toNat_of_nonneg (by omega)]⟩)))
  rw [c] at a
  have e : (fun p => (Lm.iter (bnd n most ++ ts) s0 (j + 1)).row p - 0) = (Lm.iter (bnd n most ++ ts) s0 (j + 1)).row := by
    funext p
    omega
  rw [e] at a
  refine ⟨feas_of a, fun y hy p p0 p1 => ?_⟩
  have := b _ (sol_of h0 hy) p (mem_places.mpr ⟨by omega, p1⟩)
  have : (Lm.iter (bnd n most ++ ts) s0 (j + 1)).row p ≤ if 0 ≤ p ∧ p < n then y p else 0 := this
  rw [if_pos ⟨p0, p1⟩] at this
  exact this
theorem iter_runs {n : Nat} {most : Int} {ts : List Tie} (h0 : ∀ t ∈ ts, GoodT n 999999 t) {v : Int} (hl : (Lm.iter (bnd n most ++ ts) s0 (n + 2)).last = some v) :
    ∃ q, Lm.Runs (bnd n most ++ ts) (Lm.iter (bnd n most ++ ts) s0 (n + 2)).way (n + 2) v (Lm.go (Lm.iter (bnd n most ++ ts) s0 (n + 2)).way (n + 2) v) q :=
  Lm.runs (fun t ht => (all_ok h0 t ht).2.2) (fun t ht => ⟨(all_ok h0 t ht).1, (all_ok h0 t ht).2.1⟩) (fun _ => rfl) hl
theorem at_end {xs : List V} {v : V} {j : Nat} (hl : xs.length = j + 1) (h : xs[j]? = some v) : atI xs (-1) = some v := by
  rcases List.eq_nil_or_concat xs with rfl | ⟨ys, y, rfl⟩
  · cases hl
  · rw [List.concat_eq_append] at hl h ⊢
    rw [List.length_append, List.length_singleton] at hl
    rw [List.getElem?_append_right (by omega), show j - ys.length = 0 by omega] at h
    cases h
    exact atI_last ys _
theorem k_while {c : TT} {tb : TS} {D : Ends} {σ : L2.St} {H : Hp} (h : ∃ W : Nat → L2.St → Hp → Prop, (∃ m, W m σ H) ∧ ∀ m σ H, W m σ H → c σ H fun b H1 => if b = true then ∃ N : L2.St → Hp → Prop, (∀ σ' H', N σ' H' → ∃ m', m' < m ∧ W m' σ' H') ∧ tb { D with nx := N, ct := N, bk := D.nx } σ H1 else D.nx σ H1) : tWhile c tb D σ H := h
/-- the list of amounts -/
def rowV (n : Nat) (x : Int → Int) : List V := (List.range n).map fun (i : Nat) => V.int (x i)
def spAmounts (K : PySem.W.Frag) : Sp := fun vs H Q _ => ∃ (n : Nat) (most : Int) (l : Addr) (us : List V) (ts : List Tie), vs = [.int n, .ref l, .int most] ∧ 1 ≤ n ∧ n ≤ 6 ∧ 0 ≤ most ∧ most ≤ 1000000000000 ∧ H l = some (.lst us) ∧ TieL K H us ts ∧ (∀ t ∈ ts, GoodT n 999999 t) ∧ ts.length ≤ 1000 ∧
  (∀ p x H', H p = none → Same H H' → H' p = some (.lst (rowV n x)) → LeastT n most ts x → Q (.ref p) H') ∧ ∀ H', Same H H' → (∀ x, ¬ FeasT n most ts x) → Q .non H'
def spRing (K : PySem.W.Frag) : Sp := fun vs H Q _ => ∃ (n : Nat) (most : Int) (l : Addr) (us : List V) (ts : List Tie), vs = [.int n, .ref l, .int most] ∧ 1 ≤ n ∧ n ≤ 6 ∧ 0 ≤ most ∧ most ≤ 1000000000000 ∧ H l = some (.lst us) ∧ TieL K H us ts ∧ (∀ t ∈ ts, GoodT n 999999 t) ∧ ts.length ≤ 1000 ∧
  (∀ p us rs H', H p = none → Same H H' → H' p = some (.lst us) → TieL K H' us rs → rs.length ≤ n + 1 → Lm.Ring (bnd n most ++ ts) rs → (∀ x, ¬ FeasT n most ts x) → Q (.ref p) H') ∧ ∀ H' x, Same H H' → FeasT n most ts x → Q .non H'
end Ls
-- own part: S1
namespace Ls
open PySem PySem.Spec PyProof.Rows L2
/-! ### what stands apart: assertions over the heap, each over addresses of its own -/
/-- an object that is no tuple -/
def Nt : HO → Bool
  | .tup _ => false
  | .frz _ _ => false
  | .ext _ => false
  | _ => true
/-- .. nor a table: what may be frozen -/
def Fr : HO → Bool
  | .tbl _ => false
  | o => Nt o
theorem fr_nt {o : HO} (h : Fr o = true) : Nt o = true := by
  cases o <;> first | exact h | rfl
/-- tuples stay, and what is told of from outside -/
def Tq (K : PySem.W.Frag) (H H' : Hp) : Prop := Tp K H H' ∧ ∀ a f, H a = some (.ext f) → H' a = some (.ext f)
theorem Tq.refl {K : PySem.W.Frag} {H : Hp} : Tq K H H := ⟨Tp.refl, fun _ _ h => h⟩
theorem Tq.same {K : PySem.W.Frag} {H H' : Hp} (e : Same H H') : Tq K H H' := ⟨Tp.same e, fun _ _ h => e _ _ h⟩
theorem Tq.new {K : PySem.W.Frag} {H : Hp} {p : Addr} {o : HO} (h : H p = none) : Tq K H (upd H p o) := Tq.same (same_new h)
theorem nt_tp {K : PySem.W.Frag} {H H' : Hp} (h : ∀ a o, H a = some o → Nt o = false → H' a = some o) : Tq K H H' := ⟨fun a xs q => by
  rcases q with (q | ⟨u, q⟩) | q
  · exact .inl (.inl (h _ _ q rfl))
  · exact .inl (.inr ⟨u, h _ _ q rfl⟩)
  · exact .inr q, fun a f e => h a _ e rfl⟩
theorem tp_upd {K : PySem.W.Frag} {H : Hp} {a : Addr} {o u : HO} (h : H a = some o) (n : Nt o = true) : Tq K H (upd H a u) := nt_tp fun b x e nb => by
  have : b ≠ a := fun z => by
    rw [z, h] at e
    cases e
    rw [n] at nb
    cases nb
  rw [upd_ne this]
  exact e
/-- what is frozen: it stands, and never changes -/
abbrev Fz := Addr → HO → Prop
structure As (K : PySem.W.Frag) where
  ok : Fz → (Addr → Prop) → Hp → Prop
  st : ∀ {W : Fz} {s : Addr → Prop} {H H' : Hp}, ok W s H → (∀ a, s a → H' a = H a) → Tq K H H' → ok W s H'
  al : ∀ {W : Fz} {s : Addr → Prop} {H : Hp}, ok W s H → ∀ a, s a → ∃ o, H a = some o ∧ Nt o = true
  mo : ∀ {W W' : Fz} {s : Addr → Prop} {H : Hp}, ok W s H → (∀ a o, W a o → W' a o) → ok W' s H
section
variable {K : PySem.W.Frag} {A B C : As K} {L L' M : List (As K)} {s t r : Addr → Prop} {H H' : Hp} {W W' : Fz}
def Hld (W : Fz) : List (As K) → (Addr → Prop) → Hp → Prop
  | [], s, _ => ∀ a, ¬ s a
  | A :: L, s, H => ∃ s1 s2, (∀ a, s1 a → s2 a → False) ∧ (∀ a, s a ↔ s1 a ∨ s2 a) ∧ A.ok W s1 H ∧ Hld W L s2 H
theorem Hld.st : ∀ {L : List (As K)} {s : Addr → Prop}, Hld W L s H → (∀ a, s a → H' a = H a) → Tq K H H' → Hld W L s H'
  | [], _, h, _, _ => h
  | _ :: _, _, ⟨s1, s2, d, u, h1, h2⟩, e, t => ⟨s1, s2, d, u, As.st _ h1 (fun a z => e a ((u a).mpr (.inl z))) t, Hld.st h2 (fun a z => e a ((u a).mpr (.inr z))) t⟩
theorem Hld.al : ∀ {L : List (As K)} {s : Addr → Prop}, Hld W L s H → ∀ a, s a → ∃ o, H a = some o ∧ Nt o = true
  | [], _, h, a, z => (h a z).elim
  | _ :: _, _, ⟨s1, s2, d, u, h1, h2⟩, a, z => ((u a).mp z).elim (As.al _ h1 a) (Hld.al h2 a)
theorem Hld.mo (k : ∀ a o, W a o → W' a o) : ∀ {L : List (As K)} {s : Addr → Prop}, Hld W L s H → Hld W' L s H
  | [], _, h => h
  | _ :: _, _, ⟨s1, s2, d, u, h1, h2⟩ => ⟨s1, s2, d, u, As.mo _ h1 k, Hld.mo k h2⟩
theorem Hld.cg (h : Hld W L s H) (e : ∀ a, s a ↔ t a) : Hld W L t H := by
  have : s = t := funext fun a => propext (e a)
  exact this ▸ h
theorem Hld.swap (h : Hld W (A :: B :: L) s H) : Hld W (B :: A :: L) s H := by
  obtain ⟨s1, s2, d, u, h1, t1, t2, d2, u2, h2, h3⟩ := h
  refine ⟨t1, fun a => s1 a ∨ t2 a, fun a x y => ?_, fun a => ?_, h2, s1, t2, fun a x y => d a x ((u2 a).mpr (.inr y)), fun a => Iff.rfl, h1, h3⟩
  · rcases y with y | y
    · exact d a y ((u2 a).mpr (.inl x))
    · exact d2 a x y
  · rw [u a, u2 a]
    constructor
    · rintro (x | x | x)
      · exact .inr (.inl x)
      · exact .inl x
      · exact .inr (.inr x)
    · rintro (x | x | x)
      · exact .inr (.inl x)
      · exact .inl x
      · exact .inr (.inr x)
/-- the frozen ones stand apart from what is owned -/
def FzOk (W : Fz) (s : Addr → Prop) (H : Hp) : Prop := ∀ a o, W a o → H a = some o ∧ Fr o = true ∧ ¬ s a
/-- the assertions of a list hold, each of addresses of its own -/
def Sep (L : List (As K)) (H : Hp) : Prop := ∃ W s, FzOk W s H ∧ Hld W L s H
theorem Hld.perm (p : L.Perm L') : ∀ {s : Addr → Prop}, Hld W L s H → Hld W L' s H := by
  induction p with
  | nil => exact id
  | cons x _ ih =>
    rintro s ⟨s1, s2, d, u, h1, h2⟩
    exact ⟨s1, s2, d, u, h1, ih h2⟩
  | swap x y l => exact fun h => h.swap
  | trans _ _ a b => exact fun h => b (a h)
theorem Sep.perm (h : Sep L H) (p : L.Perm L') : Sep L' H := by
  obtain ⟨W, s, f, h⟩ := h
  exact ⟨W, s, f, h.perm p⟩
theorem FzOk.less (f : FzOk W s H) (k : ∀ a, t a → s a) : FzOk W t H := fun a o h => ⟨(f a o h).1, (f a o h).2.1, fun z => (f a o h).2.2 (k a z)⟩
theorem Sep.tail (h : Sep (A :: L) H) : Sep L H := by
  obtain ⟨W, s, f, s1, s2, d, u, h1, h2⟩ := h
  exact ⟨W, s2, f.less fun a z => (u a).mpr (.inr z), h2⟩
theorem Sep.nil : Sep ([] : List (As K)) H := ⟨fun _ _ => False, fun _ => False, fun _ _ z => z.elim, fun _ z => z⟩
theorem Sep.same (h : Sep L H) (e : Same H H') : Sep L H' := by
  obtain ⟨W, s, f, h⟩ := h
  refine ⟨W, s, fun a o z => ⟨e _ _ (f a o z).1, (f a o z).2⟩, h.st (fun a z => ?_) (Tq.same e)⟩
  obtain ⟨o, ho, _⟩ := h.al a z
  rw [e _ _ ho, ho]
/-- the first one, and what it takes to put another in its place -/
theorem Sep.hd (h : Sep (A :: L) H) : ∃ (W : Fz) (s r : Addr → Prop), A.ok W s H ∧ (∀ a, s a → r a → False) ∧ (∀ a, r a → ∃ o, H a = some o ∧ Nt o = true) ∧
    ∀ {B : As K} {s' : Addr → Prop} {H' : Hp}, B.ok W s' H' → (∀ a, s' a → r a → False) → (∀ a, r a → H' a = H a) → Tq K H H' → Sep (B :: L) H' := by
  obtain ⟨W, s, f, s1, s2, d, u, h1, h2⟩ := h
  refine ⟨W, s1, fun a => s2 a ∨ ∃ o, W a o, h1, fun a x y => ?_, fun a y => ?_, fun {B s' H'} hB dj e t => ⟨W, fun a => s' a ∨ s2 a, fun a o z => ⟨?_, (f a o z).2.1, fun y => ?_⟩, s', s2, fun a x y => dj a x (.inl y), fun a => Iff.rfl, hB, h2.st (fun a z => e a (.inl z)) t⟩⟩
  · rcases y with y | ⟨o, y⟩
    · exact d a x y
    · exact (f a o y).2.2 ((u a).mpr (.inl x))
  · rcases y with y | ⟨o, y⟩
    · exact h2.al a y
    · exact ⟨o, (f a o y).1, fr_nt (f a o y).2.1⟩
  · rw [e a (.inr ⟨o, z⟩)]
    exact (f a o z).1
  · rcases y with y | y
    · exact dj a y (.inr ⟨o, z⟩)
    · exact (f a o z).2.2 ((u a).mpr (.inr y))
/-! A in a list, and another in its place -/
inductive Rep : List (As K) → As K → As K → List (As K) → Prop
  | here {A B : As K} {L} : Rep (A :: L) A B (B :: L)
  | there {A B C : As K} {L M} : Rep L A B M → Rep (C :: L) A B (C :: M)
inductive Rem : List (As K) → As K → List (As K) → Prop
  | here {A : As K} {L} : Rem (A :: L) A L
  | there {A C : As K} {L M} : Rem L A M → Rem (C :: L) A (C :: M)
theorem Rem.perm (r : Rem L A M) : L.Perm (A :: M) := by
  induction r with
  | here => exact .refl _
  | there _ ih => exact (List.Perm.cons _ ih).trans (.swap _ _ _)
theorem Rep.rem (r : Rep L A B M) : ∃ N, L.Perm (A :: N) ∧ M.Perm (B :: N) := by
  induction r with
  | here => exact ⟨_, .refl _, .refl _⟩
  | there _ ih =>
    obtain ⟨N, h1, h2⟩ := ih
    exact ⟨_, (List.Perm.cons _ h1).trans (.swap _ _ _), (List.Perm.cons _ h2).trans (.swap _ _ _)⟩
theorem Rem.of_mem : A ∈ L → ∃ M, Rem L A M := by
  intro h
  induction L with
  | nil => cases h
  | cons C L ih =>
    by_cases e : A = C
    · subst e
      exact ⟨_, .here⟩
    · obtain ⟨M, hM⟩ := ih (by
        rcases List.mem_cons.mp h with z | z
        · exact (e z).elim
        · exact z)
      exact ⟨_, .there hM⟩
theorem Sep.rem (h : Sep L H) (r : Rem L A M) : Sep (A :: M) H := h.perm r.perm
/-- a call that changes the first one and lets the rest stand -/
theorem Sep.rep (r : Rep L A B M) : ∃ N, (∀ H, Sep L H → Sep (A :: N) H) ∧ (∀ H, Sep (B :: N) H → Sep M H) := by
  obtain ⟨N, h1, h2⟩ := r.rem
  exact ⟨N, fun H h => h.perm h1, fun H h => h.perm h2.symm⟩
/-- one of them, and how all stand again behind a change of it -/
theorem Sep.at (h : Sep L H) (m : A ∈ L) : ∃ (W : Fz) (s r : Addr → Prop), A.ok W s H ∧ (∀ a, s a → r a → False) ∧ (∀ a, r a → ∃ o, H a = some o ∧ Nt o = true) ∧
    ∀ {s' : Addr → Prop} {H' : Hp}, A.ok W s' H' → (∀ a, s' a → r a → False) → (∀ a, r a → H' a = H a) → Tq K H H' → Sep L H' := by
  obtain ⟨M, hM⟩ := Rem.of_mem m
  obtain ⟨W, s, r, h1, h2, h3, h4⟩ := (h.rem hM).hd
  exact ⟨W, s, r, h1, h2, h3, fun a b c d => (h4 a b c d).perm hM.perm.symm⟩
theorem Sep.the (h : Sep L H) (m : A ∈ L) : ∃ W s, A.ok W s H ∧ FzOk W (fun _ => False) H := by
  obtain ⟨M, hM⟩ := Rem.of_mem m
  obtain ⟨W, s, f, s1, s2, d, u, h1, h2⟩ := h.rem hM
  exact ⟨W, s1, h1, f.less fun _ z => z.elim⟩
end
/-! ### the assertions -/
section
variable {K : PySem.W.Frag}
/-- a fact that stays, of the frozen ones and the heap -/
def persW (P : Fz → Hp → Prop) (h : ∀ W H H', Tq K H H' → P W H → P W H') (k : ∀ (W W' : Fz) H, (∀ a o, W a o → W' a o) → P W H → P W' H) : As K := ⟨fun W s H => (∀ a, ¬ s a) ∧ P W H, fun ⟨a, b⟩ _ t => ⟨a, h _ _ _ t b⟩, fun ⟨a, _⟩ b z => (a b z).elim, fun ⟨a, b⟩ e => ⟨a, k _ _ _ e b⟩⟩
/-- a fact that stays -/
def pers (P : Hp → Prop) (h : ∀ H H', Tq K H H' → P H → P H') : As K := persW (fun _ => P) (fun _ => h) fun _ _ _ _ b => b
def im (v : V) (d : PyData) : As K := pers (fun H => Im K H v d) fun _ _ t h => h.mono t.1
def ims (vs : List V) (ds : List PyData) : As K := pers (fun H => ImAll K H vs ds) fun _ _ t h => h.mono t.1
def tu (a : Addr) (xs : List V) : As K := pers (fun H => SqT K H a xs) fun _ _ t h => t.1 _ _ h
def pr (P : Prop) : As K := pers (fun _ => P) fun _ _ _ h => h
/-- an object that never changes any more -/
def fzn (a : Addr) (o : HO) : As K := persW (fun W _ => W a o) (fun _ _ _ _ h => h) fun _ _ _ e h => e _ _ h
/-- an object of one's own -/
def ob (a : Addr) (o : HO) : As K := ⟨fun _ s H => (∀ b, s b ↔ b = a) ∧ H a = some o ∧ Nt o = true, fun ⟨e, h, n⟩ k _ => ⟨e, (k a ((e a).mpr rfl)).trans h, n⟩, fun ⟨e, h, n⟩ b z => by
  obtain rfl := (e b).mp z
  exact ⟨o, h, n⟩, fun h _ => h⟩
/-- there is an x .. -/
def ex {α : Type} (f : α → As K) : As K := ⟨fun W s H => ∃ x, (f x).ok W s H, fun ⟨x, h⟩ e t => ⟨x, (f x).st h e t⟩, fun ⟨x, h⟩ => (f x).al h, fun ⟨x, h⟩ e => ⟨x, (f x).mo h e⟩⟩
/-- all of a list as one -/
def all (L : List (As K)) : As K := ⟨fun W => Hld W L, fun h e t => Hld.st h e t, fun h => Hld.al h, fun h e => Hld.mo e h⟩
variable {A B : As K} {L L' M : List (As K)} {H H' : Hp} {a p : Addr} {o u : HO} {v : V} {d : PyData} {vs xs : List V} {ds : List PyData} {W : Fz}
theorem Sep.pers_iff {P : Hp → Prop} {h : ∀ H H', Tq K H H' → P H → P H'} : Sep (pers P h :: L) H ↔ P H ∧ Sep L H := by
  constructor
  · intro z
    refine ⟨?_, z.tail⟩
    obtain ⟨W, s, ⟨_, h1⟩, _⟩ := z.the List.mem_cons_self
    exact h1
  · rintro ⟨p, W, s, f, q⟩
    exact ⟨W, s, f, fun _ => False, s, fun _ z => z.elim, fun a => ⟨.inr, fun z => z.elim False.elim id⟩, ⟨fun _ z => z, p⟩, q⟩
theorem Sep.im_iff : Sep (im v d :: L) H ↔ Im K H v d ∧ Sep L H := Sep.pers_iff
theorem Sep.ims_iff : Sep (ims vs ds :: L) H ↔ ImAll K H vs ds ∧ Sep L H := Sep.pers_iff
theorem Sep.tu_iff : Sep (tu a xs :: L) H ↔ SqT K H a xs ∧ Sep L H := Sep.pers_iff
theorem Sep.pr_iff {P : Prop} : Sep (pr P :: L) H ↔ P ∧ Sep L H := Sep.pers_iff
theorem Sep.ex_iff {α : Type} {f : α → As K} : Sep (ex f :: L) H ↔ ∃ x, Sep (f x :: L) H := by
  constructor
  · rintro ⟨W, s, f, s1, s2, d, u, ⟨x, h1⟩, h2⟩
    exact ⟨x, W, s, f, s1, s2, d, u, h1, h2⟩
  · rintro ⟨x, W, s, f, s1, s2, d, u, h1, h2⟩
    exact ⟨W, s, f, s1, s2, d, u, ⟨x, h1⟩, h2⟩
theorem Hld.app : ∀ {L L' : List (As K)} {s : Addr → Prop}, Hld W (L ++ L') s H ↔ ∃ s1 s2, (∀ a, s1 a → s2 a → False) ∧ (∀ a, s a ↔ s1 a ∨ s2 a) ∧ Hld W L s1 H ∧ Hld W L' s2 H
  | [], L', s => by
    constructor
    · intro h
      exact ⟨fun _ => False, s, fun _ z => z.elim, fun a => ⟨.inr, fun z => z.elim False.elim id⟩, fun _ z => z, h⟩
    · rintro ⟨s1, s2, d, u, h1, h2⟩
      exact h2.cg fun a => ⟨fun z => (u a).mpr (.inr z), fun z => ((u a).mp z).elim (fun y => (h1 a y).elim) id⟩
  | A :: L, L', s => by
    constructor
    · rintro ⟨s1, s2, d, u, h1, h2⟩
      obtain ⟨t1, t2, d', u', h3, h4⟩ := Hld.app.mp h2
      refine ⟨fun a => s1 a ∨ t1 a, t2, fun a x y => ?_, fun a => ?_, ⟨s1, t1, fun a x y => d a x ((u' a).mpr (.inl y)), fun a => Iff.rfl, h1, h3⟩, h4⟩
      · rcases x with x | x
        · exact d a x ((u' a).mpr (.inr y))
        · exact d' a x y
      · rw [u a, u' a, or_assoc]
    · rintro ⟨s1, s2, d, u, ⟨t1, t2, d', u', h1, h3⟩, h2⟩
      refine ⟨t1, fun a => t2 a ∨ s2 a, fun a x y => ?_, fun a => ?_, h1, Hld.app.mpr ⟨t2, s2, fun a x y => d a ((u' a).mpr (.inr x)) y, fun a => Iff.rfl, h3, h2⟩⟩
      · rcases y with y | y
        · exact d' a x y
        · exact d a ((u' a).mpr (.inl x)) y
      · rw [u a, u' a, or_assoc]
theorem Sep.all_iff : Sep (all L :: L') H ↔ Sep (L ++ L') H := by
  constructor
  · rintro ⟨W, s, f, s1, s2, d, u, h1, h2⟩
    exact ⟨W, s, f, Hld.app.mpr ⟨s1, s2, d, u, h1, h2⟩⟩
  · rintro ⟨W, s, f, h⟩
    obtain ⟨s1, s2, d, u, h1, h2⟩ := Hld.app.mp h
    exact ⟨W, s, f, s1, s2, d, u, h1, h2⟩
theorem Sep.obm (h : Sep L H) (m : ob a o ∈ L) : H a = some o := by
  obtain ⟨W, s, ⟨_, h1, _⟩, _⟩ := h.the m
  exact h1
theorem Sep.ob_get (h : Sep (ob a o :: L) H) : H a = some o := h.obm List.mem_cons_self
theorem Sep.fzm (h : Sep L H) (m : fzn a o ∈ L) : H a = some o := by
  obtain ⟨W, s, ⟨_, h1⟩, f⟩ := h.the m
  exact (f a o h1).1
theorem Sep.imm (h : Sep L H) (m : im v d ∈ L) : Im K H v d := by
  obtain ⟨W, s, ⟨_, h1⟩, _⟩ := h.the m
  exact h1
theorem Sep.imsm (h : Sep L H) (m : ims vs ds ∈ L) : ImAll K H vs ds := by
  obtain ⟨W, s, ⟨_, h1⟩, _⟩ := h.the m
  exact h1
theorem Sep.tum (h : Sep L H) (m : tu a xs ∈ L) : SqT K H a xs := by
  obtain ⟨W, s, ⟨_, h1⟩, _⟩ := h.the m
  exact h1
theorem Sep.set (h : Sep (ob a o :: L) H) (n : Nt u = true) : Sep (ob a u :: L) (upd H a u) := by
  obtain ⟨W, s, r, ⟨e, h1, n1⟩, d, _, k⟩ := h.hd
  refine k (s' := s) ⟨e, upd_same, n⟩ d (fun b z => upd_ne fun y => d b ((e b).mpr y) z) (tp_upd h1 n1)
theorem Sep.setR (h : Sep L H) (r : Rep L (ob a o) (ob a u) M) (n : Nt u = true) : Sep M (upd H a u) := by
  obtain ⟨N, h1, h2⟩ := Sep.rep r
  exact h2 _ ((h1 _ h).set n)
theorem Sep.new (h : Sep L H) (hp : H p = none) (n : Nt o = true) : Sep (ob p o :: L) (upd H p o) := by
  obtain ⟨W, s, f, h⟩ := h
  have ne : ∀ b, s b → b ≠ p := fun b z y => by
    obtain ⟨x, hx, _⟩ := h.al b z
    rw [y, hp] at hx
    cases hx
  have nw : ∀ b x, W b x → b ≠ p := fun b x z y => by
    have := (f b x z).1
    rw [y, hp] at this
    cases this
  exact ⟨W, fun b => b = p ∨ s b, fun b x z => ⟨by rw [upd_ne (nw b x z)]; exact (f b x z).1, (f b x z).2.1, fun y => y.elim (nw b x z) (f b x z).2.2⟩, fun b => b = p, s, fun b x y => ne b y x, fun b => Iff.rfl, ⟨fun b => Iff.rfl, upd_same, n⟩, h.st (fun b z => upd_ne (ne b z)) (Tq.new hp)⟩
theorem Sep.newT (h : Sep L H) (hp : H p = none) : Sep (tu p xs :: L) (upd H p (.tup xs)) := Sep.tu_iff.mpr ⟨sqt_of upd_same, h.same (same_new hp)⟩
/-- an object of one's own is frozen for good -/
theorem Sep.freeze (h : Sep (ob a o :: L) H) (hf : Fr o = true) : Sep (fzn a o :: L) H := by
  obtain ⟨W, s, f, s1, s2, d, u, ⟨e, h1, n⟩, h2⟩ := h
  refine ⟨fun b x => W b x ∨ (b = a ∧ x = o), s2, fun b x z => ?_, fun _ => False, s2, fun _ z => z.elim, fun b => ⟨.inr, fun z => z.elim False.elim id⟩, ⟨fun _ z => z, .inr ⟨rfl, rfl⟩⟩, h2.mo fun b x z => .inl z⟩
  rcases z with z | ⟨rfl, rfl⟩
  · exact ⟨(f b x z).1, (f b x z).2.1, fun y => (f b x z).2.2 ((u b).mpr (.inr y))⟩
  · exact ⟨h1, hf, fun y => d b ((e b).mpr rfl) y⟩
end
/-- what may be told as often as one likes -/
class Dup {K : PySem.W.Frag} (A : As K) : Prop where
  no : ∀ {W : Fz} {s : Addr → Prop} {H : Hp}, A.ok W s H → ∀ a, ¬ s a
instance {K : PySem.W.Frag} {P : Fz → Hp → Prop} {h k} : Dup (persW (K := K) P h k) := ⟨fun z => z.1⟩
instance {K : PySem.W.Frag} {v d} : Dup (im (K := K) v d) := ⟨fun z => z.1⟩
instance {K : PySem.W.Frag} {v d} : Dup (ims (K := K) v d) := ⟨fun z => z.1⟩
instance {K : PySem.W.Frag} {v d} : Dup (tu (K := K) v d) := ⟨fun z => z.1⟩
instance {K : PySem.W.Frag} {P} : Dup (pr (K := K) P) := ⟨fun z => z.1⟩
instance {K : PySem.W.Frag} {a o} : Dup (fzn (K := K) a o) := ⟨fun z => z.1⟩
instance {K : PySem.W.Frag} {α : Type} {f : α → As K} [h : ∀ x, Dup (f x)] : Dup (ex f) := ⟨fun ⟨x, z⟩ => (h x).no z⟩
end Ls
-- own part: U5
open PySem PySem.Spec PyProof.Rows L2
namespace Ls
end Ls
open Ls
namespace Ls
open PySem PySem.Spec PyProof.Rows L2
/-! ### xs[::k] -/
theorem vals_at {xs : List V} {us : List Value} (r : Vals xs us) : ∀ i : Nat, (xs[i]? = none ∧ us[i]? = none) ∨ ∃ x u, xs[i]? = some x ∧ us[i]? = some u ∧ RelV x u := by
  unfold Vals at r
  induction r with
  | nil => intro i; exact .inl ⟨rfl, rfl⟩
  | cons h _ ih =>
    intro i
    cases i with
    | zero => exact .inr ⟨_, _, rfl, rfl, h⟩
    | succ i => exact ih i
theorem vals_pick {xs : List V} {us : List Value} (r : Vals xs us) : ∀ idx : List Nat, Vals (idx.filterMap (xs[·]?)) (idx.filterMap (us[·]?))
  | [] => .nil
  | i :: idx => by
    rcases vals_at r i with ⟨h1, h2⟩ | ⟨x, u, h1, h2, h3⟩
    · rw [List.filterMap_cons_none h1, List.filterMap_cons_none h2]
      exact vals_pick r idx
    · rw [List.filterMap_cons_some h1, List.filterMap_cons_some h2]
      exact .cons h3 (vals_pick r idx)
def stepV (xs : List V) (k : Int) : List V := (sliceRange 0 (xs.length : Int) k).filterMap (xs[·]?)
theorem stepV_mem {xs : List V} {k : Int} {v : V} (h : v ∈ stepV xs k) : v ∈ xs := by
  obtain ⟨i, _, e⟩ := List.mem_filterMap.mp h
  exact List.mem_of_getElem? e
theorem stepV_len {xs : List V} {k : Int} (hk : 0 < k) : (stepV xs k).length ≤ xs.length :=
  Nat.le_trans (List.length_filterMap_le ..) (sliceRange_length_le _ _ _ _ (fun _ => ⟨Int.le_refl _, Int.le_refl _⟩) fun h => absurd hk h)
def tStepL (K : PySem.W.Frag) (te : TE) (k : Int) : TE := fun σ H Q => te σ H fun x H1 => ∃ a xs, x = .ref a ∧ SqL K H1 a xs ∧ ∀ p, H1 p = none → Q (.ref p) (upd H1 p (.lst (stepV xs k)))
theorem step_bounds (k : Int) (hk : 0 < k) (n : Nat) : sliceBounds none none (some k) n = (0, (n : Int), k) := by
  unfold sliceBounds
  have h : ¬ k < 0 := by omega
  simp [h]
  exact ⟨fun z => by omega, hk⟩
theorem pe_stepL {X : Cx} {e : Expr} {te : TE} {k : Int} {j : Nat} {p1 p3 pos : Pos} (K : PySem.W.Frag) (hK : X.K = K) (hk : 0 < k) (he : PE X e te) : PE X (.Subscript e (.Slice none none (some (.Constant (.int k) j p1)) p3) pos) (tStepL K te k) := by
  subst hK
  refine ⟨fun pins s σ H Q I h => ?_⟩
  refine Subscript_ (thn (he.run pins s σ H _ I h) fun v s1 ⟨x, H1, I1, r1, q1⟩ => ?_)
  obtain ⟨a, xs, ex, hx, q⟩ := q1
  subst ex
  cases r1
  have hst : PO X (some (.Constant (.int k) j p1)) (tPart (tC (.int k))) := po_some pe_int
  refine wpAny_Slice (thn (po_none.run pins s1 σ H1 (fun o H2 => o = none ∧ H2 = H1) I1 ⟨rfl, rfl⟩) fun vl s2 ⟨l, H2, I2, pl, el, e2⟩ => ?_)
  subst el e2
  refine thn (po_none.run pins s2 σ H2 (fun o H3 => o = none ∧ H3 = H2) I2 ⟨rfl, rfl⟩) fun vu s3 ⟨u, H3, I3, pu, eu, e3⟩ => ?_
  subst eu e3
  refine thn (hst.run pins s3 σ H3 (fun o H4 => o = some k ∧ H4 = H3) I3 ⟨k, rfl, rfl, rfl⟩) fun vs s4 ⟨o, H4, I4, ps, eo, e4⟩ => ?_
  subst eo e4
  have I5 : Inv X pins σ H4 { s4 with heap := s4.heap.push { cls := .type "slice", data := .fields #[vl, vu, vs] } } := I4.kept (t' := s4.toks) fun b ob q => Heap.get?_push_of_some _ q
  obtain ⟨its, r, ht, hz⟩ := I5.list hx
  have hlen := r.length
  refine tail_any (ops := [.ref a, .ref s4.heap.objs.size]) ht.isList.typeIs (PySem.slot_list_getitem.lookup) ?_ (by with_unfolding_all rfl)
  refine wpAny_getItem_list_slice ht.isList (Heap.IsSliceOf.new _ vl vu vs) pl pu ps (by intro z; cases z; omega) ?_ (by rw [List.size_toArray]; omega)
  have ep : slicePick its.toArray none none (some k) = ((sliceRange 0 (xs.length : Int) k).filterMap (its[·]?)).toArray := by
    unfold slicePick
    rw [step_bounds k hk, List.size_toArray, ← hlen]
    simp
  rw [ep]
  refine ⟨.ref _, _, I5.laid (t' := s4.toks) (o := .lst (stepV xs k)) (fun b ob q => Heap.get?_push_of_some _ q) (Nat.le_refl _) ?_, rfl, q _ (I5.hok.fresh (Nat.le_refl _))⟩
  exact ⟨Nat.le_trans (stepV_len hk) hz, _, 0, vals_pick r _, Heap.get?_push_size _ rfl⟩
theorem kLS {X : Cx} {e : Expr} {ta : TE} (K : PySem.W.Frag) (hK : X.K = K) (h : PE X e (RZ.tLenSetI X.K ta)) : PE X e (RZ.tLenSetI K ta) := hK ▸ h
section
variable {K : PySem.W.Frag} {σ : L2.St} {H : Hp} {Q : VK} {te : TE} {k : Int}
theorem k_step (h : te σ H fun x H1 => ∃ a xs, x = .ref a ∧ SqL K H1 a xs ∧ ∀ p, H1 p = none → Q (.ref p) (upd H1 p (.lst (stepV xs k)))) : tStepL K te k σ H Q := h
theorem k_lenset (h : te σ H fun x H1 => ∃ (l : Addr) (ns : List Int), x = V.ref l ∧ SqL K H1 l (ns.map V.int) ∧ ns.Nodup ∧ ns.length ≤ 4000 ∧ Q (.int ns.length) H1) : RZ.tLenSetI K te σ H Q := h
end
/-! ### the ways of an expression joined -/
def tJ (te : TE) : TE := fun σ H Q => ∃ M : VK, te σ H M ∧ ∀ v H', M v H' → Q v H'
theorem pe_join {X : Cx} {e : Expr} {te : TE} (h : PE X e te) : PE X e (tJ te) := by
  refine ⟨fun pins s σ H Q I ⟨M, hm, k⟩ => ?_⟩
  exact thn (h.run pins s σ H M I hm) fun v s1 ⟨x, H1, I1, r1, q1⟩ => ⟨x, H1, I1, r1, k _ _ q1⟩
theorem k_join {te : TE} {σ : L2.St} {H : Hp} {Q : VK} (M : VK) (h : te σ H M) (k : ∀ v H', M v H' → Q v H') : tJ te σ H Q := ⟨M, h, k⟩
theorem k_nojoin {te : TE} {σ : L2.St} {H : Hp} {Q : VK} (h : te σ H Q) : tJ te σ H Q := ⟨Q, h, fun _ _ h => h⟩
/-! ### comprehensions that just make a value of each item -/
theorem lc_mapL {K : PySem.W.Frag} {a : Addr} {xs : List V} {g : TG} {te : TE} {vs : List Nat} {σ : L2.St} {H : Hp} {D : Addr} {Qd : Hp → Prop} (vf : Nat → V) (hx : SqL K H a xs) (hl : xs.length ≤ 1000000) (hD : H D = none)
    (hs : ∀ i x H' (N : VK), xs[i]? = some x → Same H H' → (∀ H'', Same H' H'' → N (vf i) H'') → g x (wipe σ vs) H' fun σ2 H2 => wipe σ2 vs = wipe σ vs ∧ te σ2 H2 N) (hd : ∀ H', Same H H' → H' D = some (.lst ((List.range xs.length).map vf)) → Qd H') :
    ∃ W : Nat → Nat → Hp → Prop, (∃ m, W 0 m (upd H D (.lst []))) ∧ ∀ i m H, W i m H →
      ((Itl K a).stop i H ∧ Qd H) ∨ ((Itl K a).go i H ∧ ∃ Nx : Hp → Prop, (∀ H', Nx H' → ∃ m', m' < m ∧ W (i + 1) m' H') ∧ ∀ x H', (Itl K a).yld i H x H' → g x (wipe σ vs) H' fun σ2 H2 => wipe σ2 vs = wipe σ vs ∧ tYes σ2 H2 fun b H3 =>
        if b = true then te σ2 H3 fun y H4 => ∃ acc, H4 D = some (.lst acc) ∧ acc.length < sizeLine ∧ Nx (upd H4 D (.lst (acc ++ [y]))) else Nx H3) := by
  refine lc_list (xs := xs) (fun i H' => Same H H' ∧ H' D = some (.lst ((List.range i).map vf))) ⟨same_new hD, upd_same⟩ (fun i H' _ hP => hP.1.seq hx) (fun i x H' hi hP => ?_) (fun H' hP => hd H' hP.1 hP.2)
  have hlt : i < xs.length := (List.getElem?_eq_some_iff.mp hi).1
  refine hs i x H' _ hi hP.1 fun H'' s => ?_
  refine ⟨_, s _ _ hP.2, ?_, Same.wr (hP.1.trans s) hD, ?_⟩
  · rw [List.length_map, List.length_range, sizeLine_eq]
    omega
  · rw [upd_same, List.range_succ, List.map_append]
    rfl
theorem lc_mapR {lo : Int} {n : Nat} {g : TG} {te : TE} {vs : List Nat} {σ : L2.St} {H : Hp} {D : Addr} {Qd : Hp → Prop} (vf : Nat → V) (hl : n ≤ 1000000) (hD : H D = none)
    (hs : ∀ i H' (N : VK), i < n → Same H H' → (∀ H'', Same H' H'' → N (vf i) H'') → g (.int (lo + i)) (wipe σ vs) H' fun σ2 H2 => wipe σ2 vs = wipe σ vs ∧ te σ2 H2 N) (hd : ∀ H', Same H H' → H' D = some (.lst ((List.range n).map vf)) → Qd H') :
    ∃ W : Nat → Nat → Hp → Prop, (∃ m, W 0 m (upd H D (.lst []))) ∧ ∀ i m H, W i m H →
      ((Itr lo n).stop i H ∧ Qd H) ∨ ((Itr lo n).go i H ∧ ∃ Nx : Hp → Prop, (∀ H', Nx H' → ∃ m', m' < m ∧ W (i + 1) m' H') ∧ ∀ x H', (Itr lo n).yld i H x H' → g x (wipe σ vs) H' fun σ2 H2 => wipe σ2 vs = wipe σ vs ∧ tYes σ2 H2 fun b H3 =>
        if b = true then te σ2 H3 fun y H4 => ∃ acc, H4 D = some (.lst acc) ∧ acc.length < sizeLine ∧ Nx (upd H4 D (.lst (acc ++ [y]))) else Nx H3) := by
  refine lc_range (fun i H' => Same H H' ∧ H' D = some (.lst ((List.range i).map vf))) ⟨same_new hD, upd_same⟩ (fun i H' hi hP => ?_) (fun H' hP => hd H' hP.1 hP.2)
  refine hs i H' _ hi hP.1 fun H'' s => ?_
  refine ⟨_, s _ _ hP.2, ?_, Same.wr (hP.1.trans s) hD, ?_⟩
  · rw [List.length_map, List.length_range, sizeLine_eq]
    omega
  · rw [upd_same, List.range_succ, List.map_append]
    rfl
theorem range_map_get {α β : Type} (xs : List α) (f : α → β) (d : β) : (List.range xs.length).map (fun i => (xs[i]?.map f).getD d) = xs.map f := by
  apply List.ext_getElem
  · rw [List.length_map, List.length_range, List.length_map]
  · intro i h1 h2
    rw [List.length_map] at h2
    rw [List.getElem_map, List.getElem_range, List.getElem_map, List.getElem?_eq_getElem h2]
    rfl
end Ls
-- own part: U7
namespace Ls
open PySem PySem.Spec PyProof.Rows L2
/-! ### C.m(e, ..), m a def of the own class C, called by the class -/
def tCFn (C : Addr) (sp : Sp) (E : XK) (ta : TE) (t : TA) : TE := fun σ H Q => ta σ H fun x H1 => x = .ref C ∧ t σ H1 fun vs H2 => sp (vs ++ []) H2 Q E
theorem pe_cfn {X : Cx} {CX : CXT} {k : Nat} {C f : Addr} {mc : Value} {fd : FuncData} {ps : List Str} {sp : Sp} {E : XK} {o e : Expr} {es : List Expr} {m : Str} {pos apos : Pos} {ta : TE} {t : TA} {pl : Sem Bool}
    (he : PE X o ta) (r : ClX.CRead X.K C mc) (c : ClX.CVal X.K C mc m (.ref f) (.ref f)) (kp : PySem.W.keepIn X.K (.ref f) = true) (F : FnOk X.prog X.w X.K X.mg X.base CX k f fd ps sp) (hr : Room k X.A) (hb : Binds X.K fd ps []) (hx : Passes CX X E) (ha : PA X (e :: es) t)
    (hst : starEach (e :: es) X.env = (false, eval e X.env) :: starEach es X.env := by rfl) (hpl : (backTo pos (starEach es X.env)).any (·.1) = false := by rfl)
    (ht : eval (.Call (.Attribute o m apos) (e :: es) [] pos) X.env = (do
      let ov ← eval o X.env
      standAt apos.atName
      let (f, first) ← holding [ov] (getMethod ov m pl)
      callWith pos f first (backTo pos (starEach (e :: es) X.env)) (backToKw pos (keywordEach [] X.env))) := by rfl) :
    PE X (.Call (.Attribute o m apos) (e :: es) [] pos) (tCFn C sp E ta t) := by
  refine ⟨fun pins s σ H Q I h => PySem.W.methodCall_KW (pl := pl) (thn (he.run pins s σ H _ I h) fun u s1 ⟨x, H1, I1, rx, ex, q⟩ => ?_) ht⟩
  subst ex
  obtain rfl : u = Value.ref C := rx
  refine PySem.W.method_cls I1.kIn r.ga (ClX.getcval_ok I1 r c fun s2 I2 => ?_)
  exact PySem.W.callWith_K (h₀ := X.base) I2.ok.mod.kin kp (thn (ha.run pos pins s2 σ H1 _ I2 q) fun us s3 ⟨vs, H2, I3, rv, q2⟩ => ⟨I3.kIn, run_fn F hr hb .nil hx I3 rv q2⟩) hst hpl
/-! ### e.f of a caught exception, of whatever own class -/
def tXfA (K : PySem.W.Frag) (a : Addr) (cls : Value) (d : Option Addr) (f : Str) (te : TE) : TE := fun σ H Q => ∃ C : Addr, XfC K C ∧ PySem.W.findIn K (.ref C) f = some none ∧ tXf a cls d C f te σ H Q
theorem pe_xfA {X : Cx} {a : Addr} {oe : Obj} {cls : Value} {d : Option Addr} {pn : List (Addr × Obj)} {e : Expr} {te : TE} {pos : Pos} {n : Str} (K : PySem.W.Frag) (hK : X.K = K) (hz : Zc cls d oe) (hf : ∃ vs, oe.data = .fields vs) (he : PE (X.suite a ((a, oe) :: pn)) e te)
    (hb : attributeBase e n X.env (eval e X.env) = eval e X.env := by rfl) : PE (X.suite a ((a, oe) :: pn)) (.Attribute e n pos) (tXfA K a cls d n te) := by
  subst hK
  exact ⟨fun pins s σ H Q I ⟨C, T, no, h⟩ => (pe_xf (C := C) T no hz hf he hb).run pins s σ H Q I h⟩
/-! ### try: .. except A as n: .. except B as n: .. -/
def gone (D : Ends) (i : Nat) : Ends := { nx := fun σ' H' => D.nx (σ'.set i none) H', rt := D.rt, bk := fun σ' H' => D.bk (σ'.set i none) H', ct := fun σ' H' => D.ct (σ'.set i none) H' }
abbrev Cla := Value × Nat × (Addr → Value → Option Addr → TS)
/-- what the clauses wish of an exception of the body -/
def wCl (K : PySem.W.Frag) (Wout : WX) (D : Ends) : List Cla → WX
  | [] => Wout
  | k :: r => fun cls d σ H => ∃ b, PySem.W.exmOne K cls k.1 = some b ∧ (b = true → ∀ a, H a = none → k.2.2 a cls d (gone D k.2.1) (σ.set k.2.1 (some (.ref a))) H) ∧ (b = false → wCl K Wout D r cls d σ H)
inductive ClOk (X : Cx) : List ExceptHandler → List Cla → Prop
  | nil : ClOk X [] []
  | cons {x n : Str} {c : Value} {i : Nat} {ts : Addr → Value → Option Addr → TS} {b0 : Stmt} {su : List Stmt} {np po : Pos} {hds : List ExceptHandler} {l : List Cla} (hc : Names X x c) (hi : X.N[i]? = some n) (hln : X.env.kindOf n = some .local)
      (hsu : ∀ (a : Addr) (oe : Obj) (cls : Value) (d : Option Addr) (pn : List (Addr × Obj)), Zc cls d oe → (∃ vs, oe.data = .fields vs) → PSs (X.suite a ((a, oe) :: pn)) (b0 :: su) (ts a cls d)) (r : ClOk X hds l) :
      ClOk X (.ExceptHandler (some (.Name x np)) (some n) (b0 :: su) po :: hds) ((c, i, ts) :: l)
theorem ps_try_cl {X : Cx} {body : List Stmt} {h0 : ExceptHandler} {hds : List ExceptHandler} {l : List Cla} {pos : Pos} {tb : WX → TS} {Wout : WX} (hst : X.stack = X.env :: X.outer) (hfl : X.env.frame = some X.env.locals) (hN : X.N.Nodup) (tk : Takes X Wout)
    (hb : ∀ (W : WX) (pn : List (Addr × Obj)) (xe : Value → Shared → Prop), Takes (X.tr pn xe) W → PassesOwn (model X.prog X.w) X.A X.env xe → PSs (X.tr pn xe) body (tb W)) (hh : ClOk X (h0 :: hds) l) :
    PS X (.Try body (h0 :: hds) [] [] pos) (fun D σ H => tb (wCl X.K Wout D l) D σ H) := by
  refine ⟨fun pins s σ H D I h => ?_⟩
  have OK := I.ok
  have FR : X.A.frames = some (X.env :: X.outer) := OK.frames.trans (congrArg some hst)
  let caught : Value → Shared → Prop := fun e u => wpAny (model X.prog X.w) X.A (noteFrame e X.env) (fun _ u2 => wpAny (model X.prog X.w) X.A (setFlight e none) (fun _ u3 => wpAny (model X.prog X.w) X.A (handleBy e X.env (h0 :: hds)) (SP X pins D) X.xe u3) X.xe u2) X.xe u
  refine wpAny_Try_except (wpAny_mono ((hb (wCl X.K Wout D l) (X.pn ++ pins) caught (fun u t y => ?_) PassesOwn.looking).run [] s σ H D (I.toTry _) h) (fun fl t y => ?_) fun e t z => z)
  · obtain ⟨a, B, t0, pins2, σ2, H2, cls, d, rfl, J2, nb, up, sk, na, os, ag, wish⟩ := y
    have J : Inv X pins σ2 H2 t0 := J2.ofTry OK
    have SK : Sky B (X.env :: X.outer) a (Zc cls d) X.env.locals t.heap := hst ▸ sk
    show wpAny (model X.prog X.w) X.A (noteFrame (.ref a) X.env) _ _ _
    refine Sky.land Zc.steady FR hfl SK fun g la ug => ?_
    have Jg : Inv X pins σ2 H2 { t with heap := g } := J.landed nb la.1 (up.trans ug) os ag
    obtain ⟨og, vg, eg, zg, dg⟩ := la.there
    have out : a ∉ frs (X.env :: X.outer) := fun m => by
      obtain ⟨_, o2, e2, n2⟩ := la.2.2.1.mem m
      rw [eg] at e2
      cases e2
      exact n2 _ dg
    have nLoc : a ≠ X.env.locals := fun z => out (List.mem_filterMap.mpr ⟨X.env, List.mem_cons_self, by rw [hfl, z]⟩)
    have nFs : a ∉ X.fs := fun m => by
      obtain ⟨e2, m2, q2⟩ := List.mem_filterMap.mp m
      exact out (List.mem_filterMap.mpr ⟨e2, List.mem_cons_of_mem _ m2, q2⟩)
    have Sg := Jg.suite eg dg na nLoc nFs
    have all : ∀ {hs2 : List ExceptHandler} {l2 : List Cla}, ClOk X hs2 l2 → wCl X.K Wout D l2 cls d σ2 H2 → wpAny (model X.prog X.w) X.A (handleBy (.ref a) X.env hs2) (SP X pins D) X.xe { t with heap := g } := by
      intro hs2 l2 ok2
      induction ok2 with
      | nil =>
        intro wish2
        obtain ⟨k1, k2, k3, o3, v3, T, oT, t3, e3, z3, d3, i3, r3⟩ := id la
        refine wpAny_handleBy_nil ?_
        unfold PySem.passOn
        refine wpAny_bind (wpAny_field e3 d3 i3 ?_)
        rw [if_neg (by simp : ¬ ((Value.ref T == Value.none) = true))]
        have last : wpAny (model X.prog X.w) X.A (setFlight (.ref a) X.env.frame) (fun _ u => wpAny (model X.prog X.w) X.A (throw (.ref a) : Sem Flow) (SP X pins D) X.xe u) X.xe { t with heap := g } := by
          rw [hfl]
          exact HandSPX.setFlight_upZ la fun g2 hg2 ug2 => wpAny_throw (tk _ _ ⟨a, B, t0, pins, σ2, H2, cls, d, rfl, J, nb, (up.trans ug).trans ug2, .inr (.inr (by rw [hst]; exact hg2)), na, os, ag, wish2⟩)
        first | exact wpAny_bind (wpAny_pure (wpAny_bind last)) | exact wpAny_bind last
      | @cons x n c i ts b0 su np po hds2 l3 hc hi hln hsu r ih =>
        rintro ⟨b, eb, yes, no⟩
        have lt : PySem.W.Looks (model X.prog X.w) g (typeOf (.ref a)) cls := fun A Q E u k q => wpAny_typeOf_ref (k _ _ eg) (zg.1.symm ▸ q)
        have lm := PySem.W.exm_one (M := model X.prog X.w) Jg.kIn lt eb
        have named : ∀ {Q : Value → Shared → Prop} {E : Value → Shared → Prop}, Q c { t with heap := g } → wpAny (model X.prog X.w) (X.A.mark (some (.ref a))) (eval (.Name x np) X.env) Q E { t with heap := g } := by
          intro Q E q
          obtain ⟨hg, hd, hm | ⟨hm, hv, hnn⟩⟩ := hc
          · exact ld_glob (X := X.suite a ((a, og) :: (X.pn ++ pins))) Sg hg hm q hd
          · exact ld_blt (X := X.suite a ((a, og) :: (X.pn ++ pins))) Sg hg hm hv q hnn hd
        refine wpAny_handleBy_cons (codeAny_handlers_test (named (lm.here ?_))) (by intro q; cases q)
        cases b with
        | false => exact ih (no rfl)
        | true =>
          refine codeAny_handlers_suite_as (HandSPX.lands_againZ la fun g2 la2 ug2 => ?_)
          have Jh : Inv X pins σ2 H2 { t with heap := g2 } := J.landed nb la2.1 ((up.trans ug).trans ug2) os ag
          obtain ⟨o4, v4, e4, z4, d4⟩ := la2.there
          have Sh := Jh.suite e4 d4 na nLoc nFs
          refine store_ok (X := X.suite a ((a, o4) :: (X.pn ++ pins))) (v := .ref a) Sh hN hi (.inl hln) rfl (fun u5 S5 => ?_) (.inr hln)
          refine wpAny_mono ((hsu a o4 cls d (X.pn ++ pins) z4 ⟨_, d4⟩).run [] u5 _ H2 _ S5 (yes rfl a na)) (fun fl6 u6 y6 => ?_) fun _ _ z => False.elim z
          have off : ∀ {σ6 : L2.St} {H6 : Hp} {R : Shared → Prop}, Inv (X.suite a ((a, o4) :: (X.pn ++ pins))) [] σ6 H6 u6 → (∀ u7, Inv X pins (σ6.set i none) H6 u7 → R u7) → wpAny (model X.prog X.w) X.A (do bindName X.env n .none; unbindBehindTheSuite X.env n po) (fun _ u7 => R u7) X.xe u6 :=
            fun S6 hq => gone_ok (S6.unsuite OK) hN hi hln hq
          cases fl6 with
          | ret u8 =>
            obtain ⟨v8, σ8, H8, S8, r8, q8⟩ := y6
            exact off S8 fun u7 J7 => ⟨_, _, _, J7, r8, q8⟩
          | next =>
            obtain ⟨σ8, H8, S8, q8⟩ := y6
            exact off S8 fun u7 J7 => ⟨_, _, J7, q8⟩
          | brk =>
            obtain ⟨σ8, H8, S8, q8⟩ := y6
            exact off S8 fun u7 J7 => ⟨_, _, J7, q8⟩
          | cont =>
            obtain ⟨σ8, H8, S8, q8⟩ := y6
            exact off S8 fun u7 J7 => ⟨_, _, J7, q8⟩
    exact all hh wish
  · cases fl with
    | ret u8 =>
      obtain ⟨v8, σ8, H8, J8, r8, q8⟩ := y
      exact ⟨v8, σ8, H8, J8.ofTry OK, r8, q8⟩
    | next =>
      obtain ⟨σ8, H8, J8, q8⟩ := y
      exact wpAny_execs_nil ⟨σ8, H8, J8.ofTry OK, q8⟩
    | brk =>
      obtain ⟨σ8, H8, J8, q8⟩ := y
      exact ⟨σ8, H8, J8.ofTry OK, q8⟩
    | cont =>
      obtain ⟨σ8, H8, J8, q8⟩ := y
      exact ⟨σ8, H8, J8.ofTry OK, q8⟩
end Ls
-- own part: U8
namespace Ls
open PySem PySem.Spec PyProof.Rows L2
/-! ### C(), C an own exception class with its own __init__ -/
theorem pmk_oex0 {X : Cx} {CX : CXT} {x : Str} {C fI : Addr} {k : Nat} {fd : FuncData} {ps : List Str} {sp : Sp} {ds : List Value} {dvs : List V} {p pos : Pos} (T : OexC X.K C) (iC : PySem.W.findIn X.K (.ref C) "__init__" = some (some (.ref fI))) (tI : PySem.W.typeIn X.K (.ref fI) = some (.type "function"))
    (Fi : FnOk X.prog X.w X.K X.mg X.base CX k fI fd ps sp) (hr : Room (k + 1) X.A) (hb : Binds X.K fd ps ds) (hd : Vals dvs ds) (hx : Passes CX X (fun _ _ _ => False)) (hg : Gl X x) (hm : X.mg x = some (.ref C)) (hdb : (x == ("__debug__" : Str)) = false := by decide) :
    PMk X (.Call (.Name x p) [] [] pos) (tMkO C sp dvs tNil) := by
  intro pins s σ H Q I h
  obtain ⟨_, _, _, _, bm, _, _, _, _, _, _, _, _, _, _, cl, rb⟩ := T.cls
  refine wpAny_Call_Name_kw (ld_glob I hg hm (PySem.W.callWith_K0 I.kIn T.kC ?_) hdb)
  show wpAny _ _ (call (.ref C) []) _ _ _
  obtain ⟨h0, g0, d0, k0, o0⟩ := s
  obtain ⟨_, made⟩ := h
  have up : h0.objs.size ≤ h0.objs.size + 1 := Nat.le_succ _
  have free : H (h0.objs.size + 1) = none := I.hok.fresh up
  have it := made (h0.objs.size + 1) free
  have keep : ∀ b o, h0.get? b = some o → ((h0.push (PySem.W.kdv_tup [])).push (PySem.HandSPX.excO C h0.objs.size)).get? b = some o := fun b o e => Heap.get?_push_of_some _ (Heap.get?_push_of_some _ e)
  have at1 : ((h0.push (PySem.W.kdv_tup [])).push (PySem.HandSPX.excO C h0.objs.size)).get? (h0.objs.size + 1) = some (PySem.HandSPX.excO C h0.objs.size) := by heap_get
  have J : Inv X pins σ (upd H (h0.objs.size + 1) (exo (h0.objs.size + 1) C none)) ⟨((h0.push (PySem.W.kdv_tup [])).push (PySem.HandSPX.excO C h0.objs.size)), g0, d0, k0, o0⟩ :=
    I.laid (a := h0.objs.size + 1) (o := exo (h0.objs.size + 1) C none) (h' := ((h0.push (PySem.W.kdv_tup [])).push (PySem.HandSPX.excO C h0.objs.size))) (t' := k0) keep up (exo_ok at1)
  have vals : Vals (V.ref (h0.objs.size + 1) :: ([] ++ dvs)) (Value.ref (h0.objs.size + 1) :: ds) := .cons rfl hd
  have len : ([Value.ref (h0.objs.size + 1)] ++ ds).length = ps.length := vals.length.symm.trans (Fi.len _ _ _ _ it)
  refine wpAny_call (PySem.HandSPX.call_own F.excBase_ValueError (fun Y => PySem.HandSPX.refsVE_contains Y bm rb) (I.kIn _ _ cl) (PySem.W.looks_findIn I.kIn iC) (fun self => PySem.W.bind_fn I.kIn self tI) (Nat.zero_le _)
    (codeAny_mono (Fi.run _ X.stack _ _ ⟨[Value.ref (h0.objs.size + 1)], []⟩ (Value.ref (h0.objs.size + 1) :: ds) _ _ (fun _ _ _ => False) (hr.make C [] []) (J.env0.make C [] []) (hb _ [Value.ref (h0.objs.size + 1)] J.kIn len) vals it) fun r s' z => ?_))
  cases r with
  | error e => exact hx pins σ _ _ e s' J z
  | ok fl =>
    cases fl with
    | next => exact z.elim
    | brk => exact z.elim
    | cont => exact z.elim
    | ret u =>
      obtain ⟨v, H2, os2, bare2, un2, ok2, rv, ev, d, fs, ea, ed, fr, q⟩ := z
      subst ev
      obtain ⟨h2, g2, d2, k2, o2⟩ := s'
      exact ⟨rv, mk_end (raises_own T.exC T.tyC) I up keep un2 ok2 os2 bare2 ea ed fr q⟩
end Ls
-- own part: U9
namespace Ls
open PySem PySem.Spec PyProof.Rows L2
/-! ### what the written part says of exception classes, by looking -/
def eqO (a b : Option (Option Value)) : Bool := decide (a = b)
def oexC (K : PySem.W.Frag) (C : Addr) : Bool := match K.lookup C with
  | some ⟨.type "type", _, .cls cd, sl⟩ => (match cd.mro, sl.toList with
    | .ref D :: bm, [_, _, _, _, some (.builtin n), _] => decide (D = C) && (decide (n = "ValueError.__new__") && (cd.hasDict && (!cd.hasDel && PySem.HandSPX.refsVE bm)))
    | _, _ => false)
  | _ => false
def oexB (K : PySem.W.Frag) (C : Addr) : Bool := oexC K C && (eqO (PySem.W.findIn K (.ref C) "__setattr__") (some (some (.builtin "object.__setattr__"))) && (decide (PySem.W.subIn K (.ref C) (.type "BaseException") = some true) && (decide (PySem.W.typeIn K (.ref C) = some (.type "type")) && PySem.W.keepIn K (.ref C))))
theorem ba2 {a b : Bool} (h : (a && b) = true) : a = true ∧ b = true := Bool.and_eq_true_iff.mp h
theorem oexB_ok {K : PySem.W.Frag} {C : Addr} (h : oexB K C = true) : OexC K C := by
  obtain ⟨h1, h⟩ := ba2 h
  obtain ⟨h2, h⟩ := ba2 h
  obtain ⟨h3, h⟩ := ba2 h
  obtain ⟨h4, h5⟩ := ba2 h
  refine ⟨?_, of_decide_eq_true h2, of_decide_eq_true h3, of_decide_eq_true h4, h5⟩
  unfold oexC at h1
  split at h1
  · rename_i dd cd sl ho
    split at h1
    · rename_i D bm k0 k1 k2 k3 n k5 hm hs
      obtain ⟨a1, h1⟩ := ba2 h1
      obtain ⟨a2, h1⟩ := ba2 h1
      obtain ⟨a3, h1⟩ := ba2 h1
      obtain ⟨a4, a5⟩ := ba2 h1
      obtain rfl := of_decide_eq_true a1
      obtain rfl := of_decide_eq_true a2
      obtain ⟨nm, bs, mro, ns, qn, hd, sn, sub, ab, col, del⟩ := cd
      dsimp only at hm a3 a4
      subst hm a3
      have a4 : del = false := by simpa using a4
      subst a4
      obtain ⟨sl⟩ := sl
      dsimp only at hs
      subst hs
      exact ⟨nm, qn, ns, bs, bm, sn, sub, ab, col, dd, k0, k1, k2, k3, k5, ho, a5⟩
    · cases h1
  · cases h1
/-- C.__init__ is the def at ma K C "__init__" -/
def iniB (K : PySem.W.Frag) (C : Addr) : Bool := eqO (PySem.W.findIn K (.ref C) "__init__") (some (some (.ref (He.ma K C "__init__")))) && decide (PySem.W.typeIn K (.ref (He.ma K C "__init__")) = some (.type "function"))
theorem iniB_ok {K : PySem.W.Frag} {C : Addr} (h : iniB K C = true) : PySem.W.findIn K (.ref C) "__init__" = some (some (.ref (He.ma K C "__init__"))) ∧ PySem.W.typeIn K (.ref (He.ma K C "__init__")) = some (.type "function") := by
  obtain ⟨h1, h2⟩ := ba2 h
  exact ⟨of_decide_eq_true h1, of_decide_eq_true h2⟩
/-- C.__init__ read by the class -/
def crdB (K : PySem.W.Frag) (C : Addr) : Bool := PySem.W.readsIn K C (.type "type") && eqO (PySem.W.specialIn K (.ref C) "__getattribute__") (some (some (.builtin "type.__getattribute__")))
theorem crdB_ok {K : PySem.W.Frag} {C : Addr} (h : crdB K C = true) : ClX.CRead K C (.type "type") := by
  obtain ⟨h1, h2⟩ := ba2 h
  exact ⟨h1, of_decide_eq_true h2⟩
def cviB (K : PySem.W.Frag) (C : Addr) : Bool := (match PySem.W.findCls K (.ref C) (.type "type") "__init__" with
  | some (.val (.ref f)) => decide (f = He.ma K C "__init__")
  | _ => false)
theorem cviB_ok {K : PySem.W.Frag} {C : Addr} (h : cviB K C = true) : ClX.CVal K C (.type "type") "__init__" (.ref (He.ma K C "__init__")) (.ref (He.ma K C "__init__")) := by
  refine ⟨?_, rfl⟩
  unfold cviB at h
  split at h
  · rename_i f hf
    rw [of_decide_eq_true h] at hf
    exact hf
  · cases h
def veiB (K : PySem.W.Frag) : Bool := (match PySem.W.findCls K (.type "ValueError") (.type "type") "__init__" with
  | some (.val (.builtin n)) => decide (n = "ValueError.__init__")
  | _ => false)
theorem veiB_ok {K : PySem.W.Frag} (h : veiB K = true) : PySem.W.findCls K (.type "ValueError") (.type "type") "__init__" = some (.val (.builtin "ValueError.__init__")) := by
  unfold veiB at h
  split at h
  · rename_i n hn
    rw [of_decide_eq_true h] at hn
    exact hn
  · cases h
def noFB (K : PySem.W.Frag) (C : Addr) (f : Str) : Bool := eqO (PySem.W.findIn K (.ref C) f) (some none)
theorem noFB_ok {K : PySem.W.Frag} {C : Addr} {f : Str} (h : noFB K C f = true) : PySem.W.findIn K (.ref C) f = some none := of_decide_eq_true h
def exmB (K : PySem.W.Frag) (C D : Addr) (b : Bool) : Bool := decide (PySem.W.exmOne K (.ref C) (.ref D) = some b)
theorem exmB_ok {K : PySem.W.Frag} {C D : Addr} {b : Bool} (h : exmB K C D b = true) : PySem.W.exmOne K (.ref C) (.ref D) = some b := of_decide_eq_true h
end Ls
-- own part: U10
namespace Ls
open PySem PySem.Spec PyProof.Rows L2
/-! ### exceptions that are made and raised -/
/-- C.__init__(self): the word w -/
def spInit0 (K : PySem.W.Frag) (w : Str) : Sp := fun vs H Q _ => ∃ (a C : Addr), vs = [.ref a] ∧ OexC K C ∧ PySem.W.findIn K (.ref C) "word" = some none ∧ H a = some (exo a C none) ∧ ∀ dx, H dx = none → dx ≠ a → Q .non (upd (upd H dx (exd dx [("word", .str w)])) a (exo a C (some dx)))
/-- the base's __init__(self, word) -/
def spInit1 (K : PySem.W.Frag) : Sp := fun vs H Q _ => ∃ (a C : Addr) (w : Str), vs = [.ref a, .str w] ∧ OexC K C ∧ PySem.W.findIn K (.ref C) "word" = some none ∧ H a = some (exo a C none) ∧ ∀ dx, H dx = none → dx ≠ a → Q .non (upd (upd H dx (exd dx [("word", .str w)])) a (exo a C (some dx)))
section
variable {K : PySem.W.Frag} {σ : L2.St} {H : Hp} {D : Ends} {C : Addr} {w : Str}
theorem k_vei {Q : VK} {ta : TA} (h : ta σ H fun vs H1 => ∃ (a C : Addr) (ws : List V), vs = .ref a :: ws ∧ ws.length ≤ 1000 ∧ OexC K C ∧ H1 a = some (exo a C none) ∧ Q .non H1) : tVeI K ta σ H Q := h
theorem k_ost {f : Str} {to te : TE} (h : te σ H fun y H1 => to σ H1 fun x H2 => ∃ a C : Addr, x = .ref a ∧ OexC K C ∧ PySem.W.findIn K (.ref C) f = some none ∧
  ((H2 a = some (exo a C none) ∧ ∀ dx, H2 dx = none → dx ≠ a → D.nx σ (upd (upd H2 dx (exd dx [(f, y)])) a (exo a C (some dx)))) ∨
    ∃ (dx : Addr) (fs : List (Str × V)), H2 a = some (exo a C (some dx)) ∧ H2 dx = some (exd dx fs) ∧ fs.length ≤ 900 ∧ D.nx σ (upd H2 dx (exd dx ((f, y) :: fs))))) : tOst K f to te D σ H := h
theorem k_cfn {Q : VK} {sp : Sp} {E : XK} {ta : TE} {t : TA} (h : ta σ H fun x H1 => x = .ref C ∧ t σ H1 fun vs H2 => sp (vs ++ []) H2 Q E) : tCFn C sp E ta t σ H Q := h
/-- raise C() -/
theorem k_raise {Q : XK} (T : OexC K C) (no : PySem.W.findIn K (.ref C) "word" = some none) (q : ∀ d H', H d = none → Same H H' → H' d = some (.xd [("word", .str w)]) → Q (.ref C) (some d) H') : tMkO C (spInit0 K w) [] tNil σ H Q := by
  refine ⟨Nat.zero_le _, fun a ha => ⟨a, C, rfl, T, no, upd_same, fun dx hdx na => ⟨rfl, dx, [("word", .str w)], upd_same, ?_, ?_, ?_⟩⟩⟩
  · rw [upd_ne na]
    exact upd_same
  · rw [upd_ne na] at hdx
    exact hdx
  · have hd : H dx = none := by
      rw [upd_ne na] at hdx
      exact hdx
    refine q dx _ hd (fun b o hb => ?_) upd_same
    have b1 : b ≠ dx := ne_of_none hb hd
    have b2 : b ≠ a := ne_of_none hb ha
    rw [upd_ne b1, del_ne b2, upd_ne b2, upd_ne b1, upd_ne b2]
    exact hb
end
end Ls
-- own part: U11
namespace Ls
open PySem PySem.Spec PyProof.Rows L2 LamX
/-! ### a lambda handed to a def that calls it in a try: what is let out is told of the slots there -/
section
variable {X : Cx} {pins : List (Addr × Obj)} {σ : L2.St} {H : Hp} {s : Shared}
theorem pe_actZ {CXg : CXT} {Eg : XK} {Ng : List Str} {qg : Str} {sg : Scope} {g f c' : Addr} {cdg pm ctv : Value} {params : Arguments} {body : Expr} {scope : Scope} {k i : Nat} {a : Str} {pn : List (Addr × Obj)} {xe : Value → Shared → Prop} {W : WX} {tb : XK → TE} {p1 p2 : Pos}
    (I : Inv X pins σ H s) (L : LamS X.env.scope scope) (of : s.heap.get? f = some (PySem.W.kla_obj "<lambda>" (X.env.qual ++ "<lambda>") params body scope (cloFrom X.env.cells scope.names []) pm c' ctv)) (hfn : H f = none) (hfr : f ∉ frs X.stack)
    (bind0 : bindArgs (PySem.W.kla_fn "<lambda>" (X.env.qual ++ "<lambda>") params body scope (cloFrom X.env.cells scope.names []) pm (.ref c') ctv) ⟨[], []⟩ = pure [])
    (tk : Takes ((cxOf CXg X.prog X.w X.K X.mg X.base Ng qg sg g cdg X.A X.stack s H Eg).tr pn xe) W) (hr : Room (k + 1) (X.A.deeper (envOfC qg sg s.heap.objs.size g cdg)))
    (bodyP : ∀ (E : XK) (A : Around) (outer : List Env) (s : Shared) (H : Hp), Room k (A.deeper (lamEnv X scope s.heap.objs.size f c')) → PE (lamCx X A outer s H E scope f c') body (tb E))
    (hN : Ng[i]? = some a) (hv : Vis sg a) (hd : (a == ("__debug__" : Str)) = false := by decide) (hcd : (a == ("__classdict__" : Str)) = false := by decide) :
    PE ((cxOf CXg X.prog X.w X.K X.mg X.base Ng qg sg g cdg X.A X.stack s H Eg).tr pn xe) (.Call (.Name a p1) [] [] p2)
      (fun σZ HZ Q => σZ[i]? = some (some (.ref f)) ∧ HZ c' = some (CodeO c' (X.env.qual ++ "<lambda>")) ∧ tb (fun cls d H' => W cls d σZ H') σ HZ Q) := by
  refine ⟨fun pZ sZ σZ HZ Q IZ ⟨z1, z2, z3⟩ => ?_⟩
  refine wpAny_Call_Name_kw (thn ((pe_var (pos := p1) (i := i) hN hv hd hcd).run pZ sZ σZ HZ (fun v H1 => v = .ref f ∧ H1 = HZ) IZ ⟨.ref f, z1, rfl, rfl⟩) fun u s1 ⟨v, H1, I1, r1, e1, e2⟩ => ?_)
  subst e1
  rw [e2] at I1
  obtain rfl : u = Value.ref f := r1
  have of1 : s1.heap.get? f = some (PySem.W.kla_obj "<lambda>" (X.env.qual ++ "<lambda>") params body scope (cloFrom X.env.cells scope.names []) pm c' ctv) := I1.base.keep f _ of hfn hfr (fun z => nomatch (show f ∈ ([] : List Addr) from z))
  obtain ⟨⟨oc, vs, t, c1, c2, c3⟩, _, _⟩ := I1.hok c' _ z2
  have run : codeAny (model X.prog X.w) (X.A.deeper (envOfC qg sg s.heap.objs.size g cdg)) (.call (.ref f) ⟨[], []⟩) (CR (L2.CX X.prog X.w) (envOfC qg sg s.heap.objs.size g cdg :: X.stack) X.prog X.w HZ s1 Q (WE W σZ)) s1 := by
    refine PySem.W.kla_callFunE hr.depth of1 rfl L.co L.gen rfl ⟨c', oc, vs, t, rfl, c1, c2, c3⟩ (bind0 ▸ wpAny_pure (wpAny_newFunctionEnv (fun y hy => (L.own y hy).2) (fun y hy => absurd hy (by simp)) (fun h2 n2 b2 => ⟨I1.nolimit.fresh _ b2, ?_⟩) L.kind))
    have keep2 : ∀ b o, s1.heap.get? b = some o → h2.get? b = some o := fun b o e => b2.extBut b o (Nat.ne_of_lt (Heap.lt_size e)) (Heap.get?_push_of_some _ e)
    have J := lam_start2 (E := WE W σZ) (f := f) (c' := c') (tk := s1.toks + ([] : List (Str × Value)).length) I L I1.env0 hr.hd I1.base n2 keep2
    refine PySem.W.kla_codeExpr (wpAny_mono ((bodyP (WE W σZ) _ _ s1 HZ (hr.deeper _)).run [] _ _ HZ Q J z3) (fun v s' hq => ?_) fun e s' hq => hq)
    obtain ⟨w', H', J', rv, q⟩ := hq
    exact ⟨w', H', J'.os, J'.bare, J'.base, J'.hok, rv, q⟩
  refine PySem.W.callWith_F0 ⟨_, _, _, _, of1⟩ (wpAny_call (codeAny_mono run fun r s' hq => ?_))
  cases r with
  | error e => exact tk e s' (XE.of_call I1 (fun _ _ _ h => h) hq)
  | ok fl =>
    cases fl with
    | ret u => exact I1.after hq
    | next => exact False.elim hq
    | brk => exact False.elim hq
    | cont => exact False.elim hq
end
/-- the def that calls what it got -/
def GivesZ (X : Cx) (Ng : List Str) (x : Str) (sg : Scope) (g : Addr) (cdg : Value) (bg : List Stmt) (a : Str) (q : Str) (TT : (XK → Hp → VK → Prop) → Hp → VK → Prop) : Prop :=
  ∀ (f c' : Addr) (s : Shared) (H : Hp) (Q : VK) (tl : XK → Hp → VK → Prop),
    (∀ (W : WX) (pn : List (Addr × Obj)) (xe : Value → Shared → Prop) (p1 p2 : Pos), Takes ((cxOf C8.CX0 X.prog X.w X.K X.mg X.base Ng x sg g cdg X.A X.stack s H C8.E0).tr pn xe) W →
      PE ((cxOf C8.CX0 X.prog X.w X.K X.mg X.base Ng x sg g cdg X.A X.stack s H C8.E0).tr pn xe) (.Call (.Name a p1) [] [] p2) (fun σZ HZ Q => σZ[0]? = some (some (.ref f)) ∧ HZ c' = some (CodeO c' q) ∧ tl (fun cls d H' => W cls d σZ H') HZ Q)) →
    H c' = some (CodeO c' q) → TT tl H Q →
    ∃ t, PSs (cxOf C8.CX0 X.prog X.w X.K X.mg X.base Ng x sg g cdg X.A X.stack s H C8.E0).nox bg t ∧ t { nx := fun _ H' => Q .non H', rt := Q } (L2.start Ng [.ref f]) H
section
variable {X : Cx}
theorem pe_lamZ {T : List (Addr × Str)} {TT : (XK → Hp → VK → Prop) → Hp → VK → Prop} {x a : Str} {g c P : Addr} {k : Nat} {pg : Arguments} {bg : List Stmt} {sg : Scope} {dV kV doc pm cdv ct oc : Value} {an od : Option Addr} {osl : Array (Option Value)} {Ng : List Str}
    {params : Arguments} {body : Expr} {scope : Scope} {t : XK → TE} {p lpos pos : Pos} (hg : Gl X x) (hm : X.mg x = some (.ref g)) (hk : PySem.W.keepIn X.K (.ref g) = true)
    (lk : X.K.lookup g = some ⟨oc, od, .func (PySem.W.fnOf x x pg bg sg dV kV doc pm an cdv ct), osl⟩) (hcg : PySem.W.codeIn X.K cdv x = true) (hb : L2.Binds X.K (PySem.W.fnOf x x pg bg sg dV kV doc pm an cdv ct) [a] []) (Sg : FnScope Ng [a] sg) (hNg : Ng[0]? = some a) (hva : Vis sg a)
    (give : GivesZ X Ng x sg g cdv bg a (X.env.qual ++ "<lambda>") TT)
    (TB : TabB X.base X.mg c P) (hcode : X.env.code = .ref c) (hmT : (P, X.env.qual ++ "<lambda>") ∈ T) (hu : ∀ p ∈ T, p.1 = P → p.2 = X.env.qual ++ "<lambda>") (hr : Room (k + 2) X.A) (L : LamS X.env.scope scope) (hdef : defaultsOf params X.env = ([], []))
    (bind0 : ∀ (q : Str) (cl : List (Str × Addr)) (pm cv ctv : Value), bindArgs (PySem.W.kla_fn "<lambda>" q params body scope cl pm cv ctv) ⟨[], []⟩ = pure [])
    (bodyP : ∀ (A : Around) (outer : List Env) (s : Shared) (H : Hp) (E : XK) (f c' : Addr), Room k (A.deeper (lamEnv X scope s.heap.objs.size f c')) → PE (lamCx X A outer s H E scope f c') body (t E))
    (hdb : (x == ("__debug__" : Str)) = false := by decide) (hd : (a == ("__debug__" : Str)) = false := by decide) (hcd : (a == ("__classdict__" : Str)) = false := by decide) :
    PE X (.Call (.Name x p) [.Lambda params body scope lpos] [] pos) (tLam T TT t) := by
  refine ⟨fun pins s σ H Q I ⟨hT, h⟩ => wpAny_Call_Name_kw (ld_glob I hg hm ?_ hdb)⟩
  refine PySem.W.callWith_K (h₀ := X.base) I.ok.mod.kin hk ?_ (by rfl) (by rfl)
  show wpAny _ _ (spliced ((false, eval (.Lambda params body scope lpos) X.env) :: backTo pos (starEach [] X.env))) _ _ s
  refine Calls.spliced_cons (lam_make2 I TB hcode hmT hu hT hdef (L.has I.ok) fun f c' pm' ctv H1 s' I1 eN T1 hf hfn hfr hco => Calls.spliced_nil ⟨I1.kIn, ?_⟩)
  have run : codeAny (model X.prog X.w) X.A (.call (.ref g) ⟨[.ref f], []⟩) (CR C8.CX0 X.stack X.prog X.w H1 s' Q C8.E0) s' := by
    refine run_ofS (N := Ng) (ps := [a]) (us := [.ref f]) (vs := [.ref f]) lk hcg Sg hr I1.env0 (hb s' [.ref f] I1.kIn rfl) (.cons rfl .nil) rfl fun hr' => ?_
    obtain ⟨t', ht', hq'⟩ := give f c' s' H1 Q (fun E H' Q' => t E σ H' Q') (fun W pn xe p1 p2 tk => pe_actZ (i := 0) I1 L hf hfn hfr (bind0 _ _ _ _ _) tk hr' (fun E A outer s H hr2 => bodyP A outer s H E f c' hr2) hNg hva hd hcd) hco (h H1 eN T1)
    exact ⟨t', ht'.nox, hq'⟩
  refine wpAny_call (codeAny_mono run fun r s2 hq => ?_)
  cases r with
  | error e => exact (show False from hq).elim
  | ok fl =>
    cases fl with
    | ret u => exact I1.after hq
    | next => exact False.elim hq
    | brk => exact False.elim hq
    | cont => exact False.elim hq
end
end Ls
-- own part: U12
namespace Ls
open PySem PySem.Spec PyProof.Rows L2
/-! ### a hook that looks at the interpreter's own statics, too -/
def frY (n : Nat) (g : Addr → Option Obj) : PySem.W.Frag := He.frT g (cStatics :: He.asD g n)
section
variable (n : Nat) (fa : List He.Fa) (fn : List He.DefD) (ts : List He.Tab) (tf : List He.Defn) (eb : PySem.W.Frag → Bool)
def obsY (g : Addr → Option Obj) : He.AlX := (He.obsT fa fn ts (frY n g), eb (frY n g) && He.tabsB g tf (frY n g))
theorem saysY {w : World} {h : Heap} (e : obsY n fa fn ts tf eb h.get? = He.valX fn ts w) : He.SaysX fa fn ts tf eb w h (frY n h.get?) := by
  have eT := congrArg (fun q : He.AlX => q.1) e
  have eB : (eb (frY n h.get?) && He.tabsB h.get? tf (frY n h.get?)) = true := congrArg (fun q : He.AlX => q.2) e
  have e1 := (Bool.and_eq_true_iff.mp eB).1
  have e2 := (Bool.and_eq_true_iff.mp eB).2
  have each : ∀ d ∈ tf, PySem.W.codeHdIn (frY n h.get?) (He.cT (frY n h.get?) d).1 (He.cT (frY n h.get?) d).2 = true ∧ ∃ u, h.get? (He.cT (frY n h.get?) d).2 = some u ∧ He.emptyTab u = true := by
    intro d hd
    have z := List.all_eq_true.mp e2 d hd
    have z1 := (Bool.and_eq_true_iff.mp z).1
    have z2 := (Bool.and_eq_true_iff.mp z).2
    refine ⟨z1, ?_⟩
    split at z2
    · rename_i u hu
      exact ⟨u, hu, z2⟩
    · cases z2
  refine ⟨eT, e1, fun d hd => (each d hd).1, fun d hd => ?_, fun d hd => ?_⟩
  · obtain ⟨_, u, hu, ue⟩ := each d hd
    exact He.frT_none hu ue
  · obtain ⟨_, u, hu, ue⟩ := each d hd
    rw [hu, He.emptyTab_eq ue]
def hookY : PySem.W.Hook where
  α := He.AlX
  obs := fun s => obsY n fa fn ts tf eb s.heap.get?
  val := fun w => He.valX fn ts w
  says := fun w h => ∃ K : PySem.W.Frag, K.In h ∧ He.SaysX fa fn ts tf eb w h K
  of := fun _ _ e => ⟨frY n _, He.frT_in, saysY n fa fn ts tf eb e⟩
  keeps := fun _ _ _ ⟨K, hK, y⟩ k => ⟨K, PySem.W.Frag.In.keeps hK k, ⟨y.t, y.more, y.hd, y.out, fun d hd => k _ _ (y.empty d hd)⟩⟩
theorem obsY_eq {g : Addr → Option Obj} {s : Shared} (h : ∀ a, g a = s.heap.get? a) : obsY n fa fn ts tf eb g = (hookY n fa fn ts tf eb).obs s := by
  obtain rfl : g = s.heap.get? := funext h
  rfl
end
end Ls
-- own part: run
namespace Lh
open PySem PySem.Spec PyProof.Rows L2 Ls Lw LamX
def d_law : He.DefD := ⟨("law", none), "law", "law", defArgs s_law, defBody s_law, defScope s_law, [], []⟩
def d__law_begin : He.DefD := ⟨("_law_begin", none), "_law_begin", "_law_begin", defArgs s__law_begin, defBody s__law_begin, defScope s__law_begin, [], []⟩
def d__law_words : He.DefD := ⟨("_law_words", none), "_law_words", "_law_words", defArgs s__law_words, defBody s__law_words, defScope s__law_words, [], []⟩
def d__law_test : He.DefD := ⟨("_law_test", none), "_law_test", "_law_test", defArgs s__law_test, defBody s__law_test, defScope s__law_test, [], []⟩
def d__law_of : He.DefD := ⟨("_law_of", none), "_law_of", "_law_of", defArgs s__law_of, defBody s__law_of, defScope s__law_of, [], []⟩
def d__law_ask : He.DefD := ⟨("_law_ask", none), "_law_ask", "_law_ask", defArgs s__law_ask, defBody s__law_ask, defScope s__law_ask, [], []⟩
def d__law_pick : He.DefD := ⟨("_law_pick", none), "_law_pick", "_law_pick", defArgs s__law_pick, defBody s__law_pick, defScope s__law_pick, [], []⟩
def d__law_bent_test : He.DefD := ⟨("_law_bent_test", none), "_law_bent_test", "_law_bent_test", defArgs s__law_bent_test, defBody s__law_bent_test, defScope s__law_bent_test, [], []⟩
def d__law_test_ok : He.DefD := ⟨("_law_test_ok", none), "_law_test_ok", "_law_test_ok", defArgs s__law_test_ok, defBody s__law_test_ok, defScope s__law_test_ok, [], []⟩
def d__law_same : He.DefD := ⟨("_law_same", none), "_law_same", "_law_same", defArgs s__law_same, defBody s__law_same, defScope s__law_same, [], []⟩
def d__law_far : He.DefD := ⟨("_law_far", none), "_law_far", "_law_far", defArgs s__law_far, defBody s__law_far, defScope s__law_far, [], []⟩
def d_Tally___init__ : He.DefD := ⟨("Tally", some "__init__"), "__init__", "Tally.__init__", defArgs s_Tally___init__, defBody s_Tally___init__, defScope s_Tally___init__, [], [("most", .int 16)]⟩
def d_Tally_table : He.DefD := ⟨("Tally", some "table"), "table", "Tally.table", defArgs s_Tally_table, defBody s_Tally_table, defScope s_Tally_table, [], []⟩
def d_Tally_dropped : He.DefD := ⟨("Tally", some "dropped"), "dropped", "Tally.dropped", defArgs s_Tally_dropped, defBody s_Tally_dropped, defScope s_Tally_dropped, [], []⟩
def d__law_odd_name : He.DefD := ⟨("_law_odd_name", none), "_law_odd_name", "_law_odd_name", defArgs s__law_odd_name, defBody s__law_odd_name, defScope s__law_odd_name, [], []⟩
def d__law_is_name : He.DefD := ⟨("_law_is_name", none), "_law_is_name", "_law_is_name", defArgs s__law_is_name, defBody s__law_is_name, defScope s__law_is_name, [], []⟩
def d_Tally___len__ : He.DefD := ⟨("Tally", some "__len__"), "__len__", "Tally.__len__", defArgs s_Tally___len__, defBody s_Tally___len__, defScope s_Tally___len__, [], []⟩
def d__law_word : He.DefD := ⟨("_law_word", none), "_law_word", "_law_word", defArgs s__law_word, defBody s__law_word, defScope s__law_word, [], []⟩
def d__law_tree : He.DefD := ⟨("_law_tree", none), "_law_tree", "_law_tree", defArgs s__law_tree, defBody s__law_tree, defScope s__law_tree, [], []⟩
def d__law_parts : He.DefD := ⟨("_law_parts", none), "_law_parts", "_law_parts", defArgs s__law_parts, defBody s__law_parts, defScope s__law_parts, [], []⟩
def d__law_leaf : He.DefD := ⟨("_law_leaf", none), "_law_leaf", "_law_leaf", defArgs s__law_leaf, defBody s__law_leaf, defScope s__law_leaf, [], []⟩
def d__law_shape_ok : He.DefD := ⟨("_law_shape_ok", none), "_law_shape_ok", "_law_shape_ok", defArgs s__law_shape_ok, defBody s__law_shape_ok, defScope s__law_shape_ok, [], []⟩
def d__law_deep : He.DefD := ⟨("_law_deep", none), "_law_deep", "_law_deep", defArgs s__law_deep, defBody s__law_deep, defScope s__law_deep, [], []⟩
def d_look_test : He.DefD := ⟨("look_test", none), "look_test", "look_test", defArgs s_look_test, defBody s_look_test, defScope s_look_test, [], []⟩
def d_is_name : He.DefD := ⟨("is_name", none), "is_name", "is_name", defArgs s_is_name, defBody s_is_name, defScope s_is_name, [], []⟩
def d__law_number : He.DefD := ⟨("_law_number", none), "_law_number", "_law_number", defArgs s__law_number, defBody s__law_number, defScope s__law_number, [], []⟩
def d__law_leaf_ok : He.DefD := ⟨("_law_leaf_ok", none), "_law_leaf_ok", "_law_leaf_ok", defArgs s__law_leaf_ok, defBody s__law_leaf_ok, defScope s__law_leaf_ok, [], []⟩
def d_is_test : He.DefD := ⟨("is_test", none), "is_test", "is_test", defArgs s_is_test, defBody s_is_test, defScope s_is_test, [], []⟩
def d_parts_of : He.DefD := ⟨("parts_of", none), "parts_of", "parts_of", defArgs s_parts_of, defBody s_parts_of, defScope s_parts_of, [], []⟩
def d_is_leaf : He.DefD := ⟨("is_leaf", none), "is_leaf", "is_leaf", defArgs s_is_leaf, defBody s_is_leaf, defScope s_is_leaf, [], []⟩
def d_ScribeError___init__ : He.DefD := ⟨("ScribeError", some "__init__"), "__init__", "ScribeError.__init__", defArgs s_ScribeError___init__, defBody s_ScribeError___init__, defScope s_ScribeError___init__, [], []⟩
def d_BadTest___init__ : He.DefD := ⟨("BadTest", some "__init__"), "__init__", "BadTest.__init__", defArgs s_BadTest___init__, defBody s_BadTest___init__, defScope s_BadTest___init__, [], []⟩
def d_BadKeys___init__ : He.DefD := ⟨("BadKeys", some "__init__"), "__init__", "BadKeys.__init__", defArgs s_BadKeys___init__, defBody s_BadKeys___init__, defScope s_BadKeys___init__, [], []⟩
def d_BadSize___init__ : He.DefD := ⟨("BadSize", some "__init__"), "__init__", "BadSize.__init__", defArgs s_BadSize___init__, defBody s_BadSize___init__, defScope s_BadSize___init__, [], []⟩
def fn : List He.DefD := [d_law, d__law_begin, d__law_words, d__law_test, d__law_of, d__law_ask, d__law_pick, d__law_bent_test, d__law_test_ok, d__law_same, d__law_far, d_Tally___init__, d_Tally_table, d_Tally_dropped, d__law_odd_name, d__law_is_name, d_Tally___len__, d__law_word, d__law_tree, d__law_parts, d__law_leaf, d__law_shape_ok, d__law_deep, d_look_test, d_is_name, d__law_number, d__law_leaf_ok, d_is_test, d_parts_of, d_is_leaf, d_ScribeError___init__, d_BadTest___init__, d_BadKeys___init__, d_BadSize___init__]
def fa : List He.Fa := [.glo "Tally", .cls "Tally", .noat "Tally" "test", .noat "Tally" "keys_told", .noat "Tally" "largest", .noat "Tally" "sums", .noat "Tally" "away", .glo "law", .glo "_law_begin", .glo "_law_words", .glo "_law_test", .glo "_law_of", .glo "_law_ask", .glo "_law_pick", .glo "_law_bent_test", .glo "_law_test_ok", .glo "_law_same", .glo "_law_far", .mkr "Tally", .meth "Tally" "table", .meth "Tally" "dropped", .glo "_law_odd_name", .glo "_law_is_name", .meth "Tally" "__len__", .glo "_law_word", .glo "_law_tree", .glo "_law_parts", .glo "_law_leaf", .glo "_law_shape_ok", .glo "_law_deep", .glo "look_test", .glo "is_name", .glo "_law_number", .glo "_law_leaf_ok", .glo "is_test", .glo "parts_of", .glo "is_leaf", .free "range", .free "len", .free "bool", .free "all", .free "tuple", .free "set", .free "list", .free "str", .free "isinstance", .free "int", .free "sorted", .free "sum", .free "max", .free "ValueError", .int "MOST_KEYS" 16, .int "MOST_FIELDS" 4, .int "LARGEST" 64, .int "LONGEST" 8, .str "LETTERS" "abcdefghijklmnopqrstuvwxyz", .int "MOST_PARTS" 15, .int "DEEPEST" 5, .glo "WITHIN", .int "LIMIT" 999999, .glo "ScribeError", .glo "BadTest", .glo "BadKeys", .glo "BadSize", .glo "BadValue", .glo "Missing"]
def tbs : List He.Tab := [(fun K => He.ga K "WITHIN", ["not", "and", "or"])]
def exl (K : PySem.W.Frag) : List Bool := [crdB K (He.ga K "ScribeError"), cviB K (He.ga K "ScribeError"), oexB K (He.ga K "BadTest"), iniB K (He.ga K "BadTest"), iniB K (He.ga K "BadTest"), noFB K (He.ga K "BadTest") "word", xfB K (He.ga K "BadTest"), exmB K (He.ga K "BadTest") (He.ga K "BadValue") false, exmB K (He.ga K "BadTest") (He.ga K "ScribeError") true, exmB K (He.ga K "BadTest") (He.ga K "Missing") false, oexB K (He.ga K "BadKeys"), iniB K (He.ga K "BadKeys"), iniB K (He.ga K "BadKeys"), noFB K (He.ga K "BadKeys") "word", xfB K (He.ga K "BadKeys"), exmB K (He.ga K "BadKeys") (He.ga K "BadValue") false, exmB K (He.ga K "BadKeys") (He.ga K "ScribeError") true, exmB K (He.ga K "BadKeys") (He.ga K "Missing") false, oexB K (He.ga K "BadSize"), iniB K (He.ga K "BadSize"), iniB K (He.ga K "BadSize"), noFB K (He.ga K "BadSize") "word", xfB K (He.ga K "BadSize"), exmB K (He.ga K "BadSize") (He.ga K "BadValue") false, exmB K (He.ga K "BadSize") (He.ga K "ScribeError") true, exmB K (He.ga K "BadSize") (He.ga K "Missing") false, veiB K, He.valsB K (He.ga K "WITHIN") [("not", .int 1), ("and", .int 2), ("or", .int 2)], noFB K (He.ga K "Tally") "__bool__"]
def exB (K : PySem.W.Frag) : Bool := (exl K).all id
theorem exB_ok {K : PySem.W.Frag} (h : exB K = true) {i : Nat} {b : Bool} (e : (exl K)[i]? = some b) : b = true := List.all_eq_true.mp h b (List.mem_of_getElem? e)
def tfs : List He.Defn := [("law", none)]
abbrev R : PySem.W.OpenRow := PySem.W.OpenLaw.row PySem.Challenge.rw_lanescribe_k23_tallies_refused
abbrev hk : PySem.W.Hook := hookY 5 fa fn tbs tfs exB
def ob (s : PySem.W.SharedT) : He.AlX := obsY 5 fa fn tbs tfs exB (HandSHeadRun.getT s)
theorem ob_eq (s : PySem.W.SharedT) : ob s = hk.obs s.abs := obsY_eq 5 fa fn tbs tfs exB (HandSHeadRun.getT_eq s)
def loose0 : List PySem.Str := ["_wall", "__name__", "ScribeError", "Missing", "BadTest", "BadSize", "BadKeys", "BadValue", "LIMIT", "LONGEST", "LETTERS", "is_name", "MOST_PARTS", "DEEPEST", "WITHIN", "is_leaf", "parts_of", "is_test", "look_test", "MOST_KEYS"]
def loose1 : List PySem.Str := ["LARGEST", "MOST_FIELDS", "Tally", "_law_begin", "_law_pick", "_law_of", "_law_far", "_law_same", "_law_word", "_law_words", "_law_is_name", "_law_ask", "_law_odd_name", "_law_number", "_law_leaf", "_law_tree", "_law_parts", "_law_deep", "_law_test", "_law_leaf_ok"]
def loose2 : List PySem.Str := ["_law_shape_ok", "_law_test_ok", "_law_bent_test"]
def loose : List PySem.Str := loose0 ++ loose1 ++ loose2
theorem runB (b : Bool) (w : World) : HandSHeadRun.RunEq R (PySem.W.view R.prog [47]) hk ob 20000 loose (w.withFollow "special-get-raises" b) := by
  cases b
  · intro os
    kernel_rfl
  · intro os
    kernel_rfl
theorem run (w : World) : HandSHeadRun.RunEq R (PySem.W.view R.prog [47]) hk ob 20000 loose w := by
  have z := runB (w.params.followText "special-get-raises") w
  rwa [World.withFollow_self] at z
end Lh
-- own part: S2
namespace Ls
open PySem PySem.Spec PyProof.Rows L2
/-! ### data that stands -/
section
variable {K : PySem.W.Frag}
/-- a list of data that never change, one's own -/
def ld (a : Addr) (ds : List PyData) : As K := ⟨fun _ s H => (∀ b, s b ↔ b = a) ∧ ∃ xs, H a = some (.lst xs) ∧ ImAll K H xs ds, fun ⟨e, xs, h, g⟩ k t => ⟨e, xs, (k a ((e a).mpr rfl)).trans h, g.mono t.1⟩, fun ⟨e, xs, h, _⟩ b z => by
  obtain rfl := (e b).mp z
  exact ⟨_, h, rfl⟩, fun h _ => h⟩
/-- a value's data, by what stands -/
inductive Dat (L : List (As K)) : V → PyData → Prop
  | non : Dat L .non .none
  | bl (b : Bool) : Dat L (.bl b) (.bool b)
  | int (i : Int) : Dat L (.int i) (.int i)
  | str (x : Str) : Dat L (.str x) (.str x)
  | im {v : V} {d : PyData} : im v d ∈ L → Dat L v d
inductive DatAll (L : List (As K)) : List V → List PyData → Prop
  | nil : DatAll L [] []
  | cons {v : V} {d : PyData} {vs : List V} {ds : List PyData} : Dat L v d → DatAll L vs ds → DatAll L (v :: vs) (d :: ds)
  | ims {vs : List V} {ds : List PyData} : Ls.ims vs ds ∈ L → DatAll L vs ds
/-- .. lists too -/
inductive Dl (L : List (As K)) : V → PyData → Prop
  | dat {v : V} {d : PyData} : Dat L v d → Dl L v d
  | ld {a : Addr} {ds : List PyData} : ld a ds ∈ L → Dl L (.ref a) (.list ds)
variable {A B : As K} {L L' M N : List (As K)} {H H' : Hp} {a p l : Addr} {o u : HO} {v x y : V} {d e : PyData} {vs xs ys : List V} {ds es : List PyData} {Q : VK} {σ : L2.St} {i j : Int}
theorem Dat.is (h : Sep L H) (t : Dat L v d) : Im K H v d := by
  cases t with
  | non => exact .non
  | bl b => exact .bl b
  | int i => exact .int i
  | str x => exact .str x
  | im m => exact h.imm m
theorem DatAll.is (h : Sep L H) : ∀ {vs : List V} {ds : List PyData}, DatAll L vs ds → ImAll K H vs ds
  | _, _, .nil => .nil
  | _, _, .cons a b => .cons (a.is h) (b.is h)
  | _, _, .ims m => h.imsm m
theorem Sep.ldm (h : Sep L H) (m : ld a ds ∈ L) : ∃ xs, H a = some (.lst xs) ∧ ImAll K H xs ds := by
  obtain ⟨W, s, ⟨_, h1⟩, _⟩ := h.the m
  exact h1
theorem Dl.is (h : Sep L H) (t : Dl L v d) : Dp K H v d := by
  cases t with
  | dat t => exact (t.is h).dp
  | ld m =>
    obtain ⟨xs, h1, h2⟩ := h.ldm m
    exact .lst (sql_of h1) h2.dp
theorem Sep.newD (h : Sep L H) (hp : H p = none) (t : DatAll L xs ds) : Sep (ld p ds :: L) (upd H p (.lst xs)) := by
  obtain ⟨W, s, f, s1, s2, d, u, ⟨e1, e2, _⟩, h2⟩ := h.new (o := .lst xs) hp rfl
  exact ⟨W, s, f, s1, s2, d, u, ⟨e1, xs, e2, (t.is h).mono (Tp.new hp)⟩, h2⟩
theorem Sep.newI (h : Sep L H) (hp : H p = none) (t : DatAll L xs ds) : Sep (im (.ref p) (.tuple ds) :: L) (upd H p (.tup xs)) :=
  Sep.im_iff.mpr ⟨.tup (sqt_of upd_same) ((t.is h).mono (Tp.new hp)), h.same (same_new hp)⟩
theorem Sep.ld_iff : Sep (ld a ds :: L) H ↔ ∃ xs, Sep (ob a (.lst xs) :: ims xs ds :: L) H := by
  constructor
  · intro h
    obtain ⟨W, s, r, ⟨e, xs, h1, h2⟩, d, al, k⟩ := h.hd
    refine ⟨xs, ?_⟩
    have z := k (B := ob a (.lst xs)) (s' := s) (H' := H) ⟨e, h1, rfl⟩ d (fun _ _ => rfl) Tq.refl
    exact (Sep.ims_iff.mpr ⟨h2, z⟩).perm (.swap _ _ _)
  · rintro ⟨xs, h⟩
    obtain ⟨h2, h⟩ := Sep.ims_iff.mp (h.perm (.swap _ _ _))
    obtain ⟨W, s, r, ⟨e, h1, _⟩, d, al, k⟩ := h.hd
    exact k (s' := s) ⟨e, xs, h1, h2⟩ d (fun _ _ => rfl) Tq.refl
theorem Sep.setD (h : Sep (ld a ds :: L) H) (t : ImAll K H xs es) : Sep (ld a es :: L) (upd H a (.lst xs)) := by
  obtain ⟨W, s, r, ⟨e, ys, h1, h2⟩, d, _, k⟩ := h.hd
  have tp : Tq K H (upd H a (.lst xs)) := tp_upd h1 rfl
  exact k (s' := s) ⟨e, xs, upd_same, t.mono tp.1⟩ d (fun b z => upd_ne fun y => d b ((e b).mpr y) z) tp
theorem Sep.setDR (h : Sep L H) (r : Rep L (ld a ds) (ld a es) M) (t : ImAll K H xs es) : Sep M (upd H a (.lst xs)) := by
  obtain ⟨N, h1, h2⟩ := Sep.rep r
  exact h2 _ ((h1 _ h).setD t)
theorem Rep.mem (r : Rep L A B M) : A ∈ L := by
  induction r with
  | here => exact List.mem_cons_self
  | there _ ih => exact List.mem_cons_of_mem _ ih
/-! what stands, weaker -/
def Sub (N L : List (As K)) : Prop := ∀ (W : Fz) (s : Addr → Prop) (H : Hp), FzOk W s H → Hld W N s H → ∃ s' : Addr → Prop, (∀ a, s' a → s a) ∧ Hld W L s' H
theorem Sub.ok (s : Sub N L) (h : Sep N H) : Sep L H := by
  obtain ⟨W, q, f, h⟩ := h
  obtain ⟨q', e, z⟩ := s W q H f h
  exact ⟨W, q', f.less e, z⟩
theorem Sub.refl : Sub L L := fun W s _ _ h => ⟨s, fun _ z => z, h⟩
theorem Sub.drop (z : Sub N L) : Sub (A :: N) L := fun W s H f ⟨s1, s2, d, u, _, h⟩ => by
  obtain ⟨q, e, k⟩ := z W s2 H (f.less fun a y => (u a).mpr (.inr y)) h
  exact ⟨q, fun a y => (u a).mpr (.inr (e a y)), k⟩
theorem Sub.nil : Sub N ([] : List (As K)) := fun _ _ _ _ _ => ⟨fun _ => False, fun _ z => z.elim, fun _ z => z⟩
theorem Sub.cons (z : Sub N L) : Sub (A :: N) (A :: L) := fun W s H f ⟨s1, s2, d, u, h1, h⟩ => by
  obtain ⟨q, e, k⟩ := z W s2 H (f.less fun a y => (u a).mpr (.inr y)) h
  exact ⟨fun a => s1 a ∨ q a, fun a y => (u a).mpr (y.imp id (e a)), s1, q, fun a x y => d a x (e a y), fun a => Iff.rfl, h1, k⟩
theorem Sub.trans (z : Sub N M) (y : Sub M L) : Sub N L := fun W s H f h => by
  obtain ⟨q, e, k⟩ := z W s H f h
  obtain ⟨q2, e2, k2⟩ := y W q H (f.less e) k
  exact ⟨q2, fun a w => e a (e2 a w), k2⟩
theorem Sub.perm (p : N.Perm M) : Sub N M := fun W s H _ h => ⟨s, fun _ z => z, h.perm p⟩
theorem Sub.rem (r : Rem N A M) (z : Sub M L) : Sub N (A :: L) := (Sub.perm r.perm).trans z.cons
/-- told once more -/
theorem Sub.dup [i : Dup A] (m : A ∈ N) (z : Sub N L) : Sub N (A :: L) := fun W s H f h => by
  obtain ⟨M, hM⟩ := Rem.of_mem m
  obtain ⟨s1, s2, d, u, h1, h2⟩ := h.perm hM.perm
  obtain ⟨q, e, k⟩ := z W s H f h
  exact ⟨q, e, s1, q, fun a x _ => (i.no h1 a x).elim, fun a => ⟨.inr, fun y => y.elim (fun x => (i.no h1 a x).elim) id⟩, h1, k⟩
/-- one of them as something weaker -/
theorem Sub.weak {A B : As K} (w : ∀ (W : Fz) (s : Addr → Prop) (H : Hp), FzOk W s H → A.ok W s H → B.ok W s H) (z : Sub N L) : Sub (A :: N) (B :: L) := fun W s H f ⟨s1, s2, d, u, h1, h⟩ => by
  obtain ⟨q, e, k⟩ := z W s2 H (f.less fun a y => (u a).mpr (.inr y)) h
  exact ⟨fun a => s1 a ∨ q a, fun a y => (u a).mpr (y.imp id (e a)), s1, q, fun a x y => d a x (e a y), fun a => Iff.rfl, w _ _ _ (f.less fun a y => (u a).mpr (.inl y)) h1, k⟩
theorem Sub.all : Sub (Ls.all L :: M) N ↔ Sub (L ++ M) N := by
  constructor
  · intro z W s H f h
    obtain ⟨s1, s2, d, u, h1, h2⟩ := Hld.app.mp h
    exact z W s H f ⟨s1, s2, d, u, h1, h2⟩
  · intro z W s H f h
    obtain ⟨s1, s2, d, u, h1, h2⟩ := h
    exact z W s H f (Hld.app.mpr ⟨s1, s2, d, u, h1, h2⟩)
theorem Sub.toAll (z : Sub N (L ++ M)) : Sub N (Ls.all L :: M) := fun W s H f h => by
  obtain ⟨q, e, k⟩ := z W s H f h
  obtain ⟨s1, s2, d, u, h1, h2⟩ := Hld.app.mp k
  exact ⟨q, e, s1, s2, d, u, h1, h2⟩
theorem Sub.toEx {α : Type} {f : α → As K} (x : α) (z : Sub N (f x :: L)) : Sub N (Ls.ex f :: L) := fun W s H g h => by
  obtain ⟨q, e, s1, s2, d, u, h1, h2⟩ := z W s H g h
  exact ⟨q, e, s1, s2, d, u, ⟨x, h1⟩, h2⟩
/-! ### displays -/
theorem k_tupS (h : Sep L H) (t : DatAll L xs ds) (q : ∀ p H', Sep (im (.ref p) (.tuple ds) :: L) H' → Q (.ref p) H') : ∀ p, H p = none → Q (.ref p) (upd H p (.tup xs)) := fun p hp => q p _ (h.newI hp t)
theorem k_tupV (h : Sep L H) (q : ∀ p H', Sep (tu p xs :: L) H' → Q (.ref p) H') : ∀ p, H p = none → Q (.ref p) (upd H p (.tup xs)) := fun p hp => q p _ (h.newT hp)
theorem k_lstS (h : Sep L H) (t : DatAll L xs ds) (q : ∀ p H', Sep (ld p ds :: L) H' → Q (.ref p) H') : ∀ p, H p = none → Q (.ref p) (upd H p (.lst xs)) := fun p hp => q p _ (h.newD hp t)
theorem k_lstV (h : Sep L H) (q : ∀ p H', Sep (ob p (.lst xs) :: L) H' → Q (.ref p) H') : ∀ p, H p = none → Q (.ref p) (upd H p (.lst xs)) := fun p hp => q p _ (h.new hp rfl)
/-! ### parts of data -/
def Gv : PyData → (V → List (As K) → Prop) → Prop
  | .none, q => q .non []
  | .bool b, q => q (.bl b) []
  | .int i, q => q (.int i) []
  | .str x, q => q (.str x) []
  | .tuple ds, q => ∀ a, q (.ref a) [im (.ref a) (.tuple ds)]
  | d, q => ∀ v, q v [im v d]
def GvAll : List PyData → (List V → List (As K) → Prop) → Prop
  | [], q => q [] []
  | d :: ds, q => Gv d fun v M => GvAll ds fun vs N => q (v :: vs) (M ++ N)
theorem Gv.go {R : V → Prop} (m : Im K H v d) (h : Sep L H) (g : Gv (K := K) d fun v M => Sep (M ++ L) H → R v) : R v := by
  cases m with
  | non => exact g h
  | bl b => exact g h
  | int i => exact g h
  | str x => exact g h
  | tup h1 h2 => exact g _ (Sep.im_iff.mpr ⟨.tup h1 h2, h⟩)
theorem Gv.mono {q q' : V → List (As K) → Prop} (g : Gv d q) (k : ∀ v M, q v M → q' v M) : Gv d q' := by
  cases d <;> first | exact k _ _ g | exact fun v => k _ _ (g v)
theorem GvAll.go : ∀ {L : List (As K)} {ds : List PyData} {vs : List V} {q : List V → List (As K) → Prop}, ImAll K H vs ds → Sep L H → GvAll ds q → ∃ M, q vs M ∧ Sep (M ++ L) H
  | L, [], _, q, .nil, h, g => ⟨[], g, h⟩
  | L, d :: ds, _, q, .cons (v := v) a b, h, g => by
    have g' : Gv (K := K) d fun v M => GvAll ds fun vs N => q (v :: vs) (M ++ N) := g
    refine Gv.go (R := fun v => ∃ M, q (v :: _) M ∧ Sep (M ++ L) H) a h (g'.mono fun v M g2 hM => ?_)
    obtain ⟨N, h3, h4⟩ := GvAll.go (L := M ++ L) b hM g2
    refine ⟨M ++ N, h3, h4.perm ?_⟩
    rw [← List.append_assoc]
    exact List.perm_append_comm.append_right L
theorem im_ref (m : Im K H (.ref a) d) : ∃ ds xs, d = .tuple ds ∧ SqT K H a xs ∧ ImAll K H xs ds := by
  cases m with
  | tup h1 h2 => exact ⟨_, _, rfl, h1, h2⟩
theorem k_gtupS {n : Nat} {tg : TGs} {R : L2.St → Hp → Prop} (h : Sep L H) (m : im (.ref a) (.tuple ds) ∈ L) (hn : ds.length = n) (q : GvAll (K := K) ds fun vs M => Sep (M ++ L) H → tg vs σ H R) : gTup K n tg (.ref a) σ H R := by
  obtain ⟨a', xs, e, h1, h2⟩ := im_tup (h.imm m)
  cases e
  obtain ⟨M, h3, h4⟩ := q.go h2 h
  exact k_gtup h1 (h2.length.trans hn) (h3 h4)
theorem k_gtupO {n : Nat} {tg : TGs} {R : L2.St → Hp → Prop} (h : Sep L H) (m : tu a xs ∈ L) (hn : xs.length = n) (q : tg xs σ H R) : gTup K n tg (.ref a) σ H R := k_gtup (h.tum m) hn q
theorem atI_all : ∀ {vs : List V} {ds : List PyData} {i : Int}, ImAll K H vs ds → atI ds i = some d → ∃ v, atI vs i = some v ∧ Im K H v d := fun {vs ds i} h e => by
  unfold atI at e ⊢
  rw [h.length]
  cases q : ixN ds.length i with
  | none =>
    rw [q] at e
    cases e
  | some j =>
    rw [q] at e
    exact h.getD e
theorem k_ixS' (h : Sep L H) (m : im (.ref a) (.tuple ds) ∈ L) (e : atI ds i = some d) (q : Gv (K := K) d fun v M => Sep (M ++ L) H → Q v H) : rIx K (.ref a) (.int i) H Q := by
  obtain ⟨a', xs, e', h1, h2⟩ := im_tup (h.imm m)
  cases e'
  obtain ⟨v, hv, hd⟩ := atI_all h2 e
  exact k_ixT h1 hv (Gv.go hd h q)
end
end Ls
-- own part: S3
namespace Ls
open PySem PySem.Spec PyProof.Rows L2
section
variable {K : PySem.W.Frag} {A B : As K} {L L' M N : List (As K)} {H H' : Hp} {a p l : Addr} {o u : HO} {v x y : V} {d e : PyData} {vs xs ys : List V} {ds es : List PyData} {Q : VK} {σ : L2.St} {i j : Int} {n : Nat} {b : Bool}
/-! ### readings by what stands -/
theorem k_lenD (h : Sep L H) (m : ld a ds ∈ L) (q : Q (.int ds.length) H) : rLenU K [.ref a] H Q := by
  obtain ⟨xs, h1, h2⟩ := h.ldm m
  exact k_lenL (sql_of h1) (by rw [h2.length]; exact q)
theorem k_lenO (h : Sep L H) (m : ob a (.lst xs) ∈ L) (q : Q (.int xs.length) H) : rLenU K [.ref a] H Q := k_lenL (sql_of (h.obm m)) q
theorem k_lenI (h : Sep L H) (m : im (.ref a) (.tuple ds) ∈ L) (q : Q (.int ds.length) H) : rLenU K [.ref a] H Q := by
  obtain ⟨a', xs, e, h1, h2⟩ := im_tup (h.imm m)
  cases e
  exact k_lenT h1 (by rw [h2.length]; exact q)
theorem k_lenK (h : Sep L H) {kvs : List (Key × V)} (m : ob a (.dK kvs) ∈ L) (q : Q (.int kvs.length) H) : rLenU K [.ref a] H Q := .inr (.inr ⟨a, kvs, rfl, h.obm m, q⟩)
theorem k_ixD (h : Sep L H) (m : ld a ds ∈ L) (e : atI ds i = some d) (q : Gv (K := K) d fun v M => Sep (M ++ L) H → Q v H) : rIx K (.ref a) (.int i) H Q := by
  obtain ⟨xs, h1, h2⟩ := h.ldm m
  obtain ⟨v, hv, hd⟩ := atI_all h2 e
  exact k_ixL (sql_of h1) hv (Gv.go hd h q)
theorem k_ixO (h : Sep L H) (m : ob a (.lst xs) ∈ L) (e : atI xs i = some v) (q : Q v H) : rIx K (.ref a) (.int i) H Q := k_ixL (sql_of (h.obm m)) e q
theorem k_ixTu (h : Sep L H) (m : tu a xs ∈ L) (e : atI xs i = some v) (q : Q v H) : rIx K (.ref a) (.int i) H Q := k_ixT (h.tum m) e q
theorem k_tyD {P : Prop} (h : Sep L H) (m : ld a ds ∈ L) (q : P) : tyV K "list" (.ref a) H ∧ P := by
  obtain ⟨xs, h1, h2⟩ := h.ldm m
  exact k_tyL (sql_of h1) q
theorem k_tyO {P : Prop} (h : Sep L H) (m : ob a (.lst xs) ∈ L) (q : P) : tyV K "list" (.ref a) H ∧ P := k_tyL (sql_of (h.obm m)) q
theorem k_appD (h : Sep L H) (r : Rep L (ld a ds) (ld a (ds ++ [d])) M) (t : Dat L x d) (hl : ds.length < sizeLine) (q : ∀ H', Sep M H' → Q .non H') : rAppend (.ref a) [x] H Q := by
  obtain ⟨xs, h1, h2⟩ := h.ldm r.mem
  exact k_app h1 (by rw [h2.length]; exact hl) (q _ (h.setDR r (h2.snoc (t.is h))))
theorem k_appO (h : Sep L H) (r : Rep L (ob a (.lst xs)) (ob a (.lst (xs ++ [x]))) M) (hl : xs.length < sizeLine) (q : ∀ H', Sep M H' → Q .non H') : rAppend (.ref a) [x] H Q :=
  k_app (h.obm r.mem) hl (q _ (h.setR r rfl))
theorem k_eqT {n m : Nat} (h : Sep L H) (t : Dl L x d) (t2 : Dl L y e) (o1 : OkD n d) (o2 : OkD m e) (hn : n ≤ 64) (hm : m ≤ 64) (q : Q (.bl (PyData.eqv d e)) H) : rEqU K x y H Q := k_eqD (t.is h) (t2.is h) (o1.shaped hn) (o2.shaped hm) q
theorem k_neT {n m : Nat} (h : Sep L H) (t : Dl L x d) (t2 : Dl L y e) (o1 : OkD n d) (o2 : OkD m e) (hn : n ≤ 64) (hm : m ≤ 64) (q : Q (.bl (!PyData.eqv d e)) H) : rNeU K x y H Q := k_neD (t.is h) (t2.is h) (o1.shaped hn) (o2.shaped hm) q
theorem eqv_self {n : Nat} (o : OkD n d) : PyData.eqv d d = true := SeqAt.eqv_refl _ o.lay.1
/-! ### loops and comprehensions by what stands -/
structure Wk (J : It) (L : List (As K)) (n : Nat) (Y : Nat → (V → List (As K) → Prop) → Prop) : Prop where
  go : ∀ i H, i < n → Sep L H → J.go i H
  yl : ∀ i H x H' (R : V → Hp → Prop), i < n → Sep L H → J.yld i H x H' → Y i (fun v M => ∀ H2, Sep (M ++ L) H2 → R v H2) → R x H'
  st : ∀ H, Sep L H → J.stop n H
theorem wk_ld (m : ld a ds ∈ L) : Wk (Itl K a) L ds.length fun i q => ∀ d, ds[i]? = some d → Gv d q where
  go := fun i H hi h => by
    obtain ⟨xs, h1, h2⟩ := h.ldm m
    have hx : i < xs.length := by rw [h2.length]; exact hi
    exact ⟨xs, xs[i], sql_of h1, List.getElem?_eq_getElem hx⟩
  yl := fun i H x H' R hi h ⟨e, y⟩ q => by
    subst e
    obtain ⟨xs, h1, h2⟩ := h.ldm m
    obtain ⟨d, hd, hm⟩ := h2.get (y xs (sql_of h1))
    exact Gv.go hm h ((q d hd).mono fun v M g hM => g _ hM)
  st := fun H h => by
    obtain ⟨xs, h1, h2⟩ := h.ldm m
    exact ⟨xs, sql_of h1, by rw [h2.length]; exact Nat.le_refl _⟩
theorem Wk.mono {J : It} {Y Y' : Nat → (V → List (As K) → Prop) → Prop} (w : Wk J L n Y) (k : ∀ i q, i < n → Y' i q → Y i q) : Wk J L n Y' := ⟨w.go, fun i H x H' R hi h y q => w.yl i H x H' R hi h y (k i _ hi q), w.st⟩
theorem wk_ldm {α : Type} {zs : List α} {f : α → PyData} (m : ld a (zs.map f) ∈ L) : Wk (Itl K a) L zs.length fun i q => ∀ z, zs[i]? = some z → Gv (f z) q := by
  have w := wk_ld m
  rw [List.length_map] at w
  refine w.mono fun i q hi k d hd => ?_
  rw [List.getElem?_map] at hd
  obtain ⟨z, hz, rfl⟩ := Option.map_eq_some_iff.mp hd
  exact k z hz
theorem wk_ob (m : ob a (.lst xs) ∈ L) : Wk (Itl K a) L xs.length fun i q => ∀ v, xs[i]? = some v → q v [] where
  go := fun i H hi h => ⟨xs, xs[i], sql_of (h.obm m), List.getElem?_eq_getElem hi⟩
  yl := fun i H x H' R hi h ⟨e, y⟩ q => by
    subst e
    exact q x (y xs (sql_of (h.obm m))) _ h
  st := fun H h => ⟨xs, sql_of (h.obm m), Nat.le_refl _⟩
theorem wk_sql (m : ∀ H, Sep L H → SqL K H a xs) : Wk (Itl K a) L xs.length fun i q => ∀ v, xs[i]? = some v → q v [] where
  go := fun i H hi h => ⟨xs, xs[i], m _ h, List.getElem?_eq_getElem hi⟩
  yl := fun i H x H' R hi h ⟨e, y⟩ q => by
    subst e
    exact q x (y xs (m _ h)) _ h
  st := fun H h => ⟨xs, m _ h, Nat.le_refl _⟩
theorem wk_tu (m : tu a xs ∈ L) : Wk (Itt K a) L xs.length fun i q => ∀ v, xs[i]? = some v → q v [] where
  go := fun i H hi h => ⟨xs, xs[i], h.tum m, List.getElem?_eq_getElem hi⟩
  yl := fun i H x H' R hi h ⟨e, y⟩ q => by
    subst e
    exact q x (y xs (h.tum m)) _ h
  st := fun H h => ⟨xs, h.tum m, Nat.le_refl _⟩
theorem wk_im (m : im (.ref a) (.tuple ds) ∈ L) : Wk (Itt K a) L ds.length fun i q => ∀ d, ds[i]? = some d → Gv d q where
  go := fun i H hi h => by
    obtain ⟨a', xs, e, h1, h2⟩ := im_tup (h.imm m)
    cases e
    have hx : i < xs.length := by rw [h2.length]; exact hi
    exact ⟨xs, xs[i], h1, List.getElem?_eq_getElem hx⟩
  yl := fun i H x H' R hi h ⟨e, y⟩ q => by
    subst e
    obtain ⟨a', xs, e, h1, h2⟩ := im_tup (h.imm m)
    cases e
    obtain ⟨d, hd, hm⟩ := h2.get (y xs h1)
    exact Gv.go hm h ((q d hd).mono fun v M g hM => g _ hM)
  st := fun H h => by
    obtain ⟨a', xs, e, h1, h2⟩ := im_tup (h.imm m)
    cases e
    exact ⟨xs, h1, by rw [h2.length]; exact Nat.le_refl _⟩
theorem wk_imm {α : Type} {zs : List α} {f : α → PyData} (m : im (.ref a) (.tuple (zs.map f)) ∈ L) : Wk (Itt K a) L zs.length fun i q => ∀ z, zs[i]? = some z → Gv (f z) q := by
  have w := wk_im m
  rw [List.length_map] at w
  refine w.mono fun i q hi k d hd => ?_
  rw [List.getElem?_map] at hd
  obtain ⟨z, hz, rfl⟩ := Option.map_eq_some_iff.mp hd
  exact k z hz
theorem wk_rng {lo : Int} : Wk (Itr lo n) L n fun i q => q (.int (lo + i)) [] where
  go := fun i H hi h => hi
  yl := fun i H x H' R hi h ⟨e, y⟩ q => by
    subst e y
    exact q _ h
  st := fun H h => Nat.le_refl _
def Nx (Iv : Nat → L2.St → List (As K) → Prop) (i : Nat) : L2.St → Hp → Prop := fun σ H => ∃ L, Iv i σ L ∧ Sep L H
theorem for_wk {J : It} {Y : Nat → (V → List (As K) → Prop) → Prop} {g : TG} {tb : TS} {D : Ends} (Iv : Nat → L2.St → List (As K) → Prop) (hw : ∀ i σ L, Iv i σ L → Wk J L n Y) (h : Sep L H) (h0 : Iv 0 σ L)
    (hs : ∀ i σ L, i < n → Iv i σ L → Y i fun v M => ∀ H, Sep (M ++ L) H → g v σ H fun σ2 H2 => tb { D with nx := Nx Iv (i + 1), ct := Nx Iv (i + 1), bk := D.nx } σ2 H2) (hd : ∀ σ L H, Iv n σ L → Sep L H → D.nx σ H) :
    ∃ W : Nat → Nat → L2.St → Hp → Prop, (∃ m, W 0 m σ H) ∧ ∀ i m σ H, W i m σ H →
      (J.stop i H ∧ D.nx σ H) ∨ (J.go i H ∧ ∃ N : L2.St → Hp → Prop, (∀ σ' H', N σ' H' → ∃ m', m' < m ∧ W (i + 1) m' σ' H') ∧ ∀ x H', J.yld i H x H' → g x σ H' fun σ2 H2 => tb { D with nx := N, ct := N, bk := D.nx } σ2 H2) := by
  refine ⟨fun i m σ H => m = n - i ∧ i ≤ n ∧ Nx Iv i σ H, ⟨n, by simp, Nat.zero_le _, L, h0, h⟩, ?_⟩
  rintro i m σ H ⟨rfl, hi, L, iv, h⟩
  by_cases hlt : i < n
  · refine .inr ⟨(hw i σ L iv).go i H hlt h, Nx Iv (i + 1), fun σ' H' p => ⟨n - (i + 1), by omega, rfl, hlt, p⟩, fun x H' y => ?_⟩
    exact (hw i σ L iv).yl i H x H' (fun v H2 => g v σ H2 fun σ2 H2 => tb { D with nx := Nx Iv (i + 1), ct := Nx Iv (i + 1), bk := D.nx } σ2 H2) hlt h y (hs i σ L hlt iv)
  · have e : i = n := by omega
    subst e
    exact .inl ⟨(hw i σ L iv).st H h, hd σ L H iv h⟩
def Lx (D : Addr) (Iv : Nat → List PyData → List (As K) → Prop) (i : Nat) : Hp → Prop := fun H => ∃ acc L, Iv i acc L ∧ Sep (ld D acc :: L) H
theorem lc_wk {J : It} {Y : Nat → (V → List (As K) → Prop) → Prop} {g : TG} {tt : TT} {te : TE} {ws : List Nat} {D : Addr} {Qd : Hp → Prop} (Iv : Nat → List PyData → List (As K) → Prop) (hw : ∀ i acc L, Iv i acc L → Wk J (ld D acc :: L) n Y) (h : Sep (ld D [] :: L) H) (h0 : Iv 0 [] L)
    (hs : ∀ i acc L, i < n → Iv i acc L → Y i fun v M => ∀ H, Sep (M ++ ld D acc :: L) H → g v (wipe σ ws) H fun σ2 H2 => wipe σ2 ws = wipe σ ws ∧ tt σ2 H2 fun b H3 =>
      if b = true then te σ2 H3 fun y H4 => ∃ zs, H4 D = some (.lst zs) ∧ zs.length < sizeLine ∧ Lx D Iv (i + 1) (upd H4 D (.lst (zs ++ [y]))) else Lx D Iv (i + 1) H3)
    (hd : ∀ acc L H, Iv n acc L → Sep (ld D acc :: L) H → Qd H) :
    ∃ W : Nat → Nat → Hp → Prop, (∃ m, W 0 m H) ∧ ∀ i m H, W i m H →
      (J.stop i H ∧ Qd H) ∨ (J.go i H ∧ ∃ Nx : Hp → Prop, (∀ H', Nx H' → ∃ m', m' < m ∧ W (i + 1) m' H') ∧ ∀ x H', J.yld i H x H' → g x (wipe σ ws) H' fun σ2 H2 => wipe σ2 ws = wipe σ ws ∧ tt σ2 H2 fun b H3 =>
        if b = true then te σ2 H3 fun y H4 => ∃ acc, H4 D = some (.lst acc) ∧ acc.length < sizeLine ∧ Nx (upd H4 D (.lst (acc ++ [y]))) else Nx H3) := by
  refine ⟨fun i m H => m = n - i ∧ i ≤ n ∧ Lx D Iv i H, ⟨n, by simp, Nat.zero_le _, [], L, h0, h⟩, ?_⟩
  rintro i m H ⟨rfl, hi, acc, L, iv, h⟩
  by_cases hlt : i < n
  · refine .inr ⟨(hw i acc L iv).go i H hlt h, Lx D Iv (i + 1), fun H' p => ⟨n - (i + 1), by omega, rfl, hlt, p⟩, fun x H' y => ?_⟩
    exact (hw i acc L iv).yl i H x H' (fun v H2 => g v (wipe σ ws) H2 fun σ2 H2 => wipe σ2 ws = wipe σ ws ∧ tt σ2 H2 fun b H3 =>
        if b = true then te σ2 H3 fun y H4 => ∃ zs, H4 D = some (.lst zs) ∧ zs.length < sizeLine ∧ Lx D Iv (i + 1) (upd H4 D (.lst (zs ++ [y]))) else Lx D Iv (i + 1) H3) hlt h y (hs i acc L hlt iv)
  · have e : i = n := by omega
    subst e
    exact .inl ⟨(hw i acc L iv).st H h, hd acc L H iv h⟩
/-- a turn's end: the element is kept -/
theorem lc_keep {D : Addr} {Iv : Nat → List PyData → List (As K) → Prop} {i : Nat} {acc : List PyData} (h : Sep N H) (t : Dat N y d) (s : Sub N (ld D acc :: L)) (hl : acc.length < sizeLine) (iv : Iv i (acc ++ [d]) L) : ∃ zs, H D = some (.lst zs) ∧ zs.length < sizeLine ∧ Lx D Iv i (upd H D (.lst (zs ++ [y]))) := by
  have g := s.ok h
  obtain ⟨zs, h1, h2⟩ := g.ldm List.mem_cons_self
  exact ⟨zs, h1, by rw [h2.length]; exact hl, _, _, iv, g.setD (h2.snoc (t.is h))⟩
theorem lc_skip {D : Addr} {Iv : Nat → List PyData → List (As K) → Prop} {i : Nat} {acc : List PyData} (h : Sep N H) (s : Sub N (ld D acc :: L)) (iv : Iv i acc L) : Lx D Iv i H := ⟨_, _, iv, s.ok h⟩
/-- [r z for z in ..], what stands beside unchanged -/
def Fl {α : Type} (zs : List α) (r : α → List PyData) (L : List (As K)) : Nat → List PyData → List (As K) → Prop := fun i acc L' => L' = L ∧ acc = (zs.take i).flatMap r
theorem flat_len {α : Type} (r : α → List PyData) (hr : ∀ z, (r z).length ≤ 1) : ∀ zs : List α, (zs.flatMap r).length ≤ zs.length
  | [] => Nat.le_refl _
  | z :: zs => by
    have := flat_len r hr zs
    have := hr z
    rw [List.flatMap_cons, List.length_append, List.length_cons]
    omega
theorem lc_flat {α : Type} {J : It} {zs : List α} {Z : α → (V → List (As K) → Prop) → Prop} {g : TG} {tt : TT} {te : TE} {ws : List Nat} {D : Addr} {Qd : Hp → Prop} (r : α → List PyData)
    (h : Sep (ld D [] :: L) H) (hw : ∀ acc, Wk J (ld D acc :: L) zs.length fun i q => ∀ z, zs[i]? = some z → Z z q)
    (hs : ∀ i z acc, zs[i]? = some z → (∀ d, r z = [d] → Fl zs r L (i + 1) (acc ++ [d]) L) → (r z = [] → Fl zs r L (i + 1) acc L) → acc.length ≤ i → Z z fun v M => ∀ H, Sep (M ++ ld D acc :: L) H → g v (wipe σ ws) H fun σ2 H2 => wipe σ2 ws = wipe σ ws ∧ tt σ2 H2 fun b H3 =>
      if b = true then te σ2 H3 fun y H4 => ∃ xs, H4 D = some (.lst xs) ∧ xs.length < sizeLine ∧ Lx D (Fl zs r L) (i + 1) (upd H4 D (.lst (xs ++ [y]))) else Lx D (Fl zs r L) (i + 1) H3)
    (hd : ∀ H, Sep (ld D (zs.flatMap r) :: L) H → Qd H) (hr : ∀ z, (r z).length ≤ 1 := by intro _; first | exact Nat.le_refl _ | (split <;> decide)) :
    ∃ W : Nat → Nat → Hp → Prop, (∃ m, W 0 m H) ∧ ∀ i m H, W i m H →
      (J.stop i H ∧ Qd H) ∨ (J.go i H ∧ ∃ Nx : Hp → Prop, (∀ H', Nx H' → ∃ m', m' < m ∧ W (i + 1) m' H') ∧ ∀ x H', J.yld i H x H' → g x (wipe σ ws) H' fun σ2 H2 => wipe σ2 ws = wipe σ ws ∧ tt σ2 H2 fun b H3 =>
        if b = true then te σ2 H3 fun y H4 => ∃ acc, H4 D = some (.lst acc) ∧ acc.length < sizeLine ∧ Nx (upd H4 D (.lst (acc ++ [y]))) else Nx H3) := by
  refine lc_wk (n := zs.length) (Y := fun i q => ∀ z, zs[i]? = some z → Z z q) (Fl zs r L) (fun i acc L' e => e.1 ▸ hw acc) h ⟨rfl, rfl⟩ (fun i acc L' hi e z hz => ?_) (fun acc L' H e h => ?_)
  · obtain ⟨rfl, rfl⟩ := e
    have e1 : zs.take (i + 1) = zs.take i ++ [z] := by rw [List.take_add_one, hz]; rfl
    refine hs i z _ hz (fun d hd => ⟨rfl, ?_⟩) (fun hd => ⟨rfl, ?_⟩) ?_
    · rw [e1, List.flatMap_append, List.flatMap_cons, hd]; rfl
    · rw [e1, List.flatMap_append, List.flatMap_cons, hd, List.flatMap_nil, List.append_nil, List.append_nil]
    · have := flat_len r hr (zs.take i)
      rw [List.length_take] at this
      omega
  · obtain ⟨rfl, rfl⟩ := e
    rw [List.take_length] at h
    exact hd H h
theorem flat_map {α : Type} (f : α → PyData) : ∀ zs : List α, zs.flatMap (fun z => [f z]) = zs.map f
  | [] => rfl
  | z :: zs => by rw [List.flatMap_cons, List.map_cons, flat_map f zs]; rfl
theorem flat_filter {α : Type} (p : α → Bool) (f : α → PyData) : ∀ zs : List α, zs.flatMap (fun z => if p z = true then [f z] else []) = (zs.filter p).map f
  | [] => rfl
  | z :: zs => by
    rw [List.flatMap_cons, flat_filter p f zs]
    cases e : p z with
    | true => rw [if_pos rfl, List.filter_cons_of_pos e, List.map_cons]; rfl
    | false => rw [if_neg Bool.false_ne_true, List.filter_cons_of_neg (by rw [e]; exact Bool.false_ne_true)]; rfl
theorem wk_range {lo : Int} : Wk (Itr lo n) L (List.range n).length fun i q => ∀ z, (List.range n)[i]? = some z → (fun z q => q (V.int (lo + (z : Nat))) ([] : List (As K))) z q := by
  have w := wk_rng (K := K) (L := L) (n := n) (lo := lo)
  rw [List.length_range]
  refine w.mono fun i q hi k => k i ?_
  rw [List.getElem?_range hi]
/-! lists of bools, ints -/
theorem ims_bl {bs : List Bool} (h : ImAll K H xs (bs.map PyData.bool)) : xs = bs.map V.bl := by
  induction bs generalizing xs with
  | nil => cases h; rfl
  | cons b bs ih =>
    cases h with
    | cons a r => cases im_bl a; rw [ih r]; rfl
theorem ims_int {ns : List Int} (h : ImAll K H xs (ns.map PyData.int)) : xs = ns.map V.int := by
  induction ns generalizing xs with
  | nil => cases h; rfl
  | cons b bs ih =>
    cases h with
    | cons a r => cases im_int a; rw [ih r]; rfl
theorem ims_str {ns : List Str} (h : ImAll K H xs (ns.map PyData.str)) : xs = ns.map V.str := by
  induction ns generalizing xs with
  | nil => cases h; rfl
  | cons b bs ih =>
    cases h with
    | cons a r => cases im_str a; rw [ih r]; rfl
theorem Sep.sqi {ns : List Int} (h : Sep L H) (m : ld a (ns.map PyData.int) ∈ L) : SqL K H a (ns.map V.int) := by
  obtain ⟨xs, h1, h2⟩ := h.ldm m
  cases ims_int h2
  exact sql_of h1
theorem k_allS {α : Type} {zs : List α} {f : α → Bool} (h : Sep L H) (m : ld a (zs.map fun z => PyData.bool (f z)) ∈ L) (q : Q (.bl (zs.all f)) H) : rAll K [.ref a] H Q := by
  obtain ⟨xs, h1, h2⟩ := h.ldm m
  have e : (zs.map fun z => PyData.bool (f z)) = (zs.map f).map PyData.bool := by rw [List.map_map]; rfl
  rw [e] at h2
  cases ims_bl h2
  refine k_all (sql_of h1) ?_
  have e2 : ((zs.map f).all id) = zs.all f := by rw [List.all_map]; rfl
  rw [e2]
  exact q
theorem k_anyS {α : Type} {zs : List α} {f : α → Bool} (h : Sep L H) (m : ld a (zs.map fun z => PyData.bool (f z)) ∈ L) (q : Q (.bl (zs.any f)) H) : rAny K [.ref a] H Q := by
  obtain ⟨xs, h1, h2⟩ := h.ldm m
  have e : (zs.map fun z => PyData.bool (f z)) = (zs.map f).map PyData.bool := by rw [List.map_map]; rfl
  rw [e] at h2
  cases ims_bl h2
  refine k_any (sql_of h1) ?_
  have e2 : ((zs.map f).any id) = zs.any f := by rw [List.any_map]; rfl
  rw [e2]
  exact q
end
end Ls
-- own part: S4
namespace Ls
open PySem PySem.Spec PyProof.Rows L2
section
variable {K : PySem.W.Frag} {A B : As K} {L L' M N : List (As K)} {H H' : Hp} {a p l d c : Addr} {o u : HO} {v x y : V} {e : PyData} {vs xs ys : List V} {ds es : List PyData} {Q : VK} {E : XK} {σ : L2.St} {i j : Int} {n : Nat} {b : Bool}
/-- the draws' dict, whatever its state -/
def dr (d : Addr) : As K := ⟨fun _ s H => ∃ c, (∀ b, s b ↔ b = d ∨ b = c) ∧ Draw K H d c, fun ⟨c, e, n, r, s, ns, h1, h2, h3⟩ k _ => ⟨c, e, n, r, s, ns, (k d ((e d).mpr (.inl rfl))).trans h1, (k c ((e c).mpr (.inr rfl))).trans h2, h3⟩, fun ⟨c, e, n, r, s, ns, h1, h2, h3⟩ b z => by
  rcases (e b).mp z with rfl | rfl
  · exact ⟨_, h1, rfl⟩
  · exact ⟨_, h2, rfl⟩, fun h _ => h⟩
theorem Sep.draw (h : Sep L H) (m : dr d ∈ L) : ∃ c, Draw K H d c ∧ ∀ H', Keep d H H' → Draw K H' d c → Sep L H' := by
  obtain ⟨W, s, r, ⟨c, e, D⟩, dj, al, k⟩ := h.at m
  refine ⟨c, D, fun H' kp D' => k ⟨c, e, D'⟩ dj (fun a z => ?_) ⟨D.tp kp, fun a f e2 => kp a _ (D.ne e2 (by intro kvs z; cases z)) e2⟩⟩
  obtain ⟨o, ho, _⟩ := al a z
  rw [ho]
  exact kp a o (fun y => dj a ((e a).mpr (.inl y)) z) ho
theorem Sep.drawNew (h : Sep L H) (hd : H d = none) (hc : H c = none) (s : Same H H') (D : Draw K H' d c) : Sep (dr d :: L) H' := by
  obtain ⟨W, q0, f, z0⟩ := h
  have free : ∀ b, H b = none → ¬ q0 b := fun b hb y => by
    obtain ⟨o, ho, _⟩ := z0.al b y
    rw [hb] at ho
    cases ho
  have fw : ∀ b o, W b o → H b ≠ none := fun b o y e => by
    rw [(f b o y).1] at e
    cases e
  refine ⟨W, fun b => (b = d ∨ b = c) ∨ q0 b, fun b o y => ⟨s _ _ (f b o y).1, (f b o y).2.1, fun z => ?_⟩, fun b => b = d ∨ b = c, q0, fun b x y => ?_, fun b => Iff.rfl, ⟨c, fun b => Iff.rfl, D⟩, z0.st (fun a y => ?_) (Tq.same s)⟩
  · rcases z with (rfl | rfl) | z
    · exact fw _ _ y hd
    · exact fw _ _ y hc
    · exact (f b o y).2.2 z
  · rcases x with rfl | rfl
    · exact free _ hd y
    · exact free _ hc y
  · obtain ⟨o, ho, _⟩ := z0.al a y
    rw [s _ _ ho, ho]
theorem use_pickS {many : Int} (h : Sep L H) (m : dr d ∈ L) (h1 : 0 < many) (h2 : many < 2 ^ 200) (q : ∀ r H', Sep L H' → 0 ≤ r → r < many → Q (.int r) H') : spPick K ([.ref d, .int many] ++ []) H Q E := by
  obtain ⟨c, D, k⟩ := h.draw m
  exact use_pick D h1 h2 fun r H' k1 D1 r0 r1 => q r H' (k H' k1 D1) r0 r1
theorem use_beginS {ns : List Int} (h : Sep L H) (hs : SqL K H a (ns.map V.int)) (hl : ns.length ≤ 63) (q : ∀ d H', Sep (dr d :: L) H' → Q (.ref d) H') : spBegin K ([.ref a] ++ []) H Q E :=
  ⟨a, ns, rfl, hs, hl, fun d c H' hd hc s D => q d H' (h.drawNew hd hc s D)⟩
theorem use_ofV (h : Sep L H) (m : dr d ∈ L) (hl : SqL K H l xs) (h1 : 0 < xs.length) (h2 : xs.length < 2 ^ 100) (q : ∀ x H', x ∈ xs → Sep L H' → Q x H') : spOf K ([.ref d, .ref l] ++ []) H Q E := by
  obtain ⟨c, D, k⟩ := h.draw m
  exact use_of D hl h1 h2 fun x H' k1 D1 hx => q x H' hx (k H' k1 D1)
theorem use_ofO (h : Sep L H) (m : dr d ∈ L) (m2 : ob l (.lst xs) ∈ L) (h1 : 0 < xs.length) (h2 : xs.length < 2 ^ 100) (q : ∀ x H', x ∈ xs → Sep L H' → Q x H') : spOf K ([.ref d, .ref l] ++ []) H Q E :=
  use_ofV h m (sql_of (h.obm m2)) h1 h2 q
theorem use_ofD (h : Sep L H) (m : dr d ∈ L) (m2 : ld l ds ∈ L) (h1 : 0 < ds.length) (h2 : ds.length < 2 ^ 100) (q : ∀ e x H', e ∈ ds → Sep (im x e :: L) H' → Q x H') : spOf K ([.ref d, .ref l] ++ []) H Q E := by
  obtain ⟨xs, g1, g2⟩ := h.ldm m2
  have hl := g2.length
  obtain ⟨c, D, k⟩ := h.draw m
  refine use_of D (sql_of g1) (by omega) (by omega) fun x H' k1 D1 hx => ?_
  obtain ⟨i, hi⟩ := List.getElem?_of_mem hx
  obtain ⟨e, he, hm⟩ := g2.get hi
  exact q e x H' (List.mem_of_getElem? he) (Sep.im_iff.mpr ⟨hm.mono (D.tp k1), k H' k1 D1⟩)
def isI : PyData → Bool
  | .int _ => true
  | _ => false
def isS : PyData → Bool
  | .str _ => true
  | _ => false
theorem use_ofI (h : Sep L H) (m : dr d ∈ L) (m2 : ld l ds ∈ L) (hi : ds.all isI = true) (h1 : 0 < ds.length) (h2 : ds.length < 2 ^ 100) (q : ∀ n H', PyData.int n ∈ ds → Sep L H' → Q (.int n) H') : spOf K ([.ref d, .ref l] ++ []) H Q E := by
  refine use_ofD h m m2 h1 h2 fun e x H' he h' => ?_
  obtain ⟨a, h'⟩ := Sep.im_iff.mp h'
  have z := List.all_eq_true.mp hi e he
  cases e with
  | int n => cases im_int a; exact q n H' he h'.tail
  | _ => cases z
theorem use_ofS (h : Sep L H) (m : dr d ∈ L) (m2 : ld l ds ∈ L) (hi : ds.all isS = true) (h1 : 0 < ds.length) (h2 : ds.length < 2 ^ 100) (q : ∀ n H', PyData.str n ∈ ds → Sep L H' → Q (.str n) H') : spOf K ([.ref d, .ref l] ++ []) H Q E := by
  refine use_ofD h m m2 h1 h2 fun e x H' he h' => ?_
  obtain ⟨a, h'⟩ := Sep.im_iff.mp h'
  have z := List.all_eq_true.mp hi e he
  cases e with
  | str n => cases im_str a; exact q n H' he h'.tail
  | _ => cases z
/-! steps told by what stands: new objects -/
theorem al_I (h : Sep L H) (hp : H p = none) (e : upd H p (.tup xs) = H') (t : DatAll L xs ds) : Sep (im (.ref p) (.tuple ds) :: L) H' := e ▸ h.newI hp t
theorem al_T (h : Sep L H) (hp : H p = none) (e : upd H p (.tup xs) = H') : Sep (tu p xs :: L) H' := e ▸ h.newT hp
theorem al_L (h : Sep L H) (hp : H p = none) (e : upd H p (.lst xs) = H') (t : DatAll L xs ds) : Sep (ld p ds :: L) H' := e ▸ h.newD hp t
theorem al_O (h : Sep L H) (hp : H p = none) (e : upd H p o = H') (n : Nt o = true) : Sep (ob p o :: L) H' := e ▸ h.new hp n
theorem k_cutS {t u : TS} {D : Ends} (Iv : L2.St → List (As K) → Prop) (h1 : t { D with nx := fun σ H => ∃ L, Iv σ L ∧ Sep L H } σ H) (h2 : ∀ σ' L H', Iv σ' L → Sep L H' → u D σ' H') : tCut t u D σ H :=
  k_cut (fun σ H => ∃ L, Iv σ L ∧ Sep L H) h1 fun σ' H' ⟨L, iv, h⟩ => h2 σ' L H' iv h
theorem k_joinS {te : TE} (Iv : V → List (As K) → Prop) (h : te σ H fun v H => ∃ L, Iv v L ∧ Sep L H) (k : ∀ v L H', Iv v L → Sep L H' → Q v H') : tJ te σ H Q :=
  k_join (fun v H => ∃ L, Iv v L ∧ Sep L H) h fun v H' ⟨L, iv, h⟩ => k v L H' iv h
/-! texts -/
theorem Sep.atom_int {n : Int} : Sep (im v (.int n) :: L) H ↔ v = .int n ∧ Sep L H := by
  rw [Sep.im_iff]
  exact ⟨fun ⟨a, b⟩ => ⟨im_int a, b⟩, fun ⟨a, b⟩ => ⟨a ▸ .int n, b⟩⟩
theorem Sep.atom_str {n : Str} : Sep (im v (.str n) :: L) H ↔ v = .str n ∧ Sep L H := by
  rw [Sep.im_iff]
  exact ⟨fun ⟨a, b⟩ => ⟨im_str a, b⟩, fun ⟨a, b⟩ => ⟨a ▸ .str n, b⟩⟩
end
end Ls
namespace Ls
open PySem PySem.Spec PyProof.Rows L2
section
variable {K : PySem.W.Frag} {L : List (As K)} {H : Hp} {a : Addr} {xs : List V} {ds : List PyData} {R : Addr → Prop}
theorem k_itlD (h : Sep L H) (m : ld a ds ∈ L) (q : R a) : ∃ b, V.ref a = .ref b ∧ (∃ xs, SqL K H b xs) ∧ R b := by
  obtain ⟨xs, h1, _⟩ := h.ldm m
  exact ⟨a, rfl, ⟨xs, sql_of h1⟩, q⟩
theorem k_itlO (h : Sep L H) (m : ob a (.lst xs) ∈ L) (q : R a) : ∃ b, V.ref a = .ref b ∧ (∃ xs, SqL K H b xs) ∧ R b := ⟨a, rfl, ⟨xs, sql_of (h.obm m)⟩, q⟩
theorem k_ittI (h : Sep L H) (m : im (.ref a) (.tuple ds) ∈ L) (q : R a) : ∃ b, V.ref a = .ref b ∧ (∃ xs, SqT K H b xs) ∧ R b := by
  obtain ⟨a', xs, e, h1, h2⟩ := im_tup (h.imm m)
  cases e
  exact ⟨a, rfl, ⟨xs, h1⟩, q⟩
end
end Ls
-- own part: U13
namespace Ls
open PySem PySem.Spec PyProof.Rows L2
/-! ### o.f as a target -/
def gFld (K : PySem.W.Frag) (to : TE) (f : Str) : TG := fun v σ H R => to σ H fun x H2 => ∃ a C dx fs, x = .ref a ∧ H2 a = some (.ins C dx fs) ∧ Cls K C ∧ NoAttr K C f ∧ fs.length < 1000 ∧ R σ (upd H2 a (.ins C dx (putF f v fs)))
theorem pg_fld {X : Cx} {o : Expr} {f : Str} {pos : Pos} {to : TE} (K : PySem.W.Frag) (hK : X.K = K) (ho : PE X o to)
    (ha : ∀ u, assign (.Attribute o f pos) X.env u = (do
      let ov ← holding [u] (eval o X.env)
      standAt pos.atName
      holding [u, ov] (setAttr ov f u)
      release [u, ov] []) := by intro _; rfl) : PG X (.Attribute o f pos) (gFld K to f) := by
  subst hK
  refine ⟨fun pins s σ H v u Q I r h => ?_⟩
  rw [ha]
  refine wpAny_bind (wpAny_holding (thn (ho.run pins s σ H _ I h) fun ov s1 ⟨x, H1, I1, r1, a, C, dx, fs, ex, ea, c, n, hl, q⟩ => ?_))
  subst ex
  obtain rfl : ov = Value.ref a := r1
  exact wpAny_bind (wpAny_standAt (wpAny_bind (wpAny_holding (setattr_ok I1 ea c n hl r fun s3 I3 => wpAny_release ⟨σ, _, I3, q⟩))))
/-! ### o.m(e, .., k = v, ..) -/
def tMethN (C : Addr) (m : Str) (n j : Nat) (sp : Sp) (gV : List V → List V → List V) (E : XK) (ta : TE) (t tk : TA) : TE := fun σ H Q => ta σ H fun x H1 => ∃ a dx fs, x = .ref a ∧ H1 a = some (.ins C dx fs) ∧ fs.lookup m = none ∧
  t σ H1 fun vs H2 => tk σ H2 fun zs H3 => vs.length + 1 = n ∧ zs.length = j ∧ sp (gV (.ref a :: vs) zs) H3 Q E
section
variable {X : Cx} {CX : CXT} {k n : Nat} {f C : Addr} {fd : FuncData} {ps ks : List Str} {sp : Sp} {g : List Value → List Value → List Value} {gV : List V → List V → List V} {E : XK} {m : Str} {pos apos : Pos} {e o : Expr} {es : List Expr} {kws : List Keyword} {ta : TE} {t tk : TA}
theorem pe_methN {pl : Sem Bool} (he : PE X o ta) (c : Cls X.K C) (hm : Meth X.K C m f) (F : FnOk X.prog X.w X.K X.mg X.base CX k f fd ps sp) (hr : Room k X.A) (hb : KBn X.K fd ps n ks g gV) (hx : Passes CX X E) (ha : PA X (e :: es) t) (hkw : PK X kws tk)
    (hall : (backToKw pos (keywordEach kws X.env)).all (·.1.isSome) = true := by rfl) (hks : (backToKw pos (keywordEach kws X.env)).filterMap (·.1) = ks := by rfl)
    (hst : starEach (e :: es) X.env = (false, eval e X.env) :: starEach es X.env := by rfl) (hpl : ((backTo pos (starEach (e :: es) X.env)).any (·.1) || (backToKw pos (keywordEach kws X.env)).any (·.1.isNone)) = false := by rfl)
    (ht : eval (.Call (.Attribute o m apos) (e :: es) kws pos) X.env = (do
      let ov ← eval o X.env
      standAt apos.atName
      let (f, first) ← holding [ov] (getMethod ov m pl)
      callWith pos f first (backTo pos (starEach (e :: es) X.env)) (backToKw pos (keywordEach kws X.env))) := by rfl) :
    PE X (.Call (.Attribute o m apos) (e :: es) kws pos) (tMethN C m n ks.length sp gV E ta t tk) := by
  refine ⟨fun pins s σ H Q I h => ?_⟩
  refine PySem.W.methodCall_KW (pl := pl) (thn (he.run pins s σ H _ I h) fun u s1 ⟨x, H1, I1, rx, a, dx, fs, ex, ea, l, q⟩ => ?_) ht
  subst ex
  obtain rfl : u = Value.ref a := rx
  refine getmeth_ok I1 ea c hm l ?_
  refine PySem.W.callWith_KW (first := [.ref a]) (h₀ := X.base) I.ok.mod.kin hm.kp hall (thn (ha.run pos pins s1 σ H1 _ I1 q) fun us s2 ⟨vs, H2, I2, r, q2⟩ => ?_) hpl hst
  refine thn (hkw.run pos pins s2 σ H2 _ I2 q2) fun ws s3 ⟨zs, H3, I3, rz, l1, l2, q3⟩ => ⟨I3.kIn, ?_⟩
  rw [hks]
  exact run_fnN (us := .ref a :: us) (vs := .ref a :: vs) F hr hb hx I3 (.cons rfl r) rz l1 l2 q3
/-- no argument but keywords -/
theorem pe_methN0 {pl : Sem Bool} (he : PE X o ta) (c : Cls X.K C) (hm : Meth X.K C m f) (F : FnOk X.prog X.w X.K X.mg X.base CX k f fd ps sp) (hr : Room k X.A) (hb : KBn X.K fd ps n ks g gV) (hx : Passes CX X E) (hkw : PK X kws tk)
    (hall : (backToKw pos (keywordEach kws X.env)).all (·.1.isSome) = true := by rfl) (hks : (backToKw pos (keywordEach kws X.env)).filterMap (·.1) = ks := by rfl)
    (hpl : ((backTo pos (starEach [] X.env)).any (·.1) || (backToKw pos (keywordEach kws X.env)).any (·.1.isNone)) = false := by rfl)
    (ht : eval (.Call (.Attribute o m apos) [] kws pos) X.env = (do
      let ov ← eval o X.env
      standAt apos.atName
      let (f, first) ← holding [ov] (getMethod ov m pl)
      callWith pos f first (backTo pos (starEach [] X.env)) (backToKw pos (keywordEach kws X.env))) := by rfl) :
    PE X (.Call (.Attribute o m apos) [] kws pos) (tMethN C m n ks.length sp gV E ta tNil tk) := by
  refine ⟨fun pins s σ H Q I h => ?_⟩
  refine PySem.W.methodCall_KW (pl := pl) (thn (he.run pins s σ H _ I h) fun u s1 ⟨x, H1, I1, rx, a, dx, fs, ex, ea, l, q⟩ => ?_) ht
  subst ex
  obtain rfl : u = Value.ref a := rx
  refine getmeth_ok I1 ea c hm l ?_
  refine PySem.W.callWith_KW0 (first := [.ref a]) (h₀ := X.base) I.ok.mod.kin hm.kp hall ?_ hpl
  refine thn (hkw.run pos pins s1 σ H1 _ I1 q) fun ws s3 ⟨zs, H3, I3, rz, l1, l2, q3⟩ => ⟨I3.kIn, ?_⟩
  rw [hks]
  exact run_fnN (us := [.ref a]) (vs := [.ref a]) F hr hb hx I3 (.cons rfl .nil) rz l1 l2 q3
end
/-! ### enumerate(tuple) -/
theorem enum_newT (l : Addr) (its : Array Value) (n : Nat) (od : Option Addr) (sl : Array (Option Value)) :
    Meets (Builtin.«enumerate.__new__» ⟨[.type "enumerate", .ref l], []⟩) (fun _ R s => s.heap.get? l = some { cls := .type "tuple", dict := od, data := .seq its n, slots := sl } ∧
      R (.ok (.ret (.ref (s.heap.push { cls := .type "tuple_iterator", data := .fields #[.ref l, .int 0 0] }).objs.size)))
        { s with heap := (s.heap.push { cls := .type "tuple_iterator", data := .fields #[.ref l, .int 0 0] }).push { cls := .type "enumerate", data := .fields #[.none, .bool false, .ref s.heap.objs.size, rawInt 0, .none, .none] } }) :=
  .of_wp fun prog w A R s z => by
    obtain ⟨h0, gn, dw, tk, os⟩ := s; obtain ⟨hl, z⟩ := z
    have hsb := sub_enumerate
    have hT : Heap.IsTuple (Shared.heap ⟨h0, gn, dw, tk, os⟩) l its := ⟨_, hl, rfl, n, rfl⟩
    wp_walk using AutoSeq1.wpAny_loadPart' hl
    refine wpAny_stack_any fun stk => wpAny_pure ?_
    split
    · rename_i c _ _ _ _ _
      cases (c == Value.type "enumerate")
      · wp_walk using AutoSeq1.wpAny_loadPart' hl, wpAny_pyIter_tuple hT
        exact ⟨_, rfl, z⟩
      · wp_walk using AutoSeq1.wpAny_loadPart' hl, wpAny_pyIter_tuple hT
        exact ⟨_, rfl, z⟩
    · wp_walk using AutoSeq1.wpAny_loadPart' hl, wpAny_pyIter_tuple hT
      exact ⟨_, rfl, z⟩
section
variable {P : Program} {w : World} {A : Around} {E : Value → Shared → Prop} {s : Shared}
theorem call_enumT {l : Addr} {its : Array Value} {Q : Value → Shared → Prop} (hT : s.heap.IsTuple l its)
    (k : ∀ h2, IsEnum h2 (s.heap.objs.size + 1) s.heap.objs.size 0 .none → h2.IsTupleIter s.heap.objs.size l 0 → h2.objs.size = s.heap.objs.size + 2 →
      (∀ b o, s.heap.get? b = some o → h2.get? b = some o) → Q (.ref (s.heap.objs.size + 1)) { s with heap := h2 }) :
    wpAny (model P w) A (call (.type "enumerate") [.ref l]) Q E s := by
  obtain ⟨⟨oc, od, dt, sl⟩, hl, hc, n, hd⟩ := hT
  replace hc : oc = .type "tuple" := hc
  replace hd : dt = .seq its n := hd
  subst hc hd
  refine callType_new F.called_enumerate (by decide) (F.typeCall_enumerate_1 _) (F.newCall_enumerate_1 _) (fun ob => F.args_object_init_2 ob _) F.entry_enumerate_new (enum_newT l its n od sl) ⟨hl, ?_⟩
  have sz : (s.heap.push { cls := .type "tuple_iterator", data := .fields #[.ref l, .int 0 0] }).objs.size = s.heap.objs.size + 1 := Heap.size_push ..
  show _ ∧ _
  rw [sz]
  have en : IsEnum ((s.heap.push { cls := .type "tuple_iterator", data := .fields #[.ref l, .int 0 0] }).push
      { cls := .type "enumerate", data := .fields #[.none, .bool false, .ref s.heap.objs.size, rawInt 0, .none, .none] }) (s.heap.objs.size + 1) s.heap.objs.size 0 .none := by
    have z := Heap.get?_push_size (s.heap.push { cls := .type "tuple_iterator", data := .fields #[.ref l, .int 0 0] }) (o := { cls := .type "enumerate", data := .fields #[.none, .bool false, .ref s.heap.objs.size, rawInt 0, .none, .none] }) rfl
    rw [sz] at z
    exact z
  exact ⟨⟨_, en, rfl⟩, k _ en ⟨_, Heap.get?_push_of_some _ (Heap.get?_push_size _ rfl), rfl, rfl⟩ (by rw [Heap.size_push, sz]) fun b o x => Heap.get?_push_of_some _ (Heap.get?_push_of_some _ x)⟩
end
/-- the tuple at a, each item in a new pair -/
def IteT (K : PySem.W.Frag) (a : Addr) : It :=
  ⟨fun i H => ∃ (xs : List V) (x : V), SqT K H a xs ∧ xs[i]? = some x, fun i H v H' => ∃ T x, v = .ref T ∧ H T = none ∧ H' = upd H T (.tup [.int (i : Nat), x]) ∧ ∀ xs, SqT K H a xs → xs[i]? = some x, fun i H => ∃ xs : List V, SqT K H a xs ∧ xs.length ≤ i⟩
theorem turn_enumT {P : Program} {w : World} {K : PySem.W.Frag} {elts : List Expr} {kk : Nat} {tpos : Pos} (a e it : Addr) :
    Turn P w K (.Tuple elts kk tpos) (IteT K a) [e, it] e (fun i h => (∃ old, IsEnum h e it ((i : Nat) : Int) old) ∧ h.IsTupleIter it a i ∧ e ≠ it ∧ a ≠ it) where
  mem := List.mem_cons_self
  obj := fun i h st b hb => by
    obtain ⟨⟨old, hen⟩, ⟨o, ho, hc, hd⟩, _⟩ := st
    rcases List.mem_cons.mp hb with rfl | hb
    · exact ⟨_, hen, fun v q => nomatch q⟩
    · rw [List.mem_singleton.mp hb]; exact ⟨o, ho, fun v q => by rw [hd] at q; cases q⟩
  keep := fun i h h' st k => let ⟨⟨old, hen⟩, hi, hne, ha⟩ := st; ⟨⟨old, k e List.mem_cons_self _ hen⟩, hi.at fun o q => k it (List.mem_cons_of_mem _ List.mem_cons_self) o q, hne, ha⟩
  item := by
    intro X hP hw hK hc i pins s σ H E I hf st hg
    subst hP hw hK
    obtain ⟨⟨old, hen⟩, hit, hne, hat⟩ := st
    obtain ⟨xs, x, hq, hx⟩ := hg
    obtain ⟨its, rv, p, hz⟩ := I.tuple hq
    obtain ⟨u, hu, ru⟩ := rv.get hx
    have pT : s.heap.IsTuple a its.toArray := p
    have sze : e < s.heap.objs.size := Heap.lt_size hen
    have szi : it < s.heap.objs.size := by obtain ⟨_, q, _⟩ := hit; exact Heap.lt_size q
    have iL : i < its.length := (List.getElem?_eq_some_iff.mp hu).1
    refine wpAny_pyNext_enum_itemD (Draws.tuple (A := X.A.in1) (by exact I.ok.hd hc) it a hat its.toArray) hen ⟨hit, pT⟩ (by simpa using iL) hne (by
      intro z
      rcases List.mem_cons.mp z with z | z
      · exact hne z
      · obtain rfl := List.mem_singleton.mp z
        obtain ⟨oo, q1, q2, _⟩ := pT
        rw [show s.heap.get? e = _ from hen] at q1
        cases q1
        injection q2 with q3
        exact absurd q3 (by decide)) fun v h' tk hP ho hst hT hsz hk => ?_
    have ev : v = u := by
      have z : its.toArray[i]? = some v := hP
      rw [List.getElem?_toArray, hu] at z
      exact (Option.some.inj z).symm
    subst ev
    refine ⟨_, rfl, wpAny_letOwnedTupleGo_enum (s := { s with heap := h', toks := tk + 1 }) ho fun h'' hen2 sb => ?_⟩
    have hT2 : h''.get? s.heap.objs.size = some { cls := .type "tuple", data := .seq #[.int i tk, v] } := (sb.2 _ (Nat.ne_of_gt sze)).trans hT
    have new : ObjOk X.prog X.w (upd H s.heap.objs.size (.tup [.int (i : Nat), x])) h'' s.heap.objs.size (.tup [.int (i : Nat), x]) :=
      ⟨by show 2 ≤ sizeLine; decide, [.int i tk, v], .cons ⟨_, rfl⟩ (.cons ru .nil), ⟨_, hT2, rfl, _, rfl⟩⟩
    have I1 : Inv X pins σ (upd H s.heap.objs.size (.tup [.int (i : Nat), x])) { s with heap := h'', toks := tk + 1 } :=
      I.turnedNew (ch := [e, it]) (fun b ob hb q => (sb.2 b (fun z => hb (by rw [z]; exact List.mem_cons_self))).trans (hk b ob (fun z => hb (by rw [z]; exact List.mem_cons_self)) (fun z => hb (by rw [z]; exact List.mem_cons_of_mem _ List.mem_cons_self)) q)) hf (Nat.le_refl _) new
    refine ⟨.ref s.heap.objs.size, _, I1, rfl, ⟨_, x, rfl, I.hok.fresh (Nat.le_refl _), rfl, fun ys hy => by rw [I.tuple_inj hy hq]; exact hx⟩, ⟨⟨v, ?_⟩, hst.1.at fun o q => (sb.2 it (Ne.symm hne)).trans q, hne, hat⟩, fun b hb => ?_⟩
    · rw [show ((i + 1 : Nat) : Int) = (i : Int) + 1 by omega]; exact hen2
    · have hb2 : b < s.heap.objs.size := by
        rcases List.mem_cons.mp hb with z | z
        · rw [z]; exact sze
        · rw [List.mem_singleton.mp z]; exact szi
      rw [upd_ne (Nat.ne_of_lt hb2)]
      exact (hf b hb).1
  done := by
    intro X hP hw hK hc i pins s σ H E I hf st hg
    subst hP hw hK
    obtain ⟨⟨old, hen⟩, hit, hne, hat⟩ := st
    obtain ⟨xs, hq, hx⟩ := hg
    obtain ⟨its, rv, p, hz⟩ := I.tuple hq
    obtain ⟨f0, f1, f2, f3, f4, f5⟩ := hf it (List.mem_cons_of_mem _ List.mem_cons_self)
    have ll := rv.length
    have pT : s.heap.IsTuple a its.toArray := p
    have D : Draws X.prog X.w X.A.in1 it [it, a] i (fun _ _ => True) (fun j h => j = i ∧ h.IsTupleIter it a i ∧ h.IsTuple a its.toArray) :=
      { live := fun _ _ st => let ⟨o, ho, _⟩ := st.2.1; ⟨o, ho⟩
        frame := fun _ _ _ st hk => ⟨st.1, st.2.1.at fun o q => hk it List.mem_cons_self o q, st.2.2.at fun o q => hk a (List.mem_cons_of_mem _ List.mem_cons_self) o q⟩
        item := fun j _ _ _ hj st _ => absurd st.1 (Nat.ne_of_lt hj)
        done := fun _ _ _ st k => wpAny_nextOf_tuple_end (by exact I.ok.hd hc) st.2.1 st.2.2 (by simp; omega) k }
    exact wpAny_pyNext_enum_endD D hen ⟨rfl, hit, pT⟩ fun h' eb => ⟨rfl, I.turned (t' := s.toks) (fun b o hb q => eb b o hb q) f0 f1 f3 f4 f5⟩
  self := fun A i s Q E st h => let ⟨⟨_, hen⟩, _⟩ := st; wpAny_pyIter_enum hen h
/-- a list's or a tuple's items, each in a new pair -/
def iEnumU (K : PySem.W.Frag) (ta : TA) : TI := fun σ H R => ta σ H fun vs H1 => ∃ a, vs = [.ref a] ∧ ((∃ xs, SqL K H1 a xs ∧ R (Ite K a) H1) ∨ ∃ xs, SqT K H1 a xs ∧ R (IteT K a) H1)
theorem pi_enumU {X : Cx} {e : Expr} {ta : TA} {p pos tpos : Pos} {elts : List Expr} {kk : Nat} (K : PySem.W.Frag) (hK : X.K = K) (hg : Gl X "enumerate") (hm : X.mg "enumerate" = none) (ha : PA X [e] ta) (hs : starEach [e] X.env = [(false, eval e X.env)] := by rfl) :
    PI X (.Tuple elts kk tpos) (.Call (.Name "enumerate" p) [e] [] pos) (iEnumU K ta) := by
  subst hK
  refine ⟨fun pins s σ H R I h => ?_⟩
  refine Call_ (ld_blt I hg hm boot_enumerate (PyProof.Rows.callWith_type1 (thn (ha.run pos pins s σ H _ I h) fun us s1 ⟨vs, H1, I1, r1, q1⟩ => ?_) hs rfl))
  obtain ⟨a, ex, q⟩ := q1
  subst ex
  cases r1 with
  | cons r rr =>
    cases rr
    cases r
    have ge : ∀ b, b ∈ [s1.heap.objs.size + 1, s1.heap.objs.size] → s1.heap.objs.size ≤ b := fun b hb => by
      rcases List.mem_cons.mp hb with z | z
      · rw [z]; exact Nat.le_add_right _ _
      · rw [List.mem_singleton.mp z]; exact Nat.le_refl _
    rcases q with ⟨xs, hq, q⟩ | ⟨xs, hq, q⟩
    · obtain ⟨its, rv, p', hz⟩ := I1.list hq
      refine call_enumerate_list p'.isList fun h' he hit hsz hk => wpAny_pyIter_enum he ?_
      have I2 : Inv X pins σ H1 { s1 with heap := h' } := I1.kept (t' := s1.toks) hk
      exact ⟨s1.heap.objs.size + 1, [s1.heap.objs.size + 1, s1.heap.objs.size], _, _, H1, rfl, I2, turn_enum a (s1.heap.objs.size + 1) s1.heap.objs.size, ⟨⟨.none, he⟩, hit, Nat.succ_ne_self _⟩, fun b hb => I1.fpOk (ge b hb) (I1.hok.fresh (ge b hb)), q⟩
    · obtain ⟨its, rv, p', hz⟩ := I1.tuple hq
      have pT : s1.heap.IsTuple a its.toArray := p'
      have la : a < s1.heap.objs.size := by obtain ⟨_, q, _⟩ := pT; exact Heap.lt_size q
      refine call_enumT pT fun h' he hit hsz hk => wpAny_pyIter_enum he ?_
      have I2 : Inv X pins σ H1 { s1 with heap := h' } := I1.kept (t' := s1.toks) hk
      exact ⟨s1.heap.objs.size + 1, [s1.heap.objs.size + 1, s1.heap.objs.size], _, _, H1, rfl, I2, turn_enumT a (s1.heap.objs.size + 1) s1.heap.objs.size, ⟨⟨.none, he⟩, hit, Nat.succ_ne_self _, Nat.ne_of_lt la⟩, fun b hb => I1.fpOk (ge b hb) (I1.hok.fresh (ge b hb)), q⟩
/-! ### sep.join(xs) -/
def tJoinU (K : PySem.W.Frag) (to te : TE) : TE := tM1 (fun x xs H Q => ∃ a p, ∃ ys : List Str, x = .str a ∧ xs = [.ref p] ∧ (SqL K H p (ys.map V.str) ∨ SqT K H p (ys.map V.str)) ∧ (ys.map (·.length)).sum + ys.length * a.length ≤ 16777216 ∧ Q (.str (Txt.join a ys)) H) to te
theorem pe_joinU {X : Cx} {o e : Expr} {to te : TE} {apos pos : Pos} (K : PySem.W.Frag) (hK : X.K = K) (ho : PE X o to) (he : PE X e te) (hs : starEach [e] X.env = [(false, eval e X.env)] := by rfl) (hb : attributeBase o "join" X.env (eval o X.env) = eval o X.env := by rfl) (hl : (apos.endLine == pos.line) = true := by rfl) :
    PE X (.Call (.Attribute o "join" apos) [e] [] pos) (tJoinU K to te) := by
  subst hK
  exact L2.pe_join ho he hs hb hl
end Ls
-- own part: S5
namespace Ls
open PySem PySem.Spec PyProof.Rows L2
section
variable {K : PySem.W.Frag} {A B : As K} {L L' M N : List (As K)} {H H' : Hp} {a p l dx C : Addr} {o u : HO} {v x y : V} {d e : PyData} {vs xs ys : List V} {ds es : List PyData} {Q : VK} {D : Ends} {σ : L2.St} {i j : Int} {n : Nat} {b : Bool} {fs gs : List (Str × V)} {f m : Str} {sp : Sp} {E : XK} {dvs : List V} {ta te tv : TE} {t tk : TA}
/-! ### instances -/
def inst (a C : Addr) (fs : List (Str × V)) : As K := ⟨fun _ s H => ∃ dx, (∀ b, s b ↔ b = a ∨ b = dx) ∧ H a = some (.ins C dx fs) ∧ H dx = some (.own a), fun ⟨dx, e, h1, h2⟩ k _ => ⟨dx, e, (k a ((e a).mpr (.inl rfl))).trans h1, (k dx ((e dx).mpr (.inr rfl))).trans h2⟩, fun ⟨dx, e, h1, h2⟩ b z => by
  rcases (e b).mp z with rfl | rfl
  · exact ⟨_, h1, rfl⟩
  · exact ⟨_, h2, rfl⟩, fun h _ => h⟩
theorem Sep.insm (h : Sep L H) (m : inst a C fs ∈ L) : ∃ dx, H a = some (.ins C dx fs) := by
  obtain ⟨W, s, ⟨dx, _, h1, _⟩, _⟩ := h.the m
  exact ⟨dx, h1⟩
theorem Sep.setI (h : Sep (inst a C fs :: L) H) (e : H a = some (.ins C dx fs)) : Sep (inst a C gs :: L) (upd H a (.ins C dx gs)) := by
  obtain ⟨W, s, r, ⟨dx', es, h1, h2⟩, dj, _, k⟩ := h.hd
  rw [e] at h1
  cases h1
  have ne : dx ≠ a := fun z => by
    rw [z, e] at h2
    cases h2
  exact k (s' := s) ⟨dx, es, upd_same, by rw [upd_ne ne]; exact h2⟩ dj (fun b z => upd_ne fun y => dj b ((es b).mpr (.inl y)) z) (tp_upd e rfl)
theorem Sep.setIR (h : Sep L H) (r : Rep L (inst a C fs) (inst a C gs) M) (e : H a = some (.ins C dx fs)) : Sep M (upd H a (.ins C dx gs)) := by
  obtain ⟨N, h1, h2⟩ := Sep.rep r
  exact h2 _ ((h1 _ h).setI e)
theorem Sep.newInst (h : Sep L H) (ha : H a = none) (hd : H dx = none) (ne : dx ≠ a) : Sep (inst a C fs :: L) (upd (upd H dx (.own a)) a (.ins C dx fs)) := by
  have h1 := h.new (o := .own a) hd rfl
  have ha' : upd H dx (.own a) a = none := by rw [upd_ne (Ne.symm ne)]; exact ha
  have h2 := h1.new (o := .ins C dx fs) ha' rfl
  obtain ⟨W, s, f, s1, s2, dj, un, ⟨e1, g1, _⟩, t1, t2, dj2, un2, ⟨e2, g2, _⟩, h3⟩ := h2
  refine ⟨W, s, f, fun b => s1 b ∨ t1 b, t2, fun b x y => ?_, fun b => ?_, ⟨dx, fun b => ?_, g1, g2⟩, h3⟩
  · rcases x with x | x
    · exact dj b x ((un2 b).mpr (.inr y))
    · exact dj2 b x y
  · rw [un b, un2 b, or_assoc]
  · show s1 b ∨ t1 b ↔ _
    rw [e1 b, e2 b]
/-! readings -/
theorem k_fldt {R : V → Prop} (h : ∃ dx, H a = some (.ins C dx fs)) (c : Cls K C) (n : NoAttr K C f) (e : fs.lookup f = some v) (q : R v) : ∃ a' C' dx fs v', V.ref a = .ref a' ∧ H a' = some (.ins C' dx fs) ∧ Cls K C' ∧ NoAttr K C' f ∧ fs.lookup f = some v' ∧ R v' := by
  obtain ⟨dx, h⟩ := h
  exact ⟨a, C, dx, fs, v, rfl, h, c, n, e, q⟩
theorem k_fld (h : ta σ H fun x H1 => ∃ a C dx fs v, x = .ref a ∧ H1 a = some (.ins C dx fs) ∧ Cls K C ∧ NoAttr K C f ∧ fs.lookup f = some v ∧ Q v H1) : tFld K ta f σ H Q := h
theorem k_fldS {R : V → Prop} (h : Sep L H) (m : inst a C fs ∈ L) (c : Cls K C) (n : NoAttr K C f) (e : fs.lookup f = some v) (q : R v) : ∃ a' C' dx fs v', V.ref a = .ref a' ∧ H a' = some (.ins C' dx fs) ∧ Cls K C' ∧ NoAttr K C' f ∧ fs.lookup f = some v' ∧ R v' := k_fldt (h.insm m) c n e q
theorem k_sfld (h : tv σ H fun y H1 => ta σ H1 fun x H2 => ∃ a C dx fs, x = .ref a ∧ H2 a = some (.ins C dx fs) ∧ Cls K C ∧ NoAttr K C f ∧ fs.length < 1000 ∧ D.nx σ (upd H2 a (.ins C dx (putF f y fs)))) : sFld K ta tv f D σ H := h
theorem k_gfld {R : L2.St → Hp → Prop} (h : ta σ H fun x H2 => ∃ a C dx fs, x = .ref a ∧ H2 a = some (.ins C dx fs) ∧ Cls K C ∧ NoAttr K C f ∧ fs.length < 1000 ∧ R σ (upd H2 a (.ins C dx (putF f v fs)))) : gFld K ta f v σ H R := h
theorem k_putS' {R : Hp → Prop} (h : Sep L H) (r : Rep L (inst a C fs) (inst a C gs) M) (c : Cls K C) (n : NoAttr K C f) (hl : fs.length < 1000) (e : putF f y fs = gs) (q : ∀ H', Sep M H' → R H') : ∃ a' C' dx fs, V.ref a = .ref a' ∧ H a' = some (.ins C' dx fs) ∧ Cls K C' ∧ NoAttr K C' f ∧ fs.length < 1000 ∧ R (upd H a' (.ins C' dx (putF f y fs))) := by
  obtain ⟨dx, h1⟩ := h.insm r.mem
  subst e
  exact ⟨a, C, dx, fs, rfl, h1, c, n, hl, q _ (h.setIR r h1)⟩
theorem k_sfldaug {rd : V → V → Hp → VK → Prop} (h : ta σ H fun x H1 => ∃ a C dx fs v, x = .ref a ∧ H1 a = some (.ins C dx fs) ∧ Cls K C ∧ NoAttr K C f ∧ fs.lookup f = some v ∧
  tv σ H1 fun y H2 => rd v y H2 fun z H3 => ∃ dx' fs', H3 a = some (.ins C dx' fs') ∧ fs'.length < 1000 ∧ D.nx σ (upd H3 a (.ins C dx' (putF f z fs')))) : sFldAug K ta tv rd f D σ H := h
theorem k_augS {R : Hp → Prop} (h : Sep L H) (r : Rep L (inst a C fs) (inst a C gs) M) (hl : fs.length < 1000) (e : putF f y fs = gs) (q : ∀ H', Sep M H' → R H') : ∃ dx' fs', H a = some (.ins C dx' fs') ∧ fs'.length < 1000 ∧ R (upd H a (.ins C dx' (putF f y fs'))) := by
  obtain ⟨dx, h1⟩ := h.insm r.mem
  subst e
  exact ⟨dx, fs, h1, hl, q _ (h.setIR r h1)⟩
theorem k_inadd {R : V → Hp → Prop} (q : R (.int (i + j)) H) : rAdd (.int i) (.int j) H R := ⟨i, j, rfl, rfl, q⟩
theorem k_insub {R : V → Hp → Prop} (q : R (.int (i - j)) H) : rSub (.int i) (.int j) H R := ⟨i, j, rfl, rfl, q⟩
/-! calls -/
theorem k_meth (h : ta σ H fun x H1 => ∃ a dx fs, x = .ref a ∧ H1 a = some (.ins C dx fs) ∧ fs.lookup m = none ∧ t σ H1 fun vs H2 => sp (x :: (vs ++ dvs)) H2 Q E) : tMeth C m sp dvs E ta t σ H Q := h
theorem k_methN {gV : List V → List V → List V} {jn : Nat} (h : ta σ H fun x H1 => ∃ a dx fs, x = .ref a ∧ H1 a = some (.ins C dx fs) ∧ fs.lookup m = none ∧
  t σ H1 fun vs H2 => tk σ H2 fun zs H3 => vs.length + 1 = n ∧ zs.length = jn ∧ sp (gV (.ref a :: vs) zs) H3 Q E) : tMethN C m n jn sp gV E ta t tk σ H Q := h
theorem k_recv {R : Addr → Prop} (h : ∃ dx fs, H a = some (.ins C dx fs) ∧ fs.lookup m = none) (q : R a) : ∃ a' dx fs, V.ref a = .ref a' ∧ H a' = some (.ins C dx fs) ∧ fs.lookup m = none ∧ R a' := by
  obtain ⟨dx, fs, h1, h2⟩ := h
  exact ⟨a, dx, fs, rfl, h1, h2, q⟩
theorem k_recvI {R : Addr → Prop} (h : Sep L H) (w : inst a C fs ∈ L) (e : fs.lookup m = none) (q : R a) : ∃ a' dx fs, V.ref a = .ref a' ∧ H a' = some (.ins C dx fs) ∧ fs.lookup m = none ∧ R a' := by
  obtain ⟨dx, h1⟩ := h.insm w
  exact k_recv ⟨dx, fs, h1, e⟩ q
theorem k_make (h : t σ H fun vs H1 => ∀ x dx, H1 x = none → H1 dx = none → dx ≠ x → sp (.ref x :: (vs ++ dvs)) (upd (upd H1 dx (.own x)) x (.ins C dx [])) (fun v H2 => v = .non ∧ Q (.ref x) H2) E) : tMake C sp dvs E t σ H Q := h
theorem k_madeS {R : Addr → Hp → Prop} (h : Sep L H) (q : ∀ x H', Sep (inst x C [] :: L) H' → R x H') : ∀ x dx, H x = none → H dx = none → dx ≠ x → R x (upd (upd H dx (.own x)) x (.ins C dx [])) := fun x dx hx hd ne => q x _ (h.newInst hx hd ne)
/-! what a raising def lets out -/
def Lets (L : List (As K)) (C : Addr) (w : Str) (E : XK) : Prop := ∀ d H', Sep (ob d (.xd [("word", .str w)]) :: L) H' → E (.ref C) (some d) H'
/-- a def that lets nothing out where nothing is wished of it -/
theorem FnOk.quiet {P : Program} {w : World} {mg : Str → Option Value} {base : Heap} {k : Nat} {g : Addr} {fd : FuncData} {ps : List Str} {sp sp' : Sp} (F : FnOk P w K mg base (L2.CX P w) k g fd ps sp) (h : ∀ vs H Q E, sp' vs H Q E → sp vs H Q fun _ _ _ => False) : FnOk P w K mg base CX0 k g fd ps sp' :=
  ⟨fun vs H Q E q => F.len _ _ _ _ (h _ _ _ _ q), fun A outer s H args us vs Q E hr he hb hv hs => codeAny_mono (F.run A outer s H args us vs Q _ hr he hb hv (h _ _ _ _ hs)) fun r s' z => by
    cases r with
    | ok fl => cases fl <;> exact z
    | error e =>
      obtain ⟨_, _, _, _, _, _, _, _, _, _, _, _, z⟩ := z
      exact z⟩
end
end Ls
namespace Ls
open PySem PySem.Spec PyProof.Rows L2
section
variable {K : PySem.W.Frag} {L : List (As K)} {H H' : Hp} {xs : List V} {ds : List PyData} {o : HO} {kvs : List (Key × V)}
def updT (H : Hp) (p : Addr) (xs : List V) : Hp := upd H p (.tup xs)
def updL (H : Hp) (p : Addr) (xs : List V) : Hp := upd H p (.lst xs)
def updK (H : Hp) (p : Addr) (kvs : List (Key × V)) : Hp := upd H p (.dK kvs)
theorem updT_eq (p : Addr) : upd H p (.tup xs) = updT H p xs := rfl
theorem updL_eq (p : Addr) : upd H p (.lst xs) = updL H p xs := rfl
theorem updK_eq (p : Addr) : upd H p (.dK kvs) = updK H p kvs := rfl
variable {p : Addr}
theorem ar_I (h : Sep L H) (hp : H p = none) (e : updT H p xs = H') (t : DatAll L xs ds) : Sep (im (.ref p) (.tuple ds) :: L) H' := al_I h hp e t
theorem ar_T (h : Sep L H) (hp : H p = none) (e : updT H p xs = H') : Sep (tu p xs :: L) H' := al_T h hp e
theorem ar_L (h : Sep L H) (hp : H p = none) (e : updL H p xs = H') (t : DatAll L xs ds) : Sep (ld p ds :: L) H' := al_L h hp e t
theorem ar_O (h : Sep L H) (hp : H p = none) (e : updL H p xs = H') : Sep (ob p (.lst xs) :: L) H' := al_O h hp e rfl
theorem ar_K (h : Sep L H) (hp : H p = none) (e : updK H p kvs = H') : Sep (ob p (.dK kvs) :: L) H' := al_O h hp e rfl
end
end Ls
namespace Ls
theorem andThen {a b : Prop} (h : a) (k : a → b) : b := k h
end Ls
-- own part: U14
namespace Ls
open PySem PySem.Spec PyProof.Rows L2
section
variable {X : Cx}
theorem kSF {st : Stmt} {ta tv : TE} {f : Str} (K : PySem.W.Frag) (hK : X.K = K) (h : PS X st (sFld X.K ta tv f)) : PS X st (sFld K ta tv f) := hK ▸ h
theorem kSFA {st : Stmt} {ta tv : TE} {rd : V → V → Hp → VK → Prop} {f : Str} (K : PySem.W.Frag) (hK : X.K = K) (h : PS X st (sFldAug X.K ta tv rd f)) : PS X st (sFldAug K ta tv rd f) := hK ▸ h
/-- the items of a list or a tuple -/
def iSeqU (K : PySem.W.Frag) (te : TE) : TI := fun σ H R => te σ H fun x H1 => ∃ a, x = .ref a ∧ (((∃ xs, SqL K H1 a xs) ∧ R (Itl K a) H1) ∨ ((∃ xs, SqT K H1 a xs) ∧ R (Itt K a) H1))
theorem pi_seqU {tg e : Expr} {te : TE} (K : PySem.W.Frag) (hK : X.K = K) (he : PE X e te) : PI X tg e (iSeqU K te) := by
  subst hK
  refine ⟨fun pins s σ H R I h => ?_⟩
  refine thn (he.run pins s σ H _ I h) fun v s1 ⟨x, H1, I1, r1, a, ex, q⟩ => ?_
  subst ex
  obtain rfl : v = Value.ref a := r1
  have fp : ∀ b ∈ [s1.heap.objs.size], FpOk X pins H1 b := fun b hb => by
    rw [List.mem_singleton.mp hb]
    exact I1.fpOk (Nat.le_refl _) (I1.hok.fresh (Nat.le_refl _))
  rcases q with ⟨⟨xs, hq⟩, q⟩ | ⟨⟨xs, hq⟩, q⟩
  · obtain ⟨its, rv, p, hz⟩ := I1.list hq
    refine wpAny_pyIter_list p.isList ?_
    exact ⟨s1.heap.objs.size, [s1.heap.objs.size], _, _, H1, rfl, I1.kept (t' := s1.toks) fun b o z => Heap.get?_push_of_some _ z, turn_list a _, ⟨_, Heap.get?_push_size _ rfl, rfl, rfl⟩, fp, q⟩
  · obtain ⟨its, rv, p, hz⟩ := I1.tuple hq
    refine wpAny_pyIter_tuple (show s1.heap.IsTuple a its.toArray from p) ?_
    exact ⟨s1.heap.objs.size, [s1.heap.objs.size], _, _, H1, rfl, I1.kept (t' := s1.toks) fun b o z => Heap.get?_push_of_some _ z, turn_tuple a _, ⟨_, Heap.get?_push_size _ rfl, rfl, rfl⟩, fp, q⟩
end
section
variable {P : Program} {w : World} {K : PySem.W.Frag} {x qual : Str} {params : Arguments} {body : List Stmt} {scope : Scope} {kws : List (Str × V)} {f : Addr} {fd : FuncData} {ps : List Str}
/-- all keyword-only parameters are given -/
theorem kbindsN (F : FunD K x qual params body scope [] kws f fd) (n : Nat) (ks : List Str) (g : {α : Type} → List α → List α → List α)
    (hrel : ∀ {vs zs : List V} {us ws : List Value}, Vals vs us → Vals zs ws → Vals (g vs zs) (g us ws))
    (h : ∀ (kV doc pm : Value) (an : Option Addr) (cdv ct : Value) (us ws : List Value), us.length = n → ws.length = ks.length → bindArgs (PySem.W.fnOf x qual params body scope .none kV doc pm an cdv ct) ⟨us, ks.zip ws⟩ = pure (ps.zip (g us ws))) :
    KBn K fd ps n ks (fun us ws => g us ws) (fun vs zs => g vs zs) := by
  obtain ⟨oc, od, dV, kV, doc, pm, an, cdv, ct, osl, rfl, lk, hcd, hD, hK⟩ := F.ex
  rcases hD with ⟨_, rfl⟩ | ⟨e, _⟩
  · exact ⟨fun s us ws X l1 l2 => .of_eq (h kV doc pm an cdv ct us ws l1 l2), fun r1 r2 => hrel r1 r2⟩
  · exact absurd rfl e
end
end Ls
-- own part: S6
namespace Ls
open PySem PySem.Spec PyProof.Rows L2
section
variable {K : PySem.W.Frag} {A B : As K} {L L' M N : List (As K)} {H H' : Hp} {a p l dx C : Addr} {o u : HO} {v x y : V} {d e : PyData} {vs xs ys : List V} {ds es : List PyData} {Q : VK} {D : Ends} {σ : L2.St} {i j : Int} {n : Nat} {b : Bool} {ta te tv to : TE} {t tk : TA}
theorem k_joinU (h : to σ H fun x H1 => (∃ a, x = .str a) ∧ te σ H1 fun y H2 => ∃ a p, ∃ ys : List Str, x = .str a ∧ [y] = [.ref p] ∧ (SqL K H2 p (ys.map V.str) ∨ SqT K H2 p (ys.map V.str)) ∧ (ys.map (·.length)).sum + ys.length * a.length ≤ 16777216 ∧ Q (.str (Txt.join a ys)) H2) : tJoinU K to te σ H Q := h
theorem k_strX {z : Str} {P : Prop} (h : P) : (∃ a, V.str z = .str a) ∧ P := ⟨⟨z, rfl⟩, h⟩
theorem k_glueS {z : Str} {zs : List Str} {R : Str → List Str → Prop} (h : Sep L H) (m : ld p (zs.map PyData.str) ∈ L) (hl : (zs.map (·.length)).sum + zs.length * z.length ≤ 16777216) (q : R z zs) : ∃ a p', ∃ ys : List Str, V.str z = .str a ∧ [V.ref p] = [.ref p'] ∧ (SqL K H p' (ys.map V.str) ∨ SqT K H p' (ys.map V.str)) ∧ (ys.map (·.length)).sum + ys.length * a.length ≤ 16777216 ∧ R a ys := by
  obtain ⟨xs, h1, h2⟩ := h.ldm m
  cases ims_str h2
  exact ⟨z, p, zs, rfl, rfl, .inl (sql_of h1), hl, q⟩
theorem k_iseq {te : TE} {R : It → Hp → Prop} (h : te σ H fun x H1 => ∃ a, x = .ref a ∧ (((∃ xs, SqL K H1 a xs) ∧ R (Itl K a) H1) ∨ ((∃ xs, SqT K H1 a xs) ∧ R (Itt K a) H1))) : iSeqU K te σ H R := h
theorem k_seqD {R R' : Addr → Prop} (h : Sep L H) (m : ld a ds ∈ L) (q : R a) : ∃ b, V.ref a = .ref b ∧ (((∃ xs, SqL K H b xs) ∧ R b) ∨ ((∃ xs, SqT K H b xs) ∧ R' b)) := by
  obtain ⟨xs, h1, _⟩ := h.ldm m
  exact ⟨a, rfl, .inl ⟨⟨xs, sql_of h1⟩, q⟩⟩
theorem k_seqO {R R' : Addr → Prop} (h : Sep L H) (m : ob a (.lst xs) ∈ L) (q : R a) : ∃ b, V.ref a = .ref b ∧ (((∃ xs, SqL K H b xs) ∧ R b) ∨ ((∃ xs, SqT K H b xs) ∧ R' b)) :=
  ⟨a, rfl, .inl ⟨⟨xs, sql_of (h.obm m)⟩, q⟩⟩
theorem k_seqI {R R' : Addr → Prop} (h : Sep L H) (m : im (.ref a) (.tuple ds) ∈ L) (q : R' a) : ∃ b, V.ref a = .ref b ∧ (((∃ xs, SqL K H b xs) ∧ R b) ∨ ((∃ xs, SqT K H b xs) ∧ R' b)) := by
  obtain ⟨a', xs, e, h1, h2⟩ := im_tup (h.imm m)
  cases e
  exact ⟨a, rfl, .inr ⟨⟨xs, h1⟩, q⟩⟩
theorem k_enum {R : It → Hp → Prop} (h : t σ H fun vs H1 => ∃ a, vs = [.ref a] ∧ ((∃ xs, SqL K H1 a xs ∧ R (Ite K a) H1) ∨ ∃ xs, SqT K H1 a xs ∧ R (IteT K a) H1)) : iEnumU K t σ H R := h
theorem k_enD {R R' : Addr → Prop} (h : Sep L H) (m : ld a ds ∈ L) (q : R a) : ∃ b, [V.ref a] = [.ref b] ∧ ((∃ xs, SqL K H b xs ∧ R b) ∨ ∃ xs, SqT K H b xs ∧ R' b) := by
  obtain ⟨xs, h1, _⟩ := h.ldm m
  exact ⟨a, rfl, .inl ⟨xs, sql_of h1, q⟩⟩
theorem k_enO {R R' : Addr → Prop} (h : Sep L H) (m : ob a (.lst xs) ∈ L) (q : R a) : ∃ b, [V.ref a] = [.ref b] ∧ ((∃ xs, SqL K H b xs ∧ R b) ∨ ∃ xs, SqT K H b xs ∧ R' b) := ⟨a, rfl, .inl ⟨xs, sql_of (h.obm m), q⟩⟩
theorem k_enI {R R' : Addr → Prop} (h : Sep L H) (m : im (.ref a) (.tuple ds) ∈ L) (q : R' a) : ∃ b, [V.ref a] = [.ref b] ∧ ((∃ xs, SqL K H b xs ∧ R b) ∨ ∃ xs, SqT K H b xs ∧ R' b) := by
  obtain ⟨a', xs, e, h1, h2⟩ := im_tup (h.imm m)
  cases e
  exact ⟨a, rfl, .inr ⟨xs, h1, q⟩⟩
/-! enumerate: each item in a new pair -/
theorem tup_new {q : Nat → Prop} : True := trivial
theorem wk_enO (m : ob a (.lst xs) ∈ L) : Wk (Ite K a) L xs.length fun i q => ∀ v T, xs[i]? = some v → q (.ref T) [tu T [.int (i : Nat), v]] where
  go := fun i H hi h => ⟨xs, xs[i], sql_of (h.obm m), List.getElem?_eq_getElem hi⟩
  yl := fun i H x H' R hi h ⟨T, v, e, hT, e2, y⟩ q => by
    subst e e2
    exact q v T (y xs (sql_of (h.obm m))) _ (h.newT hT)
  st := fun H h => ⟨xs, sql_of (h.obm m), Nat.le_refl _⟩
theorem wk_enI {α : Type} {zs : List α} {f : α → PyData} (m : im (.ref a) (.tuple (zs.map f)) ∈ L) : Wk (IteT K a) L zs.length fun i q => ∀ z T, zs[i]? = some z → q (.ref T) [im (.ref T) (.tuple [.int (i : Nat), f z])] where
  go := fun i H hi h => by
    obtain ⟨a', xs, e, h1, h2⟩ := im_tup (h.imm m)
    cases e
    have hx : i < xs.length := by rw [h2.length, List.length_map]; exact hi
    exact ⟨xs, xs[i], h1, List.getElem?_eq_getElem hx⟩
  yl := fun i H x H' R hi h ⟨T, v, e, hT, e2, y⟩ q => by
    subst e e2
    obtain ⟨a', xs, e, h1, h2⟩ := im_tup (h.imm m)
    cases e
    obtain ⟨d, hd, hm⟩ := h2.get (y xs h1)
    rw [List.getElem?_map] at hd
    obtain ⟨z, hz, rfl⟩ := Option.map_eq_some_iff.mp hd
    refine q z T hz _ (Sep.im_iff.mpr ⟨?_, h.same (same_new hT)⟩)
    exact .tup (sqt_of upd_same) (.cons (.int _) (.cons (hm.mono (Tp.new hT)) .nil))
  st := fun H h => by
    obtain ⟨a', xs, e, h1, h2⟩ := im_tup (h.imm m)
    cases e
    exact ⟨xs, h1, by rw [h2.length, List.length_map]; exact Nat.le_refl _⟩
theorem wk_enD {α : Type} {zs : List α} {f : α → PyData} (m : ld a (zs.map f) ∈ L) : Wk (Ite K a) L zs.length fun i q => ∀ z T, zs[i]? = some z → q (.ref T) [im (.ref T) (.tuple [.int (i : Nat), f z])] where
  go := fun i H hi h => by
    obtain ⟨xs, h1, h2⟩ := h.ldm m
    have hx : i < xs.length := by rw [h2.length, List.length_map]; exact hi
    exact ⟨xs, xs[i], sql_of h1, List.getElem?_eq_getElem hx⟩
  yl := fun i H x H' R hi h ⟨T, v, e, hT, e2, y⟩ q => by
    subst e e2
    obtain ⟨xs, h1, h2⟩ := h.ldm m
    obtain ⟨d, hd, hm⟩ := h2.get (y xs (sql_of h1))
    rw [List.getElem?_map] at hd
    obtain ⟨z, hz, rfl⟩ := Option.map_eq_some_iff.mp hd
    refine q z T hz _ (Sep.im_iff.mpr ⟨?_, h.same (same_new hT)⟩)
    exact .tup (sqt_of upd_same) (.cons (.int _) (.cons (hm.mono (Tp.new hT)) .nil))
  st := fun H h => by
    obtain ⟨xs, h1, h2⟩ := h.ldm m
    exact ⟨xs, sql_of h1, by rw [h2.length, List.length_map]; exact Nat.le_refl _⟩
/-! a tuple, a list made of a list -/
theorem k_tupleS (h : Sep L H) (m : ld a ds ∈ L) (q : ∀ p H', Sep (im (.ref p) (.tuple ds) :: L) H' → Q (.ref p) H') : rTupleU K [.ref a] H Q := by
  obtain ⟨xs, h1, h2⟩ := h.ldm m
  refine ⟨a, xs, rfl, .inl ⟨sql_of h1, fun p hp => q p _ (Sep.im_iff.mpr ⟨?_, h.same (same_new hp)⟩)⟩⟩
  exact .tup (sqt_of upd_same) (h2.mono (Tp.new hp))
theorem k_listS (h : Sep L H) (m : ld a ds ∈ L) (q : ∀ p H', Sep (ld p ds :: L) H' → Q (.ref p) H') : rListU K [.ref a] H Q := by
  obtain ⟨xs, h1, h2⟩ := h.ldm m
  refine ⟨a, xs, rfl, .inl (sql_of h1), fun p hp => q p _ ?_⟩
  have z := (h.newD (p := p) (xs := []) (ds := []) hp .nil).setD (xs := xs) (es := ds) (h2.mono (Tp.new hp))
  have e : upd (upd H p (.lst [])) p (.lst xs) = upd H p (.lst xs) := by
    funext b
    by_cases hb : b = p
    · rw [hb, upd_same, upd_same]
    · rw [upd_ne hb, upd_ne hb, upd_ne hb]
  rw [e] at z
  exact z
theorem k_listO (h : Sep L H) (m : ob a (.lst xs) ∈ L) (q : ∀ p H', Sep (ob p (.lst xs) :: L) H' → Q (.ref p) H') : rListU K [.ref a] H Q := ⟨a, xs, rfl, .inl (sql_of (h.obm m)), fun p hp => q p _ (h.new hp rfl)⟩
theorem k_sumS {α : Type} {zs : List α} {f : α → Int} (h : Sep L H) (m : ld a (zs.map fun z => PyData.int (f z)) ∈ L) (q : Q (.int (zs.map f).sum) H) : rSum K [.ref a] H Q := by
  obtain ⟨xs, h1, h2⟩ := h.ldm m
  have e : (zs.map fun z => PyData.int (f z)) = (zs.map f).map PyData.int := by rw [List.map_map]; rfl
  rw [e] at h2
  cases ims_int h2
  exact ⟨_, _, rfl, sql_of h1, q⟩
end
end Ls
namespace Ls
open PySem PySem.Spec PyProof.Rows L2
section
variable {K : PySem.W.Frag} {A B : As K} {L L' M N : List (As K)} {H H' : Hp} {a p l : Addr} {v x y : V} {d e : PyData} {vs xs ys : List V} {ds es : List PyData} {Q : VK} {σ : L2.St} {i j : Int} {n : Nat}
theorem k_min2 (q : Q (.int (if j < i then j else i)) H) : rMinU K [.int i, .int j] H Q := .inl ⟨i, j, rfl, q⟩
theorem k_max2 (q : Q (.int (if j > i then j else i)) H) : rMaxU K [.int i, .int j] H Q := .inl ⟨i, j, rfl, q⟩
theorem k_addD (h : Sep L H) (m : ld a ds ∈ L) (m2 : ld l es ∈ L) (hl : ds.length + es.length ≤ sizeLine) (q : ∀ p H', Sep (ld p (ds ++ es) :: L) H' → Q (.ref p) H') : rAddU K (.ref a) (.ref l) H Q := by
  obtain ⟨xs, h1, h2⟩ := h.ldm m
  obtain ⟨ys, h3, h4⟩ := h.ldm m2
  refine k_addL h1 h3 (by rw [h2.length, h4.length]; exact hl) fun p hp => q p _ ?_
  have z := (h.newD (p := p) (xs := []) (ds := []) hp .nil).setD (xs := xs ++ ys) (es := ds ++ es) ((h2.app h4).mono (Tp.new hp))
  have e : upd (upd H p (.lst [])) p (.lst (xs ++ ys)) = upd H p (.lst (xs ++ ys)) := by
    funext b
    by_cases hb : b = p
    · rw [hb, upd_same, upd_same]
    · rw [upd_ne hb, upd_ne hb, upd_ne hb]
  rw [e] at z
  exact z
theorem mem_dec {α : Type} [DecidableEq α] (z w : α) (zs : List α) {b : Bool} (h : b = decide (w = z)) : (b || decide (z ∈ zs)) = decide (z ∈ w :: zs) := by
  subst h
  by_cases e : w = z
  · subst e
    rw [decide_eq_true rfl, Bool.true_or]
    exact (decide_eq_true List.mem_cons_self).symm
  · rw [decide_eq_false e, Bool.false_or]
    exact decide_eq_decide.mpr ⟨List.mem_cons_of_mem _, fun m => (List.mem_cons.mp m).resolve_left fun y => e y.symm⟩
theorem inV_str (z : Str) : ∀ zs : List Str, inV (.str z) (zs.map V.str) = decide (z ∈ zs)
  | [] => rfl
  | w :: zs => by
    have ih := inV_str z zs
    unfold inV at ih ⊢
    rw [List.map_cons, List.any_cons, ih]
    exact mem_dec _ _ _ (by rw [Bool.eq_iff_iff, decide_eq_true_eq]; exact beq_iff_eq)
theorem inV_int (z : Int) : ∀ zs : List Int, inV (.int z) (zs.map V.int) = decide (z ∈ zs)
  | [] => rfl
  | w :: zs => by
    have ih := inV_int z zs
    unfold inV at ih ⊢
    rw [List.map_cons, List.any_cons, ih]
    exact mem_dec _ _ _ (by rw [Bool.eq_iff_iff, decide_eq_true_eq]; exact beq_iff_eq)
theorem flat_strs (zs : List Str) : (zs.map V.str).all flatV = true := by
  rw [List.all_map, List.all_eq_true]
  intro z _
  rfl
theorem flat_ints (zs : List Int) : (zs.map V.int).all flatV = true := by
  rw [List.all_map, List.all_eq_true]
  intro z _
  rfl
theorem k_inS {z : Str} {zs : List Str} (h : Sep L H) (m : ld p (zs.map PyData.str) ∈ L) (q : Q (.bl (decide (z ∈ zs))) H) : rInU K (.str z) (.ref p) H Q := by
  obtain ⟨xs, h1, h2⟩ := h.ldm m
  cases ims_str h2
  exact .inl ⟨p, _, rfl, .inl (sql_of h1), rfl, flat_strs zs, by rw [if_neg (by decide), inV_str]; exact q⟩
theorem k_notinS {z : Str} {zs : List Str} (h : Sep L H) (m : ld p (zs.map PyData.str) ∈ L) (q : Q (.bl (!decide (z ∈ zs))) H) : rNotInU K (.str z) (.ref p) H Q := by
  obtain ⟨xs, h1, h2⟩ := h.ldm m
  cases ims_str h2
  exact .inl ⟨p, _, rfl, .inl (sql_of h1), rfl, flat_strs zs, by rw [if_pos rfl, inV_str]; exact q⟩
theorem k_inI {z : Int} {zs : List Int} (h : Sep L H) (m : ld p (zs.map PyData.int) ∈ L) (q : Q (.bl (decide (z ∈ zs))) H) : rInU K (.int z) (.ref p) H Q := by
  obtain ⟨xs, h1, h2⟩ := h.ldm m
  cases ims_int h2
  exact .inl ⟨p, _, rfl, .inl (sql_of h1), rfl, flat_ints zs, by rw [if_neg (by decide), inV_int]; exact q⟩
theorem k_notinI {z : Int} {zs : List Int} (h : Sep L H) (m : ld p (zs.map PyData.int) ∈ L) (q : Q (.bl (!decide (z ∈ zs))) H) : rNotInU K (.int z) (.ref p) H Q := by
  obtain ⟨xs, h1, h2⟩ := h.ldm m
  cases ims_int h2
  exact .inl ⟨p, _, rfl, .inl (sql_of h1), rfl, flat_ints zs, by rw [if_pos rfl, inV_int]; exact q⟩
end
end Ls
-- own part: U15
namespace Ls
open PySem PySem.Spec PyProof.Rows L2
/-! ### a op b op c op d -/
def tChain3 (r r' r'' : R2) (ta tb tc td : TE) : TE := fun σ H Q => ta σ H fun x H1 => tb σ H1 fun y H2 => r x y H2 fun z H3 => ∃ k, z = .bl k ∧
  (if k = true then tc σ H3 fun v H4 => r' y v H4 fun z2 H5 => ∃ k2, z2 = .bl k2 ∧ (if k2 = true then td σ H5 fun w H6 => r'' v w H6 Q else Q (.bl false) H5) else Q (.bl false) H3)
section
variable {X : Cx} {a b c d : Expr} {pos : Pos} {o1 o2 o3 : CmpOp} {r r' r'' : R2} {ta tb tc td : TE}
theorem pe_chain3 (h1 : OpR X (compareOp o1) r) (h2 : OpR X (compareOp o2) r') (h3 : OpR X (compareOp o3) r'') (ha : PE X a ta) (hb : PE X b tb) (hc : PE X c tc) (hd : PE X d td)
    (hm : lastMarks [o1, o2, o3] [b, c, d] = false := by with_unfolding_all rfl) : PE X (.Compare a [o1, o2, o3] [b, c, d] pos) (tChain3 r r' r'' ta tb tc td) := by
  refine ⟨fun pins s σ H Q I h => ?_⟩
  refine Compare_chain (thn (ha.run pins s σ H _ I h) fun v s1 ⟨x, H1, I1, r1, q1⟩ => chain_link (thn (hb.run pins s1 σ H1 _ I1 q1) fun u s2 ⟨y, H2, I2, r2, q2⟩ =>
    thn (h1 pins s2 σ H2 x y v u _ I2 r1 r2 q2) fun e s3 ⟨z, H3, I3, r3, k, ez, q3⟩ => ?_)) hm
  subst ez
  cases r3
  refine wpAny_truthy_bool ?_
  cases k with
  | false => exact ite_ff ⟨.bl false, H3, I3, rfl, q3⟩
  | true =>
    refine ite_tt (chain_link (thn (hc.run pins s3 σ H3 _ I3 q3) fun u4 s4 ⟨y4, H4, I4, r4, q4⟩ => thn (h2 pins s4 σ H4 y y4 u u4 _ I4 r2 r4 q4) fun e5 s5 ⟨z5, H5, I5, r5, k5, ez5, q5⟩ => ?_))
    subst ez5
    cases r5
    refine wpAny_truthy_bool ?_
    cases k5 with
    | false => exact ite_ff ⟨.bl false, H5, I5, rfl, q5⟩
    | true => exact ite_tt (chain_last (thn (hd.run pins s5 σ H5 _ I5 q5) fun u6 s6 ⟨y6, H6, I6, r6, q6⟩ => h3 pins s6 σ H6 y4 y6 u4 u6 Q I6 r4 r6 q6))
theorem pt_chain3 (h1 : OpR X (compareOp o1) r) (h2 : OpR X (compareOp o2) r') (h3 : OpR X (compareOp o3) r'') (ha : PE X a ta) (hb : PE X b tb) (hc : PE X c tc) (hd : PE X d td)
    (hm : lastMarks [o1, o2, o3] [b, c, d] = false := by with_unfolding_all rfl) : PT X (.Compare a [o1, o2, o3] [b, c, d] pos) (tTest (tChain3 r r' r'' ta tb tc td)) := by
  refine ⟨fun pins s σ H Q I h => ?_⟩
  refine isTrue_chain (thn (ha.run pins s σ H _ I h) fun v s1 ⟨x, H1, I1, r1, q1⟩ => test_link (thn (hb.run pins s1 σ H1 _ I1 q1) fun u s2 ⟨y, H2, I2, r2, q2⟩ =>
    thn (h1 pins s2 σ H2 x y v u _ I2 r1 r2 q2) fun e s3 ⟨z, H3, I3, r3, k, ez, q3⟩ => ?_)) hm
  subst ez
  cases r3
  refine wpAny_truthy_bool ?_
  cases k with
  | false =>
    obtain ⟨k', e', q'⟩ := q3
    cases e'
    exact ite_ff ⟨H3, I3, q'⟩
  | true =>
    refine ite_tt (test_link (thn (hc.run pins s3 σ H3 _ I3 q3) fun u4 s4 ⟨y4, H4, I4, r4, q4⟩ => thn (h2 pins s4 σ H4 y y4 u u4 _ I4 r2 r4 q4) fun e5 s5 ⟨z5, H5, I5, r5, k5, ez5, q5⟩ => ?_))
    subst ez5
    cases r5
    refine wpAny_truthy_bool ?_
    cases k5 with
    | false =>
      obtain ⟨k', e', q'⟩ := q5
      cases e'
      exact ite_ff ⟨H5, I5, q'⟩
    | true =>
      refine ite_tt (test_last (thn (hd.run pins s5 σ H5 _ I5 q5) fun u6 s6 ⟨y6, H6, I6, r6, q6⟩ => thn (h3 pins s6 σ H6 y4 y6 u4 u6 _ I6 r4 r6 q6) fun e7 s7 ⟨z7, H7, I7, r7, k7, ez7, q7⟩ => ?_))
      subst ez7
      cases r7
      exact wpAny_truthy_bool ⟨H7, I7, q7⟩
end
theorem k_chain3 {r r' r'' : R2} {ta tb tc td : TE} {σ : L2.St} {H : Hp} {Q : VK} (h : ta σ H fun x H1 => tb σ H1 fun y H2 => r x y H2 fun z H3 => ∃ k, z = .bl k ∧
  (if k = true then tc σ H3 fun v H4 => r' y v H4 fun z2 H5 => ∃ k2, z2 = .bl k2 ∧ (if k2 = true then td σ H5 fun w H6 => r'' v w H6 Q else Q (.bl false) H5) else Q (.bl false) H3)) : tChain3 r r' r'' ta tb tc td σ H Q := h
end Ls
-- own part: S7
namespace Ls
open PySem PySem.Spec PyProof.Rows L2
section
variable {K : PySem.W.Frag} {A B : As K} {L L' M N : List (As K)} {H H' : Hp} {a p l dx C : Addr} {o u : HO} {v x y : V} {d e : PyData} {vs xs ys : List V} {ds es : List PyData} {Q : VK} {D : Ends} {σ : L2.St} {i j : Int} {n : Nat} {b : Bool} {ta te tv to : TE} {t tk : TA} {fs : List (Str × V)}
/-- an instance that never changes any more -/
def fzI (a C : Addr) (fs : List (Str × V)) : As K := persW (fun W _ => ∃ dx, W a (.ins C dx fs) ∧ W dx (.own a)) (fun _ _ _ _ h => h) fun _ _ _ e ⟨dx, h1, h2⟩ => ⟨dx, e _ _ h1, e _ _ h2⟩
instance : Dup (fzI (K := K) a C fs) := ⟨fun z => z.1⟩
theorem Sep.fzIm (h : Sep L H) (m : fzI a C fs ∈ L) : ∃ dx, H a = some (.ins C dx fs) := by
  obtain ⟨W, s, ⟨_, dx, h1, h2⟩, f⟩ := h.the m
  exact ⟨dx, (f _ _ h1).1⟩
theorem Sep.freezeI (h : Sep (inst a C fs :: L) H) : Sep (fzI a C fs :: L) H := by
  obtain ⟨W, s, f, s1, s2, d, u, ⟨dx, e, h1, h2⟩, h3⟩ := h
  refine ⟨fun b x => W b x ∨ (b = a ∧ x = .ins C dx fs) ∨ (b = dx ∧ x = .own a), s2, fun b x z => ?_, fun _ => False, s2, fun _ z => z.elim, fun b => ⟨.inr, fun z => z.elim False.elim id⟩, ⟨fun _ z => z, dx, .inr (.inl ⟨rfl, rfl⟩), .inr (.inr ⟨rfl, rfl⟩)⟩, h3.mo fun b x z => .inl z⟩
  rcases z with z | ⟨rfl, rfl⟩ | ⟨rfl, rfl⟩
  · exact ⟨(f b x z).1, (f b x z).2.1, fun y => (f b x z).2.2 ((u b).mpr (.inr y))⟩
  · exact ⟨h1, rfl, fun y => d b ((e b).mpr (.inl rfl)) y⟩
  · exact ⟨h2, rfl, fun y => d b ((e b).mpr (.inr rfl)) y⟩
/-- one of them to the front, and back -/
theorem Rem.fold (m : A ∈ L) : ∃ M, (∀ H, Sep L H → Sep (A :: M) H) ∧ Sub (A :: M) L := by
  obtain ⟨M, hM⟩ := Rem.of_mem m
  exact ⟨M, fun H h => h.rem hM, Sub.perm hM.perm.symm⟩
/-! texts walked -/
theorem k_istr {R : It → Hp → Prop} (h : te σ H fun v H1 => ∃ x, v = .str x ∧ R (Its x) H1) : iStr te σ H R := h
theorem k_istX {z : Str} {R : Str → Prop} (h : R z) : ∃ x, V.str z = .str x ∧ R x := ⟨z, rfl, h⟩
theorem wk_str {z : Str} : Wk (Its z) L z.cps.toList.length fun i q => ∀ c, z.cps.toList[i]? = some c → (fun (c : Nat) q => q (V.str ⟨#[c]⟩) ([] : List (As K))) c q where
  go := fun i H hi h => by rw [Array.length_toList] at hi; exact hi
  yl := fun i H x H' R hi h ⟨e, c, hc, ev⟩ q => by
    subst e ev
    exact q c (by rw [Array.getElem?_toList]; exact hc) _ h
  st := fun H h => by rw [Array.length_toList]; exact Nat.le_refl _
theorem k_inSg {c : Nat} {z : Str} (q : Q (.bl (decide (c ∈ z.cps.toList))) H) : rInU K (.str ⟨#[c]⟩) (.str z) H Q := .inr (.inr ⟨c, z, rfl, rfl, q⟩)
/-! slices -/
def cutD (ds : List PyData) (lo hi : Option Int) : List PyData := (ds.drop (HT.sIx ds.length 0 lo)).take (HT.sIx ds.length ds.length hi - HT.sIx ds.length 0 lo)
theorem ImAll.cut (h : ImAll K H xs ds) (lo hi : Option Int) : ImAll K H (cutV xs lo hi) (cutD ds lo hi) := by
  unfold cutV cutD
  rw [h.length]
  exact (h.drop _).take _
theorem cutD_to {i : Int} (h : 0 ≤ i) : cutD ds none (some i) = ds.take i.toNat := by
  obtain ⟨k, rfl⟩ := Int.eq_ofNat_of_zero_le h
  show (ds.drop 0).take (HT.sIx ds.length ds.length (some (k : Int)) - 0) = _
  rw [HT.sIx_nat, List.drop_zero, Nat.sub_zero, Int.toNat_natCast]
  by_cases hk : k ≤ ds.length
  · rw [Nat.min_eq_left hk]
  · rw [Nat.min_eq_right (by omega), List.take_of_length_le (Nat.le_refl _), List.take_of_length_le (by omega)]
theorem cutD_from {i : Int} (h : 0 ≤ i) : cutD ds (some i) none = ds.drop i.toNat := by
  obtain ⟨k, rfl⟩ := Int.eq_ofNat_of_zero_le h
  show (ds.drop (HT.sIx ds.length 0 (some (k : Int)))).take (ds.length - HT.sIx ds.length 0 (some (k : Int))) = _
  rw [HT.sIx_nat, Int.toNat_natCast]
  by_cases hk : k ≤ ds.length
  · rw [Nat.min_eq_left hk]
    exact List.take_of_length_le (by rw [List.length_drop]; omega)
  · rw [Nat.min_eq_right (by omega), List.drop_of_length_le (Nat.le_refl _), List.drop_of_length_le (by omega), List.take_nil]
theorem k_slI {lo hi : Option Int} (h : Sep L H) (m : im (.ref a) (.tuple ds) ∈ L) (q : ∀ p H', Sep (im (.ref p) (.tuple (cutD ds lo hi)) :: L) H' → Q (.ref p) H') : rSlU K (.ref a) lo hi H Q := by
  obtain ⟨a', xs, e, h1, h2⟩ := im_tup (h.imm m)
  cases e
  refine .inr (.inl ⟨a, xs, rfl, h1, fun w => ?_, fun _ p hp => ?_⟩)
  · refine q a H (Sep.im_iff.mpr ⟨?_, h⟩)
    have e : cutD ds lo hi = ds := by
      unfold cutD
      rw [← h2.length, w.1, w.2, List.drop_zero, Nat.sub_zero, h2.length, List.take_length]
    rw [e]
    exact h.imm m
  · exact q p _ (Sep.im_iff.mpr ⟨.tup (sqt_of upd_same) ((ImAll.cut h2 lo hi).mono (Tp.new hp)), h.same (same_new hp)⟩)
theorem k_slD {lo hi : Option Int} (h : Sep L H) (m : ld a ds ∈ L) (q : ∀ p H', Sep (ld p (cutD ds lo hi) :: L) H' → Q (.ref p) H') : rSlU K (.ref a) lo hi H Q := by
  obtain ⟨xs, h1, h2⟩ := h.ldm m
  refine k_slL (sql_of h1) fun p hp => q p _ ?_
  have z := (h.newD (p := p) (xs := []) (ds := []) hp .nil).setD (xs := cutV xs lo hi) (es := cutD ds lo hi) ((ImAll.cut h2 lo hi).mono (Tp.new hp))
  have e : upd (upd H p (.lst [])) p (.lst (cutV xs lo hi)) = upd H p (.lst (cutV xs lo hi)) := by
    funext b
    by_cases hb : b = p
    · rw [hb, upd_same, upd_same]
    · rw [upd_ne hb, upd_ne hb, upd_ne hb]
  rw [e] at z
  exact z
theorem k_slO {lo hi : Option Int} (h : Sep L H) (m : ob a (.lst xs) ∈ L) (q : ∀ p H', Sep (ob p (.lst (cutV xs lo hi)) :: L) H' → Q (.ref p) H') : rSlU K (.ref a) lo hi H Q := k_slL (sql_of (h.obm m)) fun p hp => q p _ (h.new hp rfl)
/-! instances that stand -/
theorem k_fldF {R : V → Prop} {f : Str} (h : Sep L H) (m : fzI a C fs ∈ L) (c : Cls K C) (n : NoAttr K C f) (e : fs.lookup f = some v) (q : R v) : ∃ a' C' dx fs v', V.ref a = .ref a' ∧ H a' = some (.ins C' dx fs) ∧ Cls K C' ∧ NoAttr K C' f ∧ fs.lookup f = some v' ∧ R v' := k_fldt (h.fzIm m) c n e q
theorem k_recvF {R : Addr → Prop} {f : Str} (h : Sep L H) (w : fzI a C fs ∈ L) (e : fs.lookup f = none) (q : R a) : ∃ a' dx fs, V.ref a = .ref a' ∧ H a' = some (.ins C dx fs) ∧ fs.lookup f = none ∧ R a' := by
  obtain ⟨dx, h1⟩ := h.fzIm w
  exact k_recv ⟨dx, fs, h1, e⟩ q
theorem k_non {P : Prop} (h : P) : V.non = .non ∧ P := ⟨rfl, h⟩
end
end Ls
-- own part: U30
namespace LNe
open PySem PySem.W
/-- what a class with __eq__ and no __ne__ is known by -/
def neB (K : Frag) (C : Addr) : Bool := findIn K (.ref C) "__ne__" == some (some (.builtin "object.__ne__")) && subIn K (.ref C) (.type "object") == some true
end LNe
namespace Ls
open PySem PySem.Spec PyProof.Rows L2 C8
/-- what isinstance asks of an own class, by looking -/
def insB (K : PySem.W.Frag) (C : Addr) : Bool := PySem.W.findIn K (.ref C) "__class__" == some (some (.builtin "object.__class__")) && (PySem.W.specialIn K (.builtin "object.__class__") "__get__" == some (some (.builtin "getset_descriptor.__get__")) && (PySem.W.takesIn K (.builtin "object.__class__") == some true && (PySem.W.mroIn K C (.type "object") == some true && PySem.W.kitOne K (.ref C) (.ref C) == some true)))
theorem insB_ok {K : PySem.W.Frag} {C : Addr} (c : Cls K C) (h : insB K C = true) : InsC K C := by
  obtain ⟨h1, h⟩ := Bool.and_eq_true_iff.mp h
  obtain ⟨h2, h⟩ := Bool.and_eq_true_iff.mp h
  obtain ⟨h3, h⟩ := Bool.and_eq_true_iff.mp h
  obtain ⟨h4, h5⟩ := Bool.and_eq_true_iff.mp h
  exact ⟨c, beq_iff_eq.mp h1, beq_iff_eq.mp h2, beq_iff_eq.mp h3, beq_iff_eq.mp h4, beq_iff_eq.mp h5⟩
/-- a default that is the empty tuple -/
def emtB (K : PySem.W.Frag) (a : Addr) : Bool := match K.lookup a with
  | some ⟨.type n, _, .seq its _, _⟩ => n == ("tuple" : String) && its.size == 0
  | _ => false
theorem emtB_ok {K : PySem.W.Frag} {a : Addr} (h : emtB K a = true) (H : Hp) : SqT K H a [] := by
  unfold emtB at h
  split at h
  · rename_i n d its m os e
    obtain ⟨h1, h2⟩ := Bool.and_eq_true_iff.mp h
    have e1 := beq_iff_eq.mp h1
    have e2 : its.size = 0 := beq_iff_eq.mp h2
    refine .inr ⟨_, its, m, e, by rw [e1], rfl, by rw [e2]; exact Nat.zero_le _, ?_⟩
    have : its.toList = [] := by
      have := Array.size_eq_zero_iff.mp e2
      rw [this]
    rw [this]
    exact .nil
  · cases h
end Ls
-- own part: S8
namespace Ls
open PySem PySem.Spec PyProof.Rows L2
section
variable {K : PySem.W.Frag} {A B : As K} {L L' M N : List (As K)} {H H' : Hp} {a p l dx C : Addr} {o u : HO} {v x y w : V} {d e : PyData} {vs xs ys : List V} {ds es : List PyData} {Q : VK} {σ : L2.St} {i j n : Nat} {b : Bool}
instance : Dup (all ([] : List (As K))) := ⟨fun z a => z a⟩
instance [i : Dup A] [j : Dup (all L)] : Dup (all (A :: L)) := ⟨fun ⟨s1, s2, d, u, h1, h2⟩ a z => ((u a).mp z).elim (i.no h1 a) (j.no (A := all L) h2 a)⟩
theorem Sep.ldnil (h : Sep (ld p [] :: L) H) : Sep (ob p (.lst []) :: L) H := by
  obtain ⟨W, s, f, s1, s2, d, u, ⟨e, xs, h1, h2⟩, h3⟩ := h
  cases h2
  exact ⟨W, s, f, s1, s2, d, u, ⟨e, h1, rfl⟩, h3⟩
theorem Sep.dup [i : Dup A] (h : Sep L H) (m : A ∈ L) : Sep (A :: L) H := (Sub.dup m Sub.refl).ok h
/-- the parts of two lists, each by each -/
def al2 {α : Type} (f : V → α → As K) (vs : List V) (xs : List α) : As K := all (pr (vs.length = xs.length) :: List.zipWith f vs xs)
section
variable {α : Type} {f : V → α → As K} {zs ws : List α} {z : α}
theorem Sep.al2_iff : Sep (al2 f vs zs :: L) H ↔ vs.length = zs.length ∧ Sep (List.zipWith f vs zs ++ L) H := by
  unfold al2
  rw [Sep.all_iff, List.cons_append, Sep.pr_iff]
theorem Sep.len2 (h : Sep L H) (m : al2 f vs zs ∈ L) : vs.length = zs.length := by
  obtain ⟨M, hM⟩ := Rem.of_mem m
  exact (Sep.al2_iff.mp (h.rem hM)).1
theorem zip_erase : ∀ {vs : List V} {zs : List α} {i : Nat}, vs[i]? = some v → zs[i]? = some z → (List.zipWith f vs zs).Perm (f v z :: List.zipWith f (vs.eraseIdx i) (zs.eraseIdx i))
  | v' :: vs, z' :: zs, 0, h1, h2 => by
    cases h1
    cases h2
    exact .refl _
  | v' :: vs, z' :: zs, i + 1, h1, h2 => (List.Perm.cons _ (zip_erase (i := i) h1 h2)).trans (.swap _ _ _)
theorem Sep.opn (h : Sep (al2 f vs zs :: L) H) (h1 : vs[i]? = some v) (h2 : zs[i]? = some z) : Sep (f v z :: al2 f (vs.eraseIdx i) (zs.eraseIdx i) :: L) H := by
  obtain ⟨e, h⟩ := Sep.al2_iff.mp h
  have g : Sep (f v z :: (List.zipWith f (vs.eraseIdx i) (zs.eraseIdx i) ++ L)) H := h.perm ((zip_erase h1 h2).append_right L)
  have g2 : Sep (List.zipWith f (vs.eraseIdx i) (zs.eraseIdx i) ++ f v z :: L) H := g.perm List.perm_middle.symm
  have l1 := (List.getElem?_eq_some_iff.mp h1).1
  have l2 := (List.getElem?_eq_some_iff.mp h2).1
  exact (Sep.al2_iff.mpr ⟨by rw [List.length_eraseIdx_of_lt l1, List.length_eraseIdx_of_lt l2, e], g2⟩).perm (.swap _ _ _)
theorem Sep.cls (h : Sep (f v z :: al2 f (vs.eraseIdx i) (zs.eraseIdx i) :: L) H) (h1 : vs[i]? = some v) (h2 : i < zs.length) : Sep (al2 f vs (zs.set i z) :: L) H := by
  have l1 := (List.getElem?_eq_some_iff.mp h1).1
  obtain ⟨e, g⟩ := Sep.al2_iff.mp (h.perm (.swap _ _ _))
  rw [List.length_eraseIdx_of_lt l1, List.length_eraseIdx_of_lt h2] at e
  refine Sep.al2_iff.mpr ⟨by rw [List.length_set]; omega, ?_⟩
  have p := zip_erase (f := f) h1 (List.getElem?_set_self (a := z) h2)
  rw [List.eraseIdx_set_eq] at p
  exact (g.perm List.perm_middle).perm (p.symm.append_right L)
/-- back as it was -/
theorem Sep.cls' (h : Sep (f v z :: al2 f (vs.eraseIdx i) (zs.eraseIdx i) :: L) H) (h1 : vs[i]? = some v) (h2 : zs[i]? = some z) : Sep (al2 f vs zs :: L) H := by
  obtain ⟨h3, h4⟩ := List.getElem?_eq_some_iff.mp h2
  have := h.cls h1 h3
  rw [← h4, List.set_getElem_self] at this
  exact this
theorem Sep.snoc (h : Sep (f v z :: al2 f vs zs :: L) H) : Sep (al2 f (vs ++ [v]) (zs ++ [z]) :: L) H := by
  obtain ⟨e, g⟩ := Sep.al2_iff.mp (h.perm (.swap _ _ _))
  refine Sep.al2_iff.mpr ⟨by rw [List.length_append, List.length_append, e]; rfl, ?_⟩
  rw [List.zipWith_append e]
  show Sep (List.zipWith f vs zs ++ [f v z] ++ L) H
  rw [List.append_assoc]
  exact g
theorem Sep.nil2 (h : Sep L H) : Sep (al2 f [] [] :: L) H := Sep.al2_iff.mpr ⟨rfl, h⟩
theorem Sep.at2 (h : Sep L H) (m : al2 f vs zs ∈ L) (hv : vs[i]? = some v) : ∃ z, zs[i]? = some z := by
  have := h.len2 m
  have l1 := (List.getElem?_eq_some_iff.mp hv).1
  exact ⟨_, List.getElem?_eq_getElem (by omega)⟩
instance [i : ∀ v z, Dup (f v z)] : Dup (al2 f vs zs) := by
  have : ∀ (vs : List V) (zs : List α), Dup (all (List.zipWith f vs zs)) := by
    intro vs
    induction vs with
    | nil => intro zs; exact inferInstanceAs (Dup (all []))
    | cons v vs ih =>
      intro zs
      cases zs with
      | nil => exact inferInstanceAs (Dup (all []))
      | cons z zs =>
        have := ih zs
        exact inferInstanceAs (Dup (all (f v z :: List.zipWith f vs zs)))
  have := this vs zs
  exact inferInstanceAs (Dup (all (pr _ :: List.zipWith f vs zs)))
theorem Sep.get2 [i : ∀ v z, Dup (f v z)] (h : Sep L H) (m : al2 f vs zs ∈ L) (h1 : vs[n]? = some v) (h2 : zs[n]? = some z) : Sep (f v z :: L) H := by
  have g := (h.dup m).opn h1 h2
  exact (g.perm (.swap _ _ _)).tail
end
/-! ### comprehensions of things -/
def LxO (D : Addr) (Iv : Nat → List V → List (As K) → Prop) (i : Nat) : Hp → Prop := fun H => ∃ acc L, Iv i acc L ∧ Sep (ob D (.lst acc) :: L) H
theorem lc_wkO {J : It} {Y : Nat → (V → List (As K) → Prop) → Prop} {g : TG} {tt : TT} {te : TE} {ws : List Nat} {D : Addr} {Qd : Hp → Prop} (Iv : Nat → List V → List (As K) → Prop) (hw : ∀ i acc L, Iv i acc L → Wk J (ob D (.lst acc) :: L) n Y) (h : Sep (ld D [] :: L) H) (h0 : Iv 0 [] L)
    (hs : ∀ i acc L, i < n → Iv i acc L → Y i fun v M => ∀ H, Sep (M ++ ob D (.lst acc) :: L) H → g v (wipe σ ws) H fun σ2 H2 => wipe σ2 ws = wipe σ ws ∧ tt σ2 H2 fun b H3 =>
      if b = true then te σ2 H3 fun y H4 => ∃ zs, H4 D = some (.lst zs) ∧ zs.length < sizeLine ∧ LxO D Iv (i + 1) (upd H4 D (.lst (zs ++ [y]))) else LxO D Iv (i + 1) H3)
    (hd : ∀ acc L H, Iv n acc L → Sep (ob D (.lst acc) :: L) H → Qd H) :
    ∃ W : Nat → Nat → Hp → Prop, (∃ m, W 0 m H) ∧ ∀ i m H, W i m H →
      (J.stop i H ∧ Qd H) ∨ (J.go i H ∧ ∃ Nx : Hp → Prop, (∀ H', Nx H' → ∃ m', m' < m ∧ W (i + 1) m' H') ∧ ∀ x H', J.yld i H x H' → g x (wipe σ ws) H' fun σ2 H2 => wipe σ2 ws = wipe σ ws ∧ tt σ2 H2 fun b H3 =>
        if b = true then te σ2 H3 fun y H4 => ∃ acc, H4 D = some (.lst acc) ∧ acc.length < sizeLine ∧ Nx (upd H4 D (.lst (acc ++ [y]))) else Nx H3) := by
  refine ⟨fun i m H => m = n - i ∧ i ≤ n ∧ LxO D Iv i H, ⟨n, by simp, Nat.zero_le _, [], L, h0, h.ldnil⟩, ?_⟩
  rintro i m H ⟨rfl, hi, acc, L, iv, h⟩
  by_cases hlt : i < n
  · refine .inr ⟨(hw i acc L iv).go i H hlt h, LxO D Iv (i + 1), fun H' p => ⟨n - (i + 1), by omega, rfl, hlt, p⟩, fun x H' y => ?_⟩
    exact (hw i acc L iv).yl i H x H' (fun v H2 => g v (wipe σ ws) H2 fun σ2 H2 => wipe σ2 ws = wipe σ ws ∧ tt σ2 H2 fun b H3 =>
        if b = true then te σ2 H3 fun y H4 => ∃ zs, H4 D = some (.lst zs) ∧ zs.length < sizeLine ∧ LxO D Iv (i + 1) (upd H4 D (.lst (zs ++ [y]))) else LxO D Iv (i + 1) H3) hlt h y (hs i acc L hlt iv)
  · have e : i = n := by omega
    subst e
    exact .inl ⟨(hw i acc L iv).st H h, hd acc L H iv h⟩
theorem lc_keepO {D : Addr} {Iv : Nat → List V → List (As K) → Prop} {i : Nat} {acc : List V} (h : Sep N H) (s : Sub N (ob D (.lst acc) :: L)) (hl : acc.length < sizeLine) (iv : Iv i (acc ++ [y]) L) : ∃ zs, H D = some (.lst zs) ∧ zs.length < sizeLine ∧ LxO D Iv i (upd H D (.lst (zs ++ [y]))) := by
  have g := s.ok h
  exact ⟨acc, g.ob_get, hl, _, _, iv, g.set rfl⟩
theorem lc_skipO {D : Addr} {Iv : Nat → List V → List (As K) → Prop} {i : Nat} {acc : List V} (h : Sep N H) (s : Sub N (ob D (.lst acc) :: L)) (iv : Iv i acc L) : LxO D Iv i H := ⟨_, _, iv, s.ok h⟩
/-! ### lists of things walked -/
theorem wk_ob2 {α : Type} {f : V → α → As K} {zs : List α} [∀ v z, Dup (f v z)] (m : ob a (.lst vs) ∈ L) (m2 : al2 f vs zs ∈ L) : Wk (Itl K a) L zs.length fun i q => ∀ v z, vs[i]? = some v → zs[i]? = some z → q v [f v z] where
  go := fun i H hi h => by
    have := h.len2 m2
    exact ⟨vs, vs[i], sql_of (h.obm m), List.getElem?_eq_getElem (by omega)⟩
  yl := fun i H x H' R hi h ⟨e, y⟩ q => by
    subst e
    have hv := y vs (sql_of (h.obm m))
    obtain ⟨z, hz⟩ := h.at2 m2 hv
    exact q x z hv hz _ (h.get2 m2 hv hz)
  st := fun H h => ⟨vs, sql_of (h.obm m), by rw [h.len2 m2]; exact Nat.le_refl _⟩
/-- as one list of pairs -/
theorem wk_en2 {α : Type} {f : V → α → As K} {zs : List α} (m : ob a (.lst vs) ∈ L) (m2 : al2 f vs zs ∈ L) : Wk (Ite K a) L zs.length fun i q => ∀ v z T, vs[i]? = some v → zs[i]? = some z → q (.ref T) [tu T [.int (i : Nat), v]] where
  go := fun i H hi h => by
    have := h.len2 m2
    exact ⟨vs, vs[i], sql_of (h.obm m), List.getElem?_eq_getElem (by omega)⟩
  yl := fun i H x H' R hi h ⟨T, v, e, hT, e2, y⟩ q => by
    subst e e2
    have hv := y vs (sql_of (h.obm m))
    obtain ⟨z, hz⟩ := h.at2 m2 hv
    exact q v z T hv hz _ (h.newT hT)
  st := fun H h => ⟨vs, sql_of (h.obm m), by rw [h.len2 m2]; exact Nat.le_refl _⟩
/-- of parts that are one's own: no more than that they are there -/
theorem wk_obo {α : Type} {f : V → α → As K} {zs : List α} (m : ob a (.lst vs) ∈ L) (m2 : al2 f vs zs ∈ L) : Wk (Itl K a) L zs.length fun i q => ∀ v z, vs[i]? = some v → zs[i]? = some z → q v [] where
  go := fun i H hi h => by
    have := h.len2 m2
    exact ⟨vs, vs[i], sql_of (h.obm m), List.getElem?_eq_getElem (by omega)⟩
  yl := fun i H x H' R hi h ⟨e, y⟩ q => by
    subst e
    have hv := y vs (sql_of (h.obm m))
    obtain ⟨z, hz⟩ := h.at2 m2 hv
    exact q x z hv hz _ h
  st := fun H h => ⟨vs, sql_of (h.obm m), by rw [h.len2 m2]; exact Nat.le_refl _⟩
end
end Ls
namespace Ls
open PySem PySem.Spec PyProof.Rows L2
section
variable {K : PySem.W.Frag} {A B : As K} {L L' M N : List (As K)} {H H' : Hp} {a p l dx C : Addr} {o u : HO} {v x y w : V} {d e : PyData} {vs xs ys : List V} {ds es : List PyData} {Q : VK} {σ : L2.St} {i j n : Nat} {b : Bool} {α : Type} {zs : List α} {J : It} {g : TG} {tt : TT} {te : TE} {ws : List Nat} {D : Addr} {Qd : Hp → Prop} {Y : Nat → (V → List (As K) → Prop) → Prop}
def Fl2 (zs : List α) (r : Nat → α → List PyData) (L : List (As K)) : Nat → List PyData → List (As K) → Prop := fun i acc L' => L' = L ∧ acc = (zs.zipIdx.take i).flatMap fun z => r z.2 z.1
theorem lc_flat2 (r : Nat → α → List PyData) (h : Sep (ld D [] :: L) H) (hw : ∀ acc, Wk J (ld D acc :: L) zs.length Y)
    (hs : ∀ i z acc, zs[i]? = some z → (∀ d, r i z = [d] → Fl2 zs r L (i + 1) (acc ++ [d]) L) → (r i z = [] → Fl2 zs r L (i + 1) acc L) → acc.length ≤ i → Y i fun v M => ∀ H, Sep (M ++ ld D acc :: L) H → g v (wipe σ ws) H fun σ2 H2 => wipe σ2 ws = wipe σ ws ∧ tt σ2 H2 fun b H3 =>
      if b = true then te σ2 H3 fun y H4 => ∃ xs, H4 D = some (.lst xs) ∧ xs.length < sizeLine ∧ Lx D (Fl2 zs r L) (i + 1) (upd H4 D (.lst (xs ++ [y]))) else Lx D (Fl2 zs r L) (i + 1) H3)
    (hd : ∀ H, Sep (ld D (zs.zipIdx.flatMap fun z => r z.2 z.1) :: L) H → Qd H) (hr : ∀ i z, (r i z).length ≤ 1 := by intro _ _; first | exact Nat.le_refl _ | (split <;> exact Nat.le_of_ble_eq_true rfl)) :
    ∃ W : Nat → Nat → Hp → Prop, (∃ m, W 0 m H) ∧ ∀ i m H, W i m H →
      (J.stop i H ∧ Qd H) ∨ (J.go i H ∧ ∃ Nx : Hp → Prop, (∀ H', Nx H' → ∃ m', m' < m ∧ W (i + 1) m' H') ∧ ∀ x H', J.yld i H x H' → g x (wipe σ ws) H' fun σ2 H2 => wipe σ2 ws = wipe σ ws ∧ tt σ2 H2 fun b H3 =>
        if b = true then te σ2 H3 fun y H4 => ∃ acc, H4 D = some (.lst acc) ∧ acc.length < sizeLine ∧ Nx (upd H4 D (.lst (acc ++ [y]))) else Nx H3) := by
  refine lc_wk (n := zs.length) (Y := Y) (Fl2 zs r L) (fun i acc L' e => e.1 ▸ hw acc) h ⟨rfl, rfl⟩ (fun i acc L' hi e => ?_) (fun acc L' H e h => ?_)
  · obtain ⟨rfl, rfl⟩ := e
    have hz : zs[i]? = some zs[i] := List.getElem?_eq_getElem hi
    have e1 : zs.zipIdx.take (i + 1) = zs.zipIdx.take i ++ [(zs[i], i)] := by rw [List.take_add_one, List.getElem?_zipIdx, hz]; simp
    refine hs i _ _ hz (fun d hd => ⟨rfl, ?_⟩) (fun hd => ⟨rfl, ?_⟩) ?_
    · rw [e1, List.flatMap_append, List.flatMap_cons]
      dsimp only
      rw [hd]; rfl
    · rw [e1, List.flatMap_append, List.flatMap_cons]
      dsimp only
      rw [hd, List.flatMap_nil, List.append_nil, List.append_nil]
    · have := flat_len (fun z : α × Nat => r z.2 z.1) (fun z => hr _ _) (zs.zipIdx.take i)
      rw [List.length_take] at this
      omega
  · obtain ⟨rfl, rfl⟩ := e
    rw [List.take_of_length_le (by rw [List.length_zipIdx]; exact Nat.le_refl _)] at h
    exact hd H h
theorem flat2_map (f : α → PyData) : ∀ (zs : List α) (k : Nat), ((zs.zipIdx k).flatMap fun z => [f z.1]) = zs.map f
  | [], _ => rfl
  | z :: zs, k => by rw [List.zipIdx_cons, List.flatMap_cons, List.map_cons, flat2_map f zs]; rfl
/-- those kept of a list of things -/
def Flt (f : V → α → As K) (zs : List α) (c : α → Bool) (L : List (As K)) : Nat → List V → List (As K) → Prop := fun i acc L' => L' = al2 f acc ((zs.take i).filter c) :: L ∧ acc.length ≤ i
theorem lc_filt {f : V → α → As K} (c : α → Bool) (h : Sep (ld D [] :: L) H) (hw : ∀ acc N, Wk J (ob D (.lst acc) :: N :: L) zs.length fun i q => ∀ v z, vs[i]? = some v → zs[i]? = some z → q v [f v z])
    (hs : ∀ i v z acc N, vs[i]? = some v → zs[i]? = some z → acc.length ≤ i → i < zs.length → N = al2 f acc ((zs.take i).filter c) →
      (c z = true → ∀ {R H}, Sep R H → Sub R (ob D (.lst acc) :: f v z :: N :: L) → acc.length < sizeLine → ∃ xs, H D = some (.lst xs) ∧ xs.length < sizeLine ∧ LxO D (Flt f zs c L) (i + 1) (upd H D (.lst (xs ++ [v])))) →
      (c z = false → ∀ {R H}, Sep R H → Sub R (ob D (.lst acc) :: N :: L) → LxO D (Flt f zs c L) (i + 1) H) → ∀ H, Sep (f v z :: ob D (.lst acc) :: N :: L) H → g v (wipe σ ws) H fun σ2 H2 => wipe σ2 ws = wipe σ ws ∧ tt σ2 H2 fun b H3 =>
      if b = true then te σ2 H3 fun y H4 => ∃ xs, H4 D = some (.lst xs) ∧ xs.length < sizeLine ∧ LxO D (Flt f zs c L) (i + 1) (upd H4 D (.lst (xs ++ [y]))) else LxO D (Flt f zs c L) (i + 1) H3)
    (hd : ∀ acc H, Sep (ob D (.lst acc) :: al2 f acc (zs.filter c) :: L) H → Qd H) :
    ∃ W : Nat → Nat → Hp → Prop, (∃ m, W 0 m H) ∧ ∀ i m H, W i m H →
      (J.stop i H ∧ Qd H) ∨ (J.go i H ∧ ∃ Nx : Hp → Prop, (∀ H', Nx H' → ∃ m', m' < m ∧ W (i + 1) m' H') ∧ ∀ x H', J.yld i H x H' → g x (wipe σ ws) H' fun σ2 H2 => wipe σ2 ws = wipe σ ws ∧ tt σ2 H2 fun b H3 =>
        if b = true then te σ2 H3 fun y H4 => ∃ acc, H4 D = some (.lst acc) ∧ acc.length < sizeLine ∧ Nx (upd H4 D (.lst (acc ++ [y]))) else Nx H3) := by
  have h0 : Sep (ld D [] :: al2 f [] [] :: L) H := (Sep.nil2 h).perm (.swap _ _ _)
  refine lc_wkO (n := zs.length) (Flt f zs c L) (fun i acc L' e => e.1 ▸ hw acc _) h0 ⟨rfl, Nat.zero_le _⟩ (fun i acc L' hi e v z hv hz H h => ?_) (fun acc L' H e h => ?_)
  · obtain ⟨rfl, el⟩ := e
    have e1 : zs.take (i + 1) = zs.take i ++ [z] := by rw [List.take_add_one, hz]; rfl
    refine hs i v z acc _ hv hz el hi rfl (fun hc {R H} hR s hl => ?_) (fun hc {R H} hR s => ?_) H h
    · have g1 := s.ok hR
      have g2 : Sep (ob D (.lst acc) :: al2 f (acc ++ [v]) ((zs.take i).filter c ++ [z]) :: L) H := (Sep.snoc (g1.perm ((List.Perm.swap _ _ _).trans (List.Perm.cons _ (.swap _ _ _))))).perm (.swap _ _ _) |>.perm (by
        first | exact .refl _ | exact .swap _ _ _)
      refine lc_keepO g2 .refl hl ⟨?_, by rw [List.length_append]; exact Nat.succ_le_succ el⟩
      rw [e1, List.filter_append, List.filter_cons_of_pos hc]
      rfl
    · refine ⟨acc, _, ⟨?_, Nat.le_succ_of_le el⟩, s.ok hR⟩
      rw [e1, List.filter_append, List.filter_cons_of_neg (by rw [hc]; exact Bool.false_ne_true), List.filter_nil, List.append_nil]
  · obtain ⟨rfl, el⟩ := e
    rw [List.take_length] at h
    exact hd acc H h
end
end Ls
-- own part: U16
namespace Ls
open PySem PySem.Spec PyProof.Rows L2
/-! ### a list beside an empty one -/
def rEqZ (K : PySem.W.Frag) : R2 := fun x y H Q => rEqU K x y H Q ∨ ∃ a b xs, x = .ref a ∧ y = .ref b ∧ H a = some (.lst xs) ∧ H b = some (.lst []) ∧ Q (.bl (decide (xs = []))) H
def rNeZ (K : PySem.W.Frag) : R2 := fun x y H Q => rNeU K x y H Q ∨ ∃ a b xs, x = .ref a ∧ y = .ref b ∧ H a = some (.lst xs) ∧ H b = some (.lst []) ∧ Q (.bl (!decide (xs = []))) H
section
variable {X : Cx}
theorem op_eqZ (K : PySem.W.Frag) (hK : X.K = K) (hu : X.A.units + 66 < cLine) : OpR X (compareOp .Eq) (rEqZ K) := by
  subst hK
  refine OpR.or (op_eqU0 hu) ?_
  intro pins s σ H x y v u Q I rx ry h
  obtain ⟨a, b, xs, rfl, rfl, ha, hb, q⟩ := h
  by_cases e : xs = []
  · subst e
    refine op_eqD (by omega) pins s σ H (.ref a) (.ref b) v u Q I rx ry ⟨.list [], .list [], .lst (sql_of ha) .nil, .lst (sql_of hb) .nil, by decide, by decide, ?_⟩
    exact q
  · cases rx
    cases ry
    obtain ⟨its, n, r, e1, _⟩ := I.lst ha
    obtain ⟨its2, n2, r2, e2, _⟩ := I.lst hb
    rw [decide_eq_false e] at q
    have hl := r.length
    have hl2 := r2.length
    have hx : xs.length ≠ 0 := fun z => e (List.eq_nil_of_length_eq_zero z)
    refine SeqAt.RcAt.lists_lengths (A := X.A) (s := s) (items := its.toArray) (items2 := its2.toArray) ⟨_, e1, rfl, n, rfl⟩ ⟨_, e2, rfl, n2, rfl⟩ ?_ (by omega) X.prog X.w X.xe _ ⟨.bl false, H, I, rfl, q⟩
    rw [List.size_toArray, List.size_toArray, ← hl, ← hl2]
    simpa using hx
theorem op_neZ (K : PySem.W.Frag) (hK : X.K = K) (hu : X.A.units + 66 < cLine) : OpR X (compareOp .NotEq) (rNeZ K) := by
  subst hK
  refine OpR.or (op_neU0 hu) ?_
  intro pins s σ H x y v u Q I rx ry h
  obtain ⟨a, b, xs, rfl, rfl, ha, hb, q⟩ := h
  by_cases e : xs = []
  · subst e
    refine op_neD (by omega) pins s σ H (.ref a) (.ref b) v u Q I rx ry ⟨.list [], .list [], .lst (sql_of ha) .nil, .lst (sql_of hb) .nil, by decide, by decide, ?_⟩
    exact q
  · cases rx
    cases ry
    obtain ⟨its, n, r, e1, _⟩ := I.lst ha
    obtain ⟨its2, n2, r2, e2, _⟩ := I.lst hb
    rw [decide_eq_false e] at q
    have hl := r.length
    have hl2 := r2.length
    have hx : xs.length ≠ 0 := fun z => e (List.eq_nil_of_length_eq_zero z)
    refine SeqAt.RcNeAt.lists_lengths (A := X.A) (s := s) (items := its.toArray) (items2 := its2.toArray) ⟨_, e1, rfl, n, rfl⟩ ⟨_, e2, rfl, n2, rfl⟩ ?_ (by omega) X.prog X.w X.xe _ ⟨.bl true, H, I, rfl, q⟩
    rw [List.size_toArray, List.size_toArray, ← hl, ← hl2]
    simpa using hx
end
end Ls
-- own part: S9
namespace Ls
open PySem PySem.Spec PyProof.Rows L2
section
variable {K : PySem.W.Frag} {A B : As K} {L L' M N : List (As K)} {H H' : Hp} {a p l dx C : Addr} {o u : HO} {v x y w : V} {d e : PyData} {vs xs ys : List V} {ds es : List PyData} {Q : VK} {σ : L2.St} {i j n : Nat} {k : Int} {b : Bool}
theorem Sep.ldem (h : Sep L H) (m : ld p [] ∈ L) : H p = some (.lst []) := by
  obtain ⟨xs, h1, h2⟩ := h.ldm m
  cases h2
  exact h1
theorem k_eqzO (h : Sep L H) (m : ob a (.lst xs) ∈ L) (m2 : ld p [] ∈ L) (q : Q (.bl (decide (xs = []))) H) : rEqZ K (.ref a) (.ref p) H Q := .inr ⟨a, p, xs, rfl, rfl, h.obm m, h.ldem m2, q⟩
theorem k_nezO (h : Sep L H) (m : ob a (.lst xs) ∈ L) (m2 : ld p [] ∈ L) (q : Q (.bl (!decide (xs = []))) H) : rNeZ K (.ref a) (.ref p) H Q := .inr ⟨a, p, xs, rfl, rfl, h.obm m, h.ldem m2, q⟩
theorem imall_nil (h : ImAll K H xs ds) : decide (xs = []) = decide (ds = []) := by
  cases h <;> rfl
theorem k_eqzD (h : Sep L H) (m : ld a ds ∈ L) (m2 : ld p [] ∈ L) (q : Q (.bl (decide (ds = []))) H) : rEqZ K (.ref a) (.ref p) H Q := by
  obtain ⟨xs, h1, h2⟩ := h.ldm m
  exact .inr ⟨a, p, xs, rfl, rfl, h1, h.ldem m2, by rw [imall_nil h2]; exact q⟩
theorem k_nezD (h : Sep L H) (m : ld a ds ∈ L) (m2 : ld p [] ∈ L) (q : Q (.bl (!decide (ds = []))) H) : rNeZ K (.ref a) (.ref p) H Q := by
  obtain ⟨xs, h1, h2⟩ := h.ldm m
  exact .inr ⟨a, p, xs, rfl, rfl, h1, h.ldem m2, by rw [imall_nil h2]; exact q⟩
theorem k_popAtO (h : Sep L H) (r : Rep L (ob a (.lst xs)) (ob a (.lst (xs.eraseIdx i))) M) (e : xs[i]? = some v) (hb : i < 1000000) (q : ∀ H', Sep M H' → Q v H') : rPopAt (.ref a) [.int (i : Nat)] H Q := by
  have hi := (List.getElem?_eq_some_iff.mp e).1
  refine ⟨a, xs, (i : Nat), i, v, rfl, rfl, h.obm r.mem, by omega, by omega, ?_, e, q _ (h.setR r rfl)⟩
  have := (ixN_seq (n := xs.length) (i := (i : Int)) (j := i) ?_).1
  · exact this
  · unfold ixN
    rw [if_pos (by omega), if_pos (by omega)]
    rfl
theorem k_popO (h : Sep L H) (r : Rep L (ob a (.lst xs)) (ob a (.lst xs.dropLast)) M) (e : xs[xs.length - 1]? = some v) (q : ∀ H', Sep M H' → Q v H') : rPop (.ref a) [] H Q :=
  ⟨a, xs, v, rfl, rfl, h.obm r.mem, e, q _ (h.setR r rfl)⟩
theorem ImAll.dropLast (h : ImAll K H xs ds) : ImAll K H xs.dropLast ds.dropLast := by
  rw [List.dropLast_eq_take, List.dropLast_eq_take, h.length]
  exact h.take _
theorem k_popD (h : Sep L H) (r : Rep L (ld a ds) (ld a ds.dropLast) M) (e : ds[ds.length - 1]? = some d) (q : Gv (K := K) d fun v N => ∀ H', Sep (N ++ M) H' → Q v H') : rPop (.ref a) [] H Q := by
  obtain ⟨xs, h1, h2⟩ := h.ldm r.mem
  obtain ⟨v, hv, hd⟩ := h2.getD e
  rw [← h2.length] at hv
  refine ⟨a, xs, v, rfl, rfl, h1, hv, ?_⟩
  have h3 : Sep M (upd H a (.lst xs.dropLast)) := h.setDR r (ImAll.dropLast h2)
  have hd' : Im K (upd H a (.lst xs.dropLast)) v d := hd.mono (tp_upd h1 rfl).1
  refine Gv.go (R := fun v => Q v (upd H a (.lst xs.dropLast))) hd' h3 (q.mono fun v N g hM => g _ hM)
theorem k_extO (h : Sep L H) (r : Rep L (ob a (.lst xs)) (ob a (.lst (xs ++ ys))) M) (m : ob p (.lst ys) ∈ L) (hl : xs.length + ys.length ≤ sizeLine) (q : ∀ H', Sep M H' → Q .non H') : rExtend (.ref a) [.ref p] H Q :=
  ⟨a, p, xs, ys, rfl, rfl, h.obm r.mem, h.obm m, hl, q _ (h.setR r rfl)⟩
theorem k_setO {R : Hp → Prop} (h : Sep L H) (r : Rep L (ob a (.lst xs)) (ob a (.lst (xs.set j v))) M) (e : ixN xs.length k = some j) (q : ∀ H', Sep M H' → R H') : rSetL (.ref a) (.int k) v H R :=
  ⟨a, xs, k, j, rfl, rfl, h.obm r.mem, e, q _ (h.setR r rfl)⟩
theorem ixN_nat {n j : Nat} (h : j < n) : ixN n (j : Int) = some j := by
  unfold ixN
  rw [if_pos (by omega), if_pos (by omega)]
  rfl
theorem k_madeT {sp : Sp} {Qf : Addr → VK} {E : XK} (h : Sep L H) (q : ∀ x H', Sep (inst x C [] :: L) H' → sp (.ref x :: vs) H' (Qf x) E) : ∀ x dx, H x = none → H dx = none → dx ≠ x → sp (.ref x :: vs) (upd (upd H dx (.own x)) x (.ins C dx [])) (Qf x) E := fun x dx hx hd ne => q x _ (h.newInst hx hd ne)
theorem k_asg2 {te : TE} {g1 g2 : TG} {D : Ends} (h : te σ H fun x H1 => g1 x σ H1 fun σ1 H2 => g2 x σ1 H2 D.nx) : tAsg2 te g1 g2 D σ H := h
theorem k_putG {α β γ : Type} {g : α → β → Hp → γ → Prop} {z1 : α} {z2 : β} {z3 : γ} {f : Str} {fs gs : List (Str × V)} (h : Sep L H) (r : Rep L (inst a C fs) (inst a C gs) M) (c : Cls K C) (n : NoAttr K C f) (hl : fs.length < 1000) (e : putF f y fs = gs) (q : ∀ H', Sep M H' → g z1 z2 H' z3) : ∃ a' C' dx fs, V.ref a = .ref a' ∧ H a' = some (.ins C' dx fs) ∧ Cls K C' ∧ NoAttr K C' f ∧ fs.length < 1000 ∧ g z1 z2 (upd H a' (.ins C' dx (putF f y fs))) z3 := k_putS' (R := fun H => g z1 z2 H z3) h r c n hl e q
theorem k_fldA {R : Addr → Addr → V → Prop} {f : Str} {fs : List (Str × V)} (h : Sep L H) (m : inst a C fs ∈ L) (c : Cls K C) (n : NoAttr K C f) (e : fs.lookup f = some v) (q : R a C v) : ∃ a' C' dx fs v', V.ref a = .ref a' ∧ H a' = some (.ins C' dx fs) ∧ Cls K C' ∧ NoAttr K C' f ∧ fs.lookup f = some v' ∧ R a' C' v' := by
  obtain ⟨dx, h1⟩ := h.insm m
  exact ⟨a, C, dx, fs, v, rfl, h1, c, n, e, q⟩
theorem k_slTu {lo hi : Option Int} (h : Sep L H) (m : tu a xs ∈ L) (q : ∀ p H', Sep (tu p (cutV xs lo hi) :: L) H' → Q (.ref p) H') : rSlU K (.ref a) lo hi H Q := by
  have h1 := h.tum m
  refine .inr (.inl ⟨a, xs, rfl, h1, fun w => ?_, fun _ p hp => ?_⟩)
  · refine q a H (Sep.tu_iff.mpr ⟨?_, h⟩)
    have e : cutV xs lo hi = xs := by
      unfold cutV
      rw [w.1, w.2, List.drop_zero, Nat.sub_zero, List.take_length]
    rw [e]
    exact h1
  · exact q p _ (Sep.tu_iff.mpr ⟨sqt_of upd_same, h.same (same_new hp)⟩)
theorem k_addTI (h : Sep L H) (m : tu a xs ∈ L) (m2 : im (.ref l) (.tuple ds) ∈ L) (hl : xs.length + ds.length ≤ sizeLine) (hx : xs ≠ []) (hd : ds ≠ []) (q : GvAll (K := K) ds fun vs N => ∀ p H', Sep (tu p (xs ++ vs) :: (N ++ L)) H' → Q (.ref p) H') : rAddU K (.ref a) (.ref l) H Q := by
  obtain ⟨a', ys, e, h1, h2⟩ := im_tup (h.imm m2)
  cases e
  obtain ⟨N, h3, h4⟩ := q.go h2 h
  refine k_addT (h.tum m) h1 (by rw [h2.length]; exact hl) (fun e => (hx e).elim) (fun _ e => ?_) fun p hp => h3 p _ (Sep.newT h4 hp)
  subst e
  cases h2
  exact (hd rfl).elim
theorem atI_last (h : xs[xs.length - 1]? = some v) : atI xs (-1) = some v := by
  have hl := (List.getElem?_eq_some_iff.mp h).1
  unfold atI ixN
  rw [if_neg (by omega), if_pos (by omega)]
  have e : ((-1 : Int) + (xs.length : Int)).toNat = xs.length - 1 := by omega
  simp only [e]
  exact h
end
end Ls
-- own part: S10
namespace Ls
open PySem PySem.Spec PyProof.Rows L2
section
variable {K : PySem.W.Frag} {A B : As K} {L L' M N : List (As K)} {H H' : Hp} {a p l dx C : Addr} {v x y w : V} {vs us : List V} {Q : VK} {σ : L2.St} {i j n : Nat} {b : Bool} {α β : Type} {zs ws : List α} {J : It} {g : TG} {tt : TT} {te : TE} {wi : List Nat} {D : Addr} {Qd : Hp → Prop} {Y : Nat → (V → List (As K) → Prop) → Prop}
theorem Sep.cat {f : V → α → As K} (h : Sep (al2 f us ws :: al2 f vs zs :: L) H) : Sep (al2 f (vs ++ us) (zs ++ ws) :: L) H := by
  obtain ⟨e, g⟩ := Sep.al2_iff.mp h
  have g2 : Sep (al2 f vs zs :: (List.zipWith f us ws ++ L)) H := g.perm List.perm_middle
  obtain ⟨e2, g3⟩ := Sep.al2_iff.mp g2
  refine Sep.al2_iff.mpr ⟨by rw [List.length_append, List.length_append, e, e2], ?_⟩
  rw [List.zipWith_append e2, List.append_assoc]
  exact g3
theorem Sep.snoc' {f : V → α → As K} {z : α} (h : Sep (al2 f vs zs :: f v z :: L) H) : Sep (al2 f (vs ++ [v]) (zs ++ [z]) :: L) H := (h.perm (.swap _ _ _)).snoc
theorem Sep.upd2 {f : V → α → As K} {z : α} (h : Sep (f w z :: al2 f vs zs :: L) H) (h1 : i < vs.length) (h2 : i < zs.length) : Sep (al2 f (vs.set i w) (zs.set i z) :: L) H := by
  have h3 := (h.perm (.swap _ _ _)).opn (List.getElem?_eq_getElem h1) (List.getElem?_eq_getElem h2)
  have h4 : Sep (f w z :: al2 f (vs.eraseIdx i) (zs.eraseIdx i) :: L) H := h3.tail.perm (.swap _ _ _)
  rw [← List.eraseIdx_set_eq (a := w)] at h4
  exact h4.cls (List.getElem?_set_self h1) h2
theorem Sep.drops : ∀ {M : List (As K)}, Sep (M ++ L) H → Sep L H
  | [], h => h
  | _ :: _, h => Sep.drops (Sep.tail h)
theorem Sep.take2 {f : V → α → As K} (h : Sep (al2 f vs zs :: L) H) (k : Nat) : Sep (al2 f (vs.take k) (zs.take k) :: L) H := by
  obtain ⟨e, g⟩ := Sep.al2_iff.mp h
  refine Sep.al2_iff.mpr ⟨by rw [List.length_take, List.length_take, e], ?_⟩
  rw [← List.take_zipWith]
  have g2 : Sep (((List.zipWith f vs zs).take k ++ (List.zipWith f vs zs).drop k) ++ L) H := by rw [List.take_append_drop]; exact g
  rw [List.append_assoc] at g2
  have g3 : Sep ((List.zipWith f vs zs).drop k ++ ((List.zipWith f vs zs).take k ++ L)) H := g2.perm (by
    rw [← List.append_assoc, ← List.append_assoc]
    exact (List.perm_append_comm).append_right L)
  exact g3.drops
theorem Sep.dropLast2 {f : V → α → As K} (h : Sep (al2 f vs zs :: L) H) : Sep (al2 f vs.dropLast zs.dropLast :: L) H := by
  have e := h.len2 List.mem_cons_self
  have := h.take2 (vs.length - 1)
  rw [List.dropLast_eq_take, List.dropLast_eq_take, ← e]
  exact this
theorem k_aug {k : Nat} {te : TE} {ti : TIp} {D : Ends} (e : σ[k]? = some (some x)) (h : te σ H fun y H1 => ti x y H1 fun z H2 => D.nx (σ.set k (some z)) H2) : tAug k te ti D σ H := ⟨x, e, h⟩
theorem k_ipI {f : Int → Int → Int} {i j : Int} (q : Q (.int (f i j)) H) : ipI f (.int i) (.int j) H Q := ⟨i, j, rfl, rfl, q⟩
theorem k_makeK {gV : List V → List V → List V} {m : Nat} {sp : Sp} {E : XK} {t tk : TA} (h : t σ H fun vs H1 => tk σ H1 fun zs H2 => vs.length = n ∧ zs.length = m ∧ ∀ x dx, H2 x = none → H2 dx = none → dx ≠ x →
  sp (gV (.ref x :: vs) zs) (upd (upd H2 dx (.own x)) x (.ins C dx [])) (fun v H3 => v = .non ∧ Q (.ref x) H3) E) : tMakeK C n m sp gV E t tk σ H Q := h
theorem k_madeK {sp : Sp} {args : Addr → List V} {Qf : Addr → VK} {E : XK} (h : Sep L H) (q : ∀ x H', Sep (inst x C [] :: L) H' → sp (args x) H' (Qf x) E) : ∀ x dx, H x = none → H dx = none → dx ≠ x → sp (args x) (upd (upd H dx (.own x)) x (.ins C dx [])) (Qf x) E := fun x dx hx hd ne => q x _ (h.newInst hx hd ne)
theorem k_gsub {to ti : TE} {t : TSet} {R : L2.St → Hp → Prop} (h : to σ H fun o H1 => ti σ H1 fun i H2 => t o i v H2 fun H3 => R σ H3) : gSub to ti t v σ H R := h
/-- objects made, one or none for each -/
def Fo (F : V → β → As K) (zs : List α) (r : Nat → α → List β) (L : List (As K)) : Nat → List V → List (As K) → Prop := fun i acc L' => L' = al2 F acc ((zs.zipIdx.take i).flatMap fun z => r z.2 z.1) :: L ∧ acc.length ≤ i
theorem lc_objs {F : V → β → As K} (r : Nat → α → List β) (h : Sep (ld D [] :: L) H) (hz : zs.length ≤ sizeLine) (hw : ∀ acc N, Wk J (ob D (.lst acc) :: N :: L) zs.length Y)
    (hs : ∀ i z acc N, zs[i]? = some z →
      (∀ b, r i z = [b] → ∀ {R H y}, Sep R H → Sub R (ob D (.lst acc) :: N :: F y b :: L) → ∃ xs, H D = some (.lst xs) ∧ xs.length < sizeLine ∧ LxO D (Fo F zs r L) (i + 1) (upd H D (.lst (xs ++ [y])))) →
      (r i z = [] → ∀ {R H}, Sep R H → Sub R (ob D (.lst acc) :: N :: L) → LxO D (Fo F zs r L) (i + 1) H) →
      Y i fun v M => ∀ H, Sep (M ++ ob D (.lst acc) :: N :: L) H → g v (wipe σ wi) H fun σ2 H2 => wipe σ2 wi = wipe σ wi ∧ tt σ2 H2 fun b H3 =>
      if b = true then te σ2 H3 fun y H4 => ∃ xs, H4 D = some (.lst xs) ∧ xs.length < sizeLine ∧ LxO D (Fo F zs r L) (i + 1) (upd H4 D (.lst (xs ++ [y]))) else LxO D (Fo F zs r L) (i + 1) H3)
    (hd : ∀ acc H, acc.length ≤ zs.length → Sep (ob D (.lst acc) :: al2 F acc (zs.zipIdx.flatMap fun z => r z.2 z.1) :: L) H → Qd H) :
    ∃ W : Nat → Nat → Hp → Prop, (∃ m, W 0 m H) ∧ ∀ i m H, W i m H →
      (J.stop i H ∧ Qd H) ∨ (J.go i H ∧ ∃ Nx : Hp → Prop, (∀ H', Nx H' → ∃ m', m' < m ∧ W (i + 1) m' H') ∧ ∀ x H', J.yld i H x H' → g x (wipe σ wi) H' fun σ2 H2 => wipe σ2 wi = wipe σ wi ∧ tt σ2 H2 fun b H3 =>
        if b = true then te σ2 H3 fun y H4 => ∃ acc, H4 D = some (.lst acc) ∧ acc.length < sizeLine ∧ Nx (upd H4 D (.lst (acc ++ [y]))) else Nx H3) := by
  have h0 : Sep (ld D [] :: al2 F [] [] :: L) H := (Sep.nil2 h).perm (.swap _ _ _)
  refine lc_wkO (n := zs.length) (Fo F zs r L) (fun i acc L' e => e.1 ▸ hw acc _) h0 ⟨rfl, Nat.zero_le _⟩ (fun i acc L' hi e => ?_) (fun acc L' H e h => ?_)
  · obtain ⟨rfl, el⟩ := e
    have hz' : zs[i]? = some zs[i] := List.getElem?_eq_getElem hi
    have e1 : zs.zipIdx.take (i + 1) = zs.zipIdx.take i ++ [(zs[i], i)] := by rw [List.take_add_one, List.getElem?_zipIdx, hz']; simp
    refine hs i _ acc _ hz' (fun b hb {R H y} hR s => ?_) (fun hb {R H} hR s => ?_)
    · have g1 := s.ok hR
      have g2 : Sep (ob D (.lst acc) :: al2 F (acc ++ [y]) (((zs.zipIdx.take i).flatMap fun z => r z.2 z.1) ++ [b]) :: L) H := (Sep.snoc' (g1.perm ((List.Perm.swap _ _ _).trans (List.Perm.cons _ (.swap _ _ _))))).perm (.swap _ _ _)
      refine lc_keepO g2 .refl (by omega) ⟨?_, by rw [List.length_append]; exact Nat.succ_le_succ el⟩
      rw [e1, List.flatMap_append, List.flatMap_cons]
      dsimp only
      rw [hb]
      rfl
    · refine ⟨acc, _, ⟨?_, Nat.le_succ_of_le el⟩, s.ok hR⟩
      rw [e1, List.flatMap_append, List.flatMap_cons]
      dsimp only
      rw [hb, List.flatMap_nil, List.append_nil, List.append_nil]
  · obtain ⟨rfl, el⟩ := e
    rw [List.take_of_length_le (by rw [List.length_zipIdx]; exact Nat.le_refl _)] at h
    exact hd acc H el h
end
end Ls
-- own part: S11
namespace Ls
open PySem PySem.Spec PyProof.Rows L2
/-! ### len(x) of an own class -/
section
variable {X : Cx} {CX : CXT} {n : Nat} {C f : Addr} {fd : FuncData} {ps : List Str} {sp : Sp} {E : XK} {K : PySem.W.Frag}
def rLenC (C : Addr) (sp : Sp) (E : XK) : List V → Hp → VK → Prop := fun xs H Q => ∃ a dx fs, xs = [.ref a] ∧ H a = some (.ins C dx fs) ∧ sp [.ref a] H (fun v H' => ∃ i : Int, v = .int i ∧ 0 ≤ i ∧ i < 2 ^ 63 ∧ Q (.int i) H') E
theorem call_lenC (hm : Meth X.K C "__len__" f) (F : FnOk X.prog X.w X.K X.mg X.base CX n f fd ps sp) (hr : Room (n + 1) X.A) (hb : L2.Binds X.K fd ps []) (hx : Passes CX X E) : CallR X (.builtin "len") (rLenC C sp E) := by
  intro pins s σ H xs us Q I r h
  obtain ⟨a, dx, fs, rfl, ha, hsp⟩ := h
  obtain ⟨u, rfl, ru⟩ := vals1 r
  obtain rfl : u = Value.ref a := ru
  obtain ⟨mA, J, _⟩ := ins_get I.hok ha
  obtain ⟨od, J, _⟩ := J.look
  obtain ⟨m, hF⟩ := I.fr
  have sb : L2.Sub X n X.A.in1 := ⟨hr.in1, rfl⟩
  refine PySem.W.len_K hF I.ok.mod.kin J hm.at_ hm.fn ?_
  have e0 : Env0 X.prog X.w X.K X.mg X.base X.A.in1 X.stack s H := by
    have e := I.env0
    exact ⟨by rw [sb.fr]; exact e.frames, e.mod, e.bs, e.bsz, e.funs, e.frf, e.hok, e.bare⟩
  have hl := F.len _ _ _ _ hsp
  have r2 : Vals [V.ref a] [Value.ref a] := .cons rfl .nil
  refine wpAny_call (codeAny_mono (F.run X.A.in1 X.stack s H ⟨[.ref a], []⟩ [.ref a] [.ref a] _ E sb.room e0 (by
    have := hb s [.ref a] I.kIn (by simpa using hl)
    simpa using this) r2 hsp) fun r s' hq => ?_)
  cases r with
  | error e => exact hx pins σ H s e s' I hq
  | ok fl =>
    cases fl with
    | ret w =>
      obtain ⟨z, H', I', rz, i, ez, h0, h1, q⟩ := I.after hq
      subst ez
      obtain ⟨t, rfl⟩ := rz
      exact ⟨⟨h0, h1⟩, .int i, H', I'.tok _, ⟨_, rfl⟩, q⟩
    | next => exact False.elim hq
    | brk => exact False.elim hq
    | cont => exact False.elim hq
end
section
variable {K : PySem.W.Frag} {L : List (As K)} {H : Hp} {Q : VK} {a C : Addr} {sp : Sp} {E : XK} {fs : List (Str × V)}
theorem k_lenC (h : Sep L H) (m : inst a C fs ∈ L) (q : sp [.ref a] H (fun v H' => ∃ i : Int, v = .int i ∧ 0 ≤ i ∧ i < 2 ^ 63 ∧ Q (.int i) H') E) : rLenC C sp E [.ref a] H Q := by
  obtain ⟨dx, hx⟩ := h.insm m
  exact ⟨a, dx, fs, rfl, hx, q⟩
end
end Ls
-- own part: U17
namespace Ls
open PySem PySem.Spec PyProof.Rows L2
/-! ### for at, (one, other) in enumerate(zip(a, b)) -/
abbrev Kp (fp : List Addr) (h h' : Heap) : Prop := ∀ c o, c ∉ fp → h.get? c = some o → h'.get? c = some o
section
variable {fp gp : List Addr} {h h1 h' : Heap} {a : Addr} {o : Obj}
theorem Kp.sb (s : Heap.SameBut a h h') : Kp [a] h h' := fun c u n e => (s.2 c fun z => n (by rw [z]; exact List.mem_singleton.mpr rfl)).trans e
theorem Kp.eb (s : Heap.ExtBut a h h') : Kp [a] h h' := fun c u n e => s c u (fun z => n (by rw [z]; exact List.mem_singleton.mpr rfl)) e
theorem Kp.tr (x : Kp fp h h1) (y : Kp gp h1 h') : Kp (fp ++ gp) h h' := fun c u n e => y c u (fun z => n (List.mem_append_right _ z)) (x c u (fun z => n (List.mem_append_left _ z)) e)
theorem Kp.less (x : Kp fp h h') (s : ∀ b ∈ fp, b ∈ gp) : Kp gp h h' := fun c u n e => x c u (fun z => n (s c z)) e
theorem Kp.ps : Kp [] h (h.push o) := fun c u _ e => Heap.get?_push_of_some _ e
end
def IsIt (b : Bool) (h : Heap) (it l : Addr) (k : Nat) : Prop := match b with
  | true => h.IsListIter it l k
  | false => h.IsTupleIter it l k
def IsSq (b : Bool) (h : Heap) (l : Addr) (xs : Array Value) : Prop := match b with
  | true => h.IsList l xs
  | false => h.IsTuple l xs
abbrev ZipG (h : Heap) (z TI TO : Addr) (f0 f1 : Value) : Prop := h.get? z = some { cls := .type "zip", dict := none, data := .fields #[f0, f1, .bool false, .ref TI, .ref TO], slots := #[] }
def OkF (f0 f1 : Value) : Prop := (f0 = .none ∧ f1 = .bool false) ∨ ∃ (T : Addr) (f : Bool), f0 = rawInt T ∧ f1 = .bool f
def ZipS (h : Heap) (z TI TO : Addr) : Prop := ∃ f0 f1, ZipG h z TI TO f0 f1 ∧ OkF f0 f1
section
variable {prog : Program} {w : World} {A : Around} {E : Value → Shared → Prop} {s : Shared} {b : Bool} {h h' : Heap} {it l z TI TO i1 i2 l1 l2 : Addr} {k : Nat} {xs ys : Array Value} {x y : Value} {α β : Type}
theorem IsIt.bt (c : IsIt b h it l k) (e : ∀ o, h.get? it = some o → h'.get? it = some o) : IsIt b h' it l k := by
  cases b
  · exact Heap.IsTupleIter.at (h := h) c e
  · exact Heap.IsListIter.at (h := h) c e
theorem IsSq.bt (c : IsSq b h l xs) (e : ∀ o, h.get? l = some o → h'.get? l = some o) : IsSq b h' l xs := by
  cases b
  · obtain ⟨o, g, r⟩ := (show h.IsTuple l xs from c)
    exact (⟨o, e o g, r⟩ : h'.IsTuple l xs)
  · obtain ⟨o, g, r⟩ := (show h.IsList l xs from c)
    exact (⟨o, e o g, r⟩ : h'.IsList l xs)
theorem nx_item {Q : Value → Shared → Prop} (c : IsIt b s.heap it l k) (d : IsSq b s.heap l xs) (hx : xs[k]? = some x) (q : ∀ h', IsIt b h' it l (k + 1) → Heap.SameBut it s.heap h' → Q x { s with heap := h' }) : wpAny (model prog w) A (Builtin.SmallTypes.nextOf (.ref it)) Q E s := by
  cases b
  · exact RZ.nextOf_tuple_item c d hx q
  · exact wpAny_nextOf_list_item c d hx q
theorem nx_end {Q : Value → Shared → Prop} (hh : A.handled = none) (c : IsIt b s.heap it l k) (d : IsSq b s.heap l xs) (hx : xs[k]? = none) (q : ∀ h' e, Heap.ExtBut it s.heap h' → (∃ o, h'.get? e = some o ∧ o.cls = .type "StopIteration") → E (.ref e) { s with heap := h' }) : wpAny (model prog w) A (Builtin.SmallTypes.nextOf (.ref it)) Q E s := by
  cases b
  · exact RZ.nextOf_tuple_end hh c d hx q
  · exact wpAny_nextOf_list_end hh c d hx q
/-- a field is read, an item list is read, a field is set -/
theorem bF {M : Model} {a : Addr} {o : Obj} {vs : Array Value} {i : Nat} {v : Value} {f : Value → Sem β} {Q : β → Shared → Prop} (g : s.heap.get? a = some o) (hd : o.data = .fields vs) (hi : vs[i]? = some v) (q : wpAny M A (f v) Q E s) : wpAny M A (field (.ref a) i >>= f) Q E s := wpAny_bind (wpAny_field g hd hi q)
theorem bI {M : Model} {a : Addr} {o : Obj} {vs : Array Value} {n : Nat} {f : Option (Array Value) → Sem β} {Q : β → Shared → Prop} (g : s.heap.get? a = some o) (hd : o.data = .seq vs n) (q : wpAny M A (f (some vs)) Q E s) : wpAny M A (seqItems? (.ref a) >>= f) Q E s := wpAny_bind (wpAny_seqItems g hd q)
theorem alive_is {T : Addr} {Q : Option Obj → Shared → Prop} (q : Q (s.heap.get? T) s) : wpAny (model prog w) A (loadIfAlive T) Q E s := fun _ _ _ => q
/-- whether its tuple is free: either may be -/
theorem own_free {f0 f1 : Value} {Q : Bool → Shared → Prop} (g : ZipG s.heap z TI TO f0 f1) (ok : OkF f0 f1) (q1 : Q true s) (q2 : ∀ h' g0 g1, ZipG h' z TI TO g0 g1 → OkF g0 g1 → Heap.SameBut z s.heap h' → Q false { s with heap := h' }) : wpAny (model prog w) A (Builtin.SmallTypes.ownedTupleIsFree (.ref z)) Q E s := by
  unfold Builtin.SmallTypes.ownedTupleIsFree
  rcases ok with ⟨rfl, rfl⟩ | ⟨T, f, rfl, rfl⟩
  · exact bF g rfl (v := .none) rfl (wpAny_pure q1)
  · refine bF g rfl (v := rawInt T) rfl ?_
    show wpAny _ _ (loadIfAlive ((T : Int).toNat) >>= fun r => _) Q E s
    rw [Int.toNat_natCast]
    refine wpAny_bind (alive_is ?_)
    cases hT : s.heap.get? T with
    | none =>
      simp only [Option.isNone_none, if_true]
      exact wpAny_pure q1
    | some oT =>
      simp only [Option.isNone_some, Bool.false_eq_true, if_false]
      refine bF g rfl (v := .bool f) rfl ?_
      cases f with
      | true =>
        rw [if_neg (by exact Bool.false_ne_true)]
        exact wpAny_pure (q2 s.heap _ _ g (.inr ⟨T, true, rfl, rfl⟩) (Heap.SameBut.refl _ _))
      | false =>
        rw [if_pos (by rfl)]
        exact wpAny_bind (wpAny_setField_rec g (by simp) fun h1 g1 s1 => wpAny_pure (q2 h1 _ _ g1 (.inr ⟨T, true, rfl, rfl⟩) s1))
/-- a zip's turn -/
theorem ez_item {Q : Value → Shared → Prop} (D : ZipApart z TI TO i1 i2 l1 l2) (hz : ZipS s.heap z TI TO) (hI : IsPair s.heap TI (.ref i1) (.ref i2)) (hO : ∃ a b, IsPair s.heap TO a b) (c1 : IsIt b s.heap i1 l1 k) (c2 : IsIt b s.heap i2 l2 k) (d1 : IsSq b s.heap l1 xs) (d2 : IsSq b s.heap l2 ys)
    (hx : xs[k]? = some x) (hy : ys[k]? = some y)
    (q : ∀ h', ZipS h' z TI TO → (∃ a b, IsPair h' TO a b) → IsIt b h' i1 l1 (k + 1) → IsIt b h' i2 l2 (k + 1) → IsPair h' s.heap.objs.size x y → h'.objs.size = s.heap.objs.size + 1 → Kp [z, TO, i1, i2] s.heap h' → Q (.ref s.heap.objs.size) { s with heap := h' }) :
    wpAny (model prog w) A (Builtin.«zip.__next__» ⟨[.ref z], []⟩) (fun r s' => ∃ v, r = .done (.ret v) ∧ Q v s') E s := by
  obtain ⟨f0, f1, g, ok⟩ := hz
  obtain ⟨p1, p2, gO⟩ := hO
  have lz : z < s.heap.objs.size := Heap.lt_size g
  refine bF g rfl (i := 2) (v := .bool false) rfl ?_
  refine bF g rfl (i := 3) (v := .ref TI) rfl ?_
  refine bI hI rfl ?_
  refine wpAny_bind (m := Builtin.SmallTypes.ownedTupleIsFree (.ref z)) (own_free g ok ?_ fun h1 g0 g1 z1 ok1 s1 => ?_)
  · simp only [if_true]
    refine wpAny_bind (wpAny_rule ?_)
    refine bF g rfl (i := 4) (v := .ref TO) rfl ?_
    refine wpAny_bind (wpAny_setField_rec g (by simp) fun h1 z1 s1 => ?_)
    replace z1 : ZipG h1 z TI TO .ellipsis f1 := z1
    have k1 : Kp [z] s.heap h1 := .sb s1
    refine wpAny_bind ?_
    simp only [List.zipIdx_cons, List.zipIdx_nil, List.forIn_cons, List.forIn_nil]
    refine wpAny_bind (wpAny_bind (wpAny_onRaise ?_))
    refine wpAny_bind (m := Builtin.SmallTypes.nextOf (.ref i1)) (nx_item (s := { s with heap := h1 }) (c1.bt fun o e => k1 _ o (by simp [D.i1z]) e) (d1.bt fun o e => k1 _ o (by simp [D.l1z]) e) hx fun h2 e2 s2 => wpAny_pure ?_)
    have k2 : Kp [z, i1] s.heap h2 := k1.tr (.sb s2)
    refine bI (k2 _ _ (by simp [D.TOz, D.TOi1]) gO) rfl ?_
    refine wpAny_bind (wpAny_updateSeq_pair (k2 _ _ (by simp [D.TOz, D.TOi1]) gO) fun h3 o3 s3 => ?_)
    replace o3 : IsPair h3 TO x p2 := o3
    have k3 : Kp [z, i1, TO] s.heap h3 := k2.tr (.sb s3)
    refine wpAny_bind (wpAny_letGo (wpAny_pure ?_))
    refine wpAny_bind (wpAny_bind (wpAny_onRaise ?_))
    refine wpAny_bind (m := Builtin.SmallTypes.nextOf (.ref i2)) (nx_item (s := { s with heap := h3 }) (c2.bt fun o e => k3 _ o (by simp [D.i2z, D.i12.symm, D.TOi2.symm]) e) (d2.bt fun o e => k3 _ o (by simp [D.l2z, D.l2i1, D.l2TO]) e) hy fun h4 e4 s4 => wpAny_pure ?_)
    have o4 : IsPair h4 TO x p2 := s4.extBut _ _ D.TOi2 o3
    refine bI o4 rfl ?_
    refine wpAny_bind (wpAny_updateSeq_pair o4 fun h5 o5 s5 => ?_)
    replace o5 : IsPair h5 TO x y := o5
    refine wpAny_bind (wpAny_letGo (wpAny_pure (wpAny_pure ?_)))
    refine bI o5 rfl ?_
    refine wpAny_bind (wpAny_newTuple ?_)
    have sz : h5.objs.size = s.heap.objs.size := by rw [s5.1, s4.1, s3.1, s2.1, s1.1]
    have k5 : Kp [z, i1, TO, i2] s.heap h5 := ((k3.tr (.sb s4)).tr (.sb s5)).less (by simp)
    have z5 : ZipG h5 z TI TO .ellipsis f1 := (((Kp.sb s2).tr (.sb s3)).tr ((Kp.sb s4).tr (.sb s5))) _ _ (by simp [D.i1z.symm, D.TOz.symm, D.i2z.symm]) z1
    have e5 : IsIt b h5 i1 l1 (k + 1) := e2.bt fun o e => (((Kp.sb s3).tr (.sb s4)).tr (.sb s5)) _ o (by simp [D.TOi1.symm, D.i12]) e
    have f5 : IsIt b h5 i2 l2 (k + 1) := e4.bt fun o e => (Kp.sb s5) _ o (by simp [D.TOi2.symm]) e
    clear s1 s2 s3 s4 s5 k1 k2 k3 z1 e2 e4 o3 o4
    have lz5 : z < h5.objs.size := by rw [sz]; exact lz
    refine wpAny_bind (m := Builtin.SmallTypes.ownedTupleHandOut (.ref z) (.ref h5.objs.size)) ?_
    unfold Builtin.SmallTypes.ownedTupleHandOut
    refine wpAny_bind (wpAny_setField_rec (s := { s with heap := h5.push _ }) (Kp.ps _ _ (by simp) z5) (by simp) fun h7 z7 s7 => ?_)
    replace z7 : ZipG h7 z TI TO (rawInt h5.objs.size) f1 := z7
    refine wpAny_setField_rec (s := { s with heap := h7 }) z7 (by simp) fun h8 z8 s8 => ?_
    replace z8 : ZipG h8 z TI TO (rawInt h5.objs.size) (.bool false) := z8
    have k8 : Kp [z, z] h5 h8 := (Kp.ps.tr (.sb s7)).tr (.sb s8)
    have k8' : Kp [z, z] _ h8 := (Kp.sb s7).tr (.sb s8)
    have p8 : IsPair h8 h5.objs.size x y := k8' _ _ (by simp [Nat.ne_of_gt lz5]) (Heap.get?_push_size _ rfl)
    have n8 : h8.objs.size = h5.objs.size + 1 := by rw [s8.1, s7.1, Heap.size_push]
    refine wpAny_pure ⟨_, rfl, ?_⟩
    rw [sz] at z8 p8 n8
    show Q (.ref h5.objs.size) _
    rw [sz]
    exact q h8 ⟨_, _, z8, .inr ⟨_, _, rfl, rfl⟩⟩ ⟨x, y, k8 _ _ (by simp [D.TOz]) o5⟩ (e5.bt fun o e => k8 _ o (by simp [D.i1z]) e) (f5.bt fun o e => k8 _ o (by simp [D.i2z]) e) p8 n8 ((k5.tr k8).less (by simp))
  · simp only [Bool.false_eq_true, if_false]
    have k1 : Kp [z] s.heap h1 := .sb s1
    refine wpAny_bind ?_
    rw [← Array.forIn_toList]
    simp only [List.forIn_cons, List.forIn_nil]
    refine wpAny_bind (wpAny_bind (wpAny_holding ?_))
    refine wpAny_bind (m := Builtin.SmallTypes.nextOf (.ref i1)) (nx_item (s := { s with heap := h1 }) (c1.bt fun o e => k1 _ o (by simp [D.i1z]) e) (d1.bt fun o e => k1 _ o (by simp [D.l1z]) e) hx fun h2 e2 s2 => wpAny_pure (wpAny_pure ?_))
    have k2 : Kp [z, i1] s.heap h2 := k1.tr (.sb s2)
    refine wpAny_bind (wpAny_bind (wpAny_holding ?_))
    refine wpAny_bind (m := Builtin.SmallTypes.nextOf (.ref i2)) (nx_item (s := { s with heap := h2 }) (c2.bt fun o e => k2 _ o (by simp [D.i2z, D.i12.symm]) e) (d2.bt fun o e => k2 _ o (by simp [D.l2z, D.l2i1]) e) hy fun h3 e3 s3 => wpAny_pure (wpAny_pure (wpAny_pure ?_)))
    refine wpAny_bind (m := newTuple [x, y]) (wpAny_newTuple (wpAny_pure ⟨_, rfl, ?_⟩))
    have sz : h3.objs.size = s.heap.objs.size := by rw [s3.1, s2.1, s1.1]
    have k3 : Kp [z, i1, i2] s.heap h3 := k2.tr (.sb s3)
    have z3 : ZipG h3 z TI TO g0 g1 := ((Kp.sb s2).tr (.sb s3)) _ _ (by simp [D.i1z.symm, D.i2z.symm]) z1
    have e4 : IsIt b h3 i1 l1 (k + 1) := e2.bt fun o e => (Kp.sb s3) _ o (by simp [D.i12]) e
    have p3 : IsPair (h3.push { cls := .type "tuple", data := .seq #[x, y] }) h3.objs.size x y := Heap.get?_push_size _ rfl
    have n3 : (h3.push { cls := .type "tuple", data := .seq #[x, y] }).objs.size = h3.objs.size + 1 := Heap.size_push ..
    have pp : ∀ c o, h3.get? c = some o → (h3.push { cls := .type "tuple", data := .seq #[x, y] }).get? c = some o := fun c o e => Kp.ps _ _ (by simp) e
    show Q (.ref h3.objs.size) _
    rw [sz] at p3 n3 ⊢
    exact q _ ⟨_, _, pp _ _ z3, ok1⟩ ⟨p1, p2, pp _ _ (k3 _ _ (by simp [D.TOz, D.TOi1, D.TOi2]) gO)⟩ (e4.bt fun o e => pp _ o e) (e3.bt fun o e => pp _ o e) p3 n3 ((k3.tr .ps).less (by simp))
theorem ez_end {Q : Fin → Shared → Prop} (hh : A.handled = none) (D : ZipApart z TI TO i1 i2 l1 l2) (hz : ZipS s.heap z TI TO) (hI : IsPair s.heap TI (.ref i1) (.ref i2)) (hO : ∃ a b, IsPair s.heap TO a b) (c1 : IsIt b s.heap i1 l1 k) (c2 : IsIt b s.heap i2 l2 k) (d1 : IsSq b s.heap l1 xs) (d2 : IsSq b s.heap l2 ys)
    (hn : xs[k]? = none ∨ ys[k]? = none) (q : ∀ h' e, Kp [z, TO, i1, i2] s.heap h' → (∃ o, h'.get? e = some o ∧ o.cls = .type "StopIteration") → E (.ref e) { s with heap := h' }) :
    wpAny (model prog w) A (Builtin.«zip.__next__» ⟨[.ref z], []⟩) Q E s := by
  obtain ⟨f0, f1, g, ok⟩ := hz
  obtain ⟨p1, p2, gO⟩ := hO
  refine bF g rfl (i := 2) (v := .bool false) rfl ?_
  refine bF g rfl (i := 3) (v := .ref TI) rfl ?_
  refine bI hI rfl ?_
  refine wpAny_bind (m := Builtin.SmallTypes.ownedTupleIsFree (.ref z)) (own_free g ok ?_ fun h1 g0 g1 z1 ok1 s1 => ?_)
  · simp only [if_true]
    refine wpAny_bind (wpAny_rule ?_)
    refine bF g rfl (i := 4) (v := .ref TO) rfl ?_
    refine wpAny_bind (wpAny_setField_rec g (by simp) fun h1 z1 s1 => ?_)
    replace z1 : ZipG h1 z TI TO .ellipsis f1 := z1
    have k1 : Kp [z] s.heap h1 := .sb s1
    refine wpAny_bind ?_
    simp only [List.zipIdx_cons, List.zipIdx_nil, List.forIn_cons, List.forIn_nil]
    refine wpAny_bind (wpAny_bind (wpAny_onRaise ?_))
    have b1 := c1.bt (h' := h1) fun o e => k1 _ o (by simp [D.i1z]) e
    have j1 := d1.bt (h' := h1) fun o e => k1 _ o (by simp [D.l1z]) e
    cases hx : xs[k]? with
    | none =>
      refine wpAny_bind (m := Builtin.SmallTypes.nextOf (.ref i1)) (nx_end (s := { s with heap := h1 }) hh b1 j1 hx fun h2 e x2 he => ?_)
      obtain ⟨oe, ge, ce⟩ := he
      have z2 : ZipG h2 z TI TO .ellipsis f1 := x2 _ _ D.i1z.symm z1
      have ne : e ≠ z := fun u => by
        subst u
        rw [z2] at ge
        cases ge
        simp at ce
      refine wpAny_setField_rec (s := { s with heap := h2 }) z2 (by simp) fun h3 _ s3 => q h3 e (((k1.tr (.eb x2)).tr (.sb s3)).less (by simp)) ⟨oe, Kp.sb s3 _ _ (by simp [ne]) ge, ce⟩
    | some x =>
      have hy : ys[k]? = none := by
        rcases hn with u | u
        · rw [hx] at u; cases u
        · exact u
      refine wpAny_bind (m := Builtin.SmallTypes.nextOf (.ref i1)) (nx_item (s := { s with heap := h1 }) b1 j1 hx fun h2 e2 s2 => wpAny_pure ?_)
      have k2 : Kp [z, i1] s.heap h2 := k1.tr (.sb s2)
      refine bI (k2 _ _ (by simp [D.TOz, D.TOi1]) gO) rfl ?_
      refine wpAny_bind (wpAny_updateSeq_pair (k2 _ _ (by simp [D.TOz, D.TOi1]) gO) fun h3 o3 s3 => ?_)
      have k3 : Kp [z, i1, TO] s.heap h3 := k2.tr (.sb s3)
      refine wpAny_bind (wpAny_letGo (wpAny_pure ?_))
      refine wpAny_bind (wpAny_bind (wpAny_onRaise ?_))
      refine wpAny_bind (m := Builtin.SmallTypes.nextOf (.ref i2)) (nx_end (s := { s with heap := h3 }) hh (c2.bt fun o e => k3 _ o (by simp [D.i2z, D.i12.symm, D.TOi2.symm]) e) (d2.bt fun o e => k3 _ o (by simp [D.l2z, D.l2i1, D.l2TO]) e) hy fun h4 e x4 he => ?_)
      obtain ⟨oe, ge, ce⟩ := he
      have z4 : ZipG h4 z TI TO .ellipsis f1 := (((Kp.sb s2).tr (.sb s3)).tr (.eb x4)) _ _ (by simp [D.i1z.symm, D.TOz.symm, D.i2z.symm]) z1
      have ne : e ≠ z := fun u => by
        subst u
        rw [z4] at ge
        cases ge
        simp at ce
      refine wpAny_setField_rec (s := { s with heap := h4 }) z4 (by simp) fun h5 _ s5 => q h5 e (((k3.tr (.eb x4)).tr (.sb s5)).less (by simp)) ⟨oe, Kp.sb s5 _ _ (by simp [ne]) ge, ce⟩
  · simp only [Bool.false_eq_true, if_false]
    have k1 : Kp [z] s.heap h1 := .sb s1
    refine wpAny_bind ?_
    rw [← Array.forIn_toList]
    simp only [List.forIn_cons, List.forIn_nil]
    refine wpAny_bind (wpAny_bind (wpAny_holding ?_))
    have b1 := c1.bt (h' := h1) fun o e => k1 _ o (by simp [D.i1z]) e
    have j1 := d1.bt (h' := h1) fun o e => k1 _ o (by simp [D.l1z]) e
    cases hx : xs[k]? with
    | none =>
      exact wpAny_bind (m := Builtin.SmallTypes.nextOf (.ref i1)) (nx_end (s := { s with heap := h1 }) hh b1 j1 hx fun h2 e x2 he => q h2 e ((k1.tr (.eb x2)).less (by simp)) he)
    | some x =>
      have hy : ys[k]? = none := by
        rcases hn with u | u
        · rw [hx] at u; cases u
        · exact u
      refine wpAny_bind (m := Builtin.SmallTypes.nextOf (.ref i1)) (nx_item (s := { s with heap := h1 }) b1 j1 hx fun h2 e2 s2 => wpAny_pure (wpAny_pure ?_))
      have k2 : Kp [z, i1] s.heap h2 := k1.tr (.sb s2)
      refine wpAny_bind (wpAny_bind (wpAny_holding ?_))
      exact wpAny_bind (m := Builtin.SmallTypes.nextOf (.ref i2)) (nx_end (s := { s with heap := h2 }) hh (c2.bt fun o e => k2 _ o (by simp [D.i2z, D.i12.symm]) e) (d2.bt fun o e => k2 _ o (by simp [D.l2z, D.l2i1]) e) hy fun h3 e x3 he => q h3 e ((k2.tr (.eb x3)).less (by simp)) he)
/-! its draws as another's -/
theorem zz_item {Q : Value → Shared → Prop} (D : ZipApart z TI TO i1 i2 l1 l2) (hz : ZipS s.heap z TI TO) (hI : IsPair s.heap TI (.ref i1) (.ref i2)) (hO : ∃ a b, IsPair s.heap TO a b) (c1 : IsIt b s.heap i1 l1 k) (c2 : IsIt b s.heap i2 l2 k) (d1 : IsSq b s.heap l1 xs) (d2 : IsSq b s.heap l2 ys)
    (hx : xs[k]? = some x) (hy : ys[k]? = some y)
    (q : ∀ h', ZipS h' z TI TO → (∃ a b, IsPair h' TO a b) → IsIt b h' i1 l1 (k + 1) → IsIt b h' i2 l2 (k + 1) → IsPair h' s.heap.objs.size x y → h'.objs.size = s.heap.objs.size + 1 → Kp [z, TO, i1, i2] s.heap h' → Q (.ref s.heap.objs.size) { s with heap := h' }) :
    wpAny (model prog w) A (Builtin.SmallTypes.nextOf (.ref z)) Q E s := by
  have T : s.TypeIs (.ref z) "zip" := by
    obtain ⟨f0, f1, g, _⟩ := hz
    exact ⟨_, g, rfl⟩
  unfold Builtin.SmallTypes.nextOf
  refine wpAny_bind (wpAny_callSpecial?_slot (name := Str.ofString "__next__") T F.slot_zip_next (wpAny_call_entry F.slot_zip_next T F.entry_zip_next ?_ (F.args_zip_next_1 _)))
  exact ez_item (Q := fun v s' => wpAny _ _ (pure v) _ _ s') D hz hI hO c1 c2 d1 d2 hx hy fun h' u1 u2 u3 u4 u5 u6 u7 => wpAny_pure (q h' u1 u2 u3 u4 u5 u6 u7)
theorem zz_end {Q : Value → Shared → Prop} (hh : A.handled = none) (D : ZipApart z TI TO i1 i2 l1 l2) (hz : ZipS s.heap z TI TO) (hI : IsPair s.heap TI (.ref i1) (.ref i2)) (hO : ∃ a b, IsPair s.heap TO a b) (c1 : IsIt b s.heap i1 l1 k) (c2 : IsIt b s.heap i2 l2 k) (d1 : IsSq b s.heap l1 xs) (d2 : IsSq b s.heap l2 ys)
    (hn : xs[k]? = none ∨ ys[k]? = none) (q : ∀ h' e, Kp [z, TO, i1, i2] s.heap h' → (∃ o, h'.get? e = some o ∧ o.cls = .type "StopIteration") → E (.ref e) { s with heap := h' }) :
    wpAny (model prog w) A (Builtin.SmallTypes.nextOf (.ref z)) Q E s := by
  have T : s.TypeIs (.ref z) "zip" := by
    obtain ⟨f0, f1, g, _⟩ := hz
    exact ⟨_, g, rfl⟩
  unfold Builtin.SmallTypes.nextOf
  refine wpAny_bind (wpAny_callSpecial?_slot (name := Str.ofString "__next__") T F.slot_zip_next (wpAny_call_entry F.slot_zip_next T F.entry_zip_next ?_ (F.args_zip_next_1 _)))
  exact ez_end hh D hz hI hO c1 c2 d1 d2 hn q
/-! an enumerate over it -/
theorem en_item {e : Addr} {old : Value} {Q : Value → Shared → Prop} (De : e ≠ z ∧ e ≠ TO ∧ e ≠ i1 ∧ e ≠ i2) (he : IsEnum s.heap e z (k : Nat) old) (D : ZipApart z TI TO i1 i2 l1 l2) (hz : ZipS s.heap z TI TO) (hI : IsPair s.heap TI (.ref i1) (.ref i2)) (hO : ∃ a b, IsPair s.heap TO a b) (c1 : IsIt b s.heap i1 l1 k) (c2 : IsIt b s.heap i2 l2 k) (d1 : IsSq b s.heap l1 xs) (d2 : IsSq b s.heap l2 ys)
    (hx : xs[k]? = some x) (hy : ys[k]? = some y)
    (q : ∀ h1 h', IsPair h1 s.heap.objs.size x y → h1.objs.size = s.heap.objs.size + 1 → Kp [z, TO, i1, i2] s.heap h1 → IsEnumOut h' e z ((k : Nat) + 1) (.ref s.heap.objs.size) (s.heap.objs.size + 1) → ZipS h' z TI TO → (∃ a b, IsPair h' TO a b) → IsIt b h' i1 l1 (k + 1) → IsIt b h' i2 l2 (k + 1) → IsPair h' s.heap.objs.size x y → h'.get? (s.heap.objs.size + 1) = some { cls := .type "tuple", data := .seq #[.int (k : Nat) s.toks, .ref s.heap.objs.size] } →
      Kp [e] h1 h' → Q (.ref (s.heap.objs.size + 1)) { s with heap := h', toks := s.toks + 1 }) :
    wpAny (model prog w) A (Builtin.«enumerate.__next__» ⟨[.ref e], []⟩) (fun r s' => ∃ v, r = .done (.ret v) ∧ Q v s') E s := by
  obtain ⟨n1, n2, n3, n4⟩ := De
  have le : e < s.heap.objs.size := Heap.lt_size he
  have lTO : TO < s.heap.objs.size := by
    obtain ⟨a, b, g⟩ := hO
    exact Heap.lt_size g
  refine bF he rfl (i := 2) (v := .ref z) rfl ?_
  refine wpAny_bind (m := Builtin.SmallTypes.nextOf (.ref z)) (zz_item D hz hI hO c1 c2 d1 d2 hx hy fun h1 z1 O1 e1 f1 p1 m1 k1 => ?_)
  have he1 : IsEnum h1 e z (k : Nat) old := k1 _ _ (by simp [n1, n2, n3, n4]) he
  refine bF (s := { s with heap := h1 }) he1 rfl (i := 3) (v := rawInt (k : Nat)) rfl ?_
  refine bF (s := { s with heap := h1 }) he1 rfl (i := 4) (v := .none) rfl ?_
  refine wpAny_bind (m := mkInt (k : Nat)) (wpAny_mkInt ?_)
  refine wpAny_bind (m := setField (.ref e) 3 (rawInt ((k : Nat) + 1))) (wpAny_setField_rec (s := { s with heap := h1, toks := s.toks + 1 }) he1 (by simp) fun h2 he2 s2 => ?_)
  replace he2 : IsEnum h2 e z ((k : Nat) + 1) old := he2
  refine wpAny_bind (m := setField (.ref e) 4 .none) (wpAny_setField_rec (s := { s with heap := h2, toks := s.toks + 1 }) he2 (by simp) fun h3 he3 s3 => ?_)
  replace he3 : IsEnum h3 e z ((k : Nat) + 1) old := he3
  have m3 : h3.objs.size = s.heap.objs.size + 1 := by rw [s3.1, s2.1, m1]
  refine wpAny_bind (m := newTuple [.int (k : Nat) s.toks, .ref s.heap.objs.size]) (wpAny_newTuple (s := { s with heap := h3, toks := s.toks + 1 }) ?_)
  generalize hh4 : h3.push { cls := .type "tuple", data := .seq [Value.int (k : Nat) s.toks, Value.ref s.heap.objs.size].toArray } = h4
  have t4 : h4.get? (s.heap.objs.size + 1) = some { cls := .type "tuple", data := .seq #[.int (k : Nat) s.toks, .ref s.heap.objs.size] } := by
    rw [← hh4, ← m3]
    exact Heap.get?_push_size _ rfl
  have kp : Kp [] h3 h4 := by rw [← hh4]; exact .ps
  have he4 : IsEnum h4 e z ((k : Nat) + 1) old := kp _ _ (by simp) he3
  refine wpAny_bind (m := Builtin.SmallTypes.ownedTupleIsFree (.ref e)) ?_
  unfold Builtin.SmallTypes.ownedTupleIsFree
  refine bF (s := { s with heap := h4, toks := s.toks + 1 }) he4 rfl (v := .none) rfl (wpAny_pure ?_)
  simp only [if_true]
  refine wpAny_bind (wpAny_rule ?_)
  refine bF (s := { s with heap := h4, toks := s.toks + 1 }) he4 rfl (i := 5) (v := old) rfl ?_
  refine wpAny_bind (wpAny_setField_rec (s := { s with heap := h4, toks := s.toks + 1 }) he4 (by simp) fun h5 he5 s5 => ?_)
  replace he5 : IsEnum h5 e z ((k : Nat) + 1) (.ref s.heap.objs.size) := he5
  rw [show ({ s with heap := h3, toks := s.toks + 1 } : Shared).heap.objs.size = s.heap.objs.size + 1 from m3]
  refine wpAny_bind (m := Builtin.SmallTypes.ownedTupleHandOut (.ref e) (.ref (s.heap.objs.size + 1))) ?_
  unfold Builtin.SmallTypes.ownedTupleHandOut
  refine wpAny_bind (wpAny_setField_rec (s := { s with heap := h5, toks := s.toks + 1 }) he5 (by simp) fun h6 he6 s6 => ?_)
  replace he6 : IsEnumOut h6 e z ((k : Nat) + 1) (.ref s.heap.objs.size) (s.heap.objs.size + 1) := he6
  refine wpAny_setField_rec (s := { s with heap := h6, toks := s.toks + 1 }) he6 (by simp) fun h7 he7 s7 => ?_
  replace he7 : IsEnumOut h7 e z ((k : Nat) + 1) (.ref s.heap.objs.size) (s.heap.objs.size + 1) := he7
  have ka : Kp [e, e, e] h4 h7 := ((Kp.sb s5).tr (.sb s6)).tr (.sb s7)
  have kb : Kp [e, e, e, e, e] h1 h7 := (((Kp.sb s2).tr (.sb s3)).tr kp).tr ka
  have nn : ∀ a, a ≠ e → ∀ o, h1.get? a = some o → h7.get? a = some o := fun a n o g => kb a o (by simp [n]) g
  obtain ⟨g0, g1, gz, gk⟩ := z1
  obtain ⟨a, c, go⟩ := O1
  refine wpAny_bind (wpAny_letGo (wpAny_pure ⟨_, rfl, q h1 h7 p1 m1 k1 he7 ⟨g0, g1, nn _ n1.symm _ gz, gk⟩ ⟨a, c, nn _ n2.symm _ go⟩ (e1.bt (nn _ n3.symm)) (f1.bt (nn _ n4.symm)) (nn _ (Nat.ne_of_gt le) _ p1) (ka _ _ (by simp [Nat.ne_of_gt (Nat.lt_succ_of_lt le)]) t4) (kb.less (by simp))⟩))
theorem en_end {e : Addr} {old : Value} {Q : Fin → Shared → Prop} (hh : A.handled = none) (he : IsEnum s.heap e z (k : Nat) old) (D : ZipApart z TI TO i1 i2 l1 l2) (hz : ZipS s.heap z TI TO) (hI : IsPair s.heap TI (.ref i1) (.ref i2)) (hO : ∃ a b, IsPair s.heap TO a b) (c1 : IsIt b s.heap i1 l1 k) (c2 : IsIt b s.heap i2 l2 k) (d1 : IsSq b s.heap l1 xs) (d2 : IsSq b s.heap l2 ys)
    (hn : xs[k]? = none ∨ ys[k]? = none) (q : ∀ h' e, Kp [z, TO, i1, i2] s.heap h' → (∃ o, h'.get? e = some o ∧ o.cls = .type "StopIteration") → E (.ref e) { s with heap := h' }) :
    wpAny (model prog w) A (Builtin.«enumerate.__next__» ⟨[.ref e], []⟩) Q E s := by
  refine bF he rfl (i := 2) (v := .ref z) rfl ?_
  exact wpAny_bind (m := Builtin.SmallTypes.nextOf (.ref z)) (zz_end hh D hz hI hO c1 c2 d1 d2 hn q)
theorem pn_item {e : Addr} {old : Value} {Q : Option Value → Shared → Prop} (De : e ≠ z ∧ e ≠ TO ∧ e ≠ i1 ∧ e ≠ i2) (he : IsEnum s.heap e z (k : Nat) old) (D : ZipApart z TI TO i1 i2 l1 l2) (hz : ZipS s.heap z TI TO) (hI : IsPair s.heap TI (.ref i1) (.ref i2)) (hO : ∃ a b, IsPair s.heap TO a b) (c1 : IsIt b s.heap i1 l1 k) (c2 : IsIt b s.heap i2 l2 k) (d1 : IsSq b s.heap l1 xs) (d2 : IsSq b s.heap l2 ys)
    (hx : xs[k]? = some x) (hy : ys[k]? = some y)
    (q : ∀ h1 h', IsPair h1 s.heap.objs.size x y → h1.objs.size = s.heap.objs.size + 1 → Kp [z, TO, i1, i2] s.heap h1 → IsEnumOut h' e z ((k : Nat) + 1) (.ref s.heap.objs.size) (s.heap.objs.size + 1) → ZipS h' z TI TO → (∃ a b, IsPair h' TO a b) → IsIt b h' i1 l1 (k + 1) → IsIt b h' i2 l2 (k + 1) → IsPair h' s.heap.objs.size x y → h'.get? (s.heap.objs.size + 1) = some { cls := .type "tuple", data := .seq #[.int (k : Nat) s.toks, .ref s.heap.objs.size] } →
      Kp [e] h1 h' → Q (some (.ref (s.heap.objs.size + 1))) { s with heap := h', toks := s.toks + 1 }) :
    wpAny (model prog w) A (pyNext (.ref e)) Q E s := by
  have T : s.TypeIs (.ref e) "enumerate" := ⟨_, he, rfl⟩
  unfold pyNext
  refine wpAny_bind (wpAny_attempt (wpAny_callSpecial?_slot (name := Str.ofString "__next__") T F.slot_enumerate_next (wpAny_call_entry F.slot_enumerate_next T F.entry_enumerate_next ?_ (F.args_enumerate_next_1 _))))
  exact en_item (Q := fun v s' => wpAny _ _ (pure _) _ _ s') De he D hz hI hO c1 c2 d1 d2 hx hy fun h1 h' w1 w2 w3 u1 u2 u3 u4 u5 u6 u7 u8 => wpAny_pure (q h1 h' w1 w2 w3 u1 u2 u3 u4 u5 u6 u7 u8)
theorem pn_end {e : Addr} {old : Value} {Q : Option Value → Shared → Prop} (hh : A.handled = none) (he : IsEnum s.heap e z (k : Nat) old) (D : ZipApart z TI TO i1 i2 l1 l2) (hz : ZipS s.heap z TI TO) (hI : IsPair s.heap TI (.ref i1) (.ref i2)) (hO : ∃ a b, IsPair s.heap TO a b) (c1 : IsIt b s.heap i1 l1 k) (c2 : IsIt b s.heap i2 l2 k) (d1 : IsSq b s.heap l1 xs) (d2 : IsSq b s.heap l2 ys)
    (hn : xs[k]? = none ∨ ys[k]? = none) (q : ∀ h', Kp [z, TO, i1, i2] s.heap h' → Q none { s with heap := h' }) : wpAny (model prog w) A (pyNext (.ref e)) Q E s := by
  have T : s.TypeIs (.ref e) "enumerate" := ⟨_, he, rfl⟩
  unfold pyNext
  refine wpAny_bind (wpAny_attempt (wpAny_callSpecial?_slot (name := Str.ofString "__next__") T F.slot_enumerate_next (wpAny_call_entry F.slot_enumerate_next T F.entry_enumerate_next ?_ (F.args_enumerate_next_1 _))))
  refine en_end hh he D hz hI hO c1 c2 d1 d2 hn fun h' u ku hu => ?_
  obtain ⟨o, g, c⟩ := hu
  exact wpAny_bind (wpAny_isInstance (T := "StopIteration") (b := true) ⟨o, g, c⟩ isSubtype_stop (wpAny_pure (q _ ku)))
end
/-! as a loop's iterator -/
def Sqb (b : Bool) (K : PySem.W.Frag) (H : Hp) (a : Addr) (xs : List V) : Prop := match b with
  | true => SqL K H a xs
  | false => SqT K H a xs
def Itez (b : Bool) (K : PySem.W.Frag) (a c : Addr) : It :=
  ⟨fun i H => ∃ (xs ys : List V) (x y : V), Sqb b K H a xs ∧ Sqb b K H c ys ∧ xs[i]? = some x ∧ ys[i]? = some y,
    fun i H v H' => ∃ T U x y, v = .ref T ∧ U ≠ T ∧ H U = none ∧ H T = none ∧ H' = upd (upd H U (.tup [x, y])) T (.tup [.int (i : Nat), .ref U]) ∧ (∀ xs, Sqb b K H a xs → xs[i]? = some x) ∧ ∀ ys, Sqb b K H c ys → ys[i]? = some y,
    fun i H => ∃ xs ys : List V, Sqb b K H a xs ∧ Sqb b K H c ys ∧ (xs.length ≤ i ∨ ys.length ≤ i)⟩
section
variable {X : Cx} {pins : List (Addr × Obj)} {σ : L2.St} {H : Hp} {s : Shared} {b : Bool} {a : Addr} {xs ys : List V}
theorem inv_sq (I : Inv X pins σ H s) (h : Sqb b X.K H a xs) : ∃ its : List Value, Vals xs its ∧ IsSq b s.heap a its.toArray := by
  cases b with
  | true =>
    obtain ⟨its, r, p, _⟩ := I.list h
    exact ⟨its, r, p.isList⟩
  | false =>
    obtain ⟨its, r, p, _⟩ := I.tuple h
    exact ⟨its, r, p⟩
theorem inv_inj (I : Inv X pins σ H s) (h : Sqb b X.K H a xs) (h2 : Sqb b X.K H a ys) : xs = ys := by
  cases b with
  | true => exact I.list_inj h h2
  | false => exact I.tuple_inj h h2
end
def EzS (b : Bool) (e z TI TO i1 i2 l1 l2 : Addr) (i : Nat) (h : Heap) : Prop := (∃ old, IsEnum h e z (i : Nat) old) ∧ ZipS h z TI TO ∧ IsPair h TI (.ref i1) (.ref i2) ∧ (∃ a b, IsPair h TO a b) ∧ IsIt b h i1 l1 i ∧ IsIt b h i2 l2 i
theorem it_obj {b : Bool} {h : Heap} {it l : Addr} {k : Nat} (c : IsIt b h it l k) : ∃ o, h.get? it = some o ∧ ∀ v, o.data ≠ .cell v := by
  cases b
  · obtain ⟨o, g, _, d⟩ := (show h.IsTupleIter it l k from c)
    exact ⟨o, g, fun v q => by rw [d] at q; cases q⟩
  · obtain ⟨o, g, _, d⟩ := (show h.IsListIter it l k from c)
    exact ⟨o, g, fun v q => by rw [d] at q; cases q⟩
theorem turn_ez {P : Program} {w : World} {K : PySem.W.Frag} {elts : List Expr} {kk : Nat} {tpos : Pos} {b : Bool} {e z TI TO i1 i2 l1 l2 : Addr} (D : ZipApart z TI TO i1 i2 l1 l2) (De : e ≠ z ∧ e ≠ TO ∧ e ≠ i1 ∧ e ≠ i2) (DI : TI ≠ e) :
    Turn P w K (.Tuple elts kk tpos) (Itez b K l1 l2) [e, z, TI, TO, i1, i2] e (EzS b e z TI TO i1 i2 l1 l2) where
  mem := List.mem_cons_self
  obj := fun i h st c hc => by
    obtain ⟨⟨old, he⟩, ⟨g0, g1, gz, _⟩, hI, ⟨p, q, hO⟩, c1, c2⟩ := st
    simp only [List.mem_cons, List.not_mem_nil, or_false] at hc
    rcases hc with rfl | rfl | rfl | rfl | rfl | rfl
    · exact ⟨_, he, fun v u => nomatch u⟩
    · exact ⟨_, gz, fun v u => nomatch u⟩
    · exact ⟨_, hI, fun v u => nomatch u⟩
    · exact ⟨_, hO, fun v u => nomatch u⟩
    · exact it_obj c1
    · exact it_obj c2
  keep := fun i h h' st k => by
    obtain ⟨⟨old, he⟩, ⟨g0, g1, gz, gk⟩, hI, ⟨p, q, hO⟩, c1, c2⟩ := st
    exact ⟨⟨old, k e (by simp) _ he⟩, ⟨g0, g1, k z (by simp) _ gz, gk⟩, k TI (by simp) _ hI, ⟨p, q, k TO (by simp) _ hO⟩, c1.bt (k i1 (by simp)), c2.bt (k i2 (by simp))⟩
  item := by
    intro X hP hw hK hc i pins s σ H E I hf st hg
    subst hP hw hK
    obtain ⟨⟨old, he⟩, hz, hI, hO, c1, c2⟩ := st
    obtain ⟨xs, ys, x, y, q1, q2, hx, hy⟩ := hg
    obtain ⟨us, r1, d1⟩ := inv_sq I q1
    obtain ⟨vs, r2, d2⟩ := inv_sq I q2
    obtain ⟨u, hu, ru⟩ := r1.get hx
    obtain ⟨v, hv, rv⟩ := r2.get hy
    have le : e < s.heap.objs.size := Heap.lt_size he
    have lz : z < s.heap.objs.size := by
      obtain ⟨_, _, g, _⟩ := hz
      exact Heap.lt_size g
    have lI : TI < s.heap.objs.size := Heap.lt_size hI
    have lO : TO < s.heap.objs.size := by
      obtain ⟨_, _, g⟩ := hO
      exact Heap.lt_size g
    have li1 : i1 < s.heap.objs.size := by
      obtain ⟨o, g, _⟩ := it_obj c1
      exact Heap.lt_size g
    have li2 : i2 < s.heap.objs.size := by
      obtain ⟨o, g, _⟩ := it_obj c2
      exact Heap.lt_size g
    refine pn_item De he D hz hI hO c1 c2 d1 d2 (x := u) (y := v) (by simpa using hu) (by simpa using hv) fun h1 h2 p1 m1 k1 he2 hz2 hO2 e2 f2 p2 t2 k2 => ?_
    refine ⟨_, rfl, wpAny_letOwnedTupleGo_enum (s := { s with heap := h2, toks := s.toks + 1 }) he2 fun h3 he3 s3 => ?_⟩
    have k3 : Kp [e] h2 h3 := .sb s3
    have k13 : Kp [e] h1 h3 := (k2.tr k3).less (by simp)
    have hN : H s.heap.objs.size = none := I.hok.fresh (Nat.le_refl _)
    have hM : H (s.heap.objs.size + 1) = none := I.hok.fresh (Nat.le_succ _)
    have new1 : ObjOk X.prog X.w (upd H s.heap.objs.size (.tup [x, y])) h1 s.heap.objs.size (.tup [x, y]) := ⟨by show 2 ≤ sizeLine; decide, [u, v], .cons ru (.cons rv .nil), ⟨_, p1, rfl, _, rfl⟩⟩
    have I1 : Inv X pins σ (upd H s.heap.objs.size (.tup [x, y])) { s with heap := h1, toks := s.toks } := I.turnedNew (ch := [z, TO, i1, i2]) (fun c o n g => k1 c o n g) (fun c m => hf c (by simp only [List.mem_cons, List.not_mem_nil, or_false] at m ⊢; rcases m with m | m | m | m <;> simp [m])) (Nat.le_refl _) new1
    have t3 : h3.get? (s.heap.objs.size + 1) = some { cls := .type "tuple", data := .seq #[.int (i : Nat) s.toks, .ref s.heap.objs.size] } := k3 _ _ (by simp [Nat.ne_of_gt (Nat.lt_succ_of_lt le)]) t2
    have new2 : ObjOk X.prog X.w (upd (upd H s.heap.objs.size (.tup [x, y])) (s.heap.objs.size + 1) (.tup [.int (i : Nat), .ref s.heap.objs.size])) h3 (s.heap.objs.size + 1) (.tup [.int (i : Nat), .ref s.heap.objs.size]) :=
      ⟨by show 2 ≤ sizeLine; decide, [.int (i : Nat) s.toks, .ref s.heap.objs.size], .cons ⟨_, rfl⟩ (.cons rfl .nil), ⟨_, t3, rfl, _, rfl⟩⟩
    have fe : FpOk X pins (upd H s.heap.objs.size (.tup [x, y])) e := by
      obtain ⟨a1, a2⟩ := hf e (by simp)
      exact ⟨by rw [upd_ne (Nat.ne_of_lt le)]; exact a1, a2⟩
    have I2 : Inv X pins σ _ { s with heap := h3, toks := s.toks + 1 } := I1.turnedNew (ch := [e]) (t' := s.toks + 1) (fun c o n g => k13 c o n g) (fun c m => by rw [List.mem_singleton.mp m]; exact fe) (by show h1.objs.size ≤ _; omega) new2
    obtain ⟨g0, g1, gz, gk⟩ := hz2
    obtain ⟨a0, b0, gO⟩ := hO2
    have nn : ∀ c, c ≠ e → ∀ o, h2.get? c = some o → h3.get? c = some o := fun c n o g => k3 c o (by simp [n]) g
    refine ⟨.ref (s.heap.objs.size + 1), _, I2, rfl, ⟨_, s.heap.objs.size, x, y, rfl, Nat.ne_of_lt (Nat.lt_succ_self _), hN, hM, rfl, fun l hl => by rw [inv_inj I hl q1]; exact hx, fun l hl => by rw [inv_inj I hl q2]; exact hy⟩, ⟨⟨.ref s.heap.objs.size, ?_⟩, ⟨g0, g1, nn _ De.1.symm _ gz, gk⟩, ?_, ⟨a0, b0, nn _ De.2.1.symm _ gO⟩, e2.bt (nn _ De.2.2.1.symm), f2.bt (nn _ De.2.2.2.symm)⟩, fun c m => ?_⟩
    · rw [show ((i + 1 : Nat) : Int) = (i : Nat) + 1 by omega]
      exact he3
    · exact k13 _ _ (by simp [DI]) (k1 _ _ (by simp [D.TIz, D.TITO, D.TIi1, D.TIi2]) hI)
    · have lc : c < s.heap.objs.size := by
        simp only [List.mem_cons, List.not_mem_nil, or_false] at m
        rcases m with rfl | rfl | rfl | rfl | rfl | rfl <;> assumption
      rw [upd_ne (Nat.ne_of_lt (Nat.lt_succ_of_lt lc)), upd_ne (Nat.ne_of_lt lc)]
      exact (hf c m).1
  done := by
    intro X hP hw hK hc i pins s σ H E I hf st hg
    subst hP hw hK
    obtain ⟨⟨old, he⟩, hz, hI, hO, c1, c2⟩ := st
    obtain ⟨xs, ys, q1, q2, hn⟩ := hg
    obtain ⟨us, r1, d1⟩ := inv_sq I q1
    obtain ⟨vs, r2, d2⟩ := inv_sq I q2
    have n1 := r1.length
    have n2 := r2.length
    refine pn_end (I.ok.hd hc) he D hz hI hO c1 c2 d1 d2 ?_ fun h' k => ⟨rfl, I.turnedL (t' := s.toks) (ch := [z, TO, i1, i2]) (fun c o n g => k c o n g) (fun c m => hf c (by simp only [List.mem_cons, List.not_mem_nil, or_false] at m ⊢; rcases m with m | m | m | m <;> simp [m]))⟩
    rcases hn with h | h
    · exact .inl (by simp; omega)
    · exact .inr (by simp; omega)
  self := fun A i s Q E st h => by
    obtain ⟨⟨old, he⟩, _⟩ := st
    exact wpAny_pyIter_enum he h
/-! made of a zip -/
theorem meets_enumZ (z TI TO : Addr) : Meets (Builtin.«enumerate.__new__» ⟨[.type "enumerate", .ref z], []⟩) (fun _ R s => IsZip s.heap z TI TO .none ∧ R (.ok (.ret (.ref s.heap.objs.size))) { s with heap := s.heap.push { cls := .type "enumerate", data := .fields #[.none, .bool false, .ref z, rawInt 0, .none, .none] } }) :=
  .of_wp fun prog w A R s h => by
    obtain ⟨hp, g, d, tk, os⟩ := s
    obtain ⟨hz, h⟩ := h
    have u := sub_enumerate
    have hz : IsZip (Shared.heap ⟨hp, g, d, tk, os⟩) z TI TO .none := hz
    wp_walk using wpAny_pyIter_zip hz
    refine wpAny_stack_any fun st => wpAny_pure ?_
    split
    · rename_i c _ _ _ _ _
      cases (c == Value.type "enumerate") <;> (wp_walk using wpAny_pyIter_zip hz; exact ⟨_, rfl, h⟩)
    · wp_walk using wpAny_pyIter_zip hz
      exact ⟨_, rfl, h⟩
section
variable {prog : Program} {w : World} {A : Around} {E : Value → Shared → Prop} {s : Shared} {b : Bool} {z TI TO a c : Addr} {xs ys : Array Value}
theorem call_enumZ {Q : Value → Shared → Prop} (hz : IsZip s.heap z TI TO .none) (q : ∀ h', IsEnum h' s.heap.objs.size z 0 .none → Kp [] s.heap h' → Q (.ref s.heap.objs.size) { s with heap := h' }) : wpAny (model prog w) A (call (.type "enumerate") [.ref z]) Q E s := by
  refine callType_new F.called_enumerate (by decide) (F.typeCall_enumerate_1 _) (F.newCall_enumerate_1 _) (fun obj => F.args_object_init_2 obj _) F.entry_enumerate_new (meets_enumZ z TI TO) ⟨hz, ?_⟩
  have g : IsEnum (s.heap.push { cls := .type "enumerate", data := .fields #[.none, .bool false, .ref z, rawInt 0, .none, .none] }) s.heap.objs.size z 0 .none := Heap.get?_push_size _ rfl
  exact ⟨⟨_, g, rfl⟩, q _ g .ps⟩
theorem call_zipB {Q : Value → Shared → Prop} (d1 : IsSq b s.heap a xs) (d2 : IsSq b s.heap c ys)
    (q : ∀ h', IsZip h' (s.heap.objs.size + 4) (s.heap.objs.size + 2) (s.heap.objs.size + 3) .none → IsPair h' (s.heap.objs.size + 2) (.ref s.heap.objs.size) (.ref (s.heap.objs.size + 1)) → IsPair h' (s.heap.objs.size + 3) .none .none → IsIt b h' s.heap.objs.size a 0 → IsIt b h' (s.heap.objs.size + 1) c 0 →
      h'.objs.size = s.heap.objs.size + 5 → Kp [] s.heap h' → Q (.ref (s.heap.objs.size + 4)) { s with heap := h' }) : wpAny (model prog w) A (call (.type "zip") [.ref a, .ref c]) Q E s := by
  cases b
  · exact RZ.call_zipT d1 d2 fun h' u1 u2 u3 u4 u5 u6 u7 => q h' u1 u2 u3 u4 u5 u6 fun c o _ e => u7 c o e
  · exact call_zip_2 d1 d2 fun h' u1 u2 u3 u4 u5 u6 u7 => q h' u1 u2 u3 u4 u5 u6 fun c o _ e => u7 c o e
theorem sq_lt (d : IsSq b s.heap a xs) : a < s.heap.objs.size := by
  cases b
  · obtain ⟨o, g, _⟩ := (show s.heap.IsTuple a xs from d)
    exact Heap.lt_size g
  · obtain ⟨o, g, _⟩ := (show s.heap.IsList a xs from d)
    exact Heap.lt_size g
end
def iEz (K : PySem.W.Frag) (ta : TA) : TI := fun σ H R => ta σ H fun vs H1 => ∃ a c b xs ys, vs = [V.ref a, V.ref c] ∧ Sqb b K H1 a xs ∧ Sqb b K H1 c ys ∧ R (Itez b K a c) H1
theorem pi_ez {X : Cx} {e1 e2 : Expr} {ta : TA} {p pz posz pos tpos : Pos} {elts : List Expr} {kk : Nat} (K : PySem.W.Frag) (hK : X.K = K) (hg : Gl X "enumerate") (hm : X.mg "enumerate" = none) (hg2 : Gl X "zip") (hm2 : X.mg "zip" = none) (ha : PA X [e1, e2] ta)
    (hs : starEach [Expr.Call (.Name "zip" pz) [e1, e2] [] posz] X.env = [(false, eval (.Call (.Name "zip" pz) [e1, e2] [] posz) X.env)] := by rfl)
    (hs2 : starEach [e1, e2] X.env = (false, eval e1 X.env) :: starEach [e2] X.env := by rfl) (hpl : (backTo posz (starEach [e2] X.env)).any (·.1) = false := by rfl) :
    PI X (.Tuple elts kk tpos) (.Call (.Name "enumerate" p) [.Call (.Name "zip" pz) [e1, e2] [] posz] [] pos) (iEz K ta) := by
  subst hK
  refine ⟨fun pins s σ H R I h => ?_⟩
  refine Call_ (ld_blt I hg hm boot_enumerate (PyProof.Rows.callWith_type1 ?_ hs rfl))
  rw [hs]
  refine Calls.spliced_cons (Call_ (ld_blt I hg2 hm2 PyProof.Rows.boot_zip (PyProof.Rows.callWith_type1 (thn (ha.run posz pins s σ H _ I h) fun us s1 ⟨vs, H1, I1, r1, q1⟩ => ?_) hs2 hpl)))
  obtain ⟨a, c, b, xs, ys, ev, q1, q2, q⟩ := q1
  subst ev
  cases r1 with
  | cons r rr =>
    cases rr with
    | cons r' rr =>
      cases rr
      cases r
      cases r'
      obtain ⟨us, _, d1⟩ := inv_sq I1 q1
      obtain ⟨vs, _, d2⟩ := inv_sq I1 q2
      refine call_zipB d1 d2 fun h1 gz gI gO t1 t2 sz k1 => Calls.spliced_nil ?_
      refine call_enumZ (s := { s1 with heap := h1 }) gz fun h2 ge k2 => wpAny_pyIter_enum ge ?_
      have I2 : Inv X pins σ H1 { s1 with heap := h2 } := I1.kept (t' := s1.toks) fun b u g => k2 b u (by simp) (k1 b u (by simp) g)
      have nn : ∀ c o, h1.get? c = some o → h2.get? c = some o := fun c o g => k2 c o (by simp) g
      have es : ({ s1 with heap := h1 } : Shared).heap.objs.size = s1.heap.objs.size + 5 := sz
      rw [es] at ge ⊢
      have D := PySem.W.ktu_apart s1.heap.objs.size a c (sq_lt d1) (sq_lt d2)
      refine ⟨s1.heap.objs.size + 5, [s1.heap.objs.size + 5, s1.heap.objs.size + 4, s1.heap.objs.size + 2, s1.heap.objs.size + 3, s1.heap.objs.size, s1.heap.objs.size + 1], _, _, H1, rfl, I2, turn_ez D ⟨by simp, by simp, by simp, by simp⟩ (by simp), ⟨⟨.none, ge⟩, ⟨.none, .bool false, nn _ _ gz, .inl ⟨rfl, rfl⟩⟩, nn _ _ gI, ⟨.none, .none, nn _ _ gO⟩, t1.bt (nn _), t2.bt (nn _)⟩, fun x hx => ?_, q⟩
      have hle : s1.heap.objs.size ≤ x := by
        simp only [List.mem_cons, List.not_mem_nil, or_false] at hx
        rcases hx with z | z | z | z | z | z <;> (rw [z]; first | exact Nat.le_refl _ | exact Nat.le_add_right _ _)
      exact I1.fpOk hle (I1.hok.fresh hle)
end Ls
-- own part: S12
namespace Ls
open PySem PySem.Spec PyProof.Rows L2
/-! ### enumerate(zip(a, b)): walked -/
section
variable {K : PySem.W.Frag} {L : List (As K)} {H : Hp} {a c : Addr} {ds es : List PyData} {σ : L2.St} {t : TA}
theorem k_ez {R : It → Hp → Prop} (h : t σ H fun vs H1 => ∃ a c b xs ys, vs = [V.ref a, V.ref c] ∧ Sqb b K H1 a xs ∧ Sqb b K H1 c ys ∧ R (Itez b K a c) H1) : iEz K t σ H R := h
theorem k_ezI {R : Bool → Addr → Addr → Prop} (h : Sep L H) (m1 : im (.ref a) (.tuple ds) ∈ L) (m2 : im (.ref c) (.tuple es) ∈ L) (q : R false a c) : ∃ a' c' b xs ys, [V.ref a, V.ref c] = [V.ref a', V.ref c'] ∧ Sqb b K H a' xs ∧ Sqb b K H c' ys ∧ R b a' c' := by
  obtain ⟨a', xs, e, h1, _⟩ := im_tup (h.imm m1)
  cases e
  obtain ⟨c', ys, e, h2, _⟩ := im_tup (h.imm m2)
  cases e
  exact ⟨a, c, false, xs, ys, rfl, h1, h2, q⟩
theorem wk_ezI {α β : Type} {zs : List α} {us : List β} {f : α → PyData} {g : β → PyData} {n : Nat} (m1 : im (.ref a) (.tuple (zs.map f)) ∈ L) (m2 : im (.ref c) (.tuple (us.map g)) ∈ L) (l1 : zs.length = n) (l2 : us.length = n) :
    Wk (Itez false K a c) L n fun i q => ∀ z u T, zs[i]? = some z → us[i]? = some u → q (.ref T) [im (.ref T) (.tuple [.int (i : Nat), .tuple [f z, g u]])] where
  go := fun i H hi h => by
    obtain ⟨a', xs, e, h1, k1⟩ := im_tup (h.imm m1)
    cases e
    obtain ⟨c', ys, e, h2, k2⟩ := im_tup (h.imm m2)
    cases e
    have b1 : i < xs.length := by rw [k1.length, List.length_map]; omega
    have b2 : i < ys.length := by rw [k2.length, List.length_map]; omega
    exact ⟨xs, ys, xs[i], ys[i], h1, h2, List.getElem?_eq_getElem b1, List.getElem?_eq_getElem b2⟩
  yl := fun i H x H' R hi h ⟨T, U, v, w, e, nUT, hU, hT, e2, y1, y2⟩ q => by
    subst e e2
    obtain ⟨a', xs, e, h1, k1⟩ := im_tup (h.imm m1)
    cases e
    obtain ⟨c', ys, e, h2, k2⟩ := im_tup (h.imm m2)
    cases e
    obtain ⟨d, hd, hm⟩ := k1.get (y1 xs h1)
    rw [List.getElem?_map] at hd
    obtain ⟨z, hz, rfl⟩ := Option.map_eq_some_iff.mp hd
    obtain ⟨d2, hd2, hm2⟩ := k2.get (y2 ys h2)
    rw [List.getElem?_map] at hd2
    obtain ⟨u, hu, rfl⟩ := Option.map_eq_some_iff.mp hd2
    have hT2 : upd H U (.tup [v, w]) T = none := by rw [upd_ne nUT.symm]; exact hT
    have hS1 : Sep (im (.ref U) (.tuple [f z, g u]) :: L) (upd H U (.tup [v, w])) := Sep.im_iff.mpr ⟨.tup (sqt_of upd_same) (.cons (hm.mono (Tp.new hU)) (.cons (hm2.mono (Tp.new hU)) .nil)), h.same (same_new hU)⟩
    have imU := hS1.imm List.mem_cons_self
    have hS : Sep L (upd H U (.tup [v, w])) := h.same (same_new hU)
    refine q z u T hz hu _ (Sep.im_iff.mpr ⟨?_, hS.same (same_new hT2)⟩)
    exact .tup (sqt_of upd_same) (.cons (.int _) (.cons (imU.mono (Tp.new hT2)) .nil))
  st := fun H h => by
    obtain ⟨a', xs, e, h1, k1⟩ := im_tup (h.imm m1)
    cases e
    obtain ⟨c', ys, e, h2, k2⟩ := im_tup (h.imm m2)
    cases e
    exact ⟨xs, ys, h1, h2, .inl (by rw [k1.length, List.length_map]; omega)⟩
end
end Ls
-- own part: U18
namespace Ls
open PySem PySem.Spec PyProof.Rows L2
/-! ### an item of a dict as a target -/
def rSetK : V → V → V → Hp → (Hp → Prop) → Prop := fun o i v H Q => ∃ a H', o = .ref a ∧ DPut H a i v H' ∧ Q H'
theorem set_dictU {X : Cx} (hu : X.A.units + 1 < cLine) : PSet X rSetK := by
  intro pins s σ H o i v ov iv u Q I ro ri rv h
  obtain ⟨a, H4, rfl, g, q⟩ := h
  cases ro
  exact d_setItem hu I g ri rv fun s4 I4 => ⟨H4, I4, q⟩
end Ls
-- own part: S13
namespace Ls
open PySem PySem.Spec PyProof.Rows L2
/-! ### dicts by written keys -/
section
variable {K : PySem.W.Frag} {L M : List (As K)} {H : Hp} {a : Addr} {kvs kws : List (Key × V)} {k : Str} {v w : V} {xs : List V} {ds es : List PyData} {i : Int} {j : Nat}
theorem k_getD {R : V → Prop} (h : Sep L H) (m : ob a (.dK kvs) ∈ L) (e : valV kvs (.inr k) = some v) (q : R v) : ∃ b w, V.ref a = .ref b ∧ DGet H b (.str k) (some w) ∧ R w := k_getS (h.obm m) e q
theorem k_putD {R : Hp → Prop} (h : Sep L H) (r : Rep L (ob a (.dK kvs)) (ob a (.dK kws)) M) (hl : kvs.length < sizeLine) (e : putK kvs (.inr k) v = kws) (q : ∀ H', Sep M H' → R H') : ∃ b H4, V.ref a = .ref b ∧ DPut H b (.str k) v H4 ∧ R H4 := by
  subst e
  exact ⟨a, _, rfl, DPut.k (k := .inr k) (h.obm r.mem) hl, q _ (h.setR r rfl)⟩
theorem ImAll.put {d : PyData} : ∀ {xs : List V} {ds : List PyData} {j : Nat}, ImAll K H xs ds → Im K H v d → ImAll K H (xs.set j v) (ds.set j d)
  | _, _, _, .nil, _ => .nil
  | _, _, 0, .cons _ b, t => .cons t b
  | _, _, _ + 1, .cons a b, t => .cons a (ImAll.put b t)
theorem ImAll.eraseD : ∀ {xs : List V} {ds : List PyData} {j : Nat}, ImAll K H xs ds → ImAll K H (xs.eraseIdx j) (ds.eraseIdx j)
  | _, _, _, .nil => .nil
  | _, _, 0, .cons _ b => b
  | _, _, _ + 1, .cons a b => .cons a (ImAll.eraseD b)
theorem erase_map {α β : Type} (f : α → β) : ∀ (ns : List α) (j : Nat), (ns.eraseIdx j).map f = (ns.map f).eraseIdx j
  | [], _ => rfl
  | _ :: _, 0 => rfl
  | n :: ns, j + 1 => congrArg (f n :: ·) (erase_map f ns j)
theorem put_new {k : Key} {v : V} {kvs : List (Key × V)} (h : (kvs.any fun kv => decide (kv.1 = k)) = false) : putK kvs k v = kvs ++ [(k, v)] := by
  unfold putK
  rw [h]
  exact if_neg Bool.false_ne_true
theorem put_hit {k : Key} {v : V} {kvs : List (Key × V)} (h : (kvs.any fun kv => decide (kv.1 = k)) = true) : putK kvs k v = kvs.map fun kv => if kv.1 = k then (kv.1, v) else kv := by
  unfold putK
  rw [h]
  exact if_pos rfl
/-- a display's end: the dict that stood empty while its pairs were made -/
theorem Sep.disp {p : Addr} (kvs : List (Key × V)) (h : Sep L H) (r : Rep L (ob p (.dK [])) (ob p (.dK (mergeK [] kvs))) M) : Sep M (upd H p (.dK (mergeK [] kvs))) := h.setR r rfl
theorem k_setK {R : Hp → Prop} (h : Sep L H) (r : Rep L (ob a (.dK kvs)) (ob a (.dK kws)) M) (hl : kvs.length < sizeLine) (e : putK kvs (.inr k) v = kws) (q : ∀ H', Sep M H' → R H') : rSetK (.ref a) (.str k) v H R := k_putD h r hl e q
/-- the first of a list's ints like one goes -/
theorem k_remD {Q : VK} {ns : List Int} {n : Int} (h : Sep L H) (r : Rep L (ld a (ns.map PyData.int)) (ld a ((ns.eraseIdx j).map PyData.int)) M) (e : ns[j]? = some n) (e2 : ∀ m : Nat, m < j → ns[m]? ≠ some n) (q : ∀ H', Sep M H' → Q .non H') : rRemI (.ref a) [.int n] H Q := by
  obtain ⟨xs, h1, h2⟩ := h.ldm r.mem
  have e3 := ims_int h2
  subst e3
  exact ⟨a, ns, n, j, rfl, rfl, h1, e, e2, q _ (h.setDR r (by rw [erase_map V.int, erase_map PyData.int]; exact ImAll.eraseD h2))⟩
/-- an item of a list of data -/
theorem k_setD {R : Hp → Prop} {d : PyData} (h : Sep L H) (r : Rep L (ld a ds) (ld a (ds.set j d)) M) (t : Dat L v d) (e : ixN ds.length i = some j) (q : ∀ H', Sep M H' → R H') : rSetL (.ref a) (.int i) v H R := by
  obtain ⟨xs, h1, h2⟩ := h.ldm r.mem
  exact ⟨a, xs, i, j, rfl, rfl, h1, by rw [h2.length]; exact e, q _ (h.setDR r (h2.put (t.is h)))⟩
end
end Ls
-- own part: S14
namespace Ls
open PySem PySem.Spec PyProof.Rows L2
/-! ### repr(x) of an own class; f-strings -/
section
variable {X : Cx} {CX : CXT} {n : Nat} {C f : Addr} {fd : FuncData} {ps : List Str} {sp : Sp} {E : XK} {K : PySem.W.Frag}
def rReprC (C : Addr) (sp : Sp) (E : XK) : List V → Hp → VK → Prop := fun xs H Q => ∃ a dx fs, xs = [.ref a] ∧ H a = some (.ins C dx fs) ∧ sp [.ref a] H (fun v H' => ∃ z : Str, v = .str z ∧ Q (.str z) H') E
theorem call_reprC (hm : Meth X.K C "__repr__" f) (F : FnOk X.prog X.w X.K X.mg X.base CX n f fd ps sp) (hr : Room (n + 1) X.A) (hb : L2.Binds X.K fd ps []) (hx : Passes CX X E) : CallR X (.builtin "repr") (rReprC C sp E) := by
  intro pins s σ H xs us Q I r h
  obtain ⟨a, dx, fs, rfl, ha, hsp⟩ := h
  obtain ⟨u, rfl, ru⟩ := vals1 r
  obtain rfl : u = Value.ref a := ru
  obtain ⟨mA, J, _⟩ := ins_get I.hok ha
  obtain ⟨od, J, _⟩ := J.look
  obtain ⟨m, hF⟩ := I.fr
  have sb : L2.Sub X n X.A.in1 := ⟨hr.in1, rfl⟩
  have hun := huOf hr.in1
  refine PySem.W.repr_K (by omega) hF I.ok.mod.kin J hm.at_ hm.fn ?_
  have e0 : Env0 X.prog X.w X.K X.mg X.base X.A.in1 X.stack s H := by
    have e := I.env0
    exact ⟨by rw [sb.fr]; exact e.frames, e.mod, e.bs, e.bsz, e.funs, e.frf, e.hok, e.bare⟩
  have hl := F.len _ _ _ _ hsp
  have r2 : Vals [V.ref a] [Value.ref a] := .cons rfl .nil
  refine wpAny_call (codeAny_mono (F.run X.A.in1 X.stack s H ⟨[.ref a], []⟩ [.ref a] [.ref a] _ E sb.room e0 (by
    have := hb s [.ref a] I.kIn (by simpa using hl)
    simpa using this) r2 hsp) fun r s' hq => ?_)
  cases r with
  | error e => exact hx pins σ H s e s' I hq
  | ok fl =>
    cases fl with
    | ret w =>
      obtain ⟨z, H', I', rz, y, ez, q⟩ := I.after hq
      subst ez
      obtain ⟨t, rfl⟩ := rz
      exact ⟨.str y, H', I', ⟨_, rfl⟩, q⟩
    | next => exact False.elim hq
    | brk => exact False.elim hq
    | cont => exact False.elim hq
end
section
variable {K : PySem.W.Frag} {L : List (As K)} {H : Hp} {Q : VK} {a C : Addr} {sp : Sp} {E : XK} {fs : List (Str × V)} {σ : L2.St} {t te : TE} {ts : List TE} {acc z : Str} {i : Int} {n : Nat}
theorem k_reprC (h : Sep L H) (m : inst a C fs ∈ L) (q : sp [.ref a] H (fun v H' => ∃ z : Str, v = .str z ∧ Q (.str z) H') E) : rReprC C sp E [.ref a] H Q := by
  obtain ⟨dx, hx⟩ := h.insm m
  exact ⟨a, dx, fs, rfl, hx, q⟩
theorem k_js0 {R : Str → Hp → Prop} (q : R acc H) : tJs [] acc σ H R := q
theorem k_js {R : Str → Hp → Prop} (q : t σ H fun x H1 => ∃ y : Str, x = .str y ∧ (acc ++ y).length ≤ sizeLine ∧ tJs ts (acc ++ y) σ H1 R) : tJs (t :: ts) acc σ H R := q
theorem k_jst {R : Str → Prop} (h : (acc ++ z).length ≤ sizeLine) (q : R z) : ∃ y : Str, V.str z = .str y ∧ (acc ++ y).length ≤ sizeLine ∧ R y := ⟨z, rfl, h, q⟩
def rFmt (x : V) (H1 : Hp) (Q : VK) : Prop := (∃ y : Str, x = .str y ∧ y.length ≤ sizeLine ∧ Q (.str y) H1) ∨ ∃ i : Int, x = .int i ∧ i.natAbs.log2 < 1920 ∧ Q (.str (toString i)) H1
theorem k_fmt (h : te σ H fun x H1 => rFmt x H1 Q) : tFmt te σ H Q := h
theorem log_lt {n : Nat} (h : n < 10 ^ 100) : n.log2 < 1920 := by
  by_cases e : n = 0
  · subst e
    decide
  · rw [Nat.log2_lt e]
    exact Nat.lt_of_lt_of_le h (by decide)
theorem k_fmtI (h : i.natAbs < 10 ^ 100) (q : Q (.str (toString i)) H) : rFmt (.int i) H Q := .inr ⟨i, rfl, log_lt h, q⟩
theorem k_fmtS (h : z.length ≤ sizeLine) (q : Q (.str z) H) : rFmt (.str z) H Q := .inl ⟨z, rfl, h, q⟩
theorem num_len {k : Nat} (hk : 0 < k) (h : i.natAbs < 10 ^ k) : (Str.ofString (toString i)).length ≤ k + 1 := by
  have := int_text_length_le10 hk h
  rw [PySem.ofString_length]
  exact this
theorem str_ext {x y : Str} (h : x.cps = y.cps) : x = y := by
  cases x
  cases y
  cases h
  rfl
theorem str_nil (x : Str) : Str.empty ++ x = x := by
  refine str_ext ?_
  rw [Str.cps_append]
  exact Array.empty_append
end
end Ls
-- own part: S15
namespace Ls
open PySem PySem.Spec PyProof.Rows L2 LamX
/-! ### tables of code objects, by what stands -/
section
variable {K : PySem.W.Frag}
/-- the tables of T are one's own; what they tell bears its name -/
def tabsA (T : List (Addr × Str)) : As K := ⟨fun _ s H => (∀ a, s a ↔ ∃ p ∈ T, p.1 = a) ∧ Tabs T H, fun ⟨e, t⟩ k q => ⟨e, fun p hp => by
  obtain ⟨ps, h1, h2, h3⟩ := t p hp
  refine ⟨ps, (k p.1 ((e p.1).mpr ⟨p, hp, rfl⟩)).trans h1, h2, fun pos cv hc => ?_⟩
  obtain ⟨c, e1, e2⟩ := h3 pos cv hc
  exact ⟨c, e1, q.2 _ _ e2⟩⟩, fun ⟨e, t⟩ a z => by
  obtain ⟨p, hp, rfl⟩ := (e a).mp z
  obtain ⟨ps, h1, _⟩ := t p hp
  exact ⟨_, h1, rfl⟩, fun h _ => h⟩
/-- it owns no table -/
class NoTb (A : As K) : Prop where
  no : ∀ {W : Fz} {s : Addr → Prop} {H : Hp}, A.ok W s H → ∀ a, s a → ∀ ps, H a ≠ some (.tbl ps)
variable {A B : As K} {L L' M N : List (As K)} {H H' : Hp} {a p l d c C : Addr} {v x y : V} {e : PyData} {vs xs ys : List V} {ds es : List PyData} {T : List (Addr × Str)}
instance {P : Fz → Hp → Prop} {h k} : NoTb (persW (K := K) P h k) := ⟨fun z a q => (z.1 a q).elim⟩
instance {v d} : NoTb (im (K := K) v d) := ⟨fun z a q => (z.1 a q).elim⟩
instance {v d} : NoTb (ims (K := K) v d) := ⟨fun z a q => (z.1 a q).elim⟩
instance {v d} : NoTb (tu (K := K) v d) := ⟨fun z a q => (z.1 a q).elim⟩
instance {P} : NoTb (pr (K := K) P) := ⟨fun z a q => (z.1 a q).elim⟩
theorem notb_ob {o : HO} (n : ∀ ps, o ≠ .tbl ps) : NoTb (ob (K := K) a o) := ⟨fun ⟨e, h, _⟩ b q ps z => by
  obtain rfl := (e b).mp q
  rw [h] at z
  exact n ps (Option.some.inj z)⟩
instance {xs} : NoTb (ob (K := K) a (.lst xs)) := notb_ob fun ps z => by cases z
instance {kvs} : NoTb (ob (K := K) a (.dK kvs)) := notb_ob fun ps z => by cases z
instance {kvs} : NoTb (ob (K := K) a (.xd kvs)) := notb_ob fun ps z => by cases z
instance {ds} : NoTb (ld (K := K) a ds) := ⟨fun ⟨e, xs, h, _⟩ b q ps z => by
  obtain rfl := (e b).mp q
  rw [h] at z
  cases z⟩
instance {fs} : NoTb (inst (K := K) a C fs) := ⟨fun ⟨dx, e, h1, h2⟩ b q ps z => by
  rcases (e b).mp q with rfl | rfl
  · rw [h1] at z
    cases z
  · rw [h2] at z
    cases z⟩
instance : NoTb (dr (K := K) d) := ⟨fun ⟨c, e, n, r, s, ns, h1, h2, h3⟩ b q ps z => by
  rcases (e b).mp q with rfl | rfl
  · rw [h1] at z
    cases z
  · rw [h2] at z
    cases z⟩
instance {α : Type} {f : α → As K} [h : ∀ x, NoTb (f x)] : NoTb (ex f) := ⟨fun ⟨x, z⟩ => (h x).no z⟩
/-- none of them owns a table -/
class NoTbs (L : List (As K)) : Prop where
  no : ∀ {W : Fz} {s : Addr → Prop} {H : Hp}, Hld W L s H → ∀ a, s a → ∀ ps, H a ≠ some (.tbl ps)
instance : NoTbs ([] : List (As K)) := ⟨fun z a q => (z a q).elim⟩
instance [i : NoTb A] [j : NoTbs L] : NoTbs (A :: L) := ⟨fun ⟨s1, s2, d, u, h1, h2⟩ a z => ((u a).mp z).elim (i.no h1 a) (j.no h2 a)⟩
instance [i : NoTbs L] : NoTb (all L) := ⟨fun z => i.no z⟩
instance {α : Type} {f : V → α → As K} [i : ∀ v z, NoTb (f v z)] {zs : List α} : NoTb (al2 f vs zs) := by
  have : ∀ (vs : List V) (zs : List α), NoTbs (List.zipWith f vs zs) := by
    intro vs
    induction vs with
    | nil => intro zs; exact inferInstanceAs (NoTbs [])
    | cons v vs ih =>
      intro zs
      cases zs with
      | nil => exact inferInstanceAs (NoTbs [])
      | cons z zs =>
        have := ih zs
        exact inferInstanceAs (NoTbs (f v z :: List.zipWith f vs zs))
  have := this vs zs
  exact inferInstanceAs (NoTb (all (pr _ :: List.zipWith f vs zs)))
theorem Sep.tabs (h : Sep (tabsA T :: L) H) : Tabs T H := by
  obtain ⟨W, s, ⟨_, h1⟩, _⟩ := h.the List.mem_cons_self
  exact h1
/-- what is frozen is no table -/
theorem fz_tb {W : Fz} {s : Addr → Prop} (f : FzOk W s H) (a : Addr) (o : HO) (z : W a o) (n : ∀ ps, o ≠ .tbl ps) (e : ExtN H H') : H' a = some o := e _ _ (f a o z).1 n
theorem sqt_extN (e : ExtN H H') : Tp K H H' := fun a xs q => by
  rcases q with (q | ⟨z, q⟩) | q
  · exact .inl (.inl (e _ _ q (fun ps z => by cases z)))
  · exact .inl (.inr ⟨z, e _ _ q (fun ps z => by cases z)⟩)
  · exact .inr q
end
end Ls
namespace Ls
open PySem PySem.Spec PyProof.Rows L2 LamX
section
variable {K : PySem.W.Frag} {L M : List (As K)} {H H' H1 : Hp} {T : List (Addr × Str)} {σ : L2.St} {Q : VK}
/-- a lambda was made: the tables of T have grown, all else stands -/
theorem Sep.tabsN [i : NoTbs L] (h : Sep (tabsA T :: L) H) (e : ExtN H H1) (t : Tabs T H1) : Sep (tabsA T :: L) H1 := by
  obtain ⟨W, s, f, s1, s2, d, u, ⟨e1, t1⟩, h2⟩ := h
  have no := i.no h2
  refine ⟨W, s, fun a o z => ⟨e _ _ (f a o z).1 fun ps q => ?_, (f a o z).2⟩, s1, s2, d, u, ⟨e1, t⟩, h2.st (fun a z => ?_) ⟨sqt_extN e, fun a g z => e _ _ z fun ps q => by cases q⟩⟩
  · have := (f a o z).2.1
    rw [q] at this
    cases this
  · obtain ⟨o, ho, _⟩ := h2.al a z
    rw [ho]
    exact e _ _ ho fun ps q => no a z ps (by rw [ho, q])
theorem k_lamS {TT : (XK → Hp → VK → Prop) → Hp → VK → Prop} {t : XK → TE} [NoTbs M] (h : Sep L H) (r : Rem L (tabsA T) M) (q : ∀ H1, Sep (tabsA T :: M) H1 → TT (fun E H' Q' => t E σ H' Q') H1 Q) : tLam T TT t σ H Q :=
  ⟨(h.rem r).tabs, fun H1 e tb => q H1 ((h.rem r).tabsN e tb)⟩
/-- the law's start: the tables stand empty -/
theorem Sep.tabs0 (h : ∀ p ∈ T, H p.1 = some (.tbl #[])) : Sep [tabsA (K := K) T] H := by
  refine ⟨fun _ _ => False, fun a => ∃ p ∈ T, p.1 = a, fun a o z => z.elim, fun a => ∃ p ∈ T, p.1 = a, fun _ => False, fun a x y => y, fun a => ⟨.inl, fun z => z.elim id False.elim⟩, ⟨fun a => Iff.rfl, fun p hp => ?_⟩, fun a z => z⟩
  exact ⟨#[], h p hp, trivial, fun pos cv e => by cases e⟩
end
end Ls
namespace Ls
open PySem PySem.Spec PyProof.Rows L2 LamX
section
variable {K : PySem.W.Frag} {L M : List (As K)} {H H' H1 : Hp} {σ : L2.St} {d C : Addr} {o : HO} {w : Str} {E : XK}
theorem Sep.newAt (h : Sep L H) (hn : H d = none) (s : Same H H') (hd : H' d = some o) (n : Nt o = true) : Sep (ob d o :: L) H' := by
  obtain ⟨W, q, f, h⟩ := h
  have ne : ∀ b, q b → b ≠ d := fun b z y => by
    obtain ⟨x, hx, _⟩ := h.al b z
    rw [y, hn] at hx
    cases hx
  have nw : ∀ b x, W b x → b ≠ d := fun b x z y => by
    have := (f b x z).1
    rw [y, hn] at this
    cases this
  exact ⟨W, fun b => b = d ∨ q b, fun b x z => ⟨s _ _ (f b x z).1, (f b x z).2.1, fun y => y.elim (nw b x z) (f b x z).2.2⟩, fun b => b = d, q, fun b x y => ne b y x, fun b => Iff.rfl, ⟨fun b => Iff.rfl, hd, n⟩, h.st (fun b z => by
    obtain ⟨x, hx, _⟩ := h.al b z
    rw [s _ _ hx, hx]) (Tq.same s)⟩
/-- raise C(): what is let out -/
theorem raise_lets (T : OexC K C) (no : PySem.W.findIn K (.ref C) "word" = some none) (h : Sep L H) (q : Lets L C w E) : tMkO C (spInit0 K w) [] tNil σ H fun cls d H' => E cls d H' :=
  k_raise T no fun d H2 hn s hd => q d H2 (h.newAt hn s hd rfl)
theorem Lets.sub (q : Lets M C w E) (s : Sub L M) : Lets L C w E := fun d H' h => q d H' (Sub.ok (Sub.cons s) h)
end
end Ls
-- own part: U31
namespace Ls
open PySem PySem.Spec PyProof.Rows L2 LamX PySem.W
/-! ### sorted(xs, key=lambda x: ..) -/
/-- one parameter, no name beside -/
structure LamP (scope : Scope) (x : Str) : Prop where
  kind : scope.kind = .function
  co : scope.isCoroutine = false
  gen : scope.isGenerator = false
  cell : ∀ y ∈ scope.names, y.2 ≠ .cell
  free : ∀ y ∈ scope.names, y.2 ≠ .free
  loc : scope.names.lookup x = some .local
def lamPB (scope : Scope) (x : Str) : Bool := decide (scope.kind = .function) && !scope.isCoroutine && !scope.isGenerator && (scope.names.all fun y => !decide (y.2 = .cell) && !decide (y.2 = .free)) && decide (scope.names.lookup x = some .local)
theorem lamP_by {scope : Scope} {x : Str} (h : lamPB scope x = true) : LamP scope x := by
  unfold lamPB at h
  simp only [Bool.and_eq_true, Bool.not_eq_true', decide_eq_true_eq, decide_eq_false_iff_not, List.all_eq_true] at h
  obtain ⟨⟨⟨⟨h1, h2⟩, h3⟩, h4⟩, h5⟩ := h
  exact ⟨h1, h2, h3, fun y hy => (h4 y hy).1, fun y hy => (h4 y hy).2, h5⟩
section
variable {prog : Program} {w : World} {A : Around} {s : Shared}
theorem lam1_call {h : Heap} {tk : Nat} {f c' : Addr} {q x : Str} {params : Arguments} {body : Expr} {scope : Scope} {pm ctv v : Value} {cl : List (Str × Addr)} {k : PyData}
    (of : h.get? f = some (kla_obj "<lambda>" q params body scope cl pm c' ctv)) (hcd : h.CodeRec (.ref c') q) (hroom : A.depth < recursionLimit) (nl : h.NoLimit)
    (hb : bindArgs (kla_fn "<lambda>" q params body scope cl pm (.ref c') ctv) ⟨[v], []⟩ = pure [(x, v)]) (S : LamP scope x)
    (hbody : ∀ (h₁ : Heap) (tk₁ : Nat) (L : Addr), (∀ b o, h.get? b = some o → h₁.get? b = some o) → h₁.Ns L (fun y => ([(x, v)] : List (Str × Value)).reverse.lookup y) →
      wpAny (model prog w) (A.deeper (envX q scope L f (.ref c') cl)) (eval body (envX q scope L f (.ref c') cl)) (KeyPure k { s with heap := h, toks := tk }) (fun _ _ => False) { s with heap := h₁, toks := tk₁ }) :
    wpAny (model prog w) A (call (.ref f) [v]) (KeyPure k { s with heap := h, toks := tk }) (fun _ _ => False) { s with heap := h, toks := tk } := by
  refine wpAny_call ?_
  refine kla_callFunE (s := { s with heap := h, toks := tk }) hroom of rfl S.co S.gen rfl hcd ?_
  rw [hb]
  refine wpAny_pure (wpAny_newFunctionEnv S.cell (fun y hy => ?_) (fun h₁ hns hsb => ⟨nl.fresh _ hsb, ?_⟩) S.kind)
  · rw [List.mem_singleton.mp hy]
    exact S.loc
  have kp : ∀ b o, h.get? b = some o → h₁.get? b = some o := fun b o e => hsb.extBut b o (Nat.ne_of_lt (Heap.lt_size e)) (Heap.get?_push_of_some _ e)
  exact kla_codeExpr (wpAny_mono (hbody h₁ _ _ kp hns) (fun v s' hq => hq) fun e s' hq => hq.elim)
/-- x[n] -/
theorem key_ix {h h₁ : Heap} {tk tk₁ : Nat} {env : Env} {x : Str} {n : Nat} {j : Nat} {p1 p2 p3 : Pos} {m : Str → Option Value} {a : Addr} {its : List Value} {i : Int} {t : Tok} (hk : env.scope.kind = .function) (hl : env.kindOf x = some .local) (hn : h₁.Ns env.locals m) (hm : m x = some (.ref a))
    (kp : ∀ b o, h.get? b = some o → h₁.get? b = some o) (ht : IsTup h a its.toArray) (hi : its[n]? = some (.int i t)) (hz : n < 1000) (hd : (x == ("__debug__" : Str)) = false) :
    wpAny (model prog w) A (eval (.Subscript (.Name x p1) (.Constant (.int (n : Int)) j p2) p3) env) (KeyPure (.int i) { s with heap := h, toks := tk }) (fun _ _ => False) { s with heap := h₁, toks := tk₁ } := by
  refine Subscript_ (wpAny_Name (wpAny_loadName_local hk hl hn hm ?_) hd)
  refine wpAny_Constant_int ?_
  have ht1 : IsTup h₁ a its.toArray := by
    obtain ⟨o, ho, hc, e, hdd⟩ := ht
    exact ⟨o, kp _ _ ho, hc, e, hdd⟩
  have hlt : n < its.length := (List.getElem?_eq_some_iff.mp hi).1
  refine item_tupleL (j := n) ht1 (by omega) (by omega) ?_ hi ⟨h₁, _, rfl, kp, .int _ _⟩
  have h0 : ¬ ((n : Int) < 0) := by omega
  have h1 : (n : Int) < (its.length : Int) := by omega
  simp [seqIndex?, h0, hlt]
/-- x[:n] -/
theorem readsAll_ints {h : Heap} : ∀ {vs : List Value} {ns : List Int}, IntsAre vs ns → ReadsAll h vs (ns.map PyData.int) []
  | _, _, .nil => .nil
  | _, _, .cons i t e => .cons (as := []) (.int i t) (readsAll_ints e)
theorem key_sl {h h₁ : Heap} {tk tk₁ : Nat} {env : Env} {x : Str} {n : Nat} {j : Nat} {p1 p2 p3 p4 : Pos} {m : Str → Option Value} {a : Addr} {its : List Value} {ns : List Int} (hk : env.scope.kind = .function) (hl : env.kindOf x = some .local) (hn : h₁.Ns env.locals m) (hm : m x = some (.ref a))
    (kp : ∀ b o, h.get? b = some o → h₁.get? b = some o) (ht : IsTup h a its.toArray) (hi : IntsAre (its.take n) ns) (hz : n < its.length) (hs : its.length ≤ sizeLine) (hd : (x == ("__debug__" : Str)) = false) :
    wpAny (model prog w) A (eval (.Subscript (.Name x p1) (.Slice none (some (.Constant (.int (n : Int)) j p2)) none p3) p4) env) (KeyPure (.tuple (ns.map PyData.int)) { s with heap := h, toks := tk }) (fun _ _ => False) { s with heap := h₁, toks := tk₁ } := by
  refine Subscript_ (wpAny_Name (wpAny_loadName_local hk hl hn hm ?_) hd)
  refine wpAny_Slice (wpAny_pure ?_)
  show wpAny _ _ (eval (.Constant (.int (n : Int)) j p2) env) _ _ _
  refine wpAny_Constant_int (wpAny_pure ?_)
  have ht2 : IsTup (h₁.push { cls := .type "slice", data := .fields #[.none, .int (n : Int) tk₁, .none] }) a its.toArray := by
    obtain ⟨o, ho, hc, e, hdd⟩ := ht
    exact ⟨o, Heap.get?_push_of_some _ (kp _ _ ho), hc, e, hdd⟩
  refine tail_any (ops := [.ref h₁.objs.size, .ref a]) ht2.typeIs PyProof.Rows.slot_tuple_getitem.lookup ?_ (by with_unfolding_all rfl)
  have e0 : HT.sIx its.toArray.size 0 none = 0 := rfl
  have e1 : HT.sIx its.toArray.size its.toArray.size (some (n : Int)) = n := by
    rw [HT.sIx_nat, List.size_toArray]
    omega
  refine HT.getItem_tuple_cut ht2 (Heap.IsSliceOf.new _ _ _ _) IsPart.none (IsPart.int _ _) ?_ ?_ (by rw [List.size_toArray]; exact hs)
  · rw [e1, List.size_toArray]
    omega
  · rw [e0, e1]
    refine ⟨_, _, rfl, fun b o e => Heap.get?_push_of_some _ (Heap.get?_push_of_some _ (kp _ _ e)), ?_⟩
    refine .tuple (Heap.get?_push_size _ rfl) rfl rfl (readsAll_ints ?_)
    show IntsAre ((its.drop 0).take (n - 0)) ns
    rw [List.drop_zero, Nat.sub_zero]
    exact hi
end
/-- what a lambda of one parameter makes of an item: a key; RX: told of the heap, KA: of the machine's -/
structure KeyLam (K : PySem.W.Frag) (params : Arguments) (body : Expr) (scope : Scope) (RX : Hp → V → PyData → Prop) (KA : Heap → Value → PyData → Prop) : Prop where
  ext : ∀ {H H' : Hp} {x : V} {k : PyData}, RX H x k → ExtN H H' → RX H' x k
  of : ∀ {X : Cx} {pins : List (Addr × Obj)} {σ : L2.St} {H : Hp} {s : Shared} {x : V} {v : Value} {k : PyData}, X.K = K → Inv X pins σ H s → RX H x k → RelV x v → KA s.heap v k
  mono : ∀ {h h' : Heap} {v : Value} {k : PyData}, KA h v k → (∀ b o, h.get? b = some o → h'.get? b = some o) → KA h' v k
  call : ∀ {prog : Program} {w : World} {A : Around} {s : Shared} {h : Heap} {tk : Nat} {f c' : Addr} {q : Str} {pm ctv v : Value} {cl : List (Str × Addr)} {k : PyData}, h.get? f = some (kla_obj "<lambda>" q params body scope cl pm c' ctv) → h.CodeRec (.ref c') q → A.depth < recursionLimit → h.NoLimit → KA h v k →
    wpAny (model prog w) A (call (.ref f) [v]) (KeyPure k { s with heap := h, toks := tk }) (fun _ _ => False) { s with heap := h, toks := tk }
/-- each item's place n is an int -/
def rxIx (K : PySem.W.Frag) (n : Nat) (H : Hp) (x : V) (k : PyData) : Prop := ∃ a xs i, x = .ref a ∧ SqT K H a xs ∧ xs[n]? = some (.int i) ∧ k = .int i
def kaIx (n : Nat) (h : Heap) (v : Value) (k : PyData) : Prop := ∃ (a : Addr) (its : List Value) (i : Int) (t : Tok), v = .ref a ∧ IsTup h a its.toArray ∧ its[n]? = some (.int i t) ∧ k = .int i
/-- the first n of each item are ints, and there is more -/
def rxSl (K : PySem.W.Frag) (n : Nat) (H : Hp) (x : V) (k : PyData) : Prop := ∃ a xs ns, x = .ref a ∧ SqT K H a xs ∧ n < xs.length ∧ xs.take n = List.map V.int ns ∧ k = .tuple (ns.map PyData.int)
def kaSl (n : Nat) (h : Heap) (v : Value) (k : PyData) : Prop := ∃ (a : Addr) (its : List Value) (ns : List Int), v = .ref a ∧ IsTup h a its.toArray ∧ n < its.length ∧ its.length ≤ sizeLine ∧ IntsAre (its.take n) ns ∧ k = .tuple (ns.map PyData.int)
theorem isTup_keeps {h h' : Heap} {a : Addr} {its : Array Value} (t : IsTup h a its) (k : ∀ b o, h.get? b = some o → h'.get? b = some o) : IsTup h' a its := by
  obtain ⟨o, ho, hc, e, hdd⟩ := t
  exact ⟨o, k _ _ ho, hc, e, hdd⟩
theorem sqt_extN' {K : PySem.W.Frag} {H H' : Hp} (e : ExtN H H') {a : Addr} {xs : List V} (q : SqT K H a xs) : SqT K H' a xs := by
  rcases q with (q | ⟨z, q⟩) | q
  · exact .inl (.inl (e _ _ q (fun ps z => by cases z)))
  · exact .inl (.inr ⟨z, e _ _ q (fun ps z => by cases z)⟩)
  · exact .inr q
theorem sql_extN' {K : PySem.W.Frag} {H H' : Hp} (e : ExtN H H') {a : Addr} {xs : List V} (q : SqL K H a xs) : SqL K H' a xs := by
  rcases q with (q | ⟨z, q⟩) | q
  · exact .inl (.inl (e _ _ q (fun ps z => by cases z)))
  · exact .inl (.inr ⟨z, e _ _ q (fun ps z => by cases z)⟩)
  · exact .inr q
theorem keyIx {K : PySem.W.Frag} {params : Arguments} {scope : Scope} {x : Str} {n j : Nat} {p1 p2 p3 : Pos} (S : LamP scope x) (hz : n < 1000)
    (hb : ∀ (q : Str) (cl : List (Str × Addr)) (pm cv ctv v : Value), bindArgs (PySem.W.kla_fn "<lambda>" q params (.Subscript (.Name x p1) (.Constant (.int (n : Int)) j p2) p3) scope cl pm cv ctv) ⟨[v], []⟩ = pure [(x, v)]) (hd : (x == ("__debug__" : Str)) = false := by decide) :
    KeyLam K params (.Subscript (.Name x p1) (.Constant (.int (n : Int)) j p2) p3) scope (rxIx K n) (kaIx n) where
  ext := fun ⟨a, xs, i, e, h, g, hk⟩ t => ⟨a, xs, i, e, sqt_extN' t h, g, hk⟩
  of := fun hK I ⟨a, xs, i, e, h, g, hk⟩ r => by
    subst hK e
    obtain rfl : _ = Value.ref a := r
    obtain ⟨its, r2, pl, hz⟩ := I.tuple h
    obtain ⟨u, eu, ru⟩ := r2.get g
    obtain ⟨t, rfl⟩ := ru
    exact ⟨a, its, i, t, rfl, pl, eu, hk⟩
  mono := fun ⟨a, its, i, t, e, h, g, hk⟩ kp => ⟨a, its, i, t, e, isTup_keeps h kp, g, hk⟩
  call := fun {prog w A s h tk f c' q pm ctv v cl k} of hcd hroom nl ⟨a, its, i, t, e, ht, hi, hk⟩ => by
    subst e hk
    refine lam1_call of hcd hroom nl (hb _ _ _ _ _ _) S fun h₁ tk₁ L kp hns => ?_
    exact key_ix (its := its) S.kind S.loc hns (by simp) kp ht hi hz hd
theorem keySl {K : PySem.W.Frag} {params : Arguments} {scope : Scope} {x : Str} {n j : Nat} {p1 p2 p3 p4 : Pos} (S : LamP scope x)
    (hb : ∀ (q : Str) (cl : List (Str × Addr)) (pm cv ctv v : Value), bindArgs (PySem.W.kla_fn "<lambda>" q params (.Subscript (.Name x p1) (.Slice none (some (.Constant (.int (n : Int)) j p2)) none p3) p4) scope cl pm cv ctv) ⟨[v], []⟩ = pure [(x, v)]) (hd : (x == ("__debug__" : Str)) = false := by decide) :
    KeyLam K params (.Subscript (.Name x p1) (.Slice none (some (.Constant (.int (n : Int)) j p2)) none p3) p4) scope (rxSl K n) (kaSl n) where
  ext := fun ⟨a, xs, i, e, h, g, hk⟩ t => ⟨a, xs, i, e, sqt_extN' t h, g, hk⟩
  of := fun hK I ⟨a, xs, ns, e, h, g, g2, hk⟩ r => by
    subst hK e
    obtain rfl : _ = Value.ref a := r
    obtain ⟨its, r2, pl, hz⟩ := I.tuple h
    have hl := r2.length
    have r3 := r2.take n
    rw [g2] at r3
    exact ⟨a, its, ns, rfl, pl, by omega, by omega, intsAre_of r3, hk⟩
  mono := fun ⟨a, its, ns, e, h, g, g2, g3, hk⟩ kp => ⟨a, its, ns, e, isTup_keeps h kp, g, g2, g3, hk⟩
  call := fun {prog w A s h tk f c' q pm ctv v cl k} of hcd hroom nl ⟨a, its, ns, e, ht, hz, hs, hi, hk⟩ => by
    subst e hk
    refine lam1_call of hcd hroom nl (hb _ _ _ _ _ _) S fun h₁ tk₁ L kp hns => ?_
    exact key_sl (its := its) S.kind S.loc hns (by simp) kp ht hi hz hs hd
def rSortLam (K : PySem.W.Frag) (T : List (Addr × Str)) (RX : Hp → V → PyData → Prop) (Q : VK) : VK := fun x H1 => Tabs T H1 ∧ ∃ (l : Addr) (bs : List (V × PyData)), x = .ref l ∧ SqL K H1 l (bs.map (·.1)) ∧ (∀ b ∈ bs, RX H1 b.1 b.2) ∧ AllAlike (bs.map (·.2)) ∧ Sortable (bs.map (·.2)) ∧ (∀ b ∈ bs, b.2.depth ≤ 60) ∧
  ∀ H2 p, ExtN H1 H2 → Tabs T H2 → H2 p = none → Q (.ref p) (upd H2 p (.lst ((bs.mergeSort (dataLe false (·.2))).map (·.1))))
def tSortLam (K : PySem.W.Frag) (T : List (Addr × Str)) (RX : Hp → V → PyData → Prop) (te : TE) : TE := fun σ H Q => te σ H (rSortLam K T RX Q)
def oneV (R : VK) : List V → Hp → Prop
  | [x], H => R x H
  | _, _ => False
theorem each_vals {RX : Hp → V → PyData → Prop} {KA : Heap → Value → PyData → Prop} {H : Hp} {h : Heap} (k : ∀ x v d, RX H x d → RelV x v → KA h v d) : ∀ {bs : List (V × PyData)} {vs : List Value}, Vals (bs.map (·.1)) vs → (∀ b ∈ bs, RX H b.1 b.2) → EachIs (fun v b => RelV b.1 v ∧ KA h v b.2) vs bs
  | [], _, r, _ => by
    cases r
    exact .nil
  | b :: bs, _, r, g => by
    cases r with
    | cons h1 h2 => exact .cons ⟨h1, k _ _ _ (g b List.mem_cons_self) h1⟩ (each_vals k h2 fun c hc => g c (List.mem_cons_of_mem _ hc))
theorem vals_each {KA : Value → PyData → Prop} : ∀ {bs : List (V × PyData)} {vs : List Value}, EachIs (fun v b => RelV b.1 v ∧ KA v b.2) vs bs → Vals (bs.map (·.1)) vs
  | [], _, r => by
    cases r
    exact .nil
  | b :: bs, _, r => by
    cases r with
    | cons h1 h2 => exact .cons h1.1 (vals_each h2)
theorem pe_sortLam {X : Cx} {T : List (Addr × Str)} {c P : Addr} {k : Nat} {e : Expr} {te : TE} {params : Arguments} {body : Expr} {scope : Scope} {p lpos pos kpos : Pos} {RX : Hp → V → PyData → Prop} {KA : Heap → Value → PyData → Prop} (K : PySem.W.Frag) (hK : X.K = K)
    (hg : Gl X "sorted") (hm : X.mg "sorted" = none) (he : PE X e te) (KL : KeyLam K params body scope RX KA) (TB : TabB X.base X.mg c P) (hcode : X.env.code = .ref c) (hmT : (P, X.env.qual ++ "<lambda>") ∈ T) (hu : ∀ p ∈ T, p.1 = P → p.2 = X.env.qual ++ "<lambda>") (hr : Room k X.A)
    (hdef : defaultsOf params X.env = ([], [])) (hfree : ∀ y ∈ scope.names, y.2 ≠ .free)
    (hse : starEach [e] X.env = (false, eval e X.env) :: starEach [] X.env := by rfl) (hee : backTo pos (starEach [e] X.env) = (false, eval e X.env) :: backTo pos (starEach [] X.env) := by rfl) (hpl : (backTo pos (starEach [e] X.env)).any (·.1) = false := by rfl) :
    PE X (.Call (.Name "sorted" p) [e] [⟨some "key", .Lambda params body scope lpos, kpos⟩] pos) (tSortLam K T RX te) := by
  subst hK
  refine ⟨fun pins s σ H Q I h => ?_⟩
  refine wpAny_Call_Name_kw (ld_blt I hg hm (by decide +kernel : bootBuiltins "sorted" = some (.builtin "sorted")) ?_ (by decide) (by decide))
  have ha : PA X [e] (tCons te tNil) := pa_cons he pa_nil hse
  refine PyProof.Rows.callWith_kw (thn (ha.run pos pins s σ H (oneV (rSortLam X.K T RX Q)) I h) fun us s1 ⟨vs, H1, I1, r1, q1⟩ => ?_) hee hpl
  cases vs with
  | nil => exact q1.elim
  | cons x r =>
  cases r with
  | cons y r => exact q1.elim
  | nil =>
  obtain ⟨hT, l, bs, rfl, hs, hx, hal, hso, hdp, q⟩ := q1
  obtain rfl := Vals.ref1 r1
  show wpAny _ _ (evalAll ((do let v ← eval (.Lambda params body scope lpos) X.env; standAt pos; pure v) :: (backToKw pos (keywordEach [] X.env)).map (·.2))) _ _ s1
  refine wpAny_evalAll_cons (wpAny_bind (lam_make2 I1 TB hcode hmT hu hT hdef (fun y hy e => absurd e (hfree y hy)) fun f c' pm ctv H2 s2 I2 eN T2 of hfn hfr hco => ?_))
  refine wpAny_bind (wpAny_standAt (wpAny_pure (wpAny_evalAll_nil ?_)))
  obtain ⟨⟨oc, vs, t, c1, c2, c3⟩, _, _⟩ := I2.hok c' _ hco
  obtain ⟨its, rv, pl, hz⟩ := I2.list (sql_extN' eN hs)
  have hlen : bs.length = its.length := by
    have := rv.length
    rw [List.length_map] at this
    exact this
  have ev : EachIs (fun (v : Value) (b : V × PyData) => RelV b.1 v ∧ KA s2.heap v b.2) its bs := each_vals (fun x v d g r => KL.of rfl I2 g r) rv fun b hb => KL.ext (hx b hb) eN
  refine sorted_key_data (R := fun (v : Value) (b : V × PyData) => RelV b.1 v ∧ KA s2.heap v b.2) (f := .ref f) (b := false) (fun b : V × PyData => b.2) pl.isList ev hal hso (by rw [List.length_map] at hz; exact hz) (fun b hb => ?_) (PyProof.Rows.ksk_s1 _ _) (fun _ => PyProof.Rows.ksk_l1 _ _) (fun _ => ksk_t1 _ _) (fun v b hR hb h tk kp => ?_) fun out cc h' tk kp fr hD hl eR => ?_
  · have := hr.un
    have := hdp b hb
    omega
  · exact KL.call (kp _ _ of) ⟨c', oc, vs, t, rfl, kp _ _ c1, c2, c3⟩ hr.depth (I2.nolimit.keeps kp) (KL.mono hR.2 kp)
  · have hfr2 : H2 (s2.heap.objs.size + 1) = none := I2.hok.fresh (Nat.le_succ _)
    refine ⟨.ref _, upd H2 (s2.heap.objs.size + 1) (.lst ((bs.mergeSort (dataLe false (·.2))).map (·.1))), I2.laidN (t' := tk) kp fr hfr2 ?_, rfl, q H2 _ eN T2 hfr2⟩
    refine ⟨?_, out, cc, vals_each eR, hD⟩
    rw [List.length_map, List.length_mergeSort, hlen]
    rw [List.length_map, hlen] at hz
    exact hz
end Ls
-- own part: U32
namespace Ls
open PySem PySem.Spec PyProof.Rows L2 PySem.W
section
variable {X : Cx} {pins : List (Addr × Obj)} {σ : L2.St} {H : Hp} {s : Shared}
theorem sqt_reads {h : Heap} {a : Addr} {its : List Value} {ds : List PyData} (t : IsTup h a its.toArray) (r : ReadsAll h its ds []) : Reads h (.ref a) (.tuple ds) [] := by
  obtain ⟨o, ho, hc, e, hd⟩ := t
  exact .tuple ho hc hd r
mutual
theorem im_reads (I : Inv X pins σ H s) : ∀ {v : V} {d : PyData} {u : Value}, Im X.K H v d → RelV v u → Reads s.heap u d []
  | _, _, u, .non, r => by
    obtain rfl : u = Value.none := r
    exact .none
  | _, _, u, .bl b, r => by
    obtain rfl : u = Value.bool b := r
    exact .bool b
  | _, _, u, .int i, r => by
    obtain ⟨t, rfl⟩ : ∃ t, u = Value.int i t := r
    exact .int i t
  | _, _, u, .str x, r => by
    obtain ⟨t, rfl⟩ : ∃ t, u = Value.str x t := r
    exact .str x t
  | _, _, u, .tup (a := a) h1 h2, r => by
    obtain rfl : u = Value.ref a := r
    obtain ⟨its, rv, t, _⟩ := I.tuple h1
    exact sqt_reads t (ims_reads I h2 rv)
theorem ims_reads (I : Inv X pins σ H s) : ∀ {vs : List V} {ds : List PyData} {us : List Value}, ImAll X.K H vs ds → Vals vs us → ReadsAll s.heap us ds []
  | _, _, _, .nil, r => by
    cases r
    exact .nil
  | _, _, _, .cons a b, r => by
    cases r with
    | cons h1 h2 => exact .cons (as := []) (im_reads I a h1) (ims_reads I b h2)
end
mutual
theorem reads_fun {h : Heap} : ∀ {u : Value} {d e : PyData} {as bs : List Addr}, Reads h u d as → as = [] → Reads h u e bs → d = e
  | _, _, _, _, _, .none, _, r => by cases r; rfl
  | _, _, _, _, _, .bool b, _, r => by cases r; rfl
  | _, _, _, _, _, .int i t, _, r => by cases r; rfl
  | _, _, _, _, _, .str x t, _, r => by cases r; rfl
  | _, _, _, _, _, .list h1 h2 h3 h4, e, r => by cases e
  | _, _, _, _, _, .dict h1 h2 h3 h4 h5, e, r => by cases e
  | _, _, _, _, _, .tuple h1 h2 h3 h4, e, r => by
    cases r with
    | list g1 g2 g3 g4 =>
      rw [h1] at g1
      cases g1
      rw [h2] at g2
      injection g2 with g2
      exact absurd g2 (by decide)
    | tuple g1 g2 g3 g4 =>
      rw [h1] at g1
      cases g1
      rw [h3] at g3
      cases g3
      rw [readsAll_fun h4 e g4]
    | dict g1 g2 g3 g4 g5 =>
      rw [h1] at g1
      cases g1
      rw [h2] at g2
      injection g2 with g2
      exact absurd g2 (by decide)
theorem readsAll_fun {h : Heap} : ∀ {us : List Value} {ds es : List PyData} {as bs : List Addr}, ReadsAll h us ds as → as = [] → ReadsAll h us es bs → ds = es
  | _, _, _, _, _, .nil, _, r => by cases r; rfl
  | _, _, _, _, _, .cons a b, z, r => by
    obtain ⟨z1, z2⟩ := List.append_eq_nil_iff.mp z
    cases r with
    | cons c d => rw [reads_fun a z1 c, readsAll_fun b z2 d]
end
theorem ims_get {K : PySem.W.Frag} {H : Hp} : ∀ {vs : List V} {ds : List PyData} {v : V}, ImAll K H vs ds → v ∈ vs → ∃ d, d ∈ ds ∧ Im K H v d
  | _, _, _, .nil, h => by cases h
  | _, _, _, .cons a b, h => by
    rcases List.mem_cons.mp h with rfl | h
    · exact ⟨_, List.mem_cons_self, a⟩
    · obtain ⟨d, h1, h2⟩ := ims_get b h
      exact ⟨d, List.mem_cons_of_mem _ h1, h2⟩
/-- the item found, by its data -/
theorem found_at (I : Inv X pins σ H s) {xs : List V} {its : List Value} {ds : List PyData} {d : PyData} {i : Nat} {v : Value} {h' : Heap} {bs : List Addr} (rv : Vals xs its) (g : ImAll X.K H xs ds) (hv : its[i]? = some v) (r : Reads h' v d bs) (k : ∀ b o, s.heap.get? b = some o → h'.get? b = some o) :
    ∃ x, RelV x v ∧ Im X.K H x d := by
  rcases vals_at rv i with ⟨_, h2⟩ | ⟨x, u, h1, h2, h3⟩
  · rw [h2] at hv
    cases hv
  · rw [h2] at hv
    cases hv
    obtain ⟨e, _, he⟩ := ims_get g (List.mem_of_getElem? h1)
    have := reads_fun (PyProof.Rows.Reads.keeps k (im_reads I he h3)) rfl r
    subst this
    exact ⟨x, h3, he⟩
end
section
variable {X : Cx}
def rMinD (K : PySem.W.Frag) : List V → Hp → VK → Prop := fun vs H Q => ∃ (a : Addr) (xs : List V) (d : PyData) (ds : List PyData), vs = [V.ref a] ∧ SqL K H a xs ∧ ImAll K H xs (d :: ds) ∧ AlikeAll (d :: ds) ∧ PyData.depthAll (d :: ds) ≤ 60 ∧ ∀ v, Im K H v (minD d ds) → Q v H
def rMaxD (K : PySem.W.Frag) : List V → Hp → VK → Prop := fun vs H Q => ∃ (a : Addr) (xs : List V) (d : PyData) (ds : List PyData), vs = [V.ref a] ∧ SqL K H a xs ∧ ImAll K H xs (d :: ds) ∧ AlikeAll (d :: ds) ∧ PyData.depthAll (d :: ds) ≤ 60 ∧ ∀ v, Im K H v (maxD d ds) → Q v H
def rMaxDf (K : PySem.W.Frag) : List V → List V → Hp → VK → Prop := fun vs zs H Q => ∃ (a : Addr) (xs : List V) (ds : List PyData) (z : V), vs = [V.ref a] ∧ zs = [z] ∧ SqL K H a xs ∧ ImAll K H xs ds ∧ AlikeAll ds ∧ PyData.depthAll ds ≤ 60 ∧ (ds = [] → Q z H) ∧ ∀ y ys v, ds = y :: ys → Im K H v (maxD y ys) → Q v H
theorem call_minD (K : PySem.W.Frag) (hK : X.K = K) (hc : X.calm = true) (hu : X.A.units + 66 < cLine) : CallR X (.builtin "min") (rMinD K) := by
  subst hK
  rintro pins s σ H vs us Q I r ⟨a, xs, d, ds, rfl, hs, hi, ha, hd, q⟩
  obtain ⟨its, rv, pl, _⟩ := I.list hs
  rw [Vals.ref1 r]
  refine min_list_data (I.ok.hd hc) pl.isList (by rw [List.toList_toArray]; exact ims_reads I hi rv) ha (by omega) fun i v h' tk bs hv hr k => ?_
  obtain ⟨x, r1, r2⟩ := found_at (i := i) I rv hi (by rw [← hv]; simp) hr k
  exact ⟨x, H, I.kept k, r1, q x r2⟩
theorem call_maxD (K : PySem.W.Frag) (hK : X.K = K) (hc : X.calm = true) (hu : X.A.units + 66 < cLine) : CallR X (.builtin "max") (rMaxD K) := by
  subst hK
  rintro pins s σ H vs us Q I r ⟨a, xs, d, ds, rfl, hs, hi, ha, hd, q⟩
  obtain ⟨its, rv, pl, _⟩ := I.list hs
  rw [Vals.ref1 r]
  refine max_list_data (I.ok.hd hc) pl.isList (by rw [List.toList_toArray]; exact ims_reads I hi rv) ha (by omega) fun i v h' tk bs hv hr k => ?_
  obtain ⟨x, r1, r2⟩ := found_at (i := i) I rv hi (by rw [← hv]; simp) hr k
  exact ⟨x, H, I.kept k, r1, q x r2⟩
theorem call_maxDf (K : PySem.W.Frag) (hK : X.K = K) (hc : X.calm = true) (hu : X.A.units + 66 < cLine) : CallRK X (.builtin "max") [Str.ofString "default"] (rMaxDf K) := by
  subst hK
  rintro pins s σ H vs zs us ws Q I r rz ⟨a, xs, ds, z, rfl, rfl, hs, hi, ha, hd, q1, q2⟩
  obtain ⟨its, rv, pl, _⟩ := I.list hs
  rw [Vals.ref1 r]
  obtain ⟨w1, rfl, e1⟩ := vals1 rz
  refine max_list_default (I.ok.hd hc) pl.isList (by rw [List.toList_toArray]; exact ims_reads I hi rv) ha (by omega) (fun hn h' tk k => ⟨z, H, I.kept k, e1, q1 hn⟩) fun y ys i v h' tk bs he hv hr k => ?_
  obtain ⟨x, r1, r2⟩ := found_at (i := i) I rv hi (by rw [← hv]; simp) hr k
  exact ⟨x, H, I.kept k, r1, q2 y ys x he r2⟩
end
end Ls
-- own part: U6
namespace Ls
open PySem PySem.Spec PyProof.Rows L2
/-! ### sorted(set(xs)), xs a list of ints -/
section
variable {P : Program} {w : World} {A : Around} {E : Value → Shared → Prop} {s : Shared}
/-- a set just made, the state with it -/
abbrev empt (w : World) : Obj := { cls := .type "set", dict := none, data := .set #[] 0 (.fresh 0 0 (!w.params.followText "set-order")) }
theorem set_ints {l : Addr} {xs : Array Value} (ks : List Int) {Q : Value → Shared → Prop} (nh : A.handled = none) (li : s.heap.IsList l xs) (ia : IntsAre xs.toList ks) (few : ks.length + 1 < scanBound)
    (k : ∀ g tk c, SetR w g s.heap.objs.size (fun j => decide (j ∈ ks)) c → c ≤ ks.length → (∀ b o, s.heap.get? b = some o → g.get? b = some o) → Q (.ref s.heap.objs.size) { s with heap := g, toks := tk }) :
    wpAny (model P w) A (call (.type "set") [.ref l]) Q E s := by
  have lk : xs.size = ks.length := (Array.length_toList (xs := xs)).symm.trans (IntsAre.length ia)
  obtain ⟨c0, t0, mro0⟩ := F.called_set.mro
  have made0 := F.called_set.made
  have sub0 := F.called_set.sub
  have nt0 := F.called_set.notType
  have cc0 := F.called_set.canCreate
  have tc0 := F.typeCall_set_1 (.ref l)
  refine wpAny_call (codeAny_of_tree (show wpAny _ _ (callAny (.type "set") _) _ _ _ from wpAny_pure ⟨Code.quiet_builtin _ (by decide +kernel), codeAny_builtin F.entry_type_call ?_⟩))
  rw [Around.under_plain (weight_type_call_type "set" [.ref l] []) rfl]
  repeat any_goals first | assumption | wp_step
  refine codeAny_mono (code_set_led1 (E := E) (.ref l) (Q₁ := fun v u => v = .ref s.heap.objs.size ∧ u = { s with heap := s.heap.push (empt w) }) ⟨rfl, rfl⟩) fun res u hu => ?_
  cases res with
  | error e => exact hu
  | ok fin =>
    cases fin with
    | next => exact hu.elim
    | brk => exact hu.elim
    | cont => exact hu.elim
    | ret v =>
      obtain ⟨rfl, rfl⟩ := hu
      have at0 : (s.heap.push (empt w)).get? s.heap.objs.size = some (empt w) := Heap.get?_push_size _ rfl
      have ty0 : Shared.TypeIs { s with heap := s.heap.push (empt w) } (.ref s.heap.objs.size) "set" := ⟨_, at0, rfl⟩
      have il0 := F.called_set.init.lookup
      have ib0 := F.called_set.init.bind (.ref s.heap.objs.size)
      repeat any_goals first | assumption | wp_step
      refine codeAny_mono (codeAny_call_builtin (R := wants (fun v u => v = .none ∧ ∃ g tk c, u = { s with heap := g, toks := tk } ∧ SetR w g s.heap.objs.size (fun j => decide (j ∈ ks)) c ∧ c ≤ ks.length ∧ ∀ b o, s.heap.get? b = some o → g.get? b = some o) E)
        F.called_set.init.plain F.entry_set_init (check_set_init_1 ty0 ?_)) fun res u hu => ?_
      · obtain ⟨⟨oc, od, odat, osl⟩, ol, ocl, nl, odt⟩ := li
        simp only at ocl odt
        subst ocl odt
        have ol1 : (s.heap.push (empt w)).get? l = some { cls := .type "list", dict := od, data := .seq xs nl, slots := osl } := Heap.get?_push_of_some _ ol
        have li1 : (s.heap.push (empt w)).IsList l xs := ⟨_, ol1, rfl, nl, rfl⟩
        have sl0 := F.sub_list_set
        have sf0 := F.sub_list_frozenset
        have nd0 : (Value.type "list" == Value.type "dict") = false := by decide
        unfold Builtin.«set.__init__» noKeywords Builtin.Frozenset.updateFrom
        generalize hit : pyIter = IT
        wp_walk
        subst hit
        refine wpAny_pyIter_list li1 (wpAny_bind (wpAny_runValue ?_))
        have lt0 : l < s.heap.objs.size := Heap.lt_size ol
        have sz1 : (s.heap.push (empt w)).objs.size = s.heap.objs.size + 1 := Heap.size_push ..
        have nl1 : l ≠ (s.heap.push (empt w)).objs.size := by rw [sz1]; exact Nat.ne_of_lt (Nat.lt_succ_of_lt lt0)
        have out1 : s.heap.objs.size ∉ [(s.heap.push (empt w)).objs.size, l] := by
          rw [sz1]
          intro m
          rcases List.mem_cons.mp m with m | m
          · exact Nat.ne_of_lt (Nat.lt_succ_self _) m
          · exact Nat.ne_of_gt lt0 (List.mem_singleton.mp m)
        refine set_update_ints ((Walks.list (by simp [nh]) _ l nl1 xs).toS) s.heap.objs.size out1 ks lk few (fun i v hv => ?_) (xs.size - 0) 0 _ (by omega) (Nat.zero_le _)
          ⟨⟨_, Heap.get?_push_size _ rfl, rfl, rfl⟩, li1.push _⟩ ⟨0, Nat.le_refl _, setR_new_at (Heap.get?_push_of_some _ at0)⟩ ?_
        · have hi : i < ks.length := lk ▸ (Array.getElem?_eq_some_iff.mp hv).1
          obtain ⟨t, e⟩ := IntsAre.int_at ia i v (by rw [Array.getElem?_toList]; exact hv)
          refine ⟨_, t, List.getElem?_eq_getElem hi, e.trans ?_⟩
          rw [List.getD_eq_getElem?_getD, List.getElem?_eq_getElem hi]
          rfl
        · rintro ⟨g, g2, d2, tk, o2⟩ c mv hc hS
          have e1 : g2 = s.gens := mv.gens
          have e2 : d2 = s.drawn := mv.drawn
          have e3 : o2 = s.os := mv.os
          subst e1 e2 e3
          rw [lk] at hc
          refine wpAny_pure (wpAny_pure ⟨rfl, g, tk, c, rfl, hS, hc, fun b o hb => ?_⟩)
          have ltb := Heap.lt_size hb
          refine mv.heap b o (fun m => ?_) (Heap.get?_push_of_some _ (Heap.get?_push_of_some _ hb))
          rcases List.mem_cons.mp m with m | m
          · exact Nat.ne_of_lt ltb m
          · have m := List.mem_singleton.mp m
            rw [m, sz1] at ltb
            exact Nat.not_lt.mpr (Nat.le_succ _) ltb
      · cases res with
        | error e => exact hu
        | ok fin =>
          cases fin with
          | next => exact hu.elim
          | brk => exact hu.elim
          | cont => exact hu.elim
          | ret v =>
            obtain ⟨rfl, g, tk, c, rfl, hS, hc, hk⟩ := hu
            repeat any_goals first | assumption | wp_step
            exact k _ _ _ hS hc hk
end
def tSortSet (K : PySem.W.Frag) (ta : TE) : TE := fun σ H Q => ta σ H fun x H1 => ∃ (l : Addr) (ns : List Int), x = .ref l ∧ SqL K H1 l (ns.map V.int) ∧ ns.length < 60 ∧ ∀ (ms : List Int) (p : Addr), ms.Pairwise (· < ·) → (∀ k : Int, k ∈ ms ↔ k ∈ ns) → H1 p = none → Q (.ref p) (upd H1 p (.lst (ms.map V.int)))
theorem pe_sortSet {X : Cx} {a : Expr} {ta : TE} {p p2 q pos : Pos} (K : PySem.W.Frag) (hK : X.K = K) (hg : Gl X "sorted") (hm : X.mg "sorted" = none) (hg2 : Gl X "set") (hm2 : X.mg "set" = none) (ha : PE X a ta) (hc : X.calm = true := by rfl)
    (na : starEach [a] X.env = (false, eval a X.env) :: starEach [] X.env := by rfl) : PE X (.Call (.Name "sorted" p) [.Call (.Name "set" p2) [a] [] q] [] pos) (tSortSet K ta) := by
  subst hK
  refine ⟨fun pins s σ H Q I h => ?_⟩
  refine Call_ (ld_blt I hg hm boot_sorted (callWith_builtin1 (args_cons ?_ rfl) rfl rfl))
  refine Call_ (ld_blt I hg2 hm2 PyProof.Rows.boot_set ?_)
  refine callWith_type1 (args_cons (thn (ha.run pins s σ H _ I h) fun v s1 ⟨x, H1, I1, r1, q1⟩ => args_nil ?_) na) na rfl
  obtain ⟨l, ns, rfl, hq, h60, q1⟩ := q1
  cases r1
  obtain ⟨its, r, pl, hz⟩ := I1.list hq
  refine set_ints ns (I1.ok.hd hc) pl.isList (by simpa using RZ.intsAre_vals r) (by unfold scanBound; omega) fun g tk c hS hc2 hk => ?_
  have I2 : Inv X pins σ H1 { s1 with heap := g, toks := tk } := I1.kept fun b o e => hk b o e
  refine args_nil ?_
  refine sorted_set hS (I2.ok.hd hc) (by omega) fun s' p out c3 ms kp gn og hp hg3 hi hs hms hl => ?_
  have hn : H1 p = none := I2.hok.fresh hp
  have hlen : (ms.map V.int).length ≤ sizeLine := by rw [List.length_map, hl, sizeLine_eq]; omega
  have J : Inv X pins σ (upd H1 p (.lst (ms.map V.int))) { ({ s1 with heap := g, toks := tk } : Shared) with heap := s'.heap, gens := s'.gens, drawn := s'.drawn, toks := s'.toks } :=
    I2.call (ch := []) (Un.laid kp hp hn) (I2.hok.laid kp hp ⟨hlen, out.toList, c3, vals_of_ints hi, hg3⟩) (by rw [gn]; exact I2.bare) (fun _ z => nomatch z)
  have es : s' = { ({ s1 with heap := g, toks := tk } : Shared) with heap := s'.heap, gens := s'.gens, drawn := s'.drawn, toks := s'.toks } := by
    cases s'
    cases og
    rfl
  rw [es]
  exact ⟨.ref p, _, J, rfl, q1 ms p hs (fun k => (hms k).trans ⟨of_decide_eq_true, decide_eq_true⟩) hn⟩
theorem k_sortset {K : PySem.W.Frag} {σ : L2.St} {H : Hp} {Q : VK} {ta : TE} (h : ta σ H fun x H1 => ∃ (l : Addr) (ns : List Int), x = .ref l ∧ SqL K H1 l (ns.map V.int) ∧ ns.length < 60 ∧ ∀ (ms : List Int) (p : Addr), ms.Pairwise (· < ·) → (∀ k : Int, k ∈ ms ↔ k ∈ ns) → H1 p = none → Q (.ref p) (upd H1 p (.lst (ms.map V.int)))) : tSortSet K ta σ H Q := h
theorem k_listrg {σ : L2.St} {H : Hp} {Q : VK} {te : L2.St → Hp → (Int → Int → Hp → Prop) → Prop} (h : te σ H fun a b H1 => RgOk a b ∧ ∀ q, H1 q = none → Q (.ref q) (upd H1 q (.lst (rgV a b)))) : tLstRg te σ H Q := h
theorem k_rg1 {σ : L2.St} {H : Hp} {ta : TE} {R : Int → Int → Hp → Prop} (h : ta σ H fun x H1 => ∃ n, x = .int n ∧ R 0 n H1) : tRg1 ta σ H R := h
end Ls
-- own part: U33
namespace Ls
open PySem PySem.Spec PyProof.Rows L2
/-! ### len(set(xs)), xs a list of texts, any of them alike -/
/-- how many unlike ones stand among the first i -/
def dcnt (xs : List Str) : Nat → Nat
  | 0 => 0
  | i + 1 => if (xs.take i).any (· == xs.getD i Str.empty) then dcnt xs i else dcnt xs i + 1
theorem dcnt_le (xs : List Str) : ∀ i, dcnt xs i ≤ i
  | 0 => Nat.le_refl _
  | i + 1 => by
    have := dcnt_le xs i
    rw [dcnt]
    split <;> omega
theorem dcnt_nodup {xs : List Str} (h : xs.Nodup) : ∀ i, i ≤ xs.length → dcnt xs i = i
  | 0, _ => rfl
  | i + 1, hi => by
    have ih := dcnt_nodup h i (by omega)
    rw [dcnt, if_neg, ih]
    intro z
    obtain ⟨y, hy, e⟩ := List.any_eq_true.mp z
    have e : y = xs.getD i Str.empty := beq_iff_eq.mp e
    rw [List.getD_eq_getElem?_getD, List.getElem?_eq_getElem (by omega), Option.getD_some] at e
    obtain ⟨j, hj, e2⟩ := List.getElem_of_mem hy
    rw [List.length_take] at hj
    rw [List.getElem_take, e] at e2
    exact List.pairwise_iff_getElem.mp h j i (by omega) (by omega) (by omega) e2
theorem dcnt_dup {xs : List Str} : ∀ i, i ≤ xs.length → dcnt xs i = i → (xs.take i).Nodup
  | 0, _, _ => by
    rw [List.take_zero]
    exact .nil
  | i + 1, hi, h => by
    have hle := dcnt_le xs i
    rw [dcnt] at h
    split at h
    · omega
    · rename_i hn
      have ih := dcnt_dup (xs := xs) i (by omega) (by omega)
      rw [List.take_add_one, List.getElem?_eq_getElem (show i < xs.length by omega), Option.toList_some]
      refine List.pairwise_append.mpr ⟨ih, List.pairwise_singleton _ _, fun a ha b hb e => hn ?_⟩
      rw [List.mem_singleton.mp hb] at e
      refine List.any_eq_true.mpr ⟨a, ha, ?_⟩
      rw [List.getD_eq_getElem?_getD, List.getElem?_eq_getElem (show i < xs.length by omega), Option.getD_some, e]
      exact beq_self_eq_true _
theorem dcnt_all {xs : List Str} : (dcnt xs xs.length = xs.length) ↔ xs.Nodup := ⟨fun h => by
  have := dcnt_dup xs.length (Nat.le_refl _) h
  rwa [List.take_length] at this, fun h => dcnt_nodup h _ (Nat.le_refl _)⟩
section
variable {P : Program} {w : World} {A : Around} {E : Value → Shared → Prop} {s : Shared}
theorem strs_get : ∀ {us : List Value} {xs : List Str}, StrsAre us xs → ∀ (i : Nat) (v : Value), us[i]? = some v → ∃ t, v = .str (xs.getD i Str.empty) t
  | _, _, .nil, i, v, h => by cases h
  | _, _, .cons n t hr, 0, v, h => ⟨t, (Option.some.inj h).symm⟩
  | _, _, .cons n t hr, i + 1, v, h => strs_get hr i v h
theorem upd_strs {R : Result → Shared → Prop} {I : Addr} {fp wr : List Addr} {G : Array GenState → Array GenState → Prop} {n : Nat} {Pv : Nat → Value → Prop} {St : Nat → Shared → Prop}
    (W : WalksS P w A.in1 I fp wr G n Pv St) (S : Addr) (hSf : S ∉ fp) (xs : List Str) (hn : n + 1 < scanBound) (hval : ∀ i v, Pv i v → ∃ t, v = .str (xs.getD i Str.empty) t) (hln : n = xs.length) :
    ∀ (k i : Nat) (s : Shared), n - i = k → i ≤ n → St i s → s.heap.SetOf (strKind P w) S (fun z => (xs.take i).any (· == z)) (dcnt xs i) →
      (∀ s', Moved (S :: wr) G s s' → s'.heap.SetOf (strKind P w) S (fun z => (xs.take n).any (· == z)) (dcnt xs n) → R (.ok (.ret .none)) s') →
      codeAny (model P w) A (.builtin "set.update.loop" ⟨[.ref S, .ref I], []⟩) R s := by
  have out : S ∉ wr := fun h => hSf (W.sub _ h)
  have more : ∀ b ∈ wr, b ∈ S :: wr := fun b hb => List.mem_cons_of_mem _ hb
  intro k
  induction k with
  | zero =>
    intro i s hk hi hst hS hR
    obtain rfl : i = n := by omega
    refine codeAny_builtin F.entry_set_update_loop ?_
    rw [Around.under_plainId F.plain_set_update_loop _]
    show wpAny _ A.in1 (pyNext (.ref I) >>= _) _ _ s
    refine wpAny_bind (W.done s _ _ hst fun s' hm => ?_)
    show wpAny _ A.in1 (ret Value.none) _ _ s'
    obtain ⟨o, es, ep, t, ho, rest⟩ := hS
    exact wpAny_pure (hR s' (hm.mono more) ⟨o, es, ep, t, hm.heap S _ out ho, rest⟩)
  | succ k ih =>
    intro i s hk hi hst hS hR
    have hlt : i < n := by omega
    refine codeAny_builtin F.entry_set_update_loop ?_
    rw [Around.under_plainId F.plain_set_update_loop _]
    show wpAny _ A.in1 (pyNext (.ref I) >>= _) _ _ s
    refine wpAny_bind (W.item i s _ _ hlt hst fun v s' hP hst' hm => ?_)
    obtain ⟨t, rfl⟩ := hval i v hP
    have hS1 : s'.heap.SetOf (strKind P w) S (fun z => (xs.take i).any (· == z)) (dcnt xs i) := by
      obtain ⟨o, es, ep, tb, ho, rest⟩ := hS
      exact ⟨o, es, ep, tb, hm.heap S _ out ho, rest⟩
    show wpAny _ A.in1 (holding [Value.str (xs.getD i Str.empty) t] (setAdd S (.str (xs.getD i Str.empty) t)) >>= _) _ _ s'
    refine wpAny_bind (wpAny_holding ?_)
    unfold setAdd
    refine wpAny_holding (wpAny_bind ((strKind P w).pyHash (k := xs.getD i Str.empty) (strKind_is _ _ _ _) ?_))
    have hle := dcnt_le xs i
    refine wpAny_setAddHashed_of (knd := strKind P w) (s := { s' with toks := s'.toks + 1 }) (strKind_is _ _ _ _) rfl hS1 (by omega) fun h' sb hS2 => ?_
    have hS3 : h'.SetOf (strKind P w) S (fun z => (xs.take (i + 1)).any (· == z)) (dcnt xs (i + 1)) := by
      refine SetOf_congr hS2 (fun z => ?_) rfl
      rw [List.take_add_one, List.getElem?_eq_getElem (by omega), Option.toList_some, List.any_append, List.any_cons, List.any_nil, Bool.or_false, List.getD_eq_getElem?_getD, List.getElem?_eq_getElem (by omega), Option.getD_some]
      congr 1
      by_cases e : z = xs[i]
      · rw [decide_eq_true e, e]
        exact (beq_self_eq_true _).symm
      · rw [decide_eq_false e]
        exact (beq_eq_false_iff_ne.mpr fun q => e q.symm).symm
    refine wpAny_pure ⟨plainId_quiet F.plain_set_update_loop _, ih (i + 1) _ (by omega) hlt (W.frame _ s' _ _ hst' (Nat.le_succ _) fun b hb o e => (sb.2 b fun q => hSf (q ▸ hb)).trans e) hS3 fun s2 hm2 hS4 => ?_⟩
    exact hR s2 (Moved.trans W.gtrans ((hm.mono more).then_heap (Nat.le_succ _) fun b o hb e => (sb.2 b fun q => hb (q ▸ List.mem_cons_self)).trans e) hm2) hS4
theorem set_strs {l : Addr} {xs : Array Value} (ks : List Str) {Q : Value → Shared → Prop} (nh : A.handled = none) (li : s.heap.IsList l xs) (ia : StrsAre xs.toList ks) (few : ks.length + 1 < scanBound)
    (k : ∀ g tk, g.SetOf (strKind P w) s.heap.objs.size (fun z => ks.any (· == z)) (dcnt ks ks.length) → (∀ b o, s.heap.get? b = some o → g.get? b = some o) → Q (.ref s.heap.objs.size) { s with heap := g, toks := tk }) :
    wpAny (model P w) A (call (.type "set") [.ref l]) Q E s := by
  have lk : xs.size = ks.length := (Array.length_toList (xs := xs)).symm.trans (StrsAre.len_eq ia)
  obtain ⟨c0, t0, mro0⟩ := F.called_set.mro
  have made0 := F.called_set.made
  have sub0 := F.called_set.sub
  have nt0 := F.called_set.notType
  have cc0 := F.called_set.canCreate
  have tc0 := F.typeCall_set_1 (.ref l)
  refine wpAny_call (codeAny_of_tree (show wpAny _ _ (callAny (.type "set") _) _ _ _ from wpAny_pure ⟨Code.quiet_builtin _ (by decide +kernel), codeAny_builtin F.entry_type_call ?_⟩))
  rw [Around.under_plain (weight_type_call_type "set" [.ref l] []) rfl]
  repeat any_goals first | assumption | wp_step
  refine codeAny_mono (code_set_led1 (E := E) (.ref l) (Q₁ := fun v u => v = .ref s.heap.objs.size ∧ u = { s with heap := s.heap.push (empt w) }) ⟨rfl, rfl⟩) fun res u hu => ?_
  cases res with
  | error e => exact hu
  | ok fin =>
    cases fin with
    | next => exact hu.elim
    | brk => exact hu.elim
    | cont => exact hu.elim
    | ret v =>
      obtain ⟨rfl, rfl⟩ := hu
      have at0 : (s.heap.push (empt w)).get? s.heap.objs.size = some (empt w) := Heap.get?_push_size _ rfl
      have ty0 : Shared.TypeIs { s with heap := s.heap.push (empt w) } (.ref s.heap.objs.size) "set" := ⟨_, at0, rfl⟩
      have il0 := F.called_set.init.lookup
      have ib0 := F.called_set.init.bind (.ref s.heap.objs.size)
      repeat any_goals first | assumption | wp_step
      refine codeAny_mono (codeAny_call_builtin (R := wants (fun v u => v = .none ∧ ∃ g tk, u = { s with heap := g, toks := tk } ∧ g.SetOf (strKind P w) s.heap.objs.size (fun z => ks.any (· == z)) (dcnt ks ks.length) ∧ ∀ b o, s.heap.get? b = some o → g.get? b = some o) E)
        F.called_set.init.plain F.entry_set_init (check_set_init_1 ty0 ?_)) fun res u hu => ?_
      · obtain ⟨⟨oc, od, odat, osl⟩, ol, ocl, nl, odt⟩ := li
        simp only at ocl odt
        subst ocl odt
        have ol1 : (s.heap.push (empt w)).get? l = some { cls := .type "list", dict := od, data := .seq xs nl, slots := osl } := Heap.get?_push_of_some _ ol
        have li1 : (s.heap.push (empt w)).IsList l xs := ⟨_, ol1, rfl, nl, rfl⟩
        have sl0 := F.sub_list_set
        have sf0 := F.sub_list_frozenset
        have nd0 : (Value.type "list" == Value.type "dict") = false := by decide
        unfold Builtin.«set.__init__» noKeywords Builtin.Frozenset.updateFrom
        generalize hit : pyIter = IT
        wp_walk
        subst hit
        refine wpAny_pyIter_list li1 (wpAny_bind (wpAny_runValue ?_))
        have lt0 : l < s.heap.objs.size := Heap.lt_size ol
        have sz1 : (s.heap.push (empt w)).objs.size = s.heap.objs.size + 1 := Heap.size_push ..
        have nl1 : l ≠ (s.heap.push (empt w)).objs.size := by rw [sz1]; exact Nat.ne_of_lt (Nat.lt_succ_of_lt lt0)
        have out1 : s.heap.objs.size ∉ [(s.heap.push (empt w)).objs.size, l] := by
          rw [sz1]
          intro m
          rcases List.mem_cons.mp m with m | m
          · exact Nat.ne_of_lt (Nat.lt_succ_self _) m
          · exact Nat.ne_of_gt lt0 (List.mem_singleton.mp m)
        refine upd_strs ((Walks.list (by simp [nh]) _ l nl1 xs).toS) s.heap.objs.size out1 ks (by omega) (fun i v hv => strs_get ia i v (by rw [Array.getElem?_toList]; exact hv)) lk (xs.size - 0) 0 _ (by omega) (Nat.zero_le _)
          ⟨⟨_, Heap.get?_push_size _ rfl, rfl, rfl⟩, li1.push _⟩ (SetOf_congr ((setObjOf_fresh (knd := strKind P w) (!w.params.followText "set-order")).setOf (Heap.get?_push_of_some _ at0) (by unfold scanBound; omega)) (fun _ => rfl) rfl) ?_
        rintro ⟨g, g2, d2, tk, o2⟩ mv hS
        have e1 : g2 = s.gens := mv.gens
        have e2 : d2 = s.drawn := mv.drawn
        have e3 : o2 = s.os := mv.os
        subst e1 e2 e3
        rw [lk, List.take_length] at hS
        refine wpAny_pure (wpAny_pure ⟨rfl, g, tk, rfl, hS, fun b o hb => ?_⟩)
        have ltb := Heap.lt_size hb
        refine mv.heap b o (fun m => ?_) (Heap.get?_push_of_some _ (Heap.get?_push_of_some _ hb))
        rcases List.mem_cons.mp m with m | m
        · exact Nat.ne_of_lt ltb m
        · have m := List.mem_singleton.mp m
          rw [m, sz1] at ltb
          exact Nat.not_lt.mpr (Nat.le_succ _) ltb
      · cases res with
        | error e => exact hu
        | ok fin =>
          cases fin with
          | next => exact hu.elim
          | brk => exact hu.elim
          | cont => exact hu.elim
          | ret v =>
            obtain ⟨rfl, g, tk, rfl, hS, hk⟩ := hu
            repeat any_goals first | assumption | wp_step
            exact k _ _ hS hk
end
def tLenSetS (K : PySem.W.Frag) (ta : TE) : TE := fun σ H Q => ta σ H fun x H1 => ∃ (l : Addr) (xs : List Str), x = .ref l ∧ SqL K H1 l (xs.map V.str) ∧ xs.length < 60 ∧ Q (.int (dcnt xs xs.length)) H1
theorem pe_lenSetS {X : Cx} {a : Expr} {ta : TE} {p p2 q pos : Pos} (K : PySem.W.Frag) (hK : X.K = K) (hg : Gl X "len") (hm : X.mg "len" = none) (hg2 : Gl X "set") (hm2 : X.mg "set" = none) (ha : PE X a ta) (hc : X.calm = true := by rfl)
    (na : starEach [a] X.env = (false, eval a X.env) :: starEach [] X.env := by rfl) : PE X (.Call (.Name "len" p) [.Call (.Name "set" p2) [a] [] q] [] pos) (tLenSetS K ta) := by
  subst hK
  refine ⟨fun pins s σ H Q I h => ?_⟩
  refine Call_ (ld_blt I hg hm boot_len (callWith_builtin1 (args_cons ?_ rfl) rfl rfl))
  refine Call_ (ld_blt I hg2 hm2 PyProof.Rows.boot_set ?_)
  refine callWith_type1 (args_cons (thn (ha.run pins s σ H _ I h) fun v s1 ⟨x, H1, I1, r1, q1⟩ => args_nil ?_) na) na rfl
  obtain ⟨l, xs, rfl, hq, h60, q1⟩ := q1
  cases r1
  obtain ⟨its, r, pl, hz⟩ := I1.list hq
  refine set_strs xs (I1.ok.hd hc) pl.isList (by simpa using r.strs) (by unfold scanBound; omega) fun g tk hS hk => ?_
  refine args_nil ?_
  obtain ⟨o, es, ep, t, ho, hex, hd, _, _, _, hf, hn⟩ := hS
  have hle := dcnt_le xs xs.length
  have I2 : Inv X pins σ H1 { s1 with heap := g, toks := tk } := I1.kept fun b o e => hk b o e
  exact call_len_set ho hex hd hf (by rw [hn] <;> omega) ⟨.int (dcnt xs xs.length : Nat), H1, I2.tok _, ⟨_, by rw [hn]⟩, q1⟩
theorem k_lensetS {K : PySem.W.Frag} {σ : L2.St} {H : Hp} {Q : VK} {ta : TE} (h : ta σ H fun x H1 => ∃ (l : Addr) (xs : List Str), x = .ref l ∧ SqL K H1 l (xs.map V.str) ∧ xs.length < 60 ∧ Q (.int (dcnt xs xs.length)) H1) : tLenSetS K ta σ H Q := h
end Ls
-- own part: U34
namespace Ls
open PySem PySem.Spec PyProof.Rows L2
/-! ### a target `a, b, *c` over a tuple -/
theorem Walks.from {prog : Program} {w : World} {A : Around} {I : Addr} {fp wr : List Addr} {n : Nat} {P : Nat → Value → Prop} {St : Nat → Heap → Prop} (W : Walks prog w A I fp wr n P St) (k : Nat) (hk : k ≤ n) :
    Walks prog w A I fp wr (n - k) (fun i => P (k + i)) (fun i => St (k + i)) where
  sub := W.sub
  frame := fun i => W.frame (k + i)
  item := fun i s Q E hi st hQ => W.item (k + i) s Q E (by omega) st hQ
  done := fun s Q E st hQ => W.done s Q E (by
    have e : k + (n - k) = n := by omega
    rw [e] at st
    exact st) hQ
  self := fun i => W.self (k + i)
theorem vals_dropK : ∀ (k : Nat) {xs : List V} {us : List Value}, Vals xs us → Vals (xs.drop k) (us.drop k)
  | 0, _, _, r => r
  | k + 1, _, _, .nil => .nil
  | k + 1, _, _, .cons _ r => vals_dropK k r
theorem vals_takeK {v : V} {u : Value} (q : RelV v u) : ∀ (k : Nat) {xs : List V} {us : List Value}, Vals xs us → Vals (xs.take k ++ [v]) (us.take k ++ [u])
  | 0, _, _, _ => .cons q .nil
  | k + 1, _, _, .nil => .cons q .nil
  | k + 1, _, _, .cons z r => .cons z (vals_takeK q k r)
section
variable {prog : Program} {w : World} {A : Around} {E : Value → Shared → Prop} {s : Shared}
theorem unpack_star {t : Addr} {items : Array Value} {k : Nat} {Q : List Value → Shared → Prop} (hh : A.handled = none) (ht : IsTup s.heap t items) (hk : k ≤ items.size) (hz : items.size ≤ sizeLine)
    (hQ : ∀ (h' : Heap) (tk : Nat), (∀ b o, s.heap.get? b = some o → h'.get? b = some o) → Q (items.toList.take k ++ [.ref h'.objs.size]) { s with heap := h'.push { cls := .type "list", data := .seq (items.toList.drop k).toArray }, toks := tk }) :
    wpAny (model prog w) A (unpackItems (.ref t) (k + 1) (some k)) Q E s := by
  have hlt : t < s.heap.objs.size := by obtain ⟨o, ho, _⟩ := ht; exact Heap.lt_size ho
  have hne : t ≠ s.heap.objs.size := Nat.ne_of_lt hlt
  unfold unpackItems
  refine wpAny_bind ?_
  unfold notIterableAtAll
  refine wpAny_bind (wpAny_specialOf ht.typeIs slot_tuple_iter.lookup ?_)
  refine wpAny_pure ?_
  simp only [Bool.false_eq_true, if_false]
  refine wpAny_bind (wpAny_holding (iter_tuple ht ?_))
  refine wpAny_bind (wpAny_holding (draw_tuple hne k 0 _ _ ⟨_, Heap.get?_push_size _ rfl, rfl, rfl⟩ (ht.push _) (by omega) fun h₁ hit₁ hs₁ => ?_))
  rw [List.drop_zero, if_neg (by rw [List.length_take, Array.length_toList]; omega)]
  have ht₁ : IsTup h₁ t items := (ht.push _).extBut hs₁.extBut hne
  have hsz : s.heap.objs.size < h₁.objs.size := by
    obtain ⟨o, ho, _⟩ := hit₁
    exact Heap.lt_size ho
  refine wpAny_bind (wpAny_holding (wpAny_collect_iter (T := "tuple_iterator") (.inr (.inr (.inr rfl))) ((Walks.from (Walks.tuple (A := A.in1) (by simp [hh]) s.heap.objs.size t hne items) k hk).toS) (fun i s st => st.1.typeIs) ⟨by rw [Nat.zero_add] at hit₁; exact hit₁, ht₁⟩ (fun b hb => ?_) List.mem_cons_self (fun s' acc mv hac => ?_) (by omega)))
  · rcases List.mem_cons.mp hb with rfl | hb
    · exact hsz
    · rw [List.mem_singleton.mp hb]
      exact Nat.lt_trans hlt hsz
  have he : acc.toList = items.toList.drop k := by
    apply List.ext_getElem?
    intro j
    rw [List.getElem?_drop, Array.getElem?_toList, Array.getElem?_toList]
    by_cases hj : j < acc.size
    · have := hac.2 j acc[j] (Array.getElem?_eq_getElem hj)
      rw [Array.getElem?_eq_getElem hj]
      exact this.symm
    · rw [Array.getElem?_eq_none (by omega), Array.getElem?_eq_none (by have := hac.1; omega)]
  have e0 : k + 1 - 1 - k = 0 := by omega
  simp only [e0, Nat.not_lt_zero, if_false, Nat.sub_zero, List.take_length, List.drop_length, List.append_nil]
  obtain ⟨h', g', d', tk', os'⟩ := s'
  have eg : g' = s.gens := mv.gens
  have ed : d' = s.drawn := mv.drawn
  have eo : os' = s.os := mv.os
  subst eg ed eo
  refine wpAny_bind (wpAny_newObj_type (wpAny_pure ?_) ?_)
  · rw [he]
    exact hQ h' tk' fun b o hb => mv.heap b o (fun m => Nat.ne_of_lt (Heap.lt_size hb) (List.mem_singleton.mp m)) (hs₁.2 b (Nat.ne_of_lt (Heap.lt_size hb)) ▸ Heap.get?_push_of_some _ hb)
  · show (acc.toList.toArray).size ≤ sizeLine
    rw [he, List.size_toArray, List.length_drop, Array.length_toList]
    omega
end
def gTupS (K : PySem.W.Frag) (k : Nat) (t : TGs) : TG := fun v σ H Q => ∃ a xs, v = .ref a ∧ SqT K H a xs ∧ k ≤ xs.length ∧ xs.length ≤ 1000 ∧ ∀ q, H q = none → t (xs.take k ++ [.ref q]) σ (upd H q (.lst (xs.drop k))) Q
section
variable {X : Cx} {pos : Pos}
theorem pgs_star {e : Expr} {es : List Expr} {p : Pos} {t : TG} {u : TGs} (h1 : PG X e t) (h2 : PGs X es u)
    (hs : (assignEach (.Starred e p :: es) X.env).map (·.2) = assign e X.env :: (assignEach es X.env).map (·.2) := by rfl) : PGs X (.Starred e p :: es) (gCons t u) := by
  refine ⟨fun pins s σ H vs us Q I r h => ?_⟩
  obtain ⟨v, vr, e1, h⟩ := h
  subst e1
  cases r with
  | cons r rr =>
    rw [hs]
    refine assignInOrder_cons (thn (h1.run pins s σ H _ _ _ I r h) fun _ s1 ⟨σ1, H1, I1, q1⟩ => ?_)
    exact h2.run pins s1 σ1 H1 _ _ Q I1 rr q1
theorem pg_tupS {es : List Expr} {k : Nat} {t : TGs} {n : Nat} (K : PySem.W.Frag) (hK : X.K = K) (h : PGs X es t) (hc : X.calm = true := by rfl)
    (hn : (assignEach es X.env).length = n + 1 := by rfl) (hst : (assignEach es X.env).findIdx? (·.1) = some n := by rfl) : PG X (.Tuple es k pos) (gTupS K n t) := by
  subst hK
  refine ⟨fun pins s σ H v u Q I r hw => ?_⟩
  obtain ⟨a, xs, e1, hq, hl, hl2, hw⟩ := hw
  subst e1
  cases r
  obtain ⟨its, rv, ht, hz⟩ := I.tuple hq
  have hlen : its.toArray.size = xs.length := by rw [List.size_toArray, rv.length]
  rw [assign_Tuple]
  refine wpAny_bind (wpAny_standAt ?_)
  unfold unpack
  rw [hn, hst]
  refine wpAny_bind (wpAny_holding (unpack_star (I.ok.hd hc) ht (by omega) (by rw [hlen]; exact hz) fun h' tk hk => ?_))
  have I1 : Inv X pins σ H { s with heap := h', toks := tk } := I.kept hk
  have hf : H h'.objs.size = none := I1.hok.fresh (Nat.le_refl _)
  have I2 : Inv X pins σ (upd H h'.objs.size (.lst (xs.drop n))) { s with heap := h'.push { cls := .type "list", data := .seq (its.drop n).toArray }, toks := tk } :=
    I1.laid (t' := tk) (fun b u e => Heap.get?_push_of_some _ e) (Nat.le_refl _) ⟨by rw [List.length_drop]; omega, its.drop n, 0, vals_dropK n rv, Heap.get?_push_size _ rfl⟩
  exact h.run pins _ σ _ (xs.take n ++ [.ref h'.objs.size]) _ Q I2 (by
    rw [List.toList_toArray]
    exact vals_takeK (v := .ref h'.objs.size) rfl n rv) (hw _ hf)
end
end Ls
-- own part: U35
namespace Ls
open PySem PySem.Spec PyProof.Rows L2 LamX
/-! ### a lambda as a value: kept, and handed to a def later -/
/-- the function made of a lambda at f, its code object at c' -/
def LamO (X : Cx) (params : Arguments) (body : Expr) (scope : Scope) (f c' : Addr) : HO := .ext fun h => ∃ (pm ctv : Value), h.get? f = some (PySem.W.kla_obj "<lambda>" (X.env.qual ++ "<lambda>") params body scope (cloFrom X.env.cells scope.names []) pm c' ctv)
section
variable {X : Cx} {pins : List (Addr × Obj)} {σ : L2.St} {H : Hp} {s : Shared}
theorem lamO_ok {params : Arguments} {body : Expr} {scope : Scope} {f c' : Addr} {pm ctv : Value} {h : Heap} {H' : Hp} (e : h.get? f = some (PySem.W.kla_obj "<lambda>" (X.env.qual ++ "<lambda>") params body scope (cloFrom X.env.cells scope.names []) pm c' ctv)) :
    ObjOk X.prog X.w H' h f (LamO X params body scope f c') :=
  ⟨⟨pm, ctv, e⟩, ⟨_, e⟩, fun h1 h2 ⟨pm, ctv, e⟩ st => ⟨pm, ctv, st _ e⟩⟩
/-- made, and known from now on -/
theorem lam_known {T : List (Addr × Str)} {c P : Addr} {params : Arguments} {body : Expr} {scope : Scope} {pos : Pos} {E : Value → Shared → Prop} {Q : Value → Shared → Prop} (I : Inv X pins σ H s) (TB : TabB X.base X.mg c P) (hcode : X.env.code = .ref c)
    (hm : (P, X.env.qual ++ "<lambda>") ∈ T) (hu : ∀ p ∈ T, p.1 = P → p.2 = X.env.qual ++ "<lambda>") (hT : Tabs T H) (hdef : defaultsOf params X.env = ([], [])) (hfree : ∀ y ∈ scope.names, y.2 = .free → ∃ c, X.env.cells.lookup y.1 = some c)
    (h : ∀ (f c' : Addr) (H1 : Hp) (s' : Shared), Inv X pins σ H1 s' → ExtN H H1 → Tabs T H1 → H1 f = some (LamO X params body scope f c') → H1 c' = some (CodeO c' (X.env.qual ++ "<lambda>")) → Q (.ref f) s') :
    wpAny (model X.prog X.w) X.A (eval (.Lambda params body scope pos) X.env) Q E s := by
  obtain ⟨ps, hP, ht, ha⟩ := hT _ hm
  have bP : s.heap.BuiltinsAt X.mg P := TB.bm.keeps I.bk
  have tb : s.heap.get? P = some { cls := .none, data := .fields ps } := I.hok P _ hP
  have fin : ∀ (f c' : Addr) (pm ctv : Value) (hp : Heap) (tk : Nat) (H1 : Hp), Inv X pins σ H1 { s with heap := hp, toks := tk } → f = hp.objs.size → ExtN H H1 → Tabs T H1 → H1 c' = some (CodeO c' (X.env.qual ++ "<lambda>")) →
      Q (.ref f) { s with heap := hp.push (PySem.W.kla_obj "<lambda>" (X.env.qual ++ "<lambda>") params body scope (cloFrom X.env.cells scope.names []) pm c' ctv), toks := tk } := by
    intro f c' pm ctv hp tk H1 I1 ef eN T1 hc
    subst ef
    have hn : H1 hp.objs.size = none := I1.hok.fresh (Nat.le_refl _)
    have up : ∀ b o, H1 b = some o → upd H1 hp.objs.size (LamO X params body scope hp.objs.size c') b = some o := fun b o e => by
      rw [upd_ne (ne_of_none e hn)]
      exact e
    have I2 := I1.laid (o := LamO X params body scope hp.objs.size c') (t' := tk) (fun b u e => Heap.get?_push_of_some _ e) (Nat.le_refl _) (lamO_ok (pm := pm) (ctv := ctv) (Heap.get?_push_size _ rfl))
    exact h _ c' _ _ I2 (eN.trans (.of up)) (T1.ext up) upd_same (up _ _ hc)
  refine PySem.W.kla_eval hdef ?_
  cases hc : codeAmong pos ps.toList with
  | some cv =>
    obtain ⟨c', e, hco⟩ := ha pos cv hc
    subst e
    exact PySem.W.kla_makeFunctionHit (closure_ok hfree) I.ok.glob (I.mod.glob.keeps I.bk) hcode (TB.code.keeps I.bk) tb ht hc bP fun ctv h' tk hx _ =>
      fin _ c' _ ctv h' tk H (I.kept hx) rfl (.refl H) hT hco
  | none =>
    refine PySem.W.kla_makeFunction (closure_ok hfree) I.ok.glob (I.mod.glob.keeps I.bk) hcode (TB.code.keeps I.bk) tb ht hc TB.gP bP fun c' ctv h' tk hx hge _ hrec htb => ?_
    obtain ⟨c2, oc, vs, t, e2, hoc, hd, hv⟩ := hrec
    cases e2
    have nC : H c' = none := I.hok.fresh hge
    have nPc : P ≠ c' := ne_of_none hP nC
    have nT : ∀ b o, H b = some o → (∀ q, o ≠ .tbl q) → upd (upd H P (.tbl (ps ++ #[rawInt pos.line, rawInt pos.col, .ref c']))) c' (CodeO c' (X.env.qual ++ "<lambda>")) b = some o := fun b o e n => by
      rw [upd_ne (ne_of_none e nC), upd_ne fun z => n ps (Option.some.inj (e.symm.trans (by rw [z]; exact hP)))]
      exact e
    refine fin _ c' _ ctv h' tk _ (inv_table (t' := tk) (more := #[rawInt pos.line, rawInt pos.col, .ref c']) I hP hx htb hge ⟨oc, vs, t, hoc, hd, hv⟩) rfl nT (fun p hp => ?_) upd_same
    by_cases hb : p.1 = P
    · rw [hu p hp hb, hb]
      refine ⟨ps ++ #[rawInt pos.line, rawInt pos.col, .ref c'], by rw [upd_ne nPc, upd_same], ?_, fun p' cv' hcv => ?_⟩
      · rw [Array.toList_append]
        exact PySem.TriplesOk_snoc _ _ _ _ ht
      · rw [Array.toList_append] at hcv
        rcases among_app _ ht hcv with z | z
        · obtain ⟨c0, e1, e2⟩ := ha p' cv' z
          exact ⟨c0, e1, nT _ _ e2 codeO_ne⟩
        · exact ⟨c', z, upd_same⟩
    · obtain ⟨qs, a1, a2, a3⟩ := hT p hp
      refine ⟨qs, by rw [upd_ne (ne_of_none a1 nC), upd_ne hb]; exact a1, a2, fun p' cv' hcv => ?_⟩
      obtain ⟨c0, e1, e2⟩ := a3 p' cv' hcv
      exact ⟨c0, e1, nT _ _ e2 codeO_ne⟩
end
section
variable {X : Cx}
/-- the lambda's body does t -/
def LamOk (X : Cx) (k : Nat) (LO : Addr → Addr → HO) (t : XK → TE) : Prop := ∃ (params : Arguments) (body : Expr) (scope : Scope), LO = LamO X params body scope ∧ LamS X.env.scope scope ∧
  (∀ (q : Str) (cl : List (Str × Addr)) (pm cv ctv : Value), bindArgs (PySem.W.kla_fn "<lambda>" q params body scope cl pm cv ctv) ⟨[], []⟩ = pure []) ∧
  ∀ (A : Around) (outer : List Env) (s : Shared) (H : Hp) (E : XK) (f c' : Addr), Room k (A.deeper (lamEnv X scope s.heap.objs.size f c')) → PE (lamCx X A outer s H E scope f c') body (t E)
theorem lamOk_mk {k : Nat} {params : Arguments} {body : Expr} {scope : Scope} {t : XK → TE} (L : LamS X.env.scope scope) (b : ∀ (q : Str) (cl : List (Str × Addr)) (pm cv ctv : Value), bindArgs (PySem.W.kla_fn "<lambda>" q params body scope cl pm cv ctv) ⟨[], []⟩ = pure [])
    (p : ∀ (A : Around) (outer : List Env) (s : Shared) (H : Hp) (E : XK) (f c' : Addr), Room k (A.deeper (lamEnv X scope s.heap.objs.size f c')) → PE (lamCx X A outer s H E scope f c') body (t E)) : LamOk X k (LamO X params body scope) t := ⟨params, body, scope, rfl, L, b, p⟩
/-- a lambda's value: LO tells what stands where it lies, Pk that its body does t -/
def tLamV (T : List (Addr × Str)) (q : Str) (Pk : (Addr → Addr → HO) → (XK → TE) → Prop) (LO : Addr → Addr → HO) (t : XK → TE) : TE := fun σ H Q => Tabs T H ∧ ∀ f c' H1, ExtN H H1 → Tabs T H1 → H1 f = some (LO f c') → H1 c' = some (CodeO c' q) → Pk LO t → Q (.ref f) H1
theorem pe_lamV {T : List (Addr × Str)} {q : Str} {c P : Addr} {k : Nat} {params : Arguments} {body : Expr} {scope : Scope} {pos : Pos} {t : XK → TE} (hq : X.env.qual = q) (TB : TabB X.base X.mg c P) (hcode : X.env.code = .ref c) (hm : (P, q ++ ("<lambda>" : Str)) ∈ T) (hu : ∀ p ∈ T, p.1 = P → p.2 = q ++ ("<lambda>" : Str))
    (L : LamS X.env.scope scope) (hdef : defaultsOf params X.env = ([], [])) (b : ∀ (q : Str) (cl : List (Str × Addr)) (pm cv ctv : Value), bindArgs (PySem.W.kla_fn "<lambda>" q params body scope cl pm cv ctv) ⟨[], []⟩ = pure [])
    (bodyP : ∀ (A : Around) (outer : List Env) (s : Shared) (H : Hp) (E : XK) (f c' : Addr), Room k (A.deeper (lamEnv X scope s.heap.objs.size f c')) → PE (lamCx X A outer s H E scope f c') body (t E)) :
    PE X (.Lambda params body scope pos) (tLamV T (q ++ ("<lambda>" : Str)) (LamOk X k) (LamO X params body scope) t) := by
  subst hq
  exact ⟨fun pins s σ H Q I ⟨hT, h⟩ => lam_known I TB hcode hm hu hT hdef (L.has I.ok) fun f c' H1 s' I1 eN T1 hf hc => ⟨.ref f, H1, I1, rfl, h f c' H1 eN T1 hf hc (lamOk_mk L b bodyP)⟩⟩
/-- it is called: x() in the def that got it -/
theorem pe_actV {CXg : CXT} {Eg : XK} {Ng : List Str} {qg : Str} {sg : Scope} {g f c' : Addr} {cdg : Value} {LO : Addr → Addr → HO} {k i : Nat} {a : Str} {pn : List (Addr × Obj)} {xe : Value → Shared → Prop} {W : WX} {tb : XK → TE} {p1 p2 : Pos} {pins : List (Addr × Obj)} {σ : L2.St} {H : Hp} {s : Shared}
    (I : Inv X pins σ H s) (lo : LamOk X k LO tb)
    (tk : Takes ((cxOf CXg X.prog X.w X.K X.mg X.base Ng qg sg g cdg X.A X.stack s H Eg).tr pn xe) W) (hr : Room (k + 1) (X.A.deeper (envOfC qg sg s.heap.objs.size g cdg)))
    (hN : Ng[i]? = some a) (hv : Vis sg a) (hd : (a == ("__debug__" : Str)) = false := by decide) (hcd : (a == ("__classdict__" : Str)) = false := by decide) :
    PE ((cxOf CXg X.prog X.w X.K X.mg X.base Ng qg sg g cdg X.A X.stack s H Eg).tr pn xe) (.Call (.Name a p1) [] [] p2)
      (fun σZ HZ Q => σZ[i]? = some (some (.ref f)) ∧ (HZ f = some (LO f c') ∧ HZ c' = some (CodeO c' (X.env.qual ++ "<lambda>"))) ∧ tb (fun cls d H' => W cls d σZ H') σ HZ Q) := by
  obtain ⟨params, body, scope, rfl, L, bind0, bodyP⟩ := lo
  refine ⟨fun pZ sZ σZ HZ Q IZ ⟨z1, ⟨zf, z2⟩, z3⟩ => ?_⟩
  refine wpAny_Call_Name_kw (thn ((pe_var (pos := p1) (i := i) hN hv hd hcd).run pZ sZ σZ HZ (fun v H1 => v = .ref f ∧ H1 = HZ) IZ ⟨.ref f, z1, rfl, rfl⟩) fun u s1 ⟨v, H1, I1, r1, e1, e2⟩ => ?_)
  subst e1
  rw [e2] at I1
  obtain rfl : u = Value.ref f := r1
  obtain ⟨⟨pm, ctv, of1⟩, _, _⟩ := I1.hok f _ zf
  obtain ⟨⟨oc, vs, t, c1, c2, c3⟩, _, _⟩ := I1.hok c' _ z2
  have run : codeAny (model X.prog X.w) (X.A.deeper (envOfC qg sg s.heap.objs.size g cdg)) (.call (.ref f) ⟨[], []⟩) (CR (L2.CX X.prog X.w) (envOfC qg sg s.heap.objs.size g cdg :: X.stack) X.prog X.w HZ s1 Q (WE W σZ)) s1 := by
    refine PySem.W.kla_callFunE hr.depth of1 rfl L.co L.gen rfl ⟨c', oc, vs, t, rfl, c1, c2, c3⟩ (bind0 _ _ _ _ _ ▸ wpAny_pure (wpAny_newFunctionEnv (fun y hy => (L.own y hy).2) (fun y hy => absurd hy (by simp)) (fun h2 n2 b2 => ⟨I1.nolimit.fresh _ b2, ?_⟩) L.kind))
    have keep2 : ∀ b o, s1.heap.get? b = some o → h2.get? b = some o := fun b o e => b2.extBut b o (Nat.ne_of_lt (Heap.lt_size e)) (Heap.get?_push_of_some _ e)
    have J := lam_start2 (E := WE W σZ) (f := f) (c' := c') (tk := s1.toks + ([] : List (Str × Value)).length) I L I1.env0 hr.hd I1.base n2 keep2
    refine PySem.W.kla_codeExpr (wpAny_mono ((bodyP _ _ s1 HZ (WE W σZ) f c' (hr.deeper _)).run [] _ _ HZ Q J z3) (fun v s' hq => ?_) fun e s' hq => hq)
    obtain ⟨w', H', J', rv, q⟩ := hq
    exact ⟨w', H', J'.os, J'.bare, J'.base, J'.hok, rv, q⟩
  refine PySem.W.callWith_F0 ⟨_, _, _, _, of1⟩ (wpAny_call (codeAny_mono run fun r s' hq => ?_))
  cases r with
  | error e => exact tk e s' (XE.of_call I1 (fun _ _ _ h => h) hq)
  | ok fl =>
    cases fl with
    | ret u => exact I1.after hq
    | next => exact False.elim hq
    | brk => exact False.elim hq
    | cont => exact False.elim hq
end
/-- the def that calls what it got; Pr is what stands of it -/
def GivesP (X : Cx) (Ng : List Str) (x : Str) (sg : Scope) (g : Addr) (cdg : Value) (bg : List Stmt) (a : Str) (TT : (XK → Hp → VK → Prop) → Hp → VK → Prop) : Prop :=
  ∀ (f : Addr) (Pr : Hp → Prop) (s : Shared) (H : Hp) (Q : VK) (tl : XK → Hp → VK → Prop),
    (∀ (W : WX) (pn : List (Addr × Obj)) (xe : Value → Shared → Prop) (p1 p2 : Pos), Takes ((cxOf C8.CX0 X.prog X.w X.K X.mg X.base Ng x sg g cdg X.A X.stack s H C8.E0).tr pn xe) W →
      PE ((cxOf C8.CX0 X.prog X.w X.K X.mg X.base Ng x sg g cdg X.A X.stack s H C8.E0).tr pn xe) (.Call (.Name a p1) [] [] p2) (fun σZ HZ Q => σZ[0]? = some (some (.ref f)) ∧ Pr HZ ∧ tl (fun cls d H' => W cls d σZ H') HZ Q)) →
    Pr H → TT tl H Q →
    ∃ t, PSs (cxOf C8.CX0 X.prog X.w X.K X.mg X.base Ng x sg g cdg X.A X.stack s H C8.E0).nox bg t ∧ t { nx := fun _ H' => Q .non H', rt := Q } (L2.start Ng [.ref f]) H
/-! by what stands -/
section
variable {K : PySem.W.Frag} {L M : List (As K)} {H H' H1 : Hp} {T : List (Addr × Str)} {σ : L2.St} {Q : VK} {q : Str} {LO : Addr → Addr → HO} {f : Addr}
/-- a lambda stands at f -/
def lamA (q : Str) (LO : Addr → Addr → HO) (f : Addr) : As K := pers (fun H => ∃ (c' : Addr) (φ : Heap → Prop), LO f c' = .ext φ ∧ H f = some (.ext φ) ∧ H c' = some (CodeO c' q)) fun _ _ t ⟨c', φ, e, h1, h2⟩ => ⟨c', φ, e, t.2 _ _ h1, t.2 _ _ h2⟩
instance : NoTb (lamA (K := K) q LO f) := ⟨fun z a q => (z.1 a q).elim⟩
instance : Dup (lamA (K := K) q LO f) := ⟨fun z => z.1⟩
theorem Sep.pers {P : Hp → Prop} {h : ∀ H H', Tq K H H' → P H → P H'} (s : Sep L H) (p : P H) : Sep (pers P h :: L) H := by
  obtain ⟨W, q, f, z⟩ := s
  exact ⟨W, q, f, fun _ => False, q, fun a x => x.elim, fun a => ⟨.inr, fun x => x.elim False.elim id⟩, ⟨fun a x => x, p⟩, z⟩
theorem k_lamV {Pk : (Addr → Addr → HO) → (XK → TE) → Prop} {t : XK → TE} [NoTbs M] (h : Sep L H) (r : Rem L (tabsA T) M) (x : ∀ f c', ∃ φ, LO f c' = .ext φ) (k : ∀ f H1, Pk LO t → Sep (lamA q LO f :: tabsA T :: M) H1 → Q (.ref f) H1) : tLamV T q Pk LO t σ H Q :=
  ⟨(h.rem r).tabs, fun f c' H1 e tb h1 h2 pk => by
    obtain ⟨φ, e2⟩ := x f c'
    exact k f H1 pk (((h.rem r).tabsN e tb).pers ⟨c', φ, e2, by rw [h1, e2], h2⟩)⟩
end
end Ls
-- own part: U36
namespace Ls
open PySem PySem.Spec PyProof.Rows L2 LamX
/-! ### a comprehension whose element is told of the def's own state at its start (lambdas called within it read the def's cells) -/
section
variable {X : Cx} {pins : List (Addr × Obj)} {σ : L2.St} {H : Hp} {s : Shared}
/-- what a block's element may lean on -/
abbrev Seen (X : Cx) (pins : List (Addr × Obj)) (σ : L2.St) (H : Hp) (s : Shared) (fp : List Addr) : Prop := Inv X pins σ H s ∧ ∀ b ∈ fp, FpOk X pins H b
/-- from within the block the def's own state is seen -/
theorem Seen.back {fp : List Addr} {scope : Scope} {ce : Env} {pb : List (Addr × Obj)} {σb : L2.St} {Hb : Hp} {sb : Shared} (g : Seen X pins σ H s fp) (I : Inv (X.blk s H scope ce fp) pb σb Hb sb) : Inv X pins σ Hb sb :=
  g.1.call' (ch := fp) I.os I.base I.hok I.bare fun b hb => let z := (g.2 b hb).2; ⟨z.2.2.1, z.1, z.2.2.2.1, z.2.2.2.2⟩
theorem lc_seen {Q : Value → Shared → Prop} {QV : VK} {elt tg iter : Expr} {scope : Scope} {own : List (Str × Nat)} {pos pos' : Pos} {wi : TI} {g : TG} {te : TE} {use : Option (Value → Sem Unit)}
    (hc : X.calm = true) (hN : X.N.Nodup) (I : Inv X pins σ H s) (hi : PI X tg iter wi) (ok : BlkOk X.N X.env.scope scope own)
    (hg : ∀ (s : Shared) (H : Hp) (C : Addr) (cl : List (Str × Addr)) (fp : List Addr), PG (X.blk s H scope (compEnvC scope cl C X.env) fp) tg g)
    (ht : ∀ (s : Shared) (H : Hp) (C : Addr) (cl : List (Str × Addr)) (fp : List Addr), PTs (X.blk s H scope (compEnvC scope cl C X.env) fp) [] tYes)
    (he : ∀ (s : Shared) (H : Hp) (C : Addr) (cl : List (Str × Addr)) (fp : List Addr), Seen X pins σ H s fp → PE (X.blk s H scope (compEnvC scope cl C X.env) fp) elt te)
    (hs : ∀ x, foldedSetIterable iter X.env x = pure x) (h : tLc wi g tYes te (own.map (·.2)) σ H QV)
    (hR : ∀ D C s' m H', Inv X pins σ H' s' → QV (.ref D) H' → s'.heap.Ns C m → FpOk X pins H' C → compPost (model X.prog X.w) X.A X.xe use Q (.ref D) C (.ok .next) s') :
    wpAny (model X.prog X.w) X.A (comprehension (.ListComp elt [⟨tg, iter, [], 0⟩] scope pos) scope X.env pos' (newList []) false (eval iter X.env) use) Q X.xe s := by
  have hf : ∀ y ∈ scope.names, y.2 = .free → ∃ c, X.env.cells.lookup y.1 = some c := fun y hy e => (ok.free y hy e).elim (fun k => I.ok.has _ (.inl k)) (fun k => I.ok.has _ (.inr k))
  refine wpAny_comprehension_free (use := use) rfl hs (closure_ok hf) ok.kind (fun y hy e => (ok.uniq y hy).trans (congrArg some e)) (thn (hi.run pins s σ H _ I h) fun xv s1 hx => thn hx fun itv s2 h2 => ?_)
  obtain ⟨it, fp, tn, J, H2, rfl, I2, T, st2, f2, q⟩ := h2
  refine wpAny_newObj_type (newEnv_comp ?_) (by show 0 ≤ sizeLine; decide)
  -- the list that is filled
  obtain ⟨W, ⟨m0, w0⟩, turn⟩ := q s2.heap.objs.size (I2.hok.fresh (Nat.le_refl _))
  have I3 := I2.laid (o := .lst []) (t' := s2.toks) (h' := s2.heap.push { cls := .type "list", data := .seq ([] : List Value).toArray }) (fun b o e => Heap.get?_push_of_some _ e) (Nat.le_refl _) ⟨Nat.zero_le _, [], 0, .nil, Heap.get?_push_size _ rfl⟩
  have lt2 : ∀ b ∈ fp, b < s2.heap.objs.size := fun b hb => let ⟨o, e, _⟩ := T.obj _ _ st2 b hb; Heap.lt_size e
  have f3 : ∀ b ∈ fp, FpOk X pins (upd H2 s2.heap.objs.size (.lst [])) b := fun b hb => ⟨by rw [upd_ne (Nat.ne_of_lt (lt2 b hb))]; exact (f2 b hb).1, (f2 b hb).2⟩
  have lt3 : ∀ b ∈ fp, FpOk X pins (upd H2 s2.heap.objs.size (.lst [])) b ∧ b < (s2.heap.push { cls := .type "list", data := .seq ([] : List Value).toArray }).objs.size := fun b hb => ⟨f3 b hb, by rw [Heap.size_push]; exact Nat.lt_succ_of_lt (lt2 b hb)⟩
  have st3 : tn 0 (s2.heap.push { cls := .type "list", data := .seq ([] : List Value).toArray }) := T.keep _ _ _ st2 fun b _ o e => Heap.get?_push_of_some _ e
  have I4 := block_start I3 ok hN lt3
  have pg := hg { s2 with heap := s2.heap.push { cls := .type "list", data := .seq ([] : List Value).toArray } } (upd H2 s2.heap.objs.size (.lst [])) (s2.heap.push { cls := .type "list", data := .seq ([] : List Value).toArray }).objs.size (cellsFrom ((s2.heap.push { cls := .type "list", data := .seq ([] : List Value).toArray }).objs.size + 1) scope.names (cloFrom X.env.cells scope.names [])) fp
  have pt := ht { s2 with heap := s2.heap.push { cls := .type "list", data := .seq ([] : List Value).toArray } } (upd H2 s2.heap.objs.size (.lst [])) (s2.heap.push { cls := .type "list", data := .seq ([] : List Value).toArray }).objs.size (cellsFrom ((s2.heap.push { cls := .type "list", data := .seq ([] : List Value).toArray }).objs.size + 1) scope.names (cloFrom X.env.cells scope.names [])) fp
  have pe := he { s2 with heap := s2.heap.push { cls := .type "list", data := .seq ([] : List Value).toArray } } (upd H2 s2.heap.objs.size (.lst [])) (s2.heap.push { cls := .type "list", data := .seq ([] : List Value).toArray }).objs.size (cellsFrom ((s2.heap.push { cls := .type "list", data := .seq ([] : List Value).toArray }).objs.size + 1) scope.names (cloFrom X.env.cells scope.names [])) fp ⟨I3, f3⟩
  have see : Seen X pins σ (upd H2 s2.heap.objs.size (.lst [])) { s2 with heap := s2.heap.push { cls := .type "list", data := .seq ([] : List Value).toArray } } fp := ⟨I3, f3⟩
  show codeAny _ _ (.compStart (.ListComp elt [⟨tg, iter, [], 0⟩] scope pos) 0 (.ref it) (.ref s2.heap.objs.size) (compEnvC scope (cellsFrom ((s2.heap.push { cls := .type "list", data := .seq ([] : List Value).toArray }).objs.size + 1) scope.names (cloFrom X.env.cells scope.names [])) (s2.heap.push { cls := .type "list", data := .seq ([] : List Value).toArray }).objs.size X.env))
    (compPost (model X.prog X.w) X.A X.xe use Q (.ref s2.heap.objs.size) (s2.heap.push { cls := .type "list", data := .seq ([] : List Value).toArray }).objs.size) { s2 with heap := pushCells ((s2.heap.push { cls := .type "list", data := .seq ([] : List Value).toArray }).push { cls := .type "dict", data := .dict #[] }) scope.names }
  generalize hs3 : ({ s2 with heap := s2.heap.push { cls := .type "list", data := .seq ([] : List Value).toArray } } : Shared) = s3 at I3 I4 pg pt pe see ⊢
  have e3 : s2.heap.push { cls := .type "list", data := .seq ([] : List Value).toArray } = s3.heap := by rw [← hs3]
  rw [e3] at st3 pg pt pe ⊢
  generalize s2.heap.objs.size = D at *
  generalize hH3 : upd H2 D (.lst []) = H3 at *
  have es : ({ s3 with heap := pushCells (s3.heap.push { cls := .type "dict", data := .dict #[] }) scope.names } : Shared) = { s2 with heap := pushCells (s3.heap.push { cls := .type "dict", data := .dict #[] }) scope.names } := by rw [← hs3]
  rw [es] at I4
  have st4 : tn 0 ({ s2 with heap := pushCells (s3.heap.push { cls := .type "dict", data := .dict #[] }) scope.names } : Shared).heap := T.keep _ _ _ st3 fun b _ o e => pushCells_keeps _ _ _ _ (Heap.get?_push_of_some _ e)
  generalize hce : compEnvC scope (cellsFrom (s3.heap.objs.size + 1) scope.names (cloFrom X.env.cells scope.names [])) s3.heap.objs.size X.env = ce at I4 pg pt pe ⊢
  have cL : ce.locals = s3.heap.objs.size := by rw [← hce]; rfl
  generalize ({ s2 with heap := pushCells (s3.heap.push { cls := .type "dict", data := .dict #[] }) scope.names } : Shared) = s4 at I4 st4 ⊢
  clear hs3 e3 es
  -- the iterator's objects, seen from the block
  have fpB : ∀ {σ' : L2.St} {H' : Hp} {s' : Shared}, Inv (X.blk s3 H3 scope ce fp) [] σ' H' s' → (∀ b ∈ fp, H' b = none) → ∀ b ∈ fp, FpOk (X.blk s3 H3 scope ce fp) [] H' b := fun I' hn b hb =>
    ⟨hn b hb, (I'.ok.exf b hb).1, I'.ok.exfs b hb, .inl hb, (I'.ok.exf b hb).2, fun p hp => nomatch (show p ∈ ([] : List (Addr × Obj)) from hp)⟩
  have loop : codeAny (model X.prog X.w) X.A (.compLoop (.ListComp elt [⟨tg, iter, [], 0⟩] scope pos) 0 (.ref it) (.ref D) ce) (compPost (model X.prog X.w) X.A X.xe use Q (.ref D) s3.heap.objs.size) s4 := by
    refine compLoop_any (fun n s' => ∃ i H', Inv (X.blk s3 H3 scope ce fp) [] (wipe σ (own.map (·.2))) H' s' ∧ tn i s'.heap ∧ (∀ b ∈ fp, H' b = none) ∧ W i n H') ?_ m0 ⟨0, H3, I4, st4, fun b hb => (see.2 b hb).1, w0⟩
    rintro n s5 ⟨i, H5, I5, st5, n5, w5⟩
    rcases turn i n H5 w5 with ⟨no, qq⟩ | ⟨go, Nx, less, step⟩
    · -- nothing is left
      refine thnF (T.done (X.blk s3 H3 scope ce fp) rfl rfl rfl hc i [] s5 _ H5 (fun _ _ => False) I5 (fpB I5 n5) st5 no) fun r s6 ⟨hr, I6⟩ => ?_
      subst hr
      have nC : H5 s3.heap.objs.size = none := by rw [← cL]; exact I6.free
      obtain ⟨m, hn, _⟩ := I6.loc
      have hn : s6.heap.Ns ce.locals m := hn
      rw [cL] at hn
      exact hR D s3.heap.objs.size s6 m H5 (see.back I6) qq hn (see.1.fpOk (Nat.le_refl _) nC)
    · refine thnF (T.item (X.blk s3 H3 scope ce fp) rfl rfl rfl hc i [] s5 _ H5 (fun _ _ => False) I5 (fpB I5 n5) st5 go) fun r s6 ⟨u, hr, h6⟩ => ?_
      subst hr
      refine thnF h6 fun _ s7 ⟨x, H7, I7, r7, y7, st7, n7⟩ => ?_
      refine thnF (pg.run _ s7 _ H7 x u _ (I7.pinned (fpB I7 n7) (T.obj _ _ st7)) r7 (step x H7 y7)) fun _ s8 ⟨σ8, H8, I8, hw8, q8⟩ => ?_
      refine thnF (pt.run _ s8 σ8 H8 _ I8 q8) fun b s9 ⟨H9, I9, q9⟩ => ?_
      have fin : ∀ {s' : Shared} {H' : Hp}, Inv (X.blk s3 H3 scope ce fp) ([] ++ pinsAt fp s7.heap) σ8 H' s' → Nx H' → ∃ m, m < n ∧ ∃ i H', Inv (X.blk s3 H3 scope ce fp) [] (wipe σ (own.map (·.2))) H' s' ∧ tn i s'.heap ∧ (∀ b ∈ fp, H' b = none) ∧ W i m H' := fun {s' H'} I' nx => by
        obtain ⟨m', lt, w'⟩ := less H' nx
        have held : ∀ b ∈ fp, ∀ o, s7.heap.get? b = some o → s'.heap.get? b = some o ∧ H' b = none := fun b hb o e =>
          let z := I'.pin (b, o) (List.mem_append_right _ (List.mem_append_right _ (mem_pinsAt hb e)))
          ⟨z.1, z.2.1⟩
        refine ⟨m', lt, i + 1, H', (I'.unpinned (pins := [])).weak (by rw [← hw8, wipe_length]) (fun j v e => ?_), T.keep _ _ _ st7 fun b hb o e => (held b hb o e).1, fun b hb => ?_, w'⟩
        · rw [← hw8] at e
          exact (wipe_some e).1
        · obtain ⟨o, e, _⟩ := T.obj _ _ st7 b hb
          exact (held b hb o e).2
      cases b with
      | false =>
        rw [if_neg Bool.false_ne_true] at q9 ⊢
        exact fin I9 q9
      | true =>
        rw [if_pos rfl] at q9 ⊢
        exact thnF (pe.run _ s9 σ8 H9 _ I9 q9) fun z s10 ⟨yv, H10, I10, r10, acc, hD10, hz10, nx⟩ => app_ok (X := X.blk s3 H3 scope ce fp) I10 hD10 hz10 r10 fun s11 I11 => fin I11 nx
  exact codeAny_compStart_list loop (T.self X.A 0 _ _ _ st4 loop)
/-- [elt for tg in iter], the element told of the slots at the start -/
def tLcO (wi : TI) (g : TG) (te : L2.St → TE) (vs : List Nat) : TE := fun σ H Q => tLc wi g tYes (te σ) vs σ H Q
theorem pe_lcO {elt tg iter : Expr} {scope : Scope} {own : List (Str × Nat)} {pos : Pos} {wi : TI} {g : TG} {te : L2.St → TE} (hc : X.calm = true) (hN : X.N.Nodup) (hi : PI X tg iter wi) (ok : BlkOk X.N X.env.scope scope own)
    (hg : ∀ (s : Shared) (H : Hp) (C : Addr) (cl : List (Str × Addr)) (fp : List Addr), PG (X.blk s H scope (compEnvC scope cl C X.env) fp) tg g)
    (ht : ∀ (s : Shared) (H : Hp) (C : Addr) (cl : List (Str × Addr)) (fp : List Addr), PTs (X.blk s H scope (compEnvC scope cl C X.env) fp) [] tYes)
    (he : ∀ (pins : List (Addr × Obj)) (σ : L2.St) (s : Shared) (H : Hp) (C : Addr) (cl : List (Str × Addr)) (fp : List Addr), Seen X pins σ H s fp → PE (X.blk s H scope (compEnvC scope cl C X.env) fp) elt (te σ))
    (hs : ∀ x, foldedSetIterable iter X.env x = pure x := by intro _; rfl) : PE X (.ListComp elt [⟨tg, iter, [], 0⟩] scope pos) (tLcO wi g te (own.map (·.2))) := by
  refine ⟨fun pins s σ H Q I h => ?_⟩
  rw [eval_ListComp]
  refine lc_seen hc hN I hi ok hg ht (fun s H C cl fp g => he pins σ s H C cl fp g) hs h fun D C s' m H' I' q hn f => ⟨m, hn, fun h'' sb => ?_⟩
  obtain ⟨f0, f1, f2, f3, f4, f5⟩ := f
  exact ⟨.ref D, H', I'.turned (t' := s'.toks) (fun b o hb e => (sb.2 b hb).trans e) f0 f1 f3 f4 f5, rfl, q⟩
/-- a lambda that was kept is handed on, within the block; σ: the def's slots at its start -/
def tAskB (q : Str) (TT : (XK → Hp → VK → Prop) → Hp → VK → Prop) (i : Nat) (Pk : (Addr → Addr → HO) → (XK → TE) → Prop) (σ : L2.St) : TE := fun σb H Q => ∃ (f c' : Addr) (LO : Addr → Addr → HO) (t : XK → TE), Pk LO t ∧ σb[i]? = some (some (.ref f)) ∧ H f = some (LO f c') ∧ H c' = some (CodeO c' q) ∧ TT (fun E H' Q' => t E σ H' Q') H Q
theorem pe_lamBlk {TT : (XK → Hp → VK → Prop) → Hp → VK → Prop} {x a v q : Str} {g : Addr} {k i : Nat} {pg : Arguments} {bg : List Stmt} {sg : Scope} {dV kV doc pm cdv ct oc : Value} {an od : Option Addr} {osl : Array (Option Value)} {Ng : List Str} {fp : List Addr} {scope : Scope} {ce : Env} {p p3 pos : Pos}
    (see : Seen X pins σ H s fp) (hq : X.env.qual = q) (hg : Gl (X.blk s H scope ce fp) x) (hm : X.mg x = some (.ref g)) (hk : PySem.W.keepIn X.K (.ref g) = true)
    (lk : X.K.lookup g = some ⟨oc, od, .func (PySem.W.fnOf x x pg bg sg dV kV doc pm an cdv ct), osl⟩) (hcg : PySem.W.codeIn X.K cdv x = true) (hb : L2.Binds X.K (PySem.W.fnOf x x pg bg sg dV kV doc pm an cdv ct) [a] []) (Sg : FnScope Ng [a] sg) (hNg : Ng[0]? = some a) (hva : Vis sg a)
    (give : GivesP X Ng x sg g cdv bg a TT) (hr : Room (k + 2) X.A) (hN : X.N[i]? = some v) (hv : Vis ce.scope v)
    (hdb : (x == ("__debug__" : Str)) = false := by decide) (hd : (a == ("__debug__" : Str)) = false := by decide) (hcd : (a == ("__classdict__" : Str)) = false := by decide)
    (hd2 : (v == ("__debug__" : Str)) = false := by decide) (hcd2 : (v == ("__classdict__" : Str)) = false := by decide) :
    PE (X.blk s H scope ce fp) (.Call (.Name x p) [.Name v p3] [] pos) (tAskB (q ++ ("<lambda>" : Str)) TT i (LamOk X k) σ) := by
  subst hq
  refine ⟨fun pins' s' σ' H' Q I ⟨f, c', LO, t, lo, hf, hL, hc, h⟩ => wpAny_Call_Name_kw (ld_glob I hg hm ?_ hdb)⟩
  refine PySem.W.callWith_K (h₀ := X.base) I.ok.mod.kin hk ?_ (by rfl) (by rfl)
  show wpAny _ _ (spliced ((false, eval (.Name v p3) ce) :: backTo pos (starEach [] ce))) _ _ s'
  refine Calls.spliced_cons (thn ((pe_var (X := X.blk s H scope ce fp) (pos := p3) (i := i) hN hv hd2 hcd2).run pins' s' σ' H' (fun v H1 => v = .ref f ∧ H1 = H') I ⟨.ref f, hf, rfl, rfl⟩) fun u s1 ⟨v, H1, I1, r1, e1, e2⟩ => ?_)
  subst e1
  rw [e2] at I1
  obtain rfl : u = Value.ref f := r1
  have J := see.back I1
  refine Calls.spliced_nil ⟨I1.kIn, ?_⟩
  have run : codeAny (model X.prog X.w) X.A (.call (.ref g) ⟨[.ref f], []⟩) (CR C8.CX0 X.stack X.prog X.w H' s1 Q C8.E0) s1 := by
    refine run_ofS (N := Ng) (ps := [a]) (us := [.ref f]) (vs := [.ref f]) lk hcg Sg hr I1.env0 (hb s1 [.ref f] I1.kIn rfl) (.cons rfl .nil) rfl fun hr' => ?_
    obtain ⟨t', ht', hq'⟩ := give f (fun HZ => HZ f = some (LO f c') ∧ HZ c' = some (CodeO c' (X.env.qual ++ "<lambda>"))) s1 H' Q (fun E H' Q' => t E σ H' Q') (fun W pn xe p1 p2 tk => pe_actV (i := 0) J lo tk hr' hNg hva hd hcd) ⟨hL, hc⟩ h
    exact ⟨t', ht'.nox, hq'⟩
  refine wpAny_call (codeAny_mono run fun r s2 hq => ?_)
  cases r with
  | error e => exact (show False from hq).elim
  | ok fl =>
    cases fl with
    | ret u => exact I1.after hq
    | next => exact False.elim hq
    | brk => exact False.elim hq
    | cont => exact False.elim hq
end
section
variable {K : PySem.W.Frag} {L : List (As K)} {H : Hp} {σ σb : L2.St} {Q : VK} {q : Str} {LO : Addr → Addr → HO} {f : Addr}
theorem k_askB {TT : (XK → Hp → VK → Prop) → Hp → VK → Prop} {Pk : (Addr → Addr → HO) → (XK → TE) → Prop} {i : Nat} {t : XK → TE} (lo : Pk LO t) (h : Sep L H) (m : lamA q LO f ∈ L) (hi : σb[i]? = some (some (.ref f)))
    (k : TT (fun E H' Q' => t E σ H' Q') H Q) : tAskB q TT i Pk σ σb H Q := by
  obtain ⟨W, s, ⟨_, c', φ, e, h1, h2⟩, _⟩ := h.the m
  exact ⟨f, c', LO, t, lo, hi, by rw [e]; exact h1, h2, k⟩
end
end Ls
-- own part: S16
namespace LNe
open PySem PySem.W
/-! ### x != y of an own class that has __eq__ and no __ne__ -/
section
variable {prog : Program} {w : World} {A : Around} {E : Value → Shared → Prop} {s : Shared} {K : Frag} {x y C f : Addr} {ox : Obj} {od : Option Obj} {name : Str} {B : String} {id : String}
theorem ifBound_slot {M : Model} {args : List Value} {Q : Option Value → Shared → Prop} (X : K.In s.heap) (I : InstAt s.heap x ox C od) (hs : findIn K (.ref C) name = some (some (.builtin id))) (S : Slot B name id)
    (h : wpAny M A (call (.builtin id) (.ref x :: args)) (fun v => Q (some v)) E s) : wpAny M A (callSpecialIfBound? (.ref x) name args) Q E s := by
  simp only [callSpecialIfBound?, bindSpecialIfBound?]
  refine wpAny_holding (wpAny_bind (wpAny_bind (wpAny_bind (I.type.here ((looks_findIn X hs).here ?_)))))
  simp only [S.bind]
  refine wpAny_bind (wpAny_askSetting (wpAny_ite ?_))
  have fin : wpAny M A (call (.builtin id) ([.ref x] ++ args) >>= fun v => pure (some v)) Q E s := wpAny_bind (wpAny_mono h (fun v s' h' => wpAny_pure h') fun _ _ h' => h')
  split
  · exact wpAny_bind (wpAny_pure (wpAny_pure fin))
  · exact wpAny_tryCatch (wpAny_bind (wpAny_pure (wpAny_pure fin)))
theorem objNe_K (X : K.In s.heap) (I : InstAt s.heap x ox C od) (hs : findIn K (.ref C) "__eq__" = some (some (.ref f))) (hf : isFn K (.ref f) = true) (hu : A.units < cLine) {Q : Fin → Shared → Prop}
    (hcall : wpAny (model prog w) A (call (.ref f) [.ref x, .ref y]) (fun v s' => ∃ b, v = .bool b ∧ Q (.done (.ret (.bool (!b)))) s') E s) :
    wpAny (model prog w) A (Builtin.«object.__ne__» ⟨[.ref x, .ref y], []⟩) Q E s := by
  unfold Builtin.«object.__ne__»
  obtain ⟨h, g, d, t, os⟩ := s
  repeat (first
    | with_reducible refine wpAny_cRoomFor hu ?_
    | (refine wpAny_bind (m := callSpecialIfBound? (.ref x) (Str.ofString "__eq__") [.ref y])
        (ifBound_K X I hs hf (wpAny_mono hcall (fun r s' hr => by
          obtain ⟨b, rfl, hq⟩ := hr
          repeat (first | exact hq | exact wpAny_pure hq | exact wpAny_truthy_bool hq | (refine wpAny_bind (m := truthy (.bool _)) (wpAny_truthy_bool ?_)) | wp_step)) fun _ _ e => e)))
    | wp_step)
theorem ne_K {L : Addr} {h₀ : Heap} {m : Str → Option Value} {tb : Value} {Q : Value → Shared → Prop} (hu : A.units + 2 < cLine) (F : Fr h₀ L s.heap m) (X₀ : K.In h₀) (I : InstAt s.heap x ox C od) (hb : Looks (model prog w) s.heap (typeOf (.ref y)) tb) (hn : notFirst K C tb = true)
    (hne : neB K C = true) (hs : findIn K (.ref C) "__eq__" = some (some (.ref f))) (hf : isFn K (.ref f) = true)
    (h : wpAny (model prog w) A.in1 (call (.ref f) [.ref x, .ref y]) (fun v s' => ∃ b, v = .bool b ∧ Q (.bool (!b)) s') E s) : wpAny (model prog w) A (richCompare .NotEq (.ref x) (.ref y)) Q E s := by
  have X := X₀.keeps F.keep
  obtain ⟨n1, n2⟩ := Bool.and_eq_true_iff.mp hne
  have one : wpAny (model prog w) A (tryCompare (.ref x) "__ne__" (.ref y)) (fun r s' => ∃ v, r = some v ∧ Q v s') E s := by
    unfold tryCompare
    refine wpAny_bind (ifBound_slot X I (beq_iff_eq.mp n1) PySem.F.cmp_object.ne (wpAny_call (codeAny_call_builtin PySem.F.cmp_object.ne.plain PySem.F.cmpEntry_ne
      (check_slot PySem.F.cmpKind_ne PySem.F.cmpSplit_ne (I.type.andThen (looks_subIn X (beq_iff_eq.mp n2))) (PySem.F.cmpArgs_ne _ _)
        (objNe_K (A := A.in1) X I hs hf (Nat.lt_of_succ_lt hu : A.units + 1 < cLine) (wpAny_mono h (fun v s' hv => ?_) fun _ _ e => e))))))
    obtain ⟨b, rfl, hq⟩ := hv
    first | exact ⟨b, rfl, wpAny_pure ⟨_, rfl, hq⟩⟩ | exact ⟨b, rfl, wpAny_pure (wpAny_pure ⟨_, rfl, hq⟩)⟩
  unfold richCompare
  simp only [oneThing_ref]
  refine wpAny_holding (wpAny_bind (wpAny_cRoomFor (by omega) ?_))
  refine wpAny_bind (I.type.here (wpAny_bind (hb.here ?_)))
  split
  · rename_i q
    have e : subIn K tb (.ref C) = some false := by
      rcases Bool.or_eq_true_iff.mp hn with e | e
      · rw [beq_iff_eq.mp e] at q; simp at q
      · exact beq_iff_eq.mp e
    refine wpAny_bind ((looks_subIn X e).here ?_)
    simp only [Bool.false_eq_true, if_false]
    refine wpAny_bind (wpAny_mono one (fun r s' z => ?_) fun _ _ e => e)
    obtain ⟨v, rfl, hq⟩ := z
    exact wpAny_pure hq
  · refine wpAny_bind (wpAny_pure ?_)
    simp only [Bool.false_eq_true, if_false]
    refine wpAny_bind (wpAny_mono one (fun r s' z => ?_) fun _ _ e => e)
    obtain ⟨v, rfl, hq⟩ := z
    exact wpAny_pure hq
end
end LNe
namespace Ls
open PySem PySem.Spec PyProof.Rows L2
section
variable {X : Cx} {CX : CXT} {n : Nat} {C f : Addr} {fd : FuncData} {ps : List Str} {sp : Sp} {E : XK} {K : PySem.W.Frag}
def rEqC (C : Addr) (sp : Sp) (E : XK) : R2 := fun x y H Q => ∃ a b dx dy fs gs, x = .ref a ∧ y = .ref b ∧ H a = some (.ins C dx fs) ∧ H b = some (.ins C dy gs) ∧ sp [.ref a, .ref b] H (fun v H' => ∃ z : Bool, v = .bl z ∧ Q (.bl z) H') E
def rNeC (C : Addr) (sp : Sp) (E : XK) : R2 := fun x y H Q => ∃ a b dx dy fs gs, x = .ref a ∧ y = .ref b ∧ H a = some (.ins C dx fs) ∧ H b = some (.ins C dy gs) ∧ sp [.ref a, .ref b] H (fun v H' => ∃ z : Bool, v = .bl z ∧ Q (.bl (!z)) H') E
theorem op_eqC (hm : Meth X.K C "__eq__" f) (F : FnOk X.prog X.w X.K X.mg X.base CX n f fd ps sp) (hr : Room n X.A) (hb : L2.Binds X.K fd ps []) (hx : Passes CX X E) : OpR X (compareOp .Eq) (rEqC C sp E) := by
  intro pins s σ H x y v u Q I rx ry h
  obtain ⟨a, b, dx, dy, fs, gs, rfl, rfl, ha, hb', hsp⟩ := h
  cases rx
  cases ry
  obtain ⟨mA, J, _⟩ := ins_get I.hok ha
  obtain ⟨mB, J', _⟩ := ins_get I.hok hb'
  obtain ⟨od, J, _⟩ := J.look
  obtain ⟨od', J', _⟩ := J'.look
  obtain ⟨m, hF⟩ := I.fr
  show wpAny (model X.prog X.w) X.A (richCompare .Eq (.ref a) (.ref b)) (EP X pins σ Q) X.xe s
  refine PySem.W.cmp_K (op := .Eq) (tb := .ref C) hr.units0 hF I.ok.mod.kin J J'.type (by simp [PySem.W.notFirst]) hm.at_ hm.fn ?_
  have e0 : Env0 X.prog X.w X.K X.mg X.base X.A X.stack s H := I.env0
  have hl := F.len _ _ _ _ hsp
  have r2 : Vals [V.ref a, V.ref b] [Value.ref a, Value.ref b] := .cons rfl (.cons rfl .nil)
  refine wpAny_call (codeAny_mono (F.run X.A X.stack s H ⟨[.ref a, .ref b], []⟩ [.ref a, .ref b] [.ref a, .ref b] _ E hr e0 (by
    have := hb s [.ref a, .ref b] I.kIn (by simpa using hl)
    simpa using this) r2 hsp) fun r s' hq => ?_)
  cases r with
  | error e => exact hx pins σ H s e s' I hq
  | ok fl =>
    cases fl with
    | ret w =>
      obtain ⟨z, H', I', rz, ⟨c, ez, q⟩⟩ := I.after hq
      subst ez
      cases rz
      exact ⟨.bl c, H', I', rfl, q⟩
    | next => exact False.elim hq
    | brk => exact False.elim hq
    | cont => exact False.elim hq
theorem op_neC (hne : LNe.neB X.K C = true) (hm : Meth X.K C "__eq__" f) (F : FnOk X.prog X.w X.K X.mg X.base CX n f fd ps sp) (hr : Room (n + 1) X.A) (hb : L2.Binds X.K fd ps []) (hx : Passes CX X E) : OpR X (compareOp .NotEq) (rNeC C sp E) := by
  intro pins s σ H x y v u Q I rx ry h
  obtain ⟨a, b, dx, dy, fs, gs, rfl, rfl, ha, hb', hsp⟩ := h
  cases rx
  cases ry
  obtain ⟨mA, J, _⟩ := ins_get I.hok ha
  obtain ⟨mB, J', _⟩ := ins_get I.hok hb'
  obtain ⟨od, J, _⟩ := J.look
  obtain ⟨od', J', _⟩ := J'.look
  obtain ⟨m, hF⟩ := I.fr
  have sb : L2.Sub X n X.A.in1 := ⟨hr.in1, rfl⟩
  have hun := huOf hr.in1
  have hu2 := huOf hr
  show wpAny (model X.prog X.w) X.A (richCompare .NotEq (.ref a) (.ref b)) (EP X pins σ Q) X.xe s
  refine LNe.ne_K (tb := .ref C) (by omega) hF I.ok.mod.kin J J'.type (by simp [PySem.W.notFirst]) hne hm.at_ hm.fn ?_
  have e0 : Env0 X.prog X.w X.K X.mg X.base X.A.in1 X.stack s H := by
    have e := I.env0
    exact ⟨by rw [sb.fr]; exact e.frames, e.mod, e.bs, e.bsz, e.funs, e.frf, e.hok, e.bare⟩
  have hl := F.len _ _ _ _ hsp
  have r2 : Vals [V.ref a, V.ref b] [Value.ref a, Value.ref b] := .cons rfl (.cons rfl .nil)
  refine wpAny_call (codeAny_mono (F.run X.A.in1 X.stack s H ⟨[.ref a, .ref b], []⟩ [.ref a, .ref b] [.ref a, .ref b] _ E sb.room e0 (by
    have := hb s [.ref a, .ref b] I.kIn (by simpa using hl)
    simpa using this) r2 hsp) fun r s' hq => ?_)
  cases r with
  | error e => exact hx pins σ H s e s' I hq
  | ok fl =>
    cases fl with
    | ret w =>
      obtain ⟨z, H', I', rz, ⟨c, ez, q⟩⟩ := I.after hq
      subst ez
      cases rz
      exact ⟨c, rfl, .bl (!c), H', I', rfl, q⟩
    | next => exact False.elim hq
    | brk => exact False.elim hq
    | cont => exact False.elim hq
end
end Ls
-- own part: S17
namespace Ls
open PySem PySem.Spec PyProof.Rows L2
/-! ### raise C(y): an exception with a field f beside its word -/
def spInitA (K : PySem.W.Frag) (f w : Str) : Sp := fun vs H Q _ => ∃ (a C : Addr) (y : V), vs = [.ref a, y] ∧ OexC K C ∧ PySem.W.findIn K (.ref C) "word" = some none ∧ PySem.W.findIn K (.ref C) f = some none ∧ H a = some (exo a C none) ∧ ∀ dx, H dx = none → dx ≠ a → Q .non (upd (upd (upd H dx (exd dx [("word", .str w)])) a (exo a C (some dx))) dx (exd dx [(f, y), ("word", .str w)]))
section
variable {K : PySem.W.Frag} {L M : List (As K)} {H : Hp} {C : Addr} {f w : Str} {y : V} {E : XK}
theorem k_raiseA {Q : XK} (T : OexC K C) (no : PySem.W.findIn K (.ref C) "word" = some none) (nf : PySem.W.findIn K (.ref C) f = some none) (q : ∀ d H', H d = none → Same H H' → H' d = some (.xd [(f, y), ("word", .str w)]) → Q (.ref C) (some d) H') :
    [y].length ≤ 1000 ∧ ∀ a, H a = none → spInitA K f w (.ref a :: ([y] ++ [])) (upd H a (exo a C none)) (fun v H2 => v = .non ∧ ∃ (d : Addr) (fs : List (Str × V)), H2 a = some (exo a C (some d)) ∧ H2 d = some (exd d fs) ∧ H d = none ∧ Q (.ref C) (some d) (upd (del H2 a) d (.xd fs))) (fun _ _ _ => False) := by
  refine ⟨by show 1 ≤ 1000; decide, fun a ha => ⟨a, C, y, rfl, T, no, nf, upd_same, fun dx hdx na => ⟨rfl, dx, [(f, y), ("word", .str w)], ?_, upd_same, ?_, ?_⟩⟩⟩
  · rw [upd_ne (Ne.symm na)]
    exact upd_same
  · rw [upd_ne na] at hdx
    exact hdx
  · have hd : H dx = none := by
      rw [upd_ne na] at hdx
      exact hdx
    refine q dx _ hd (fun b o hb => ?_) upd_same
    have b1 : b ≠ dx := ne_of_none hb hd
    have b2 : b ≠ a := ne_of_none hb ha
    rw [upd_ne b1, del_ne b2, upd_ne b1, upd_ne b2, upd_ne b1, upd_ne b2]
    exact hb
theorem k_mk {sp : Sp} {ta : TA} {σ : L2.St} {Q : XK} (h : ta σ H fun vs H1 => vs.length ≤ 1000 ∧ ∀ a, H1 a = none → sp (.ref a :: (vs ++ [])) (upd H1 a (exo a C none)) (fun v H2 => v = .non ∧ ∃ (d : Addr) (fs : List (Str × V)), H2 a = some (exo a C (some d)) ∧ H2 d = some (exd d fs) ∧ H1 d = none ∧ Q (.ref C) (some d) (upd (del H2 a) d (.xd fs))) (fun _ _ _ => False)) : tMkO C sp [] ta σ H Q := h
/-- what is let out of a raise C(y) -/
def LetsA (L : List (As K)) (C : Addr) (f w : Str) (y : V) (E : XK) : Prop := ∀ d H', Ls.Sep (ob d (.xd [(f, y), ("word", .str w)]) :: L) H' → E (.ref C) (some d) H'
theorem LetsA.sub (q : LetsA M C f w y E) (s : Sub L M) : LetsA L C f w y E := fun d H' h => q d H' (Sub.ok (Sub.cons s) h)
theorem raise_letsA {i : Int} (T : OexC K C) (no : PySem.W.findIn K (.ref C) "word" = some none) (nf : PySem.W.findIn K (.ref C) f = some none) (h : Sep L H) (q : LetsA L C f w (.int i) E) :
    [V.int i].length ≤ 1000 ∧ ∀ a, H a = none → spInitA K f w (.ref a :: ([V.int i] ++ [])) (upd H a (exo a C none)) (fun v H2 => v = .non ∧ ∃ (d : Addr) (fs : List (Str × V)), H2 a = some (exo a C (some d)) ∧ H2 d = some (exd d fs) ∧ H d = none ∧ E (.ref C) (some d) (upd (del H2 a) d (.xd fs))) (fun _ _ _ => False) :=
  k_raiseA T no nf fun d H2 hn s hd => q d H2 (h.newAt hn s hd rfl)
end
section
variable {K : PySem.W.Frag} {L : List (As K)} {a c : Addr}
/-- enumerate(zip(a, b)) of two tuples of any lengths -/
theorem wk_ezM {α β : Type} {zs : List α} {us : List β} {f : α → PyData} {g : β → PyData} (m1 : im (.ref a) (.tuple (zs.map f)) ∈ L) (m2 : im (.ref c) (.tuple (us.map g)) ∈ L) :
    Wk (Itez false K a c) L (min zs.length us.length) fun i q => ∀ z u T, zs[i]? = some z → us[i]? = some u → q (.ref T) [im (.ref T) (.tuple [.int (i : Nat), .tuple [f z, g u]])] where
  go := fun i H hi h => by
    obtain ⟨a', xs, e, h1, k1⟩ := im_tup (h.imm m1)
    cases e
    obtain ⟨c', ys, e, h2, k2⟩ := im_tup (h.imm m2)
    cases e
    have b1 : i < xs.length := by rw [k1.length, List.length_map]; omega
    have b2 : i < ys.length := by rw [k2.length, List.length_map]; omega
    exact ⟨xs, ys, xs[i], ys[i], h1, h2, List.getElem?_eq_getElem b1, List.getElem?_eq_getElem b2⟩
  yl := fun i H x H' R hi h ⟨T, U, v, w, e, nUT, hU, hT, e2, y1, y2⟩ q => by
    subst e e2
    obtain ⟨a', xs, e, h1, k1⟩ := im_tup (h.imm m1)
    cases e
    obtain ⟨c', ys, e, h2, k2⟩ := im_tup (h.imm m2)
    cases e
    obtain ⟨d, hd, hm⟩ := k1.get (y1 xs h1)
    rw [List.getElem?_map] at hd
    obtain ⟨z, hz, rfl⟩ := Option.map_eq_some_iff.mp hd
    obtain ⟨d2, hd2, hm2⟩ := k2.get (y2 ys h2)
    rw [List.getElem?_map] at hd2
    obtain ⟨u, hu, rfl⟩ := Option.map_eq_some_iff.mp hd2
    have hT2 : upd H U (.tup [v, w]) T = none := by rw [upd_ne nUT.symm]; exact hT
    have hS1 : Sep (im (.ref U) (.tuple [f z, g u]) :: L) (upd H U (.tup [v, w])) := Sep.im_iff.mpr ⟨.tup (sqt_of upd_same) (.cons (hm.mono (Tp.new hU)) (.cons (hm2.mono (Tp.new hU)) .nil)), h.same (same_new hU)⟩
    have imU := hS1.imm List.mem_cons_self
    have hS : Sep L (upd H U (.tup [v, w])) := h.same (same_new hU)
    refine q z u T hz hu _ (Sep.im_iff.mpr ⟨?_, hS.same (same_new hT2)⟩)
    exact .tup (sqt_of upd_same) (.cons (.int _) (.cons (imU.mono (Tp.new hT2)) .nil))
  st := fun H h => by
    obtain ⟨a', xs, e, h1, k1⟩ := im_tup (h.imm m1)
    cases e
    obtain ⟨c', ys, e, h2, k2⟩ := im_tup (h.imm m2)
    cases e
    refine ⟨xs, ys, h1, h2, ?_⟩
    rw [k1.length, k2.length, List.length_map, List.length_map]
    omega
end
end Ls
-- own part: S18
namespace Ls
open PySem PySem.Spec PyProof.Rows L2
section
variable {K : PySem.W.Frag} {L M : List (As K)} {H : Hp} {a : Addr} {y : V} {d e : PyData} {ds : List PyData} {Q : VK} {i : Int} {j : Nat}
def rInsU : V → List V → Hp → VK → Prop := fun x vs H Q => ∃ (l : Addr) (xs : List V) (i : Int) (y : V), x = .ref l ∧ vs = [.int i, y] ∧ H l = some (.lst xs) ∧ xs.length < sizeLine ∧ 0 ≤ i ∧ i < 2 ^ 63 ∧
    Q .non (upd H l (.lst (xs.take i.toNat ++ [y] ++ xs.drop i.toNat)))
theorem mt_insU {X : Cx} : MtR X "list.insert" rInsU := mt_insert
/-- xs.insert(i, y) -/
theorem k_insD (h : Sep L H) (r : Rep L (ld a ds) (ld a (ds.take i.toNat ++ [d] ++ ds.drop i.toNat)) M) (t : Dat L y d) (h0 : 0 ≤ i) (hi : i < 2 ^ 63) (hl : ds.length < sizeLine) (q : ∀ H', Sep M H' → Q .non H') :
    rInsU (.ref a) [.int i, y] H Q := by
  obtain ⟨xs, h1, h2⟩ := h.ldm r.mem
  exact ⟨a, xs, i, y, rfl, rfl, h1, by rw [h2.length]; exact hl, h0, hi, q _ (h.setDR r (((ImAll.take _ h2).app (.cons (t.is h) .nil)).app (ImAll.drop _ h2)))⟩
/-- xs.pop(i), what comes out left aside -/
theorem k_popAtD (h : Sep L H) (r : Rep L (ld a ds) (ld a (ds.eraseIdx j)) M) (e : ds[j]? = some d) (hb : j < 1000000) (q : ∀ v H', Sep M H' → Q v H') : rPopAt (.ref a) [.int (j : Nat)] H Q := by
  obtain ⟨xs, h1, h2⟩ := h.ldm r.mem
  obtain ⟨v, hv, _⟩ := h2.getD e
  have hi := (List.getElem?_eq_some_iff.mp hv).1
  refine ⟨a, xs, (j : Nat), j, v, rfl, rfl, h1, by omega, by omega, ?_, hv, q _ _ (h.setDR r (ImAll.eraseD h2))⟩
  have := (ixN_seq (n := xs.length) (i := (j : Int)) (j := j) ?_).1
  · exact this
  · unfold ixN
    rw [if_pos (by omega), if_pos (by omega)]
    rfl
/-- list(t) of a tuple of data -/
theorem k_listI (h : Sep L H) (m : im (.ref a) (.tuple ds) ∈ L) (q : ∀ p H', Sep (ld p ds :: L) H' → Q (.ref p) H') : rListU K [.ref a] H Q := by
  obtain ⟨a', xs, e', h1, h2⟩ := im_tup (h.imm m)
  cases e'
  refine ⟨a, xs, rfl, .inr h1, fun p hp => q p _ ?_⟩
  have z := (h.newD (p := p) (xs := []) (ds := []) hp .nil).setD (xs := xs) (es := ds) (h2.mono (Tp.new hp))
  have e : upd (upd H p (.lst [])) p (.lst xs) = upd H p (.lst xs) := by
    funext b
    by_cases hb : b = p
    · rw [hb, upd_same, upd_same]
    · rw [upd_ne hb, upd_ne hb, upd_ne hb]
  rw [e] at z
  exact z
/-! x == y, x != y of two instances of an own class -/
theorem k_eqC {C b : Addr} {fs gs : List (Str × V)} {sp : Sp} {E : XK} {dx dy : Addr} (h1 : H a = some (.ins C dx fs)) (h2 : H b = some (.ins C dy gs)) (q : sp [.ref a, .ref b] H (fun v H' => ∃ z : Bool, v = .bl z ∧ Q (.bl z) H') E) : rEqC C sp E (.ref a) (.ref b) H Q := ⟨a, b, dx, dy, fs, gs, rfl, rfl, h1, h2, q⟩
theorem k_neC {C b : Addr} {fs gs : List (Str × V)} {sp : Sp} {E : XK} {dx dy : Addr} (h1 : H a = some (.ins C dx fs)) (h2 : H b = some (.ins C dy gs)) (q : sp [.ref a, .ref b] H (fun v H' => ∃ z : Bool, v = .bl z ∧ Q (.bl (!z)) H') E) : rNeC C sp E (.ref a) (.ref b) H Q := ⟨a, b, dx, dy, fs, gs, rfl, rfl, h1, h2, q⟩
end
theorem use_sameD {K : PySem.W.Frag} {L : List (As K)} {H : Hp} {x y : V} {d : PyData} {n : Nat} {Q : VK} {E : XK} (h : Ls.Sep L H) (a : Dl L x d) (b : Dl L y d) (o : OkD n d) (q : ∀ H', Ls.Sep L H' → Q (.bl true) H') : spSame K n [x, y] H Q E := ⟨x, y, d, rfl, a.is h, b.is h, o, fun H' s => q H' (h.same s)⟩
end Ls
-- own part: S19
namespace Ls
open PySem PySem.Spec PyProof.Rows L2
section
variable {K : PySem.W.Frag} {L M : List (As K)} {H : Hp} {a l : Addr} {ds es : List PyData} {Q : VK}
/-- the sum of two tuples of data, none of them empty -/
theorem k_addII (h : Sep L H) (m : im (.ref a) (.tuple ds) ∈ L) (m2 : im (.ref l) (.tuple es) ∈ L) (hl : ds.length + es.length ≤ sizeLine) (hx : ds ≠ []) (hd : es ≠ []) (q : ∀ p H', Sep (im (.ref p) (.tuple (ds ++ es)) :: L) H' → Q (.ref p) H') : rAddU K (.ref a) (.ref l) H Q := by
  obtain ⟨a', xs, e, h1, k1⟩ := im_tup (h.imm m)
  cases e
  obtain ⟨a', ys, e, h2, k2⟩ := im_tup (h.imm m2)
  cases e
  refine k_addT h1 h2 (by rw [k1.length, k2.length]; exact hl) (fun e => ?_) (fun _ e => ?_) fun p hp => q p _ (Sep.im_iff.mpr ⟨.tup (sqt_of upd_same) ((k1.app k2).mono (Tp.new hp)), h.same (same_new hp)⟩)
  · subst e
    cases k1
    exact (hx rfl).elim
  · subst e
    cases k2
    exact (hd rfl).elim
theorem k_slStr {z : Str} {lo hi : Option Int} (hz : z.length ≤ sizeLine) (q : Q (.str (cutS z lo hi)) H) : rSlU K (.str z) lo hi H Q := .inr (.inr ⟨z, rfl, hz, q⟩)
end
end Ls
-- own part: S20
namespace Ls
open PySem PySem.Spec PyProof.Rows L2
section
variable {X : Cx} {n : Nat} {t : TGs} {e : Expr}
theorem kGLst (K : PySem.W.Frag) (hK : X.K = K) (h : PG X e (gLst X.K n t)) : PG X e (gLst K n t) := hK ▸ h
end
section
variable {K : PySem.W.Frag} {L M : List (As K)} {H : Hp} {a l : Addr} {xs : List V} {ds es : List PyData} {σ : L2.St} {Q : VK}
theorem k_glst {n : Nat} {tg : TGs} {R : L2.St → Hp → Prop} (h : Sep L H) (m : ob a (.lst xs) ∈ L) (hn : xs.length = n) (q : tg xs σ H R) : gLst K n tg (.ref a) σ H R := ⟨a, xs, rfl, sql_of (h.obm m), hn, q⟩
end
end Ls
-- own part: S21
namespace Ls
open PySem PySem.Spec PyProof.Rows L2
section
variable {K : PySem.W.Frag} {L M : List (As K)} {H : Hp} {a l : Addr} {xs : List V} {ds es : List PyData} {d : PyData} {σ : L2.St} {Q : VK} {i : Int}
/-- a list of data that never changes once made -/
def fzl (a : Addr) (ds : List PyData) : As K := persW (fun W H => ∃ xs, W a (.lst xs) ∧ ImAll K H xs ds) (fun _ _ _ t ⟨xs, h1, h2⟩ => ⟨xs, h1, h2.mono t.1⟩) fun _ _ _ e ⟨xs, h1, h2⟩ => ⟨xs, e _ _ h1, h2⟩
instance : Dup (fzl (K := K) a ds) := ⟨fun z => z.1⟩
theorem Sep.fzl (h : Sep L H) (m : Ls.fzl a ds ∈ L) : ∃ xs, H a = some (.lst xs) ∧ ImAll K H xs ds := by
  obtain ⟨W, s, ⟨_, xs, h1, h2⟩, z⟩ := h.the m
  exact ⟨xs, (z _ _ h1).1, h2⟩
theorem Sep.freezeD (h : Sep (ld a ds :: L) H) : Sep (Ls.fzl a ds :: L) H := by
  obtain ⟨W, s, f, s1, s2, d, u, ⟨e, xs, h1, hi⟩, h2⟩ := h
  refine ⟨fun b x => W b x ∨ (b = a ∧ x = .lst xs), s2, fun b x z => ?_, fun _ => False, s2, fun _ z => z.elim, fun b => ⟨.inr, fun z => z.elim False.elim id⟩, ⟨fun _ z => z, xs, .inr ⟨rfl, rfl⟩, hi⟩, h2.mo fun b x z => .inl z⟩
  rcases z with z | ⟨rfl, rfl⟩
  · exact ⟨(f b x z).1, (f b x z).2.1, fun y => (f b x z).2.2 ((u b).mpr (.inr y))⟩
  · exact ⟨h1, rfl, fun y => d b ((e b).mpr rfl) y⟩
theorem k_ixF (h : Sep L H) (m : fzl a ds ∈ L) (e : atI ds i = some d) (q : Gv (K := K) d fun v M => Sep (M ++ L) H → Q v H) : rIx K (.ref a) (.int i) H Q := by
  obtain ⟨xs, h1, h2⟩ := h.fzl m
  obtain ⟨v, hv, hd⟩ := atI_all h2 e
  exact k_ixL (sql_of h1) hv (Gv.go hd h q)
theorem k_glstF {n : Nat} {tg : TGs} {R : L2.St → Hp → Prop} (h : Sep L H) (m : fzl a ds ∈ L) (hn : ds.length = n) (q : GvAll (K := K) ds fun vs M => Sep (M ++ L) H → tg vs σ H R) : gLst K n tg (.ref a) σ H R := by
  obtain ⟨xs, h1, h2⟩ := h.fzl m
  obtain ⟨M, h3, h4⟩ := q.go h2 h
  exact ⟨a, xs, rfl, sql_of h1, h2.length.trans hn, h3 h4⟩
/-! lists of ints and Nones -/
def oD : Option Int → PyData
  | none => .none
  | some i => .int i
def oV : Option Int → V
  | none => .non
  | some i => .int i
theorem ims_oi : ∀ {os : List (Option Int)} {xs : List V}, ImAll K H xs (os.map oD) → xs = os.map oV
  | [], _, h => by cases h; rfl
  | o :: os, _, h => by
    cases h with
    | cons a r =>
      rw [ims_oi r]
      cases o with
      | none => cases im_non a; rfl
      | some i => cases im_int a; rfl
theorem flat_oi (os : List (Option Int)) : (os.map oV).all flatV = true := by
  rw [List.all_eq_true]
  intro v hv
  obtain ⟨o, _, rfl⟩ := List.mem_map.mp hv
  cases o <;> rfl
theorem eq_oi (o : Option Int) : eqV (oV o) .non = o.isNone := by cases o <;> rfl
theorem k_inN {os : List (Option Int)} (h : Sep L H) (m : ld a (os.map oD) ∈ L) (q : Q (.bl (os.any Option.isNone)) H) : rInU K .non (.ref a) H Q := by
  obtain ⟨xs, h1, h2⟩ := h.ldm m
  cases ims_oi h2
  refine .inl ⟨a, _, rfl, .inl (sql_of h1), rfl, flat_oi os, ?_⟩
  rw [if_neg (by decide)]
  have e : inV .non (os.map oV) = os.any Option.isNone := by
    unfold inV
    rw [List.any_map]
    congr 1
    funext o
    exact eq_oi o
  rw [e]
  exact q
theorem k_indexN {ns : List Int} {R : List (Option Int)} (h : Sep L H) (m : ld a ((ns.map some ++ none :: R).map oD) ∈ L) (q : Q (.int ns.length) H) : rIndex K (.ref a) [.non] H Q := by
  obtain ⟨xs, h1, h2⟩ := h.ldm m
  cases ims_oi h2
  refine ⟨a, _, .non, ns.length, .non, rfl, rfl, sql_of h1, rfl, flat_oi _, ?_, rfl, fun j z hj hz => ?_, q⟩
  · rw [List.getElem?_map, List.getElem?_append_right (by rw [List.length_map]; exact Nat.le_refl _), List.length_map, Nat.sub_self]
    rfl
  · rw [List.getElem?_map, List.getElem?_append_left (by rw [List.length_map]; exact hj), List.getElem?_map] at hz
    cases e : ns[j]? with
    | none => rw [e] at hz; cases hz
    | some n =>
      rw [e] at hz
      cases hz
      rfl
end
end Ls
-- own part: S22
namespace Ls
open PySem PySem.Spec PyProof.Rows L2
section
variable {X : Cx} {e : Expr} {te : TE}
theorem kRevL (K : PySem.W.Frag) (hK : X.K = K) (h : PE X e (tRevL X.K te)) : PE X e (tRevL K te) := hK ▸ h
end
section
variable {K : PySem.W.Frag} {L M : List (As K)} {H : Hp} {a l : Addr} {ds : List PyData} {Q : VK}
theorem ImAll.rev {H : Hp} : ∀ {xs : List V} {ds : List PyData}, ImAll K H xs ds → ImAll K H xs.reverse ds.reverse
  | _, _, .nil => .nil
  | _, _, .cons a r => by
    rw [List.reverse_cons, List.reverse_cons]
    exact (ImAll.rev r).app (.cons a .nil)
end
end Ls
-- own part: S23
namespace Ls
open PySem PySem.Spec PyProof.Rows L2
/-! ### data with lists that never change any more -/
section
variable {K : PySem.W.Frag} {A : As K} {L M : List (As K)} {H H' : Hp} {a l p : Addr} {xs vs : List V} {ds es : List PyData} {d e : PyData} {v x y : V} {σ : L2.St} {Q : VK} {i : Int} {W W' : Fz} {s : Addr → Prop}
mutual
inductive Fm (K : PySem.W.Frag) (W : Fz) (H : Hp) : V → PyData → Prop
  | im {v : V} {d : PyData} : Im K H v d → Fm K W H v d
  | tup {a : Addr} {xs : List V} {ds : List PyData} : SqT K H a xs → FmAll K W H xs ds → Fm K W H (.ref a) (.tuple ds)
  | lst {a : Addr} {xs : List V} {ds : List PyData} : W a (.lst xs) → FmAll K W H xs ds → Fm K W H (.ref a) (.list ds)
inductive FmAll (K : PySem.W.Frag) (W : Fz) (H : Hp) : List V → List PyData → Prop
  | nil : FmAll K W H [] []
  | cons {v : V} {d : PyData} {vs : List V} {ds : List PyData} : Fm K W H v d → FmAll K W H vs ds → FmAll K W H (v :: vs) (d :: ds)
end
mutual
theorem Fm.mono (t : Tp K H H') (k : ∀ a o, W a o → W' a o) : ∀ {v : V} {d : PyData}, Fm K W H v d → Fm K W' H' v d
  | _, _, .im h => .im (h.mono t)
  | _, _, .tup h1 h2 => .tup (t _ _ h1) (FmAll.mono t k h2)
  | _, _, .lst h1 h2 => .lst (k _ _ h1) (FmAll.mono t k h2)
theorem FmAll.mono (t : Tp K H H') (k : ∀ a o, W a o → W' a o) : ∀ {vs : List V} {ds : List PyData}, FmAll K W H vs ds → FmAll K W' H' vs ds
  | _, _, .nil => .nil
  | _, _, .cons h1 h2 => .cons (Fm.mono t k h1) (FmAll.mono t k h2)
end
mutual
theorem Fm.dp (f : ∀ a o, W a o → H a = some o) : ∀ {v : V} {d : PyData}, Fm K W H v d → Dp K H v d
  | _, _, .im h => h.dp
  | _, _, .tup h1 h2 => .tup h1 (FmAll.dp f h2)
  | _, _, .lst h1 h2 => .lst (sql_of (f _ _ h1)) (FmAll.dp f h2)
theorem FmAll.dp (f : ∀ a o, W a o → H a = some o) : ∀ {vs : List V} {ds : List PyData}, FmAll K W H vs ds → DpAll K H vs ds
  | _, _, .nil => .nil
  | _, _, .cons h1 h2 => .cons (Fm.dp f h1) (FmAll.dp f h2)
end
/-- data without lists -/
def imd : PyData → Bool
  | .list _ => false
  | .dict _ => false
  | .tuple ds => imds ds
  | _ => true
where imds : List PyData → Bool
  | [] => true
  | d :: ds => imd d && imds ds
mutual
theorem Fm.toIm : ∀ {v : V} {d : PyData}, Fm K W H v d → imd d = true → Im K H v d
  | _, _, .im h, _ => h
  | _, _, .tup h1 h2, e => .tup h1 (FmAll.toIm h2 (by simpa only [imd] using e))
  | _, _, .lst h1 h2, e => by simp only [imd] at e; cases e
theorem FmAll.toIm : ∀ {vs : List V} {ds : List PyData}, FmAll K W H vs ds → imd.imds ds = true → ImAll K H vs ds
  | _, _, .nil, _ => .nil
  | _, _, .cons h1 h2, e => by
    simp only [imd.imds, Bool.and_eq_true] at e
    exact .cons (Fm.toIm h1 e.1) (FmAll.toIm h2 e.2)
end
theorem imds_all : ∀ {ds : List PyData}, (∀ d ∈ ds, imd d = true) → imd.imds ds = true
  | [], _ => rfl
  | d :: ds, h => by
    simp only [imd.imds, Bool.and_eq_true]
    exact ⟨h d List.mem_cons_self, imds_all fun e he => h e (List.mem_cons_of_mem _ he)⟩
theorem FmAll.length : ∀ {vs : List V} {ds : List PyData}, FmAll K W H vs ds → vs.length = ds.length
  | _, _, .nil => rfl
  | _, _, .cons _ h => congrArg (· + 1) h.length
theorem FmAll.ofIm : ∀ {vs : List V} {ds : List PyData}, ImAll K H vs ds → FmAll K W H vs ds
  | _, _, .nil => .nil
  | _, _, .cons a b => .cons (.im a) (FmAll.ofIm b)
theorem FmAll.app : ∀ {vs ws : List V} {ds es : List PyData}, FmAll K W H vs ds → FmAll K W H ws es → FmAll K W H (vs ++ ws) (ds ++ es)
  | _, _, _, _, .nil, h => h
  | _, _, _, _, .cons a b, h => .cons a (b.app h)
theorem FmAll.get : ∀ {vs : List V} {ds : List PyData} {i : Nat} {v : V} {d : PyData}, FmAll K W H vs ds → vs[i]? = some v → ds[i]? = some d → Fm K W H v d
  | _, _, 0, _, _, .cons a _, h1, h2 => by
    cases h1
    cases h2
    exact a
  | _, _, i + 1, _, _, .cons _ b, h1, h2 => b.get (i := i) h1 h2
  | _, _, i, _, _, .nil, h1, _ => by cases i <;> cases h1
def fd (v : V) (d : PyData) : As K := persW (fun W H => Fm K W H v d) (fun _ _ _ t h => h.mono t.1 fun _ _ z => z) fun _ _ _ e h => h.mono Tp.refl e
def fds (vs : List V) (ds : List PyData) : As K := persW (fun W H => FmAll K W H vs ds) (fun _ _ _ t h => h.mono t.1 fun _ _ z => z) fun _ _ _ e h => h.mono Tp.refl e
instance : Dup (fd (K := K) v d) := ⟨fun z => z.1⟩
instance : Dup (fds (K := K) vs ds) := ⟨fun z => z.1⟩
theorem Sep.persW_intro {P : Fz → Hp → Prop} {h1 k1} (h : Sep L H) (p : ∀ (W : Fz) (s : Addr → Prop), FzOk W s H → Hld W L s H → P W H) : Sep (persW (K := K) P h1 k1 :: L) H := by
  obtain ⟨W, s, f, h⟩ := h
  exact ⟨W, s, f, fun _ => False, s, fun _ z => z.elim, fun a => ⟨.inr, fun z => z.elim False.elim id⟩, ⟨fun _ z => z, p W s f h⟩, h⟩
theorem Hld.mem : ∀ {L : List (As K)} {s : Addr → Prop}, Hld W L s H → A ∈ L → ∃ s', A.ok W s' H
  | B :: L, _, ⟨s1, s2, _, _, h1, h2⟩, m => by
    rcases List.mem_cons.mp m with rfl | m
    · exact ⟨s1, h1⟩
    · exact Hld.mem h2 m
theorem Sep.fdm (h : Sep L H) (m : Ls.fd v d ∈ L) : ∃ W, Fm K W H v d ∧ ∀ a o, W a o → H a = some o := by
  obtain ⟨W, s, ⟨_, h1⟩, f⟩ := h.the m
  exact ⟨W, h1, fun a o z => (f a o z).1⟩
theorem Sep.fdsm (h : Sep L H) (m : Ls.fds vs ds ∈ L) : ∃ W, FmAll K W H vs ds ∧ ∀ a o, W a o → H a = some o := by
  obtain ⟨W, s, ⟨_, h1⟩, f⟩ := h.the m
  exact ⟨W, h1, fun a o z => (f a o z).1⟩
theorem Sep.fdOf (h : Sep L H) (t : Dat L v d) : Sep (Ls.fd v d :: L) H := h.persW_intro fun W s f g => .im (t.is ⟨W, s, f, g⟩)
theorem Sep.fdsNil (h : Sep L H) : Sep (Ls.fds [] [] :: L) H := h.persW_intro fun _ _ _ _ => .nil
theorem Sep.fdsSnoc (h : Sep L H) (m : Ls.fds vs ds ∈ L) (n : Ls.fd v d ∈ L) : Sep (Ls.fds (vs ++ [v]) (ds ++ [d]) :: L) H := h.persW_intro fun W s f g => by
  obtain ⟨_, _, h1⟩ := g.mem m
  obtain ⟨_, _, h2⟩ := g.mem n
  exact h1.app (.cons h2 .nil)
theorem Sep.fdsCons (h : Sep L H) (m : Ls.fds vs ds ∈ L) (n : Ls.fd v d ∈ L) : Sep (Ls.fds (v :: vs) (d :: ds) :: L) H := h.persW_intro fun W s f g => by
  obtain ⟨_, _, h1⟩ := g.mem m
  obtain ⟨_, _, h2⟩ := g.mem n
  exact .cons h2 h1
theorem Sep.fdsGet {i : Nat} (h : Sep L H) (m : Ls.fds vs ds ∈ L) (hv : vs[i]? = some v) (hd : ds[i]? = some d) : Sep (Ls.fd v d :: L) H := h.persW_intro fun W s f g => by
  obtain ⟨_, _, h1⟩ := g.mem m
  exact h1.get hv hd
theorem Sep.fdsLen (h : Sep L H) (m : Ls.fds vs ds ∈ L) : vs.length = ds.length := by
  obtain ⟨W, h1, _⟩ := h.fdsm m
  exact h1.length
theorem Sep.fdTup (h : Sep L H) (m : tu a vs ∈ L) (n : Ls.fds vs ds ∈ L) : Sep (Ls.fd (.ref a) (.tuple ds) :: L) H := h.persW_intro fun W s f g => by
  obtain ⟨_, _, h1⟩ := g.mem m
  obtain ⟨_, _, h2⟩ := g.mem n
  exact .tup h1 h2
/-- a list of one's own becomes data for good -/
theorem Sep.frzO (h : Sep (ob a (.lst vs) :: L) H) (m : Ls.fds vs ds ∈ L) : Sep (Ls.fd (.ref a) (.list ds) :: L) H := by
  have h := h.freeze rfl
  have z := h.persW_intro (P := fun W H => Fm K W H (.ref a) (.list ds)) (h1 := fun _ _ _ t h => h.mono t.1 fun _ _ z => z) (k1 := fun _ _ _ e h => h.mono Tp.refl e) fun W s f g => by
    obtain ⟨_, _, h1⟩ := g.mem (A := fzn a (.lst vs)) List.mem_cons_self
    obtain ⟨_, _, h2⟩ := g.mem (A := Ls.fds vs ds) (List.mem_cons_of_mem _ m)
    exact .lst h1 h2
  exact (Sub.cons (Sub.drop Sub.refl)).ok z
theorem Sep.frzD (h : Sep (ld a ds :: L) H) : Sep (Ls.fd (.ref a) (.list ds) :: L) H := by
  obtain ⟨xs, h⟩ := Sep.ld_iff.mp h
  have h2 : Sep (Ls.fds xs ds :: ob a (.lst xs) :: ims xs ds :: L) H := h.persW_intro fun W s f g => .ofIm (Sep.imsm ⟨W, s, f, g⟩ (List.mem_cons_of_mem _ List.mem_cons_self))
  have h3 : Sep (ob a (.lst xs) :: Ls.fds xs ds :: ims xs ds :: L) H := h2.perm (.swap _ _ _)
  exact (Sub.cons (Sub.drop (Sub.drop Sub.refl))).ok (h3.frzO List.mem_cons_self)
/-- a value's data, lists too -/
inductive Df (L : List (As K)) : V → PyData → Prop
  | dat {v : V} {d : PyData} : Dat L v d → Df L v d
  | ld {a : Addr} {ds : List PyData} : ld a ds ∈ L → Df L (.ref a) (.list ds)
  | fd {v : V} {d : PyData} : fd v d ∈ L → Df L v d
  | ob {a : Addr} {vs : List V} {ds : List PyData} : Ls.ob a (.lst vs) ∈ L → fds vs ds ∈ L → Df L (.ref a) (.list ds)
theorem Df.is (h : Sep L H) (t : Df L v d) : Dp K H v d := by
  cases t with
  | dat t => exact (t.is h).dp
  | ld m => exact (Dl.ld m).is h
  | fd m =>
    obtain ⟨W, h1, f⟩ := h.fdm m
    exact h1.dp f
  | ob m n =>
    obtain ⟨W, h1, f⟩ := h.fdsm n
    exact .lst (sql_of (h.obm m)) (h1.dp f)
theorem fd_lst (h : Sep L H) (m : Ls.fd (.ref a) (.list ds) ∈ L) : ∃ xs, H a = some (.lst xs) ∧ Sep (Ls.fds xs ds :: L) H := by
  obtain ⟨W, s, f, h⟩ := h
  obtain ⟨_, _, h1⟩ := h.mem m
  cases h1 with
  | im z => cases z
  | lst h1 h2 =>
    refine ⟨_, (f _ _ h1).1, ?_⟩
    exact ⟨W, s, f, fun _ => False, s, fun _ z => z.elim, fun a => ⟨.inr, fun z => z.elim False.elim id⟩, ⟨fun _ z => z, h2⟩, h⟩
theorem k_lenF (h : Sep L H) (m : Ls.fd (.ref a) (.list ds) ∈ L) (q : Q (.int ds.length) H) : rLenU K [.ref a] H Q := by
  obtain ⟨xs, h1, h2⟩ := fd_lst h m
  have := h2.fdsLen List.mem_cons_self
  exact k_lenL (sql_of h1) (by rw [this]; exact q)
theorem atI_two {i : Int} {vs : List V} {ds : List PyData} (hl : vs.length = ds.length) (e : atI ds i = some d) : ∃ (j : Nat) (v : V), atI vs i = some v ∧ vs[j]? = some v ∧ ds[j]? = some d := by
  unfold atI at e ⊢
  rw [hl]
  cases q : ixN ds.length i with
  | none =>
    rw [q] at e
    cases e
  | some j =>
    rw [q] at e
    have hj := (List.getElem?_eq_some_iff.mp e).1
    exact ⟨j, vs[j]'(by omega), List.getElem?_eq_getElem _, List.getElem?_eq_getElem _, e⟩
theorem k_ixFd (h : Sep L H) (m : Ls.fd (.ref a) (.list ds) ∈ L) (e : atI ds i = some d) (q : ∀ v, Sep (Ls.fd v d :: L) H → Q v H) : rIx K (.ref a) (.int i) H Q := by
  obtain ⟨xs, h1, h2⟩ := fd_lst h m
  obtain ⟨j, v, e1, e2, e3⟩ := atI_two (h2.fdsLen List.mem_cons_self) e
  exact k_ixL (sql_of h1) e1 (q v ((Sub.cons (Sub.drop Sub.refl)).ok (h2.fdsGet List.mem_cons_self e2 e3)))
theorem Sep.fdIm {R : V → Prop} (h : Sep (Ls.fd v d :: L) H) (e : imd d = true) (g : Gv (K := K) d fun v M => Sep (M ++ L) H → R v) : R v := by
  obtain ⟨W, h1, _⟩ := h.fdm List.mem_cons_self
  exact Gv.go (h1.toIm e) h.tail g
theorem k_ixFi (h : Sep L H) (m : Ls.fd (.ref a) (.list ds) ∈ L) (e : atI ds i = some d) (hd : imd d = true) (q : Gv (K := K) d fun v M => Sep (M ++ L) H → Q v H) : rIx K (.ref a) (.int i) H Q :=
  k_ixFd h m e fun v hv => hv.fdIm (R := fun v => Q v H) hd q
theorem k_tyF {P : Prop} (h : Sep L H) (m : Ls.fd (.ref a) (.list ds) ∈ L) (q : P) : tyV K "list" (.ref a) H ∧ P := by
  obtain ⟨xs, h1, _⟩ := fd_lst h m
  exact k_tyL (sql_of h1) q
theorem k_listF (h : Sep L H) (m : Ls.fd (.ref a) (.list ds) ∈ L) (q : ∀ p vs H', Sep (ob p (.lst vs) :: Ls.fds vs ds :: L) H' → Q (.ref p) H') : rListU K [.ref a] H Q := by
  obtain ⟨xs, h1, h2⟩ := fd_lst h m
  exact k_list (sql_of h1) fun p hp => q p xs _ (h2.new hp rfl)
/-- .. of data without lists -/
theorem k_listFi (h : Sep L H) (m : Ls.fd (.ref a) (.list ds) ∈ L) (e : imd.imds ds = true) (q : ∀ p H', Sep (ld p ds :: L) H' → Q (.ref p) H') : rListU K [.ref a] H Q := k_listF h m fun p vs H' h' => q p H' (by
  obtain ⟨W, h1, _⟩ := h'.fdsm (vs := vs) (ds := ds) (List.mem_cons_of_mem _ List.mem_cons_self)
  have h2 := Sep.ims_iff.mpr ⟨h1.toIm e, h'⟩
  exact Sep.ld_iff.mpr ⟨vs, (Sub.rem (.there .here) (Sub.cons (Sub.drop Sub.refl))).ok h2⟩)
theorem wk_fd (m : Ls.fd (.ref a) (.list ds) ∈ L) : Wk (Itl K a) L ds.length fun i q => ∀ d v, ds[i]? = some d → q v [Ls.fd v d] where
  go := fun i H hi h => by
    obtain ⟨xs, h1, h2⟩ := fd_lst h m
    have hl := h2.fdsLen List.mem_cons_self
    have hx : i < xs.length := by omega
    exact ⟨xs, xs[i], sql_of h1, List.getElem?_eq_getElem hx⟩
  yl := fun i H x H' R hi h ⟨e, y⟩ q => by
    subst e
    obtain ⟨xs, h1, h2⟩ := fd_lst h m
    exact q ds[i] x (List.getElem?_eq_getElem hi) _ ((Sub.cons (Sub.drop Sub.refl)).ok (h2.fdsGet List.mem_cons_self (y xs (sql_of h1)) (List.getElem?_eq_getElem hi)))
  st := fun H h => by
    obtain ⟨xs, h1, h2⟩ := fd_lst h m
    have hl := h2.fdsLen List.mem_cons_self
    exact ⟨xs, sql_of h1, by omega⟩
theorem wk_fdI {α : Type} {zs : List α} {f : α → PyData} (m : Ls.fd (.ref a) (.list (zs.map f)) ∈ L) (e : ∀ z ∈ zs, imd (f z) = true) : Wk (Itl K a) L zs.length fun i q => ∀ z, zs[i]? = some z → Gv (f z) q where
  go := fun i H hi h => (wk_fd m).go i H (by rw [List.length_map]; exact hi) h
  yl := fun i H x H' R hi h y q => by
    refine (wk_fd m).yl i H x H' R (by rw [List.length_map]; exact hi) h y fun d v hd H2 h2 => ?_
    rw [List.getElem?_map] at hd
    obtain ⟨z, hz, rfl⟩ := Option.map_eq_some_iff.mp hd
    exact Sep.fdIm (R := fun v => R v H2) h2 (e z (List.mem_of_getElem? hz)) ((q z hz).mono fun v M g hM => g _ hM)
  st := fun H h => by
    have := (wk_fd m).st H h
    rw [List.length_map] at this
    exact this
theorem k_itlF {R : Addr → Prop} (h : Sep L H) (m : Ls.fd (.ref a) (.list ds) ∈ L) (q : R a) : ∃ b, V.ref a = .ref b ∧ (∃ xs, SqL K H b xs) ∧ R b := by
  obtain ⟨xs, h1, _⟩ := fd_lst h m
  exact ⟨a, rfl, ⟨xs, sql_of h1⟩, q⟩
theorem k_eqF {n m : Nat} (h : Sep L H) (t : Df L x d) (t2 : Df L y e) (o1 : OkD n d) (o2 : OkD m e) (hn : n ≤ 64) (hm : m ≤ 64) (q : Q (.bl (PyData.eqv d e)) H) : rEqU K x y H Q := k_eqD (t.is h) (t2.is h) (o1.shaped hn) (o2.shaped hm) q
theorem k_neF {n m : Nat} (h : Sep L H) (t : Df L x d) (t2 : Df L y e) (o1 : OkD n d) (o2 : OkD m e) (hn : n ≤ 64) (hm : m ≤ 64) (q : Q (.bl (!PyData.eqv d e)) H) : rNeU K x y H Q := k_neD (t.is h) (t2.is h) (o1.shaped hn) (o2.shaped hm) q
end
theorem use_sameF {K : PySem.W.Frag} {L : List (As K)} {H : Hp} {x y : V} {d : PyData} {n : Nat} {Q : VK} {E : XK} (h : Ls.Sep L H) (a : Df L x d) (b : Df L y d) (o : OkD n d) (q : ∀ H', Ls.Sep L H' → Q (.bl true) H') : spSame K n [x, y] H Q E := ⟨x, y, d, rfl, a.is h, b.is h, o, fun H' s => q H' (h.same s)⟩
end Ls
-- own part: S24
namespace Ls
open PySem PySem.Spec PyProof.Rows L2 LamX PySem.W
section
variable {K : PySem.W.Frag} {L M : List (As K)} {H H' : Hp} {a l p : Addr} {xs vs : List V} {ds es : List PyData} {d e : PyData} {v x y : V} {σ : L2.St} {Q : VK} {i : Int} {T : List (Addr × Str)}
theorem k_minD (h : Ls.Sep L H) (m : ld a (d :: ds) ∈ L) (ha : AlikeAll (d :: ds)) (hd : PyData.depthAll (d :: ds) ≤ 60) (q : ∀ v, Ls.Sep (im v (minD d ds) :: L) H → Q v H) : rMinD K [V.ref a] H Q := by
  obtain ⟨xs, h1, h2⟩ := h.ldm m
  exact ⟨a, xs, d, ds, rfl, sql_of h1, h2, ha, hd, fun v hv => q v (Sep.im_iff.mpr ⟨hv, h⟩)⟩
theorem k_maxD (h : Ls.Sep L H) (m : ld a (d :: ds) ∈ L) (ha : AlikeAll (d :: ds)) (hd : PyData.depthAll (d :: ds) ≤ 60) (q : ∀ v, Ls.Sep (im v (maxD d ds) :: L) H → Q v H) : rMaxD K [V.ref a] H Q := by
  obtain ⟨xs, h1, h2⟩ := h.ldm m
  exact ⟨a, xs, d, ds, rfl, sql_of h1, h2, ha, hd, fun v hv => q v (Sep.im_iff.mpr ⟨hv, h⟩)⟩
theorem im_pairs : ∀ {cs : List (V × PyData)}, (∀ c ∈ cs, Im K H c.1 c.2) → ImAll K H (cs.map (·.1)) (cs.map (·.2))
  | [], _ => .nil
  | c :: cs, h => .cons (h c List.mem_cons_self) (im_pairs fun b hb => h b (List.mem_cons_of_mem _ hb))
theorem pairs_im : ∀ {xs : List V} {ds : List PyData}, ImAll K H xs ds → ∀ c ∈ xs.zip ds, Im K H c.1 c.2
  | _, _, .nil, c, h => by cases h
  | _, _, .cons a b, c, h => by
    rcases List.mem_cons.mp h with rfl | h
    · exact a
    · exact pairs_im b c h
theorem k_sortG {RX : Hp → V → PyData → Prop} (kd : PyData → PyData) [i : NoTbs M] (h : Ls.Sep L H) (r : Rem L (tabsA T) M) (m : ld l ds ∈ M) (hx : ∀ x d H, d ∈ ds → Im K H x d → RX H x (kd d)) (hal : AllAlike (ds.map kd)) (hso : Sortable (ds.map kd)) (hdp : ∀ d ∈ ds, (kd d).depth ≤ 60)
    (q : ∀ p H', Ls.Sep (ld p (ds.mergeSort (dataLe false kd)) :: tabsA T :: M) H' → Q (.ref p) H') : rSortLam K T RX Q (.ref l) H := by
  have h1 := h.rem r
  obtain ⟨xs, hl, hi⟩ := h1.ldm (List.mem_cons_of_mem _ m)
  have hlen := hi.length
  have e1 : (xs.zip ds).map (·.1) = xs := List.map_fst_zip (by omega)
  have e2 : (xs.zip ds).map (·.2) = ds := List.map_snd_zip (by omega)
  have ek : ((xs.zip ds).map fun c => (c.1, kd c.2)).map (·.2) = ds.map kd := by
    rw [List.map_map]
    show (xs.zip ds).map (kd ∘ (·.2)) = _
    rw [← List.map_map, e2]
  refine ⟨h1.tabs, l, (xs.zip ds).map fun c => (c.1, kd c.2), rfl, ?_, fun b hb => ?_, by rw [ek]; exact hal, by rw [ek]; exact hso, fun b hb => ?_, fun H2 p eN T2 hp => ?_⟩
  · rw [List.map_map]
    show SqL K H l ((xs.zip ds).map (·.1))
    rw [e1]
    exact sql_of hl
  · obtain ⟨c, hc, rfl⟩ := List.mem_map.mp hb
    exact hx _ _ _ (List.of_mem_zip hc).2 (pairs_im hi c hc)
  · obtain ⟨c, hc, rfl⟩ := List.mem_map.mp hb
    exact hdp _ (List.of_mem_zip hc).2
  · have h2 := h1.tabsN eN T2
    obtain ⟨ys, hl2, hi2⟩ := h2.ldm (List.mem_cons_of_mem _ m)
    have := eN _ _ hl (fun ps z => by cases z)
    rw [hl2] at this
    cases this
    have c1 : ((xs.zip ds).map fun c => (c.1, kd c.2)).mergeSort (dataLe false fun b : V × PyData => b.2) = ((xs.zip ds).mergeSort (dataLe false fun c => kd c.2)).map fun c => (c.1, kd c.2) :=
      (List.map_mergeSort (r := dataLe false fun c : V × PyData => kd c.2) (s := dataLe false fun b : V × PyData => b.2) (f := fun c : V × PyData => (c.1, kd c.2)) (fun a _ b _ => rfl)).symm
    have c2 : ((xs.zip ds).mergeSort (dataLe false fun c => kd c.2)).map (·.2) = ds.mergeSort (dataLe false kd) := by
      refine (List.map_mergeSort (r := dataLe false fun c : V × PyData => kd c.2) (s := dataLe false kd) (f := fun x : V × PyData => x.2) (fun a _ b _ => rfl)).trans ?_
      rw [e2]
    rw [c1, List.map_map]
    have h3 := h2.new (o := .lst (((xs.zip ds).mergeSort (dataLe false fun c => kd c.2)).map ((fun b : V × PyData => b.1) ∘ fun c => (c.1, kd c.2)))) hp rfl
    have g : ImAll K (upd H2 p (.lst (((xs.zip ds).mergeSort (dataLe false fun c => kd c.2)).map ((fun b : V × PyData => b.1) ∘ fun c => (c.1, kd c.2))))) (((xs.zip ds).mergeSort (dataLe false fun c => kd c.2)).map ((fun b : V × PyData => b.1) ∘ fun c => (c.1, kd c.2))) (ds.mergeSort (dataLe false kd)) := by
      rw [← c2]
      refine (im_pairs (K := K) (H := H2) (cs := (xs.zip ds).mergeSort (dataLe false fun c => kd c.2)) fun c hc => pairs_im hi2 c ?_).mono (Tp.new hp)
      exact (List.mergeSort_perm _ _).mem_iff.mp hc
    exact q p _ (Sep.ld_iff.mpr ⟨_, Ls.Sep.perm (Sep.ims_iff.mpr ⟨g, h3⟩) (.swap _ _ _)⟩)
theorem dataLe_tups {β : Type} (x : β → List Int) : dataLe false (fun b => .tuple ((x b).map .int)) = fun p q => decide (x p ≤ x q) := by
  funext p q
  show (!dataLt (.tuple ((x q).map .int)) (.tuple ((x p).map .int))) = _
  rw [dataLt_tuple]
  show (!rowLt ((x q).map .int) ((x p).map .int)) = _
  rw [dataLt_ints]
  by_cases h : x q < x p
  · have h' : ¬ x p ≤ x q := fun r => List.not_lt.mpr r h
    simp [h, h']
  · have h' : x p ≤ x q := List.not_lt.mp h
    simp [h, h']
theorem k_sortSl {n : Nat} (kf : PyData → List Int) [i : NoTbs M] (h : Ls.Sep L H) (r : Rem L (tabsA T) M) (m : ld l ds ∈ M) (hk : ∀ d ∈ ds, ∃ es, d = .tuple es ∧ n < es.length ∧ es.take n = (kf d).map PyData.int) (h0 : 0 < n)
    (q : ∀ p H', Ls.Sep (ld p (ds.mergeSort fun a b => decide (kf a ≤ kf b)) :: tabsA T :: M) H' → Q (.ref p) H') : rSortLam K T (rxSl K n) Q (.ref l) H := by
  refine k_sortG (fun d => .tuple ((kf d).map PyData.int)) h r m (fun x d H hd hx => ?_) (AllAlike.of fun b b' => ?_) ?_ (fun d hd => ?_) fun p H' h' => q p H' ?_
  · obtain ⟨es, rfl, h1, h2⟩ := hk d hd
    obtain ⟨a, xs, rfl, g1, g2⟩ := im_tup hx
    have gl := g2.length
    have g3 := g2.take n
    rw [h2] at g3
    exact ⟨a, xs, kf (.tuple es), rfl, g1, by omega, ims_int g3, rfl⟩
  · simp only [alike]
    exact alike_ints _ _
  · refine .inl fun k hk' => ?_
    obtain ⟨d, hd, rfl⟩ := List.mem_map.mp hk'
    obtain ⟨es, rfl, h1, h2⟩ := hk d hd
    have : (kf (.tuple es)).length = n := by
      have := congrArg List.length h2
      rw [List.length_take, List.length_map] at this
      omega
    cases e : kf (.tuple es) with
    | nil => rw [e] at this; simp at this; omega
    | cons z zs => exact ⟨.int z, zs.map .int, rfl⟩
  · simp only [PyData.depth, depth_ints]
    decide
  · rw [dataLe_tups] at h'
    exact h'
theorem k_sortIx {n : Nat} (kf : PyData → Int) [i : NoTbs M] (h : Ls.Sep L H) (r : Rem L (tabsA T) M) (m : ld l ds ∈ M) (hk : ∀ d ∈ ds, ∃ es, d = .tuple es ∧ es[n]? = some (.int (kf d)))
    (q : ∀ p H', Ls.Sep (ld p (ds.mergeSort fun a b => decide (kf a ≤ kf b)) :: tabsA T :: M) H' → Q (.ref p) H') : rSortLam K T (rxIx K n) Q (.ref l) H := by
  refine k_sortG (fun d => .int (kf d)) h r m (fun x d H hd hx => ?_) (AllAlike.of fun b b' => rfl) (Sortable.others (enc := fun d => .int (kf d)) fun b => ⟨PyData.noConfusion, fun xs => PyData.noConfusion⟩) (fun d hd => by show 0 ≤ 60; decide) fun p H' h' => q p H' ?_
  · obtain ⟨es, rfl, h1⟩ := hk d hd
    obtain ⟨a, xs, rfl, g1, g2⟩ := im_tup hx
    obtain ⟨v, hv, hm⟩ := g2.getD h1
    cases im_int hm
    exact ⟨a, xs, _, rfl, g1, hv, rfl⟩
  · rw [dataLe_int] at h'
    exact h'
theorem k_seqF {R R' : Addr → Prop} (h : Ls.Sep L H) (m : fd (.ref a) (.list ds) ∈ L) (q : R a) : ∃ b, V.ref a = .ref b ∧ (((∃ xs, SqL K H b xs) ∧ R b) ∨ ((∃ xs, SqT K H b xs) ∧ R' b)) := by
  obtain ⟨xs, h1, _⟩ := fd_lst h m
  exact ⟨a, rfl, .inl ⟨⟨xs, sql_of h1⟩, q⟩⟩
theorem k_extD (h : Ls.Sep L H) (r : Rep L (ld a ds) (ld a (ds ++ es)) M) (m : ld p es ∈ L) (hl : ds.length + es.length ≤ sizeLine) (q : ∀ H', Ls.Sep M H' → Q .non H') : rExtend (.ref a) [.ref p] H Q := by
  obtain ⟨xs, h1, h2⟩ := h.ldm r.mem
  obtain ⟨ys, h3, h4⟩ := h.ldm m
  exact ⟨a, p, xs, ys, rfl, rfl, h1, h3, by rw [h2.length, h4.length]; exact hl, q _ (h.setDR r (h2.app h4))⟩
theorem k_parT {i j l : Nat} {ta : TA} {D : Ends} {σ : L2.St} {H : Hp} (h : ta σ H fun vs H1 => ∃ u v w, vs = [u, v, w] ∧ D.nx (((σ.set i (some u)).set j (some v)).set l (some w)) H1) : tPar3 i j l ta D σ H := h
/-- enumerate(zip(a, b)), lists that never change any more -/
theorem k_ezF {c : Addr} {R : Bool → Addr → Addr → Prop} (h : Ls.Sep L H) (m1 : fd (.ref a) (.list ds) ∈ L) (m2 : fd (.ref c) (.list es) ∈ L) (q : R true a c) : ∃ a' c' b xs ys, [V.ref a, V.ref c] = [V.ref a', V.ref c'] ∧ Sqb b K H a' xs ∧ Sqb b K H c' ys ∧ R b a' c' := by
  obtain ⟨xs, h1, _⟩ := fd_lst h m1
  obtain ⟨ys, h2, _⟩ := fd_lst h m2
  exact ⟨a, c, true, xs, ys, rfl, sql_of h1, sql_of h2, q⟩
theorem wk_ezF {c : Addr} {n : Nat} (m1 : fd (.ref a) (.list ds) ∈ L) (m2 : fd (.ref c) (.list es) ∈ L) (l1 : ds.length = n) (l2 : es.length = n) :
    Wk (Itez true K a c) L n fun i q => ∀ d e v w T U, ds[i]? = some d → es[i]? = some e → q (.ref T) [tu T [.int (i : Nat), .ref U], tu U [v, w], fd v d, fd w e] where
  go := fun i H hi h => by
    obtain ⟨xs, h1, k1⟩ := fd_lst h m1
    obtain ⟨ys, h2, k2⟩ := fd_lst h m2
    have b1 := k1.fdsLen List.mem_cons_self
    have b2 := k2.fdsLen List.mem_cons_self
    exact ⟨xs, ys, xs[i], ys[i], sql_of h1, sql_of h2, List.getElem?_eq_getElem _, List.getElem?_eq_getElem _⟩
  yl := fun i H x H' R hi h ⟨T, U, v, w, e, nUT, hU, hT, e2, y1, y2⟩ q => by
    subst e e2
    obtain ⟨xs, h1, k1⟩ := fd_lst h m1
    have b1 := k1.fdsLen List.mem_cons_self
    have s1 : Ls.Sep (fd v ds[i] :: L) H := (Sub.cons (Sub.drop Sub.refl)).ok (k1.fdsGet List.mem_cons_self (y1 xs (sql_of h1)) (List.getElem?_eq_getElem (by omega)))
    obtain ⟨ys, h2, k2⟩ := fd_lst s1 (List.mem_cons_of_mem _ m2)
    have b2 := k2.fdsLen List.mem_cons_self
    have s2 : Ls.Sep (fd w es[i] :: fd v ds[i] :: L) H := (Sub.cons (Sub.drop Sub.refl)).ok (k2.fdsGet List.mem_cons_self (y2 ys (sql_of h2)) (List.getElem?_eq_getElem (by omega)))
    have s3 := (s2.newT (xs := [v, w]) hU).newT (p := T) (xs := [V.int (i : Nat), V.ref U]) (by rw [upd_ne (fun z => nUT z.symm)]; exact hT)
    refine q ds[i] es[i] v w T U (List.getElem?_eq_getElem _) (List.getElem?_eq_getElem _) _ ?_
    exact (Sub.cons (Sub.cons ((Sub.perm (.swap _ _ _))))).ok s3
  st := fun H h => by
    obtain ⟨xs, h1, k1⟩ := fd_lst h m1
    obtain ⟨ys, h2, k2⟩ := fd_lst h m2
    have b1 := k1.fdsLen List.mem_cons_self
    have b2 := k2.fdsLen List.mem_cons_self
    exact ⟨xs, ys, sql_of h1, sql_of h2, .inl (by omega)⟩
theorem fd_ref (h : Ls.Sep L H) (m : fd v (.list ds) ∈ L) : ∃ b, v = .ref b := by
  obtain ⟨W, h1, _⟩ := h.fdm m
  cases h1 with
  | im z => cases z
  | lst _ _ => exact ⟨_, rfl⟩
theorem wk_fdL {α : Type} {zs : List α} {g : α → List PyData} (m : fd (.ref a) (.list (zs.map fun z => .list (g z))) ∈ L) : Wk (Itl K a) L zs.length fun i q => ∀ z b, zs[i]? = some z → q (.ref b) [fd (.ref b) (.list (g z))] where
  go := fun i H hi h => (wk_fd m).go i H (by rw [List.length_map]; exact hi) h
  yl := fun i H x H' R hi h y q => by
    refine (wk_fd m).yl i H x H' R (by rw [List.length_map]; exact hi) h y fun d v hd H2 h2 => ?_
    rw [List.getElem?_map] at hd
    obtain ⟨z, hz, rfl⟩ := Option.map_eq_some_iff.mp hd
    obtain ⟨b, rfl⟩ := fd_ref h2 List.mem_cons_self
    exact q z b hz H2 h2
  st := fun H h => by
    have := (wk_fd m).st H h
    rw [List.length_map] at this
    exact this
theorem k_ixFL (h : Ls.Sep L H) (m : fd (.ref a) (.list ds) ∈ L) (e : atI ds i = some (.list es)) (q : ∀ b, Ls.Sep (fd (.ref b) (.list es) :: L) H → Q (.ref b) H) : rIx K (.ref a) (.int i) H Q :=
  k_ixFd h m e fun v hv => by
    obtain ⟨b, rfl⟩ := fd_ref hv List.mem_cons_self
    exact q b hv
theorem imds_ints : ∀ ns : List Int, imd.imds (ns.map PyData.int) = true
  | [] => rfl
  | n :: ns => by
    simp only [List.map_cons, imd.imds, imd, Bool.true_and]
    exact imds_ints ns
theorem use_ofFI {E : XK} {dd : Addr} {ns : List Int} (h : Ls.Sep L H) (m : dr dd ∈ L) (m2 : fd (.ref l) (.list (ns.map .int)) ∈ L) (h1 : 0 < ns.length) (h2 : ns.length < 2 ^ 100) (q : ∀ n H', n ∈ ns → Ls.Sep L H' → Q (.int n) H') : spOf K ([.ref dd, .ref l] ++ []) H Q E := by
  obtain ⟨xs, e1, k1⟩ := fd_lst h m2
  obtain ⟨W, f1, _⟩ := k1.fdsm (vs := xs) (ds := ns.map .int) List.mem_cons_self
  have ei := ims_int (f1.toIm (imds_ints ns))
  subst ei
  refine use_ofV h m (sql_of e1) (by rw [List.length_map]; exact h1) (by rw [List.length_map]; exact h2) fun x H' hx h' => ?_
  obtain ⟨n, hn, rfl⟩ := List.mem_map.mp hx
  exact q n H' hn h'
theorem fd_int (h : Ls.Sep L H) (m : fd v (.int i) ∈ L) : v = .int i := by
  obtain ⟨W, h1, _⟩ := h.fdm m
  cases h1 with
  | im z => exact im_int z
theorem k_sortL {RX : Hp → V → PyData → Prop} {te : TE} (h : te σ H (rSortLam K T RX Q)) : tSortLam K T RX te σ H Q := h
theorem Sep.newImA (h : Ls.Sep L H) (hp : H p = none) (h2 : ImAll K H xs ds) : Ls.Sep (ld p ds :: L) (upd H p (.lst xs)) := by
  have z := (h.newD (p := p) (xs := []) (ds := []) hp .nil).setD (xs := xs) (es := ds) (h2.mono (Tp.new hp))
  have e : upd (upd H p (.lst [])) p (.lst xs) = upd H p (.lst xs) := by
    funext b
    by_cases hb : b = p
    · rw [hb, upd_same, upd_same]
    · rw [upd_ne hb, upd_ne hb, upd_ne hb]
  rw [e] at z
  exact z
theorem fd_ims (h : Ls.Sep L H) (m : fd (.ref a) (.list ds) ∈ L) (e : imd.imds ds = true) : ∃ xs, H a = some (.lst xs) ∧ ImAll K H xs ds := by
  obtain ⟨xs, e1, k1⟩ := fd_lst h m
  obtain ⟨W, f1, _⟩ := k1.fdsm (vs := xs) (ds := ds) List.mem_cons_self
  exact ⟨xs, e1, f1.toIm e⟩
theorem k_slFi {lo hi : Option Int} (h : Ls.Sep L H) (m : fd (.ref a) (.list ds) ∈ L) (e : imd.imds ds = true) (q : ∀ p H', Ls.Sep (ld p (cutD ds lo hi) :: L) H' → Q (.ref p) H') : rSlU K (.ref a) lo hi H Q := by
  obtain ⟨xs, h1, h2⟩ := fd_ims h m e
  exact k_slL (sql_of h1) fun p hp => q p _ (Sep.newImA h hp (ImAll.cut h2 lo hi))
theorem k_addFD (h : Ls.Sep L H) (m : fd (.ref a) (.list ds) ∈ L) (e : imd.imds ds = true) (m2 : ld l es ∈ L) (hl : ds.length + es.length ≤ sizeLine) (q : ∀ p H', Ls.Sep (ld p (ds ++ es) :: L) H' → Q (.ref p) H') : rAddU K (.ref a) (.ref l) H Q := by
  obtain ⟨xs, h1, h2⟩ := fd_ims h m e
  obtain ⟨ys, h3, h4⟩ := h.ldm m2
  exact k_addL h1 h3 (by rw [h2.length, h4.length]; exact hl) fun p hp => q p _ (Sep.newImA h hp (h2.app h4))
end
end Ls
-- own part: U37
namespace Ls
open PySem PySem.Spec PyProof.Rows L2
/-! ### a target `a, *b` over a list; x.split(sep); int(text) -/
section
variable {prog : Program} {w : World} {A : Around} {E : Value → Shared → Prop} {s : Shared}
theorem draw_lst {it t : Addr} {items : Array Value} (hne : t ≠ it) : ∀ (n i : Nat) (s : Shared) (Q : List Value → Shared → Prop), s.heap.IsListIter it t i → s.heap.IsList t items → i + n ≤ items.size →
    (∀ h' : Heap, h'.IsListIter it t (i + n) → Heap.SameBut it s.heap h' → Q ((items.toList.drop i).take n) { s with heap := h' }) → wpAny (model prog w) A (draw (.ref it) n) Q E s
  | 0, i, s, Q, hit, _, _, hQ => wpAny_pure (by simpa using hQ s.heap hit (Heap.SameBut.refl ..))
  | n + 1, i, s, Q, hit, ht, hle, hQ => by
    have hi : i < items.size := by omega
    have hd : items.toList.drop i = items[i] :: items.toList.drop (i + 1) := List.drop_eq_getElem_cons (by rw [Array.length_toList]; exact hi)
    show wpAny _ _ (pyNext (.ref it) >>= _) Q E s
    refine wpAny_bind (wpAny_pyNext_list_item hit ht (x := items[i]) (Array.getElem?_eq_getElem hi) fun h1 hit1 hs1 => ?_)
    refine wpAny_bind (wpAny_holding (draw_lst hne n (i + 1) _ _ hit1 (ht.extBut hs1.extBut hne) (by omega) fun h2 hit2 hs2 => wpAny_pure ?_))
    have z := hQ h2 (by rw [show i + (n + 1) = i + 1 + n by omega]; exact hit2) (hs1.trans hs2)
    rw [hd, List.take_succ_cons] at z
    exact z
theorem unpack_starL {t : Addr} {items : Array Value} {k : Nat} {Q : List Value → Shared → Prop} (hh : A.handled = none) (ht : s.heap.IsList t items) (hk : k ≤ items.size) (hz : items.size ≤ sizeLine)
    (hQ : ∀ (h' : Heap) (tk : Nat), (∀ b o, s.heap.get? b = some o → h'.get? b = some o) → Q (items.toList.take k ++ [.ref h'.objs.size]) { s with heap := h'.push { cls := .type "list", data := .seq (items.toList.drop k).toArray }, toks := tk }) :
    wpAny (model prog w) A (unpackItems (.ref t) (k + 1) (some k)) Q E s := by
  have hlt : t < s.heap.objs.size := by obtain ⟨o, ho, _⟩ := ht; exact Heap.lt_size ho
  have hne : t ≠ s.heap.objs.size := Nat.ne_of_lt hlt
  unfold unpackItems
  refine wpAny_bind ?_
  unfold notIterableAtAll
  refine wpAny_bind (wpAny_specialOf ht.typeIs slot_list_iter.lookup ?_)
  refine wpAny_pure ?_
  simp only [Bool.false_eq_true, if_false]
  have push : (s.heap.push { cls := .type "list_iterator", data := .fields #[.ref t, .int 0 0] }).IsList t items := by
    obtain ⟨o, ho, r⟩ := ht
    exact ⟨o, Heap.get?_push_of_some _ ho, r⟩
  refine wpAny_bind (wpAny_holding (wpAny_pyIter_list ht ?_))
  refine wpAny_bind (wpAny_holding (draw_lst hne k 0 _ _ ⟨_, Heap.get?_push_size _ rfl, rfl, rfl⟩ push (by omega) fun h1 hit1 hs1 => ?_))
  rw [List.drop_zero, if_neg (by rw [List.length_take, Array.length_toList]; omega)]
  have ht1 : h1.IsList t items := push.extBut hs1.extBut hne
  have hsz : s.heap.objs.size < h1.objs.size := by
    obtain ⟨o, ho, _⟩ := hit1
    exact Heap.lt_size ho
  refine wpAny_bind (wpAny_holding (wpAny_collect_iter (T := "list_iterator") (.inr (.inr (.inl rfl))) ((Walks.from (Walks.list (A := A.in1) (by simp [hh]) s.heap.objs.size t hne items) k hk).toS) (fun i s st => st.1.typeIs) ⟨by rw [Nat.zero_add] at hit1; exact hit1, ht1⟩ (fun b hb => ?_) List.mem_cons_self (fun s' acc mv hac => ?_) (by omega)))
  · rcases List.mem_cons.mp hb with rfl | hb
    · exact hsz
    · rw [List.mem_singleton.mp hb]
      exact Nat.lt_trans hlt hsz
  have he : acc.toList = items.toList.drop k := by
    apply List.ext_getElem?
    intro j
    rw [List.getElem?_drop, Array.getElem?_toList, Array.getElem?_toList]
    by_cases hj : j < acc.size
    · have := hac.2 j acc[j] (Array.getElem?_eq_getElem hj)
      rw [Array.getElem?_eq_getElem hj]
      exact this.symm
    · rw [Array.getElem?_eq_none (by omega), Array.getElem?_eq_none (by have := hac.1; omega)]
  have e0 : k + 1 - 1 - k = 0 := by omega
  simp only [e0, Nat.not_lt_zero, if_false, Nat.sub_zero, List.take_length, List.drop_length, List.append_nil]
  obtain ⟨h', g', d', tk', os'⟩ := s'
  have eg : g' = s.gens := mv.gens
  have ed : d' = s.drawn := mv.drawn
  have eo : os' = s.os := mv.os
  subst eg ed eo
  refine wpAny_bind (wpAny_newObj_type (wpAny_pure ?_) ?_)
  · rw [he]
    exact hQ h' tk' fun b o hb => mv.heap b o (fun m => Nat.ne_of_lt (Heap.lt_size hb) (List.mem_singleton.mp m)) (hs1.2 b (Nat.ne_of_lt (Heap.lt_size hb)) ▸ Heap.get?_push_of_some _ hb)
  · show (acc.toList.toArray).size ≤ sizeLine
    rw [he, List.size_toArray, List.length_drop, Array.length_toList]
    omega
end
def gLstS (K : PySem.W.Frag) (k : Nat) (t : TGs) : TG := fun v σ H Q => ∃ a xs, v = .ref a ∧ SqL K H a xs ∧ k ≤ xs.length ∧ xs.length ≤ 100000 ∧ ∀ q, H q = none → t (xs.take k ++ [.ref q]) σ (upd H q (.lst (xs.drop k))) Q
section
variable {X : Cx} {pos : Pos}
theorem pg_lstS {es : List Expr} {k : Nat} {t : TGs} {n : Nat} (K : PySem.W.Frag) (hK : X.K = K) (h : PGs X es t) (hc : X.calm = true := by rfl)
    (hn : (assignEach es X.env).length = n + 1 := by rfl) (hst : (assignEach es X.env).findIdx? (·.1) = some n := by rfl) : PG X (.Tuple es k pos) (gLstS K n t) := by
  subst hK
  refine ⟨fun pins s σ H v u Q I r hw => ?_⟩
  obtain ⟨a, xs, e1, hq, hl, hl2, hw⟩ := hw
  subst e1
  cases r
  obtain ⟨its, rv, ht, hz⟩ := I.list hq
  have hlen : its.toArray.size = xs.length := by rw [List.size_toArray, rv.length]
  rw [assign_Tuple]
  refine wpAny_bind (wpAny_standAt ?_)
  unfold unpack
  rw [hn, hst]
  refine wpAny_bind (wpAny_holding (unpack_starL (I.ok.hd hc) ht.isList (by omega) (by rw [hlen]; exact hz) fun h' tk hk => ?_))
  have I1 : Inv X pins σ H { s with heap := h', toks := tk } := I.kept hk
  have hf : H h'.objs.size = none := I1.hok.fresh (Nat.le_refl _)
  have I2 : Inv X pins σ (upd H h'.objs.size (.lst (xs.drop n))) { s with heap := h'.push { cls := .type "list", data := .seq (its.drop n).toArray }, toks := tk } :=
    I1.laid (t' := tk) (fun b u e => Heap.get?_push_of_some _ e) (Nat.le_refl _) ⟨by rw [List.length_drop]; omega, its.drop n, 0, vals_dropK n rv, Heap.get?_push_size _ rfl⟩
  exact h.run pins _ σ _ (xs.take n ++ [.ref h'.objs.size]) _ Q I2 (by
    rw [List.toList_toArray]
    exact vals_takeK (v := .ref h'.objs.size) rfl n rv) (hw _ hf)
end
def tSplitU (to te : TE) : TE := tM1 (fun x xs H Q => ∃ a b, x = .str a ∧ xs = [.str b] ∧ (b.length == 0) = false ∧ a.length + 2 ≤ sizeLine ∧ rNewStrs (Txt.split a b) H Q) to te
theorem pe_splitU {X : Cx} {o e : Expr} {to te : TE} {apos pos : Pos} (ho : PE X o to) (he : PE X e te) (hs : starEach [e] X.env = [(false, eval e X.env)] := by rfl) (hb : attributeBase o "split" X.env (eval o X.env) = eval o X.env := by rfl) (hl : (apos.endLine == pos.line) = true := by rfl) :
    PE X (.Call (.Attribute o "split" apos) [e] [] pos) (tSplitU to te) := pe_split ho he hs hb hl
theorem k_splitU {to te : TE} {σ : L2.St} {H : Hp} {Q : VK} (h : to σ H fun x H1 => (∃ a, x = .str a) ∧ te σ H1 fun y H2 => ∃ a b, x = .str a ∧ [y] = [.str b] ∧ (b.length == 0) = false ∧ a.length + 2 ≤ sizeLine ∧ rNewStrs (Txt.split a b) H2 Q) : tSplitU to te σ H Q := h
section
variable {K : PySem.W.Frag} {L : List (As K)} {H : Hp} {a : Addr} {Q : VK} {t : TGs} {σ : L2.St} {R : L2.St → Hp → Prop} {ds : List PyData} {n : Nat}
/-- what split gives, by what stands -/
theorem k_newStrs {ys : List Str} (h : Sep L H) (q : ∀ p H', Sep (ld p (ys.map PyData.str) :: L) H' → Q (.ref p) H') : rNewStrs ys H Q := fun p hp => q p _ (Sep.newImA h hp (ImAll.strs ys))
theorem k_glstS (h : Sep L H) (m : ld a ds ∈ L) (hl : n ≤ ds.length) (hl2 : ds.length ≤ 100000) (q : ∀ xs p H', ImAll K H' xs ds → Sep (ld p (ds.drop n) :: L) H' → t (xs.take n ++ [.ref p]) σ H' R) : gLstS K n t (.ref a) σ H R := by
  obtain ⟨xs, h1, h2⟩ := h.ldm m
  refine ⟨a, xs, rfl, sql_of h1, by rw [h2.length]; exact hl, by rw [h2.length]; exact hl2, fun p hp => ?_⟩
  have z := Sep.newImA h hp (h2.drop n)
  exact q xs p _ (h2.mono (Tp.new hp)) z
end
end Ls
-- own part: U38
namespace Ls
open PySem PySem.Spec PyProof.Rows L2
/-! ### str(x) of a number or a text -/
def rStrU : List V → Hp → VK → Prop := fun xs H Q => (∃ i, xs = [.int i] ∧ i.natAbs.log2 < 1920 ∧ Q (.str (toString i)) H) ∨ ∃ a, xs = [.str a] ∧ Q (.str a) H
theorem call_strU {X : Cx} : CallR X (.type "str") rStrU := CallR.or call_str_int SkE.call_str_str
theorem k_strI {i : Int} {H : Hp} {Q : VK} (h : i.natAbs.log2 < 1920) (q : Q (.str (toString i)) H) : rStrU [.int i] H Q := .inl ⟨i, rfl, h, q⟩
theorem k_strS {a : Str} {H : Hp} {Q : VK} (q : Q (.str a) H) : rStrU [.str a] H Q := .inr ⟨a, rfl, q⟩
end Ls
-- own part: U39
namespace Ls
open PySem PySem.Spec PyProof.Rows L2
/-- a promise of a def that calls itself: at nought none -/
def recSp (f : Nat → Sp) : Nat → Sp
  | 0 => fun _ _ _ _ => False
  | n + 1 => f n
/-! ### a dict of the module with text keys, asked by any text -/
structure TabK (K : PySem.W.Frag) (w : World) (d : Addr) (kvs : List (Str × V)) : Prop where
  kd : ∃ es n, KDict K w d es n
  yes : ∀ z v, kvs.lookup z = some v → ∃ u, PySem.W.nsIn K d z = some (some u) ∧ RelV v u
  no : ∀ z, kvs.lookup z = none → PySem.W.nsIn K d z = some none
def rInT (d : Addr) (kvs : List (Str × V)) : R2 := fun x y H Q => ∃ z, x = .str z ∧ y = .ref d ∧ Q (.bl (kvs.lookup z).isSome) H
def rNotInT (d : Addr) (kvs : List (Str × V)) : R2 := fun x y H Q => ∃ z, x = .str z ∧ y = .ref d ∧ Q (.bl (!(kvs.lookup z).isSome)) H
def rIxT (d : Addr) (kvs : List (Str × V)) : R2 := fun x y H Q => ∃ z v, x = .ref d ∧ y = .str z ∧ kvs.lookup z = some v ∧ Q v H
section
variable {X : Cx} {d : Addr} {kvs : List (Str × V)}
theorem op_inT (T : TabK X.K X.w d kvs) : OpR X (compareOp .In) (rInT d kvs) := by
  intro pins s σ H x y v u Q I rx ry h
  obtain ⟨z, rfl, rfl, q⟩ := h
  obtain ⟨es, n, D⟩ := T.kd
  cases e : kvs.lookup z with
  | none => exact op_in_kd D pins s σ H _ _ v u Q I rx ry ⟨z, none, rfl, rfl, T.no z e, by rw [e] at q; exact q⟩
  | some y =>
    obtain ⟨u0, h1, _⟩ := T.yes z y e
    exact op_in_kd D pins s σ H _ _ v u Q I rx ry ⟨z, some u0, rfl, rfl, h1, by rw [e] at q; exact q⟩
theorem op_notinT (T : TabK X.K X.w d kvs) : OpR X (compareOp .NotIn) (rNotInT d kvs) := by
  intro pins s σ H x y v u Q I rx ry h
  obtain ⟨z, rfl, rfl, q⟩ := h
  obtain ⟨es, n, D⟩ := T.kd
  cases e : kvs.lookup z with
  | none => exact op_notIn_kd D pins s σ H _ _ v u Q I rx ry ⟨z, none, rfl, rfl, T.no z e, by rw [e] at q; exact q⟩
  | some y =>
    obtain ⟨u0, h1, _⟩ := T.yes z y e
    exact op_notIn_kd D pins s σ H _ _ v u Q I rx ry ⟨z, some u0, rfl, rfl, h1, by rw [e] at q; exact q⟩
theorem ix_T (T : TabK X.K X.w d kvs) : IxR X (rIxT d kvs) := by
  intro value slice pins s σ H x y v u Q I rx ry h hs
  obtain ⟨z, r, rfl, rfl, e, q⟩ := h
  obtain ⟨es, n, D⟩ := T.kd
  obtain ⟨u0, h1, h2⟩ := T.yes z r e
  exact ix_kdict value slice pins s σ H _ _ v u Q I rx ry ⟨d, z, r, rfl, rfl, ⟨es, n, u0, D.at_, D.lit, h1, h2⟩, q⟩ hs
end
section
variable {d : Addr} {kvs : List (Str × V)} {z : Str} {H : Hp} {Q : VK} {v : V}
theorem k_inTb (q : Q (.bl (kvs.lookup z).isSome) H) : rInT d kvs (.str z) (.ref d) H Q := ⟨z, rfl, rfl, q⟩
theorem k_notinTb (q : Q (.bl (!(kvs.lookup z).isSome)) H) : rNotInT d kvs (.str z) (.ref d) H Q := ⟨z, rfl, rfl, q⟩
theorem k_ixTb (e : kvs.lookup z = some v) (q : Q v H) : rIxT d kvs (.ref d) (.str z) H Q := ⟨z, v, rfl, rfl, e, q⟩
end
/-! how the head tells it -/
section
open He
variable {fa : List Fa} {fn : List DefD} {ts : List Tab} {w : World} {K : PySem.W.Frag}
theorem tab_eq (c : SaysT fa fn ts w K) (i : Nat) {t : Tab} (h : ts[i]? = some t := by rfl) : dicW K (t.1 K) = some (keysIn w.params t.2) := by
  have e : ts.map (fun t => dicW K (t.1 K)) = ts.map fun t => some (keysIn w.params t.2) := congrArg (fun z : AlT => z.2) c
  have e2 : (ts.map fun t => dicW K (t.1 K))[i]? = (ts.map fun t => some (keysIn w.params t.2))[i]? := by rw [e]
  rw [List.getElem?_map, List.getElem?_map, h] at e2
  exact Option.some.inj e2
theorem dicW_lk {a : Addr} {r : List (Option (Str × Int))} (h : dicW K a = some r) : ∃ es n, K.lookup a = some ⟨.type "dict", none, .dict es n, #[]⟩ ∧ es.toList.map He.keyOf = r := by
  unfold dicW at h
  split at h
  · rename_i c es m sl hl
    split at h
    · rename_i hb
      obtain ⟨z1, z2⟩ := ba hb
      obtain ⟨z3, z4⟩ := ba z2
      have e1 : c = "dict" := of_decide_eq_true z1
      have e2 : sl = #[] := Array.isEmpty_iff.mp z3
      subst e1 e2
      exact ⟨es, m, hl, Option.some.inj h⟩
    · cases h
  · cases h
theorem find_no {z : Str} {P : Params} : ∀ {es : List DictEntry} {ks : List Str}, es.map He.keyOf = keysIn P ks → z ∉ ks → es.find? (·.key.isStr z) = none ∧ es.any (·.refKey) = false
  | [], _, _, _ => ⟨rfl, rfl⟩
  | e :: r, [], h, _ => by cases h
  | e :: r, k :: ks, h, hz => by
    have h1 : He.keyOf e :: r.map He.keyOf = some (k, PyData.keyHash P k) :: keysIn P ks := h
    injection h1 with h2 h3
    obtain ⟨i1, i2⟩ := find_no h3 (fun m => hz (List.mem_cons_of_mem _ m))
    unfold He.keyOf at h2
    split at h2
    · rename_i x t q
      have h4 := (Prod.mk.inj (Option.some.inj h2)).1
      have ne : x ≠ z := fun y => hz (by rw [← y, h4]; exact List.mem_cons_self)
      have f1 : e.key.isStr z = false := by
        rw [q]
        show decide (x = z) = false
        exact decide_eq_false ne
      have f2 : e.refKey = false := by
        unfold DictEntry.refKey
        rw [q]
      exact ⟨by rw [List.find?_cons, f1]; exact i1, by rw [List.any_cons, f2, i2]; rfl⟩
    · cases h2
theorem lookup_mem {z : Str} {v : V} : ∀ {kvs : List (Str × V)}, kvs.lookup z = some v → (z, v) ∈ kvs
  | [], h => by cases h
  | (k, x) :: r, h => by
    by_cases e : z = k
    · subst e
      rw [List.lookup_cons, beq_self_eq_true] at h
      cases h
      exact List.mem_cons_self
    · rw [List.lookup_cons, beq_false_of_ne e] at h
      exact List.mem_cons_of_mem _ (lookup_mem h)
theorem lookup_no {z : Str} : ∀ {kvs : List (Str × V)}, kvs.lookup z = none → z ∉ kvs.map (·.1)
  | [], _, m => by cases m
  | (k, x) :: r, h, m => by
    by_cases e : z = k
    · subst e
      rw [List.lookup_cons, beq_self_eq_true] at h
      cases h
    · rw [List.lookup_cons, beq_false_of_ne e] at h
      rcases List.mem_cons.mp m with y | y
      · exact e y
      · exact lookup_no h y
theorem tabK_of {a : Addr} {dvs : List (Str × Dv)} (h : dicW K a = some (keysIn w.params (dvs.map (·.1)))) (hv : valsB K a dvs = true) : TabK K w a (dvs.map fun q => (q.1, q.2.v K)) := by
  refine ⟨dicW_ok h, fun z v e => ?_, fun z e => ?_⟩
  · obtain ⟨q, hq, e2⟩ := List.mem_map.mp (lookup_mem e)
    obtain ⟨u, h1, h2⟩ := valsB_ok hv hq
    cases e2
    exact ⟨u, h1, h2⟩
  · have hn := lookup_no e
    rw [List.map_map] at hn
    obtain ⟨es, n, hl, he⟩ := dicW_lk h
    obtain ⟨h1, h2⟩ := find_no he hn
    unfold PySem.W.nsIn
    rw [hl]
    simp only [h1, h2, Bool.false_eq_true, if_false]
end
end Ls
-- own part: S25
namespace Ls
open PySem PySem.Spec PyProof.Rows L2 LamX
section
variable {K : PySem.W.Frag} {v : V} {d : PyData} {vs : List V} {ds : List PyData}
instance : NoTb (fd (K := K) v d) := ⟨fun z a q => (z.1 a q).elim⟩
instance : NoTb (fds (K := K) vs ds) := ⟨fun z a q => (z.1 a q).elim⟩
end
end Ls
-- own part: S26
namespace Ls
open PySem PySem.Spec PyProof.Rows L2 LamX
theorem call_sortI {X : Cx} (K : PySem.W.Frag) (hK : X.K = K) : CallR X (.builtin "sorted") (rSortedI K) := hK ▸ cr_sortedI
section
variable {K : PySem.W.Frag} {L : List (As K)} {H : Hp} {a : Addr} {ns : List Int} {Q : VK}
theorem k_sortI (h : Ls.Sep L H) (m : ld a (ns.map .int) ∈ L) (q : ∀ (ns' : List Int) (p : Addr) (H' : Hp), ns'.Perm ns → ns'.Pairwise (· ≤ ·) → Ls.Sep (ld p (ns'.map .int) :: L) H' → Q (.ref p) H') : rSortedI K [.ref a] H Q :=
  ⟨a, ns, rfl, h.sqi m, fun ns' p h1 h2 hp => q ns' p _ h1 h2 (Sep.newImA h hp (ImAll.ints _))⟩
end
end Ls
-- own part: S27
namespace Ls
open PySem PySem.Spec PyProof.Rows L2 LamX PySem.W
section
variable {K : PySem.W.Frag} {L M N : List (As K)} {H H' : Hp} {a l p D : Addr} {xs vs : List V} {ds es : List PyData} {d e : PyData} {v x y z : V} {σ : L2.St} {Q : VK} {n j : Nat}
/-! loops told by all that stands -/
def Lg (Iv : Nat → List (As K) → Prop) (i : Nat) : Hp → Prop := fun H => ∃ L, Iv i L ∧ Ls.Sep L H
theorem it_wk {J : It} {Y : Nat → (V → List (As K) → Prop) → Prop} {B : (Hp → Prop) → V → Hp → Prop} {Qd : Hp → Prop} (Iv : Nat → List (As K) → Prop) (hw : ∀ i L, Iv i L → Wk J L n Y) (h : Ls.Sep L H) (h0 : Iv 0 L)
    (hs : ∀ i L, i < n → Iv i L → Y i fun v M => ∀ H, Ls.Sep (M ++ L) H → B (Lg Iv (i + 1)) v H) (hd : ∀ L H, Iv n L → Ls.Sep L H → Qd H) :
    ∃ W : Nat → Nat → Hp → Prop, (∃ m, W 0 m H) ∧ ∀ i m H, W i m H → (J.stop i H ∧ Qd H) ∨ (J.go i H ∧ ∃ Nx : Hp → Prop, (∀ H', Nx H' → ∃ m', m' < m ∧ W (i + 1) m' H') ∧ ∀ x H', J.yld i H x H' → B Nx x H') := by
  refine ⟨fun i m H => m = n - i ∧ i ≤ n ∧ Lg Iv i H, ⟨n, by simp, Nat.zero_le _, L, h0, h⟩, ?_⟩
  rintro i m H ⟨rfl, hi, L, iv, h⟩
  by_cases hlt : i < n
  · refine .inr ⟨(hw i L iv).go i H hlt h, Lg Iv (i + 1), fun H' p => ⟨n - (i + 1), by omega, rfl, hlt, p⟩, fun x H' y => ?_⟩
    exact (hw i L iv).yl i H x H' (fun v H2 => B (Lg Iv (i + 1)) v H2) hlt h y (hs i L hlt iv)
  · have e : i = n := by omega
    subst e
    exact .inl ⟨(hw i L iv).st H h, hd L H iv h⟩
theorem it_keep {Iv : Nat → List (As K) → Prop} {acc : List PyData} (h : Ls.Sep N H) (t : Dat N y d) (s : Sub N (ld D acc :: L)) (hl : acc.length < sizeLine) (iv : Iv j (ld D (acc ++ [d]) :: L)) : ∃ zs, H D = some (.lst zs) ∧ zs.length < sizeLine ∧ Lg Iv j (upd H D (.lst (zs ++ [y]))) := by
  have g := s.ok h
  obtain ⟨zs, h1, h2⟩ := g.ldm List.mem_cons_self
  exact ⟨zs, h1, by rw [h2.length]; exact hl, _, iv, g.setD (h2.snoc (t.is h))⟩
theorem it_skip {Iv : Nat → List (As K) → Prop} (h : Ls.Sep N H) (s : Sub N L) (iv : Iv j L) : Lg Iv j H := ⟨_, iv, s.ok h⟩
theorem it_keepK {Iv : Nat → List (As K) → Prop} {kvs : List (Key × V)} {k : Str} (h : Ls.Sep N H) (s : Sub N (ob D (.dK kvs) :: L)) (hl : kvs.length < sizeLine) (iv : Iv j (ob D (.dK (putK kvs (.inr k) z)) :: L)) : ∃ kvs k', V.str k = kV k' ∧ H D = some (.dK kvs) ∧ kvs.length < sizeLine ∧ Lg Iv j (upd H D (.dK (putK kvs k' z))) := by
  have g := s.ok h
  exact ⟨kvs, .inr k, rfl, g.obm List.mem_cons_self, hl, _, iv, g.set rfl⟩
theorem k_lc2 {wi wi1 : TI} {g g1 : TG} {tt tt1 : TT} {te : TE} {vs vs1 : List Nat} (h : wi σ H fun J H1 => ∀ D, H1 D = none → ∃ W : Nat → Nat → Hp → Prop, (∃ m, W 0 m (upd H1 D (.lst []))) ∧ ∀ i m H, W i m H →
  (J.stop i H ∧ Q (.ref D) H) ∨ (J.go i H ∧ ∃ Nx : Hp → Prop, (∀ H', Nx H' → ∃ m', m' < m ∧ W (i + 1) m' H') ∧ ∀ x H', J.yld i H x H' → g x (wipe σ vs) H' fun σ2 H2 => wipe σ2 vs = wipe σ vs ∧ tt σ2 H2 fun b H3 =>
    if b = true then wi1 σ2 H3 fun J1 H4 => ∃ W1 : Nat → Nat → Hp → Prop, (∃ m, W1 0 m H4) ∧ ∀ j k H, W1 j k H →
      (J1.stop j H ∧ Nx H) ∨ (J1.go j H ∧ ∃ Nx1 : Hp → Prop, (∀ H', Nx1 H' → ∃ k', k' < k ∧ W1 (j + 1) k' H') ∧ ∀ x H', J1.yld j H x H' → g1 x (wipe σ2 vs1) H' fun σ3 H5 => wipe σ3 vs1 = wipe σ2 vs1 ∧ tt1 σ3 H5 fun b H6 =>
        if b = true then te σ3 H6 fun y H7 => ∃ acc, H7 D = some (.lst acc) ∧ acc.length < sizeLine ∧ Nx1 (upd H7 D (.lst (acc ++ [y]))) else Nx1 H6)
    else Nx H3)) : tLc2 wi g tt wi1 g1 tt1 te vs vs1 σ H Q := h
theorem k_ckw {r : List V → List V → Hp → VK → Prop} {t tk : TA} (h : t σ H fun vs H1 => tk σ H1 fun zs H2 => r vs zs H2 Q) : tCKw r t tk σ H Q := h
theorem all_str (zs : List Str) : (zs.map PyData.str).all isS = true := by
  rw [List.all_eq_true]
  intro d hd
  obtain ⟨z, _, rfl⟩ := List.mem_map.mp hd
  rfl
/-! a target with a star; len(set(..)); max(.., default) -/
theorem k_gtupStar {tg : TGs} {R : L2.St → Hp → Prop} (h : Ls.Sep L H) (m : im (.ref a) (.tuple ds) ∈ L) (hn : n ≤ ds.length) (hl : ds.length ≤ 1000) (q : GvAll (K := K) (ds.take n) fun vs M => ∀ p H', Ls.Sep (ld p (ds.drop n) :: (M ++ L)) H' → tg (vs ++ [.ref p]) σ H' R) : gTupS K n tg (.ref a) σ H R := by
  obtain ⟨a', xs, e, h1, h2⟩ := im_tup (h.imm m)
  cases e
  obtain ⟨M, h3, h4⟩ := q.go (ImAll.take n h2) h
  refine ⟨a, xs, rfl, h1, by rw [h2.length]; exact hn, by rw [h2.length]; exact hl, fun p hp => h3 p _ (Sep.newImA h4 hp ((ImAll.drop n h2)))⟩
theorem Sep.sqs {zs : List Str} (h : Ls.Sep L H) (m : ld a (zs.map .str) ∈ L) : SqL K H a (zs.map V.str) := by
  obtain ⟨xs, h1, h2⟩ := h.ldm m
  cases ims_str h2
  exact sql_of h1
theorem alike_intsL (ns : List Int) : AlikeAll (ns.map .int) := by
  refine ⟨fun x hx y hy => ?_, fun x hx => ?_⟩
  · obtain ⟨i, _, rfl⟩ := List.mem_map.mp hx
    obtain ⟨j, _, rfl⟩ := List.mem_map.mp hy
    rfl
  · obtain ⟨i, _, rfl⟩ := List.mem_map.mp hx
    exact PyData.noConfusion
theorem fold_max (n : Int) : ∀ ns : List Int, (ns.foldl max n ∈ n :: ns) ∧ ∀ k ∈ n :: ns, k ≤ ns.foldl max n := by
  intro ns
  induction ns generalizing n with
  | nil => exact ⟨List.mem_cons_self, fun k hk => by rw [List.mem_singleton.mp hk]; exact Int.le_refl _⟩
  | cons m ns ih =>
    obtain ⟨h1, h2⟩ := ih (max n m)
    rw [List.foldl_cons]
    refine ⟨?_, fun k hk => ?_⟩
    · rcases List.mem_cons.mp h1 with z | z
      · rw [z]
        rcases Int.le_total n m with q | q
        · rw [Int.max_eq_right q]
          exact List.mem_cons_of_mem _ List.mem_cons_self
        · rw [Int.max_eq_left q]
          exact List.mem_cons_self
      · exact List.mem_cons_of_mem _ (List.mem_cons_of_mem _ z)
    · rcases List.mem_cons.mp hk with z | z
      · have := h2 _ List.mem_cons_self
        omega
      · rcases List.mem_cons.mp z with z | z
        · have := h2 _ List.mem_cons_self
          omega
        · exact h2 k (List.mem_cons_of_mem _ z)
theorem k_maxDfI {ns : List Int} (h : Ls.Sep L H) (m : ld a (ns.map .int) ∈ L) (q0 : ns = [] → Q z H) (q : ∀ i, i ∈ ns → (∀ k ∈ ns, k ≤ i) → Q (.int i) H) : rMaxDf K [V.ref a] [z] H Q := by
  obtain ⟨xs, h1, h2⟩ := h.ldm m
  refine ⟨a, xs, _, z, rfl, rfl, sql_of h1, h2, alike_intsL ns, by rw [depth_ints]; exact Nat.zero_le _, fun e => q0 (List.map_eq_nil_iff.mp e), fun y ys v e hv => ?_⟩
  cases ns with
  | nil => cases e
  | cons i ns =>
    rw [List.map_cons] at e
    cases e
    rw [maxD_ints] at hv
    rw [im_int hv]
    obtain ⟨g1, g2⟩ := fold_max i ns
    exact q _ g1 g2
theorem k_maxI {ns : List Int} (h : Ls.Sep L H) (m : ld a (ns.map .int) ∈ L) (h0 : ns ≠ []) (q : ∀ i, i ∈ ns → (∀ k ∈ ns, k ≤ i) → Q (.int i) H) : rMaxU K [V.ref a] H Q :=
  .inr ⟨a, ns, rfl, h.sqi m, List.length_pos_iff.mpr h0, fun i hi hm => q i hi hm⟩
end
end Ls
-- own part: S28
namespace Ls
open PySem PySem.Spec PyProof.Rows L2
/-! ### data of an open form -/
section
variable {K : PySem.W.Frag} {L M : List (As K)} {H : Hp} {Q : VK} {a p : Addr} {v : V} {d : PyData} {ds : List PyData} {i : Int} {z x y u : Str}
theorem k_ixG (h : Sep L H) (m : im (.ref a) (.tuple ds) ∈ L) (e : atI ds i = some d) (q : ∀ v, Sep (im v d :: L) H → Q v H) : rIx K (.ref a) (.int i) H Q := by
  obtain ⟨a', xs, e', h1, h2⟩ := im_tup (h.imm m)
  cases e'
  obtain ⟨v, hv, hd⟩ := atI_all h2 e
  exact k_ixT h1 hv (q v (Sep.im_iff.mpr ⟨hd, h⟩))
theorem k_isiM {T : String} {b : Bool} (h : Sep L H) (m : im v d ∈ L) (e : kitB (tyn d) T = some b) (q : Q (.bl b) H) : rIsi K [v, .ty T] H Q := k_isi (h.imm m).dp rfl e q
theorem im_isRef (h : Sep L H) (m : im v (.tuple ds) ∈ L) : ∃ a, v = .ref a := by
  obtain ⟨a', xs, e', h1, h2⟩ := im_tup (h.imm m)
  exact ⟨a', e'⟩
theorem im_isStr (h : Sep L H) (m : im v (.str z) ∈ L) : v = .str z := by
  cases h.imm m
  rfl
theorem im_isInt (h : Sep L H) (m : im v (.int i) ∈ L) : v = .int i := by
  cases h.imm m
  rfl
theorem flat_strs2 (zs : List Str) : (zs.map V.str).all flatB = true := by
  rw [List.all_eq_true]
  intro v hv
  obtain ⟨s, _, rfl⟩ := List.mem_map.mp hv
  rfl
theorem k_inSt {zs : List Str} (h : Sep L H) (m : im (.ref p) (.tuple (zs.map PyData.str)) ∈ L) (q : Q (.bl (decide (z ∈ zs))) H) : rInU K (.str z) (.ref p) H Q := by
  obtain ⟨a', xs, e', h1, h2⟩ := im_tup (h.imm m)
  cases e'
  cases ims_str h2
  exact .inl ⟨p, _, rfl, .inr h1, rfl, flat_strs zs, by rw [if_neg (by decide), inV_str]; exact q⟩
theorem k_ninSt {zs : List Str} (h : Sep L H) (m : im (.ref p) (.tuple (zs.map PyData.str)) ∈ L) (q : Q (.bl (!decide (z ∈ zs))) H) : rNotInU K (.str z) (.ref p) H Q := by
  obtain ⟨a', xs, e', h1, h2⟩ := im_tup (h.imm m)
  cases e'
  cases ims_str h2
  exact .inl ⟨p, _, rfl, .inr h1, rfl, flat_strs zs, by rw [if_pos rfl, inV_str]; exact q⟩
theorem k_inS2 (h : Sep L H) (m : im (.ref p) (.tuple [.str x, .str y]) ∈ L) (q : Q (.bl (decide (z ∈ [x, y]))) H) : rInU K (.str z) (.ref p) H Q := k_inSt (zs := [x, y]) h m q
theorem k_inS3 (h : Sep L H) (m : im (.ref p) (.tuple [.str x, .str y, .str u]) ∈ L) (q : Q (.bl (decide (z ∈ [x, y, u]))) H) : rInU K (.str z) (.ref p) H Q := k_inSt (zs := [x, y, u]) h m q
theorem k_ninS2 (h : Sep L H) (m : im (.ref p) (.tuple [.str x, .str y]) ∈ L) (q : Q (.bl (!decide (z ∈ [x, y]))) H) : rNotInU K (.str z) (.ref p) H Q := k_ninSt (zs := [x, y]) h m q
theorem k_ninS3 (h : Sep L H) (m : im (.ref p) (.tuple [.str x, .str y, .str u]) ∈ L) (q : Q (.bl (!decide (z ∈ [x, y, u]))) H) : rNotInU K (.str z) (.ref p) H Q := k_ninSt (zs := [x, y, u]) h m q
end
section
variable {K : PySem.W.Frag} {L M : List (As K)} {H : Hp} {Q : VK} {a : Addr} {ds : List PyData} {i : Int} {z : Str}
theorem k_isSS (q : Q (.bl true) H) : rIsi K [.str z, .ty "str"] H Q := k_isi (.str z) rfl kt_str_str q
theorem k_isSI (q : Q (.bl false) H) : rIsi K [.str z, .ty "int"] H Q := k_isi (.str z) rfl kt_str_int q
theorem k_isST (q : Q (.bl false) H) : rIsi K [.str z, .ty "tuple"] H Q := k_isi (.str z) rfl kt_str_tuple q
theorem k_isIS (q : Q (.bl false) H) : rIsi K [.int i, .ty "str"] H Q := k_isi (.int i) rfl kt_int_str q
theorem k_isII (q : Q (.bl true) H) : rIsi K [.int i, .ty "int"] H Q := k_isi (.int i) rfl kt_int_int q
theorem k_isIT (q : Q (.bl false) H) : rIsi K [.int i, .ty "tuple"] H Q := k_isi (.int i) rfl kt_int_tuple q
theorem k_isTS (h : Sep L H) (m : im (.ref a) (.tuple ds) ∈ L) (q : Q (.bl false) H) : rIsi K [.ref a, .ty "str"] H Q := k_isi (h.imm m).dp rfl kt_tuple_str q
theorem k_isTI (h : Sep L H) (m : im (.ref a) (.tuple ds) ∈ L) (q : Q (.bl false) H) : rIsi K [.ref a, .ty "int"] H Q := k_isi (h.imm m).dp rfl kt_tuple_int q
theorem k_isTT (h : Sep L H) (m : im (.ref a) (.tuple ds) ∈ L) (q : Q (.bl true) H) : rIsi K [.ref a, .ty "tuple"] H Q := k_isi (h.imm m).dp rfl kt_tuple_tuple q
end
section
variable {K : PySem.W.Frag} {L : List (As K)} {H : Hp} {Q : VK} {a l : Addr} {ds es : List PyData}
/-- the sum of two tuples of data -/
theorem k_addIA (h : Sep L H) (m : im (.ref a) (.tuple ds) ∈ L) (m2 : im (.ref l) (.tuple es) ∈ L) (hl : ds.length + es.length ≤ sizeLine) (q : ∀ p H', Sep (im (.ref p) (.tuple (ds ++ es)) :: L) H' → Q (.ref p) H') : rAddU K (.ref a) (.ref l) H Q := by
  have i1 := h.imm m
  have i2 := h.imm m2
  obtain ⟨a', xs, e, h1, k1⟩ := im_tup i1
  cases e
  obtain ⟨a', ys, e, h2, k2⟩ := im_tup i2
  cases e
  refine k_addT h1 h2 (by rw [k1.length, k2.length]; exact hl) (fun e => ?_) (fun _ e => ?_) fun p hp => q p _ (Sep.im_iff.mpr ⟨.tup (sqt_of upd_same) ((k1.app k2).mono (Tp.new hp)), h.same (same_new hp)⟩)
  · subst e
    cases k1
    exact q l H (Sep.im_iff.mpr ⟨i2, h⟩)
  · subst e
    cases k2
    exact q a H (Sep.im_iff.mpr ⟨by rw [List.append_nil]; exact i1, h⟩)
end
theorem at00 {α : Type} (x : α) (r : List α) : atI (x :: r) 0 = some x := by
  show atI (x :: r) ((0 : Nat) : Int) = some x
  exact atI_nat rfl
theorem at01 {α : Type} (x y : α) (r : List α) : atI (x :: y :: r) 1 = some y := by
  show atI (x :: y :: r) ((1 : Nat) : Int) = some y
  exact atI_nat rfl
theorem at02 {α : Type} (x y z : α) (r : List α) : atI (x :: y :: z :: r) 2 = some z := by
  show atI (x :: y :: z :: r) ((2 : Nat) : Int) = some z
  exact atI_nat rfl
end Ls
-- own part: U42
namespace Ls
open PySem PySem.Spec PyProof.Rows L2
/-! ### len(set(xs)), xs a tuple of texts -/
section
variable {P : Program} {w : World} {A : Around} {E : Value → Shared → Prop} {s : Shared}
theorem set_strsT {l : Addr} {xs : Array Value} (ks : List Str) {Q : Value → Shared → Prop} (nh : A.handled = none) (li : s.heap.IsTuple l xs) (ia : StrsAre xs.toList ks) (few : ks.length + 1 < scanBound)
    (k : ∀ g tk, g.SetOf (strKind P w) s.heap.objs.size (fun z => ks.any (· == z)) (dcnt ks ks.length) → (∀ b o, s.heap.get? b = some o → g.get? b = some o) → Q (.ref s.heap.objs.size) { s with heap := g, toks := tk }) :
    wpAny (model P w) A (call (.type "set") [.ref l]) Q E s := by
  have lk : xs.size = ks.length := (Array.length_toList (xs := xs)).symm.trans (StrsAre.len_eq ia)
  obtain ⟨c0, t0, mro0⟩ := F.called_set.mro
  have made0 := F.called_set.made
  have sub0 := F.called_set.sub
  have nt0 := F.called_set.notType
  have cc0 := F.called_set.canCreate
  have tc0 := F.typeCall_set_1 (.ref l)
  refine wpAny_call (codeAny_of_tree (show wpAny _ _ (callAny (.type "set") _) _ _ _ from wpAny_pure ⟨Code.quiet_builtin _ (by decide +kernel), codeAny_builtin F.entry_type_call ?_⟩))
  rw [Around.under_plain (weight_type_call_type "set" [.ref l] []) rfl]
  repeat any_goals first | assumption | wp_step
  refine codeAny_mono (code_set_led1 (E := E) (.ref l) (Q₁ := fun v u => v = .ref s.heap.objs.size ∧ u = { s with heap := s.heap.push (empt w) }) ⟨rfl, rfl⟩) fun res u hu => ?_
  cases res with
  | error e => exact hu
  | ok fin =>
    cases fin with
    | next => exact hu.elim
    | brk => exact hu.elim
    | cont => exact hu.elim
    | ret v =>
      obtain ⟨rfl, rfl⟩ := hu
      have at0 : (s.heap.push (empt w)).get? s.heap.objs.size = some (empt w) := Heap.get?_push_size _ rfl
      have ty0 : Shared.TypeIs { s with heap := s.heap.push (empt w) } (.ref s.heap.objs.size) "set" := ⟨_, at0, rfl⟩
      have il0 := F.called_set.init.lookup
      have ib0 := F.called_set.init.bind (.ref s.heap.objs.size)
      repeat any_goals first | assumption | wp_step
      refine codeAny_mono (codeAny_call_builtin (R := wants (fun v u => v = .none ∧ ∃ g tk, u = { s with heap := g, toks := tk } ∧ g.SetOf (strKind P w) s.heap.objs.size (fun z => ks.any (· == z)) (dcnt ks ks.length) ∧ ∀ b o, s.heap.get? b = some o → g.get? b = some o) E)
        F.called_set.init.plain F.entry_set_init (check_set_init_1 ty0 ?_)) fun res u hu => ?_
      · obtain ⟨⟨oc, od, odat, osl⟩, ol, ocl, nl, odt⟩ := li
        simp only at ocl odt
        subst ocl odt
        have ol1 : (s.heap.push (empt w)).get? l = some { cls := .type "tuple", dict := od, data := .seq xs nl, slots := osl } := Heap.get?_push_of_some _ ol
        have li1 : (s.heap.push (empt w)).IsTuple l xs := ⟨_, ol1, rfl, nl, rfl⟩
        have sl0 := F.sub_tuple_set
        have sf0 := F.sub_tuple_frozenset
        have nd0 : (Value.type "tuple" == Value.type "dict") = false := by decide
        unfold Builtin.«set.__init__» noKeywords Builtin.Frozenset.updateFrom
        generalize hit : pyIter = IT
        wp_walk
        subst hit
        refine wpAny_pyIter_tuple li1 (wpAny_bind (wpAny_runValue ?_))
        have lt0 : l < s.heap.objs.size := Heap.lt_size ol
        have sz1 : (s.heap.push (empt w)).objs.size = s.heap.objs.size + 1 := Heap.size_push ..
        have nl1 : l ≠ (s.heap.push (empt w)).objs.size := by rw [sz1]; exact Nat.ne_of_lt (Nat.lt_succ_of_lt lt0)
        have out1 : s.heap.objs.size ∉ [(s.heap.push (empt w)).objs.size, l] := by
          rw [sz1]
          intro m
          rcases List.mem_cons.mp m with m | m
          · exact Nat.ne_of_lt (Nat.lt_succ_self _) m
          · exact Nat.ne_of_gt lt0 (List.mem_singleton.mp m)
        refine upd_strs ((Walks.tuple (by simp [nh]) _ l nl1 xs).toS) s.heap.objs.size out1 ks (by omega) (fun i v hv => strs_get ia i v (by rw [Array.getElem?_toList]; exact hv)) lk (xs.size - 0) 0 _ (by omega) (Nat.zero_le _)
          ⟨⟨_, Heap.get?_push_size _ rfl, rfl, rfl⟩, li1.push _⟩ (SetOf_congr ((setObjOf_fresh (knd := strKind P w) (!w.params.followText "set-order")).setOf (Heap.get?_push_of_some _ at0) (by unfold scanBound; omega)) (fun _ => rfl) rfl) ?_
        rintro ⟨g, g2, d2, tk, o2⟩ mv hS
        have e1 : g2 = s.gens := mv.gens
        have e2 : d2 = s.drawn := mv.drawn
        have e3 : o2 = s.os := mv.os
        subst e1 e2 e3
        rw [lk, List.take_length] at hS
        refine wpAny_pure (wpAny_pure ⟨rfl, g, tk, rfl, hS, fun b o hb => ?_⟩)
        have ltb := Heap.lt_size hb
        refine mv.heap b o (fun m => ?_) (Heap.get?_push_of_some _ (Heap.get?_push_of_some _ hb))
        rcases List.mem_cons.mp m with m | m
        · exact Nat.ne_of_lt ltb m
        · have m := List.mem_singleton.mp m
          rw [m, sz1] at ltb
          exact Nat.not_lt.mpr (Nat.le_succ _) ltb
      · cases res with
        | error e => exact hu
        | ok fin =>
          cases fin with
          | next => exact hu.elim
          | brk => exact hu.elim
          | cont => exact hu.elim
          | ret v =>
            obtain ⟨rfl, g, tk, rfl, hS, hk⟩ := hu
            repeat any_goals first | assumption | wp_step
            exact k _ _ hS hk
end
def tLenSetT (K : PySem.W.Frag) (ta : TE) : TE := fun σ H Q => ta σ H fun x H1 => ∃ (l : Addr) (xs : List Str), x = .ref l ∧ SqT K H1 l (xs.map V.str) ∧ xs.length < 60 ∧ Q (.int (dcnt xs xs.length)) H1
theorem pe_lenSetT {X : Cx} {a : Expr} {ta : TE} {p p2 q pos : Pos} (K : PySem.W.Frag) (hK : X.K = K) (hg : Gl X "len") (hm : X.mg "len" = none) (hg2 : Gl X "set") (hm2 : X.mg "set" = none) (ha : PE X a ta) (hc : X.calm = true := by rfl)
    (na : starEach [a] X.env = (false, eval a X.env) :: starEach [] X.env := by rfl) : PE X (.Call (.Name "len" p) [.Call (.Name "set" p2) [a] [] q] [] pos) (tLenSetT K ta) := by
  subst hK
  refine ⟨fun pins s σ H Q I h => ?_⟩
  refine Call_ (ld_blt I hg hm boot_len (callWith_builtin1 (args_cons ?_ rfl) rfl rfl))
  refine Call_ (ld_blt I hg2 hm2 PyProof.Rows.boot_set ?_)
  refine callWith_type1 (args_cons (thn (ha.run pins s σ H _ I h) fun v s1 ⟨x, H1, I1, r1, q1⟩ => args_nil ?_) na) na rfl
  obtain ⟨l, xs, rfl, hq, h60, q1⟩ := q1
  cases r1
  obtain ⟨its, r, pl, hz⟩ := I1.tuple hq
  refine set_strsT xs (I1.ok.hd hc) pl (by simpa using r.strs) (by unfold scanBound; omega) fun g tk hS hk => ?_
  refine args_nil ?_
  obtain ⟨o, es, ep, t, ho, hex, hd, _, _, _, hf, hn⟩ := hS
  have hle := dcnt_le xs xs.length
  have I2 : Inv X pins σ H1 { s1 with heap := g, toks := tk } := I1.kept fun b o e => hk b o e
  exact call_len_set ho hex hd hf (by rw [hn] <;> omega) ⟨.int (dcnt xs xs.length : Nat), H1, I2.tok _, ⟨_, by rw [hn]⟩, q1⟩
theorem k_lensetT {K : PySem.W.Frag} {σ : L2.St} {H : Hp} {Q : VK} {ta : TE} (h : ta σ H fun x H1 => ∃ (l : Addr) (xs : List Str), x = .ref l ∧ SqT K H1 l (xs.map V.str) ∧ xs.length < 60 ∧ Q (.int (dcnt xs xs.length)) H1) : tLenSetT K ta σ H Q := h
end Ls
-- own part: U41
namespace PySem.W
open PySem PySem.Calls PyProof.Rows Builtin
section
variable {prog : Program} {w : World} {A : Around} {E : Value → Shared → Prop} {s : Shared} {K : Frag} {x C f : Addr} {ox : Obj} {od : Option Obj}
def BoB (Q : Bool → Shared → Prop) (v : Value) (s' : Shared) : Prop := ∃ n t, v = .int n t ∧ Q (n != 0) s'
theorem boL_truthy {Q : Bool → Shared → Prop} (X : K.In s.heap) (I : InstAt s.heap x ox C od) (hb : findIn K (.ref C) "__bool__" = some none) (hs : findIn K (.ref C) "__len__" = some (some (.ref f))) (hf : isFn K (.ref f) = true)
    (h : wpAny (model prog w) A.in1 (call (.ref f) [.ref x]) (LenBack (BoB Q)) E s) : wpAny (model prog w) A (truthy (.ref x)) Q E s := by
  unfold truthy
  refine wpAny_bind (m := callSpecial? (.ref x) (Str.ofString "__bool__")) (wpAny_bind (wpAny_bind (I.type.here ((looks_findIn X hb).here (wpAny_pure ?_)))))
  refine wpAny_bind (wpAny_bind (I.type.here ((looks_findIn X hs).here ?_)))
  show wpAny _ _ (if (some (Value.ref f)).isNone = true then _ else _) _ _ _
  rw [if_neg (by simp)]
  refine wpAny_bind (wpAny_mono (Q := BoB Q) (wpAny_runValue (codeAny_builtin entry_len ?_)) (fun r s' hr => ?_) fun _ _ y => y)
  · rw [Around.under_plainId plain_len _]
    unfold Builtin.«len»
    refine wpAny_bind (m := oneArg "len" _) (wpAny_pure ?_)
    refine wpAny_bind (m := callSpecial? (.ref x) (Str.ofString "__len__")) (special_fn X I hs (beq_iff_eq.mp hf) (wpAny_mono h (fun r s' hr => ?_) fun _ _ y => y))
    cases r <;> first | exact hr.elim | skip
    rename_i n u
    obtain ⟨⟨h0, h1⟩, hq⟩ := hr
    refine wpAny_bind (wpAny_holding (wpAny_pure ?_))
    refine wpAny_bind (wpAny_letGo ?_)
    show wpAny _ _ (if n < 0 then _ else _) _ _ _
    rw [if_neg (by omega)]
    show wpAny _ _ (if n ≥ 2 ^ 63 then _ else _) _ _ _
    rw [if_neg (by omega)]
    obtain ⟨n2, t2, e, hq⟩ := hq
    cases e
    exact wpAny_bind (wpAny_mkInt (wpAny_pure ⟨_, _, rfl, hq⟩))
  · obtain ⟨n, t, rfl, hq⟩ := hr
    exact wpAny_pure hq
theorem boL_call {Q : Value → Shared → Prop} (X : K.In s.heap) (I : InstAt s.heap x ox C od) (hb : findIn K (.ref C) "__bool__" = some none) (hs : findIn K (.ref C) "__len__" = some (some (.ref f))) (hf : isFn K (.ref f) = true)
    (h : wpAny (model prog w) A.in1.in1.in1 (call (.ref f) [.ref x]) (LenBack (BoB fun b s' => Q (.bool b) s')) E s) : wpAny (model prog w) A (call (.type "bool") [.ref x]) Q E s := by
  refine callType_codes (T := "bool") (Bi := Builtin.«object.__init__») (Q₁ := fun r s₁ => ∃ b, r = .bool b ∧ Q r s₁) PySem.F.called_bool (PySem.F.typeCall_bool_1 _) PySem.F.entry_object_init ?_ ?_
  · refine codeAny_of_tree ?_
    show wpAny _ A.in1.in1 (do checkBuiltinCall "bool.__new__" ⟨[.type "bool", .ref x], []⟩; again (.builtin "bool.__new__" ⟨[.type "bool", .ref x], []⟩)) _ _ s
    refine wpAny_bind (wpAny_of_eq (PySem.F.newCall_bool_1 _) (wpAny_pure ⟨plainId_quiet (by decide +kernel) _, codeAny_builtin PySem.F.entry_bool_new ?_⟩))
    rw [Around.under_plainId (by decide +kernel) _]
    have e : Builtin.«bool.__new__» ⟨[.type "bool", .ref x], []⟩ = (truthy (.ref x) >>= fun b => ret (.bool b)) := by
      unfold Builtin.«bool.__new__»
      show (pure true >>= fun _ => _) = _
      simp only [pure_bind, PySem.F.conv_sub_bool, Bool.not_true, Bool.false_eq_true, if_false]
      rfl
    rw [e]
    exact wpAny_bind (wpAny_mono (boL_truthy X I hb hs hf (Q := fun b s' => Q (.bool b) s') (wpAny_mono h (fun r s₁ hr => hr) fun _ _ y => y)) (fun b s' q => wpAny_pure ⟨b, rfl, q⟩) fun _ _ y => y)
  · rintro obj s₁ ⟨b, rfl, hq⟩
    exact ⟨typeIs_bool _ _, PySem.F.args_object_init_2 _ _, object_init_meets PySem.F.called_bool.init.lookup PySem.F.called_bool.made (by decide) prog w A.in1 _ s₁ ⟨typeIs_bool _ _, rfl, hq⟩⟩
end
end PySem.W
namespace Ls
open PySem PySem.Spec PyProof.Rows L2
/-! ### bool(x) of an own class that has a length and no __bool__ -/
def NoBool (K : PySem.W.Frag) (C : Addr) : Prop := PySem.W.findIn K (.ref C) "__bool__" = some none
section
variable {X : Cx} {CX : CXT} {n : Nat} {C f : Addr} {fd : FuncData} {ps : List Str} {sp : Sp} {E : XK} {K : PySem.W.Frag}
def rBoolC (C : Addr) (sp : Sp) (E : XK) : List V → Hp → VK → Prop := fun xs H Q => ∃ a dx fs, xs = [.ref a] ∧ H a = some (.ins C dx fs) ∧ sp [.ref a] H (fun v H' => ∃ i : Int, v = .int i ∧ 0 ≤ i ∧ i < 2 ^ 63 ∧ Q (.bl (i != 0)) H') E
theorem call_boolC (nb : NoBool X.K C) (hm : Meth X.K C "__len__" f) (F : FnOk X.prog X.w X.K X.mg X.base CX n f fd ps sp) (hr : Room (n + 3) X.A) (hb : L2.Binds X.K fd ps []) (hx : Passes CX X E) : CallR X (.type "bool") (rBoolC C sp E) := by
  intro pins s σ H xs us Q I r h
  obtain ⟨a, dx, fs, rfl, ha, hsp⟩ := h
  obtain ⟨u, rfl, ru⟩ := vals1 r
  obtain rfl : u = Value.ref a := ru
  obtain ⟨mA, J, _⟩ := ins_get I.hok ha
  obtain ⟨od, J, _⟩ := J.look
  obtain ⟨m, hF⟩ := I.fr
  have sb : L2.Sub X n X.A.in1.in1.in1 := ⟨hr.in1.in1.in1, rfl⟩
  refine PySem.W.boL_call (I.ok.mod.kin.keeps hF.keep) J nb hm.at_ hm.fn ?_
  have e0 : Env0 X.prog X.w X.K X.mg X.base X.A.in1.in1.in1 X.stack s H := by
    have e := I.env0
    exact ⟨by rw [sb.fr]; exact e.frames, e.mod, e.bs, e.bsz, e.funs, e.frf, e.hok, e.bare⟩
  have hl := F.len _ _ _ _ hsp
  have r2 : Vals [V.ref a] [Value.ref a] := .cons rfl .nil
  refine wpAny_call (codeAny_mono (F.run X.A.in1.in1.in1 X.stack s H ⟨[.ref a], []⟩ [.ref a] [.ref a] _ E sb.room e0 (by
    have := hb s [.ref a] I.kIn (by simpa using hl)
    simpa using this) r2 hsp) fun r s' hq => ?_)
  cases r with
  | error e => exact hx pins σ H s e s' I hq
  | ok fl =>
    cases fl with
    | ret w =>
      obtain ⟨z, H', I', rz, i, ez, h0, h1, q⟩ := I.after hq
      subst ez
      obtain ⟨t, rfl⟩ := rz
      exact ⟨⟨h0, h1⟩, _, _, rfl, .bl (i != 0), H', I'.tok _, rfl, q⟩
    | next => exact False.elim hq
    | brk => exact False.elim hq
    | cont => exact False.elim hq
end
section
variable {K : PySem.W.Frag} {L : List (As K)} {H : Hp} {Q : VK} {a C : Addr} {sp : Sp} {E : XK} {fs : List (Str × V)}
theorem k_boolC (h : Sep L H) (m : inst a C fs ∈ L) (q : sp [.ref a] H (fun v H' => ∃ i : Int, v = .int i ∧ 0 ≤ i ∧ i < 2 ^ 63 ∧ Q (.bl (i != 0)) H') E) : rBoolC C sp E [.ref a] H Q := by
  obtain ⟨dx, hx⟩ := h.insm m
  exact ⟨a, dx, fs, rfl, hx, q⟩
end
end Ls
-- own part: env
namespace Lw
open PySem PySem.Spec PyProof.Rows L2 Ls
structure Env (K : PySem.W.Frag) (mg : Str → Option Value) (w : World) where
  C_Tally : Addr
  g_Tally : mg "Tally" = some (.ref C_Tally)
  cl_Tally : Cls K C_Tally
  na_Tally_test : NoAttr K C_Tally "test"
  na_Tally_keys_told : NoAttr K C_Tally "keys_told"
  na_Tally_largest : NoAttr K C_Tally "largest"
  na_Tally_sums : NoAttr K C_Tally "sums"
  na_Tally_away : NoAttr K C_Tally "away"
  a_law : Addr
  fd_law : FuncData
  F_law : FunD K "law" "law" (defArgs s_law) (defBody s_law) (defScope s_law) [] [] a_law fd_law
  g_law : mg "law" = some (.ref a_law)
  a__law_begin : Addr
  fd__law_begin : FuncData
  F__law_begin : FunD K "_law_begin" "_law_begin" (defArgs s__law_begin) (defBody s__law_begin) (defScope s__law_begin) [] [] a__law_begin fd__law_begin
  g__law_begin : mg "_law_begin" = some (.ref a__law_begin)
  a__law_words : Addr
  fd__law_words : FuncData
  F__law_words : FunD K "_law_words" "_law_words" (defArgs s__law_words) (defBody s__law_words) (defScope s__law_words) [] [] a__law_words fd__law_words
  g__law_words : mg "_law_words" = some (.ref a__law_words)
  a__law_test : Addr
  fd__law_test : FuncData
  F__law_test : FunD K "_law_test" "_law_test" (defArgs s__law_test) (defBody s__law_test) (defScope s__law_test) [] [] a__law_test fd__law_test
  g__law_test : mg "_law_test" = some (.ref a__law_test)
  a__law_of : Addr
  fd__law_of : FuncData
  F__law_of : FunD K "_law_of" "_law_of" (defArgs s__law_of) (defBody s__law_of) (defScope s__law_of) [] [] a__law_of fd__law_of
  g__law_of : mg "_law_of" = some (.ref a__law_of)
  a__law_ask : Addr
  fd__law_ask : FuncData
  F__law_ask : FunD K "_law_ask" "_law_ask" (defArgs s__law_ask) (defBody s__law_ask) (defScope s__law_ask) [] [] a__law_ask fd__law_ask
  g__law_ask : mg "_law_ask" = some (.ref a__law_ask)
  a__law_pick : Addr
  fd__law_pick : FuncData
  F__law_pick : FunD K "_law_pick" "_law_pick" (defArgs s__law_pick) (defBody s__law_pick) (defScope s__law_pick) [] [] a__law_pick fd__law_pick
  g__law_pick : mg "_law_pick" = some (.ref a__law_pick)
  a__law_bent_test : Addr
  fd__law_bent_test : FuncData
  F__law_bent_test : FunD K "_law_bent_test" "_law_bent_test" (defArgs s__law_bent_test) (defBody s__law_bent_test) (defScope s__law_bent_test) [] [] a__law_bent_test fd__law_bent_test
  g__law_bent_test : mg "_law_bent_test" = some (.ref a__law_bent_test)
  a__law_test_ok : Addr
  fd__law_test_ok : FuncData
  F__law_test_ok : FunD K "_law_test_ok" "_law_test_ok" (defArgs s__law_test_ok) (defBody s__law_test_ok) (defScope s__law_test_ok) [] [] a__law_test_ok fd__law_test_ok
  g__law_test_ok : mg "_law_test_ok" = some (.ref a__law_test_ok)
  a__law_same : Addr
  fd__law_same : FuncData
  F__law_same : FunD K "_law_same" "_law_same" (defArgs s__law_same) (defBody s__law_same) (defScope s__law_same) [] [] a__law_same fd__law_same
  g__law_same : mg "_law_same" = some (.ref a__law_same)
  a__law_far : Addr
  fd__law_far : FuncData
  F__law_far : FunD K "_law_far" "_law_far" (defArgs s__law_far) (defBody s__law_far) (defScope s__law_far) [] [] a__law_far fd__law_far
  g__law_far : mg "_law_far" = some (.ref a__law_far)
  a_Tally___init__ : Addr
  fd_Tally___init__ : FuncData
  F_Tally___init__ : FunD K "__init__" "Tally.__init__" (defArgs s_Tally___init__) (defBody s_Tally___init__) (defScope s_Tally___init__) [] [("most", .int 16)] a_Tally___init__ fd_Tally___init__
  mk_Tally : Mk K C_Tally a_Tally___init__
  a_Tally_table : Addr
  fd_Tally_table : FuncData
  F_Tally_table : FunD K "table" "Tally.table" (defArgs s_Tally_table) (defBody s_Tally_table) (defScope s_Tally_table) [] [] a_Tally_table fd_Tally_table
  m_Tally_table : Meth K C_Tally "table" a_Tally_table
  a_Tally_dropped : Addr
  fd_Tally_dropped : FuncData
  F_Tally_dropped : FunD K "dropped" "Tally.dropped" (defArgs s_Tally_dropped) (defBody s_Tally_dropped) (defScope s_Tally_dropped) [] [] a_Tally_dropped fd_Tally_dropped
  m_Tally_dropped : Meth K C_Tally "dropped" a_Tally_dropped
  a__law_odd_name : Addr
  fd__law_odd_name : FuncData
  F__law_odd_name : FunD K "_law_odd_name" "_law_odd_name" (defArgs s__law_odd_name) (defBody s__law_odd_name) (defScope s__law_odd_name) [] [] a__law_odd_name fd__law_odd_name
  g__law_odd_name : mg "_law_odd_name" = some (.ref a__law_odd_name)
  a__law_is_name : Addr
  fd__law_is_name : FuncData
  F__law_is_name : FunD K "_law_is_name" "_law_is_name" (defArgs s__law_is_name) (defBody s__law_is_name) (defScope s__law_is_name) [] [] a__law_is_name fd__law_is_name
  g__law_is_name : mg "_law_is_name" = some (.ref a__law_is_name)
  a_Tally___len__ : Addr
  fd_Tally___len__ : FuncData
  F_Tally___len__ : FunD K "__len__" "Tally.__len__" (defArgs s_Tally___len__) (defBody s_Tally___len__) (defScope s_Tally___len__) [] [] a_Tally___len__ fd_Tally___len__
  m_Tally___len__ : Meth K C_Tally "__len__" a_Tally___len__
  a__law_word : Addr
  fd__law_word : FuncData
  F__law_word : FunD K "_law_word" "_law_word" (defArgs s__law_word) (defBody s__law_word) (defScope s__law_word) [] [] a__law_word fd__law_word
  g__law_word : mg "_law_word" = some (.ref a__law_word)
  a__law_tree : Addr
  fd__law_tree : FuncData
  F__law_tree : FunD K "_law_tree" "_law_tree" (defArgs s__law_tree) (defBody s__law_tree) (defScope s__law_tree) [] [] a__law_tree fd__law_tree
  g__law_tree : mg "_law_tree" = some (.ref a__law_tree)
  a__law_parts : Addr
  fd__law_parts : FuncData
  F__law_parts : FunD K "_law_parts" "_law_parts" (defArgs s__law_parts) (defBody s__law_parts) (defScope s__law_parts) [] [] a__law_parts fd__law_parts
  g__law_parts : mg "_law_parts" = some (.ref a__law_parts)
  a__law_leaf : Addr
  fd__law_leaf : FuncData
  F__law_leaf : FunD K "_law_leaf" "_law_leaf" (defArgs s__law_leaf) (defBody s__law_leaf) (defScope s__law_leaf) [] [] a__law_leaf fd__law_leaf
  g__law_leaf : mg "_law_leaf" = some (.ref a__law_leaf)
  a__law_shape_ok : Addr
  fd__law_shape_ok : FuncData
  F__law_shape_ok : FunD K "_law_shape_ok" "_law_shape_ok" (defArgs s__law_shape_ok) (defBody s__law_shape_ok) (defScope s__law_shape_ok) [] [] a__law_shape_ok fd__law_shape_ok
  g__law_shape_ok : mg "_law_shape_ok" = some (.ref a__law_shape_ok)
  a__law_deep : Addr
  fd__law_deep : FuncData
  F__law_deep : FunD K "_law_deep" "_law_deep" (defArgs s__law_deep) (defBody s__law_deep) (defScope s__law_deep) [] [] a__law_deep fd__law_deep
  g__law_deep : mg "_law_deep" = some (.ref a__law_deep)
  a_look_test : Addr
  fd_look_test : FuncData
  F_look_test : FunD K "look_test" "look_test" (defArgs s_look_test) (defBody s_look_test) (defScope s_look_test) [] [] a_look_test fd_look_test
  g_look_test : mg "look_test" = some (.ref a_look_test)
  a_is_name : Addr
  fd_is_name : FuncData
  F_is_name : FunD K "is_name" "is_name" (defArgs s_is_name) (defBody s_is_name) (defScope s_is_name) [] [] a_is_name fd_is_name
  g_is_name : mg "is_name" = some (.ref a_is_name)
  a__law_number : Addr
  fd__law_number : FuncData
  F__law_number : FunD K "_law_number" "_law_number" (defArgs s__law_number) (defBody s__law_number) (defScope s__law_number) [] [] a__law_number fd__law_number
  g__law_number : mg "_law_number" = some (.ref a__law_number)
  a__law_leaf_ok : Addr
  fd__law_leaf_ok : FuncData
  F__law_leaf_ok : FunD K "_law_leaf_ok" "_law_leaf_ok" (defArgs s__law_leaf_ok) (defBody s__law_leaf_ok) (defScope s__law_leaf_ok) [] [] a__law_leaf_ok fd__law_leaf_ok
  g__law_leaf_ok : mg "_law_leaf_ok" = some (.ref a__law_leaf_ok)
  a_is_test : Addr
  fd_is_test : FuncData
  F_is_test : FunD K "is_test" "is_test" (defArgs s_is_test) (defBody s_is_test) (defScope s_is_test) [] [] a_is_test fd_is_test
  g_is_test : mg "is_test" = some (.ref a_is_test)
  a_parts_of : Addr
  fd_parts_of : FuncData
  F_parts_of : FunD K "parts_of" "parts_of" (defArgs s_parts_of) (defBody s_parts_of) (defScope s_parts_of) [] [] a_parts_of fd_parts_of
  g_parts_of : mg "parts_of" = some (.ref a_parts_of)
  a_is_leaf : Addr
  fd_is_leaf : FuncData
  F_is_leaf : FunD K "is_leaf" "is_leaf" (defArgs s_is_leaf) (defBody s_is_leaf) (defScope s_is_leaf) [] [] a_is_leaf fd_is_leaf
  g_is_leaf : mg "is_leaf" = some (.ref a_is_leaf)
  fi_ScribeError : Addr
  fdi_ScribeError : FuncData
  FI_ScribeError : FunD K "__init__" "ScribeError.__init__" (defArgs s_ScribeError___init__) (defBody s_ScribeError___init__) (defScope s_ScribeError___init__) [] [] fi_ScribeError fdi_ScribeError
  fi_BadTest : Addr
  fdi_BadTest : FuncData
  FI_BadTest : FunD K "__init__" "BadTest.__init__" (defArgs s_BadTest___init__) (defBody s_BadTest___init__) (defScope s_BadTest___init__) [] [] fi_BadTest fdi_BadTest
  fi_BadKeys : Addr
  fdi_BadKeys : FuncData
  FI_BadKeys : FunD K "__init__" "BadKeys.__init__" (defArgs s_BadKeys___init__) (defBody s_BadKeys___init__) (defScope s_BadKeys___init__) [] [] fi_BadKeys fdi_BadKeys
  fi_BadSize : Addr
  fdi_BadSize : FuncData
  FI_BadSize : FunD K "__init__" "BadSize.__init__" (defArgs s_BadSize___init__) (defBody s_BadSize___init__) (defScope s_BadSize___init__) [] [] fi_BadSize fdi_BadSize
  C_ScribeError : Addr
  g_ScribeError : mg "ScribeError" = some (.ref C_ScribeError)
  C_BadTest : Addr
  g_BadTest : mg "BadTest" = some (.ref C_BadTest)
  C_BadKeys : Addr
  g_BadKeys : mg "BadKeys" = some (.ref C_BadKeys)
  C_BadSize : Addr
  g_BadSize : mg "BadSize" = some (.ref C_BadSize)
  C_BadValue : Addr
  g_BadValue : mg "BadValue" = some (.ref C_BadValue)
  C_Missing : Addr
  g_Missing : mg "Missing" = some (.ref C_Missing)
  r_ScribeError : ClX.CRead K C_ScribeError (.type "type")
  v_ScribeError : ClX.CVal K C_ScribeError (.type "type") "__init__" (.ref fi_ScribeError) (.ref fi_ScribeError)
  o_BadTest : OexC K C_BadTest
  i_BadTest : PySem.W.findIn K (.ref C_BadTest) "__init__" = some (some (.ref fi_BadTest))
  t_BadTest : PySem.W.typeIn K (.ref fi_BadTest) = some (.type "function")
  w_BadTest : PySem.W.findIn K (.ref C_BadTest) "word" = some none
  x_BadTest : XfC K C_BadTest
  e_BadTest_BadValue : PySem.W.exmOne K (.ref C_BadTest) (.ref C_BadValue) = some false
  e_BadTest_ScribeError : PySem.W.exmOne K (.ref C_BadTest) (.ref C_ScribeError) = some true
  e_BadTest_Missing : PySem.W.exmOne K (.ref C_BadTest) (.ref C_Missing) = some false
  o_BadKeys : OexC K C_BadKeys
  i_BadKeys : PySem.W.findIn K (.ref C_BadKeys) "__init__" = some (some (.ref fi_BadKeys))
  t_BadKeys : PySem.W.typeIn K (.ref fi_BadKeys) = some (.type "function")
  w_BadKeys : PySem.W.findIn K (.ref C_BadKeys) "word" = some none
  x_BadKeys : XfC K C_BadKeys
  e_BadKeys_BadValue : PySem.W.exmOne K (.ref C_BadKeys) (.ref C_BadValue) = some false
  e_BadKeys_ScribeError : PySem.W.exmOne K (.ref C_BadKeys) (.ref C_ScribeError) = some true
  e_BadKeys_Missing : PySem.W.exmOne K (.ref C_BadKeys) (.ref C_Missing) = some false
  o_BadSize : OexC K C_BadSize
  i_BadSize : PySem.W.findIn K (.ref C_BadSize) "__init__" = some (some (.ref fi_BadSize))
  t_BadSize : PySem.W.typeIn K (.ref fi_BadSize) = some (.type "function")
  w_BadSize : PySem.W.findIn K (.ref C_BadSize) "word" = some none
  x_BadSize : XfC K C_BadSize
  e_BadSize_BadValue : PySem.W.exmOne K (.ref C_BadSize) (.ref C_BadValue) = some false
  e_BadSize_ScribeError : PySem.W.exmOne K (.ref C_BadSize) (.ref C_ScribeError) = some true
  e_BadSize_Missing : PySem.W.exmOne K (.ref C_BadSize) (.ref C_Missing) = some false
  nb_Tally : PySem.W.findIn K (.ref C_Tally) "__bool__" = some none
  vei : PySem.W.findCls K (.type "ValueError") (.type "type") "__init__" = some (.val (.builtin "ValueError.__init__"))
  n_ValueError : mg "ValueError" = none
  n_range : mg "range" = none
  n_len : mg "len" = none
  n_bool : mg "bool" = none
  n_all : mg "all" = none
  n_tuple : mg "tuple" = none
  n_set : mg "set" = none
  n_list : mg "list" = none
  n_str : mg "str" = none
  n_isinstance : mg "isinstance" = none
  n_int : mg "int" = none
  n_sorted : mg "sorted" = none
  n_sum : mg "sum" = none
  n_max : mg "max" = none
  c_MOST_KEYS : ∃ u, mg "MOST_KEYS" = some u ∧ RelV (.int 16) u
  c_MOST_FIELDS : ∃ u, mg "MOST_FIELDS" = some u ∧ RelV (.int 4) u
  c_LARGEST : ∃ u, mg "LARGEST" = some u ∧ RelV (.int 64) u
  c_LONGEST : ∃ u, mg "LONGEST" = some u ∧ RelV (.int 8) u
  c_LETTERS : ∃ u, mg "LETTERS" = some u ∧ RelV (.str "abcdefghijklmnopqrstuvwxyz") u
  c_MOST_PARTS : ∃ u, mg "MOST_PARTS" = some u ∧ RelV (.int 15) u
  c_DEEPEST : ∃ u, mg "DEEPEST" = some u ∧ RelV (.int 5) u
  D_WITHIN : Addr
  g_WITHIN : mg "WITHIN" = some (.ref D_WITHIN)
  t_WITHIN : TabK K w D_WITHIN [("not", .int 1), ("and", .int 2), ("or", .int 2)]
  c_LIMIT : ∃ u, mg "LIMIT" = some u ∧ RelV (.int 999999) u
section
variable {K : PySem.W.Frag} {mg : Str → Option Value} {w : World}
theorem bI_ScribeError (E : Env K mg w) : Binds K E.fdi_ScribeError ["self", "word"] [] := E.FI_ScribeError.bindsN fun _ _ _ _ _ _ us hl => match us, hl with | [_, _], _ => rfl
theorem bI_BadTest (E : Env K mg w) : Binds K E.fdi_BadTest ["self"] [] := E.FI_BadTest.bindsN fun _ _ _ _ _ _ us hl => match us, hl with | [_], _ => rfl
theorem bI_BadKeys (E : Env K mg w) : Binds K E.fdi_BadKeys ["self"] [] := E.FI_BadKeys.bindsN fun _ _ _ _ _ _ us hl => match us, hl with | [_], _ => rfl
theorem bI_BadSize (E : Env K mg w) : Binds K E.fdi_BadSize ["self"] [] := E.FI_BadSize.bindsN fun _ _ _ _ _ _ us hl => match us, hl with | [_], _ => rfl
theorem b_law (E : Env K mg w) : Binds K E.fd_law ["_law_script"] [] := E.F_law.bindsN fun _ _ _ _ _ _ us hl => match us, hl with | [_], _ => rfl
theorem b__law_begin (E : Env K mg w) : Binds K E.fd__law_begin ["_law_script"] [] := E.F__law_begin.bindsN fun _ _ _ _ _ _ us hl => match us, hl with | [_], _ => rfl
theorem b__law_words (E : Env K mg w) : Binds K E.fd__law_words ["_law_d", "_law_many"] [] := E.F__law_words.bindsN fun _ _ _ _ _ _ us hl => match us, hl with | [_, _], _ => rfl
theorem b__law_test (E : Env K mg w) : Binds K E.fd__law_test ["_law_d", "_law_names", "_law_kinds"] [] := E.F__law_test.bindsN fun _ _ _ _ _ _ us hl => match us, hl with | [_, _, _], _ => rfl
theorem b__law_of (E : Env K mg w) : Binds K E.fd__law_of ["_law_d", "_law_things"] [] := E.F__law_of.bindsN fun _ _ _ _ _ _ us hl => match us, hl with | [_, _], _ => rfl
theorem b__law_ask (E : Env K mg w) : Binds K E.fd__law_ask ["_law_ask_here"] [] := E.F__law_ask.bindsN fun _ _ _ _ _ _ us hl => match us, hl with | [_], _ => rfl
theorem b__law_pick (E : Env K mg w) : Binds K E.fd__law_pick ["_law_d", "_law_many"] [] := E.F__law_pick.bindsN fun _ _ _ _ _ _ us hl => match us, hl with | [_, _], _ => rfl
theorem b__law_bent_test (E : Env K mg w) : Binds K E.fd__law_bent_test ["_law_d", "_law_test_here"] [] := E.F__law_bent_test.bindsN fun _ _ _ _ _ _ us hl => match us, hl with | [_, _], _ => rfl
theorem b__law_test_ok (E : Env K mg w) : Binds K E.fd__law_test_ok ["_law_test_here"] [] := E.F__law_test_ok.bindsN fun _ _ _ _ _ _ us hl => match us, hl with | [_], _ => rfl
theorem b__law_same (E : Env K mg w) : Binds K E.fd__law_same ["_law_found", "_law_due"] [] := E.F__law_same.bindsN fun _ _ _ _ _ _ us hl => match us, hl with | [_, _], _ => rfl
theorem b__law_far (E : Env K mg w) : Binds K E.fd__law_far ["_law_d"] [] := E.F__law_far.bindsN fun _ _ _ _ _ _ us hl => match us, hl with | [_], _ => rfl
theorem b_Tally_table (E : Env K mg w) : Binds K E.fd_Tally_table ["self"] [] := E.F_Tally_table.bindsN fun _ _ _ _ _ _ us hl => match us, hl with | [_], _ => rfl
theorem b_Tally_dropped (E : Env K mg w) : Binds K E.fd_Tally_dropped ["self"] [] := E.F_Tally_dropped.bindsN fun _ _ _ _ _ _ us hl => match us, hl with | [_], _ => rfl
theorem b__law_odd_name (E : Env K mg w) : Binds K E.fd__law_odd_name ["_law_d", "_law_text"] [] := E.F__law_odd_name.bindsN fun _ _ _ _ _ _ us hl => match us, hl with | [_, _], _ => rfl
theorem b__law_is_name (E : Env K mg w) : Binds K E.fd__law_is_name ["_law_text"] [] := E.F__law_is_name.bindsN fun _ _ _ _ _ _ us hl => match us, hl with | [_], _ => rfl
theorem b_Tally___len__ (E : Env K mg w) : Binds K E.fd_Tally___len__ ["self"] [] := E.F_Tally___len__.bindsN fun _ _ _ _ _ _ us hl => match us, hl with | [_], _ => rfl
theorem b__law_word (E : Env K mg w) : Binds K E.fd__law_word ["_law_d"] [] := E.F__law_word.bindsN fun _ _ _ _ _ _ us hl => match us, hl with | [_], _ => rfl
theorem b__law_tree (E : Env K mg w) : Binds K E.fd__law_tree ["_law_d", "_law_deep_here", "_law_names", "_law_kinds"] [] := E.F__law_tree.bindsN fun _ _ _ _ _ _ us hl => match us, hl with | [_, _, _, _], _ => rfl
theorem b__law_parts (E : Env K mg w) : Binds K E.fd__law_parts ["_law_test_here"] [] := E.F__law_parts.bindsN fun _ _ _ _ _ _ us hl => match us, hl with | [_], _ => rfl
theorem b__law_leaf (E : Env K mg w) : Binds K E.fd__law_leaf ["_law_d", "_law_names", "_law_kinds"] [] := E.F__law_leaf.bindsN fun _ _ _ _ _ _ us hl => match us, hl with | [_, _, _], _ => rfl
theorem b__law_shape_ok (E : Env K mg w) : Binds K E.fd__law_shape_ok ["_law_test_here"] [] := E.F__law_shape_ok.bindsN fun _ _ _ _ _ _ us hl => match us, hl with | [_], _ => rfl
theorem b__law_deep (E : Env K mg w) : Binds K E.fd__law_deep ["_law_test_here"] [] := E.F__law_deep.bindsN fun _ _ _ _ _ _ us hl => match us, hl with | [_], _ => rfl
theorem b_look_test (E : Env K mg w) : Binds K E.fd_look_test ["test"] [] := E.F_look_test.bindsN fun _ _ _ _ _ _ us hl => match us, hl with | [_], _ => rfl
theorem b_is_name (E : Env K mg w) : Binds K E.fd_is_name ["text"] [] := E.F_is_name.bindsN fun _ _ _ _ _ _ us hl => match us, hl with | [_], _ => rfl
theorem b__law_number (E : Env K mg w) : Binds K E.fd__law_number ["_law_d"] [] := E.F__law_number.bindsN fun _ _ _ _ _ _ us hl => match us, hl with | [_], _ => rfl
theorem b__law_leaf_ok (E : Env K mg w) : Binds K E.fd__law_leaf_ok ["_law_test_here"] [] := E.F__law_leaf_ok.bindsN fun _ _ _ _ _ _ us hl => match us, hl with | [_], _ => rfl
theorem b_is_test (E : Env K mg w) : Binds K E.fd_is_test ["test"] [] := E.F_is_test.bindsN fun _ _ _ _ _ _ us hl => match us, hl with | [_], _ => rfl
theorem b_parts_of (E : Env K mg w) : Binds K E.fd_parts_of ["test", "deep"] [] := E.F_parts_of.bindsN fun _ _ _ _ _ _ us hl => match us, hl with | [_, _], _ => rfl
theorem b_is_leaf (E : Env K mg w) : Binds K E.fd_is_leaf ["test"] [] := E.F_is_leaf.bindsN fun _ _ _ _ _ _ us hl => match us, hl with | [_], _ => rfl
def g_kb_Tally___init____most {α : Type} (us ws : List α) : List α := match us, ws with | [u0, u1, u2], [w0] => [u0, u1, u2, w0] | _, _ => []
theorem rel_kb_Tally___init____most {vs zs : List V} {us ws : List Value} (r1 : Vals vs us) (r3 : Vals zs ws) : Vals (g_kb_Tally___init____most vs zs) (g_kb_Tally___init____most us ws) := by
  cases r1 with
  | nil => exact .nil
  | cons a0 r1_1 =>
    cases r1_1 with
    | nil => exact .nil
    | cons a1 r1_2 =>
      cases r1_2 with
      | nil => exact .nil
      | cons a2 r1_3 =>
        cases r1_3 with
        | cons _ _ => exact .nil
        | nil =>
          cases r3 with
          | nil => exact .nil
          | cons c0 r3_1 =>
            cases r3_1 with
            | cons _ _ => exact .nil
            | nil =>
              exact (.cons a0 (.cons a1 (.cons a2 (.cons c0 .nil))))
theorem kb_Tally___init____most (E : Env K mg w) : KBn K E.fd_Tally___init__ ["self", "test", "keys", "most"] 3 ["most"] (fun us ws => g_kb_Tally___init____most us ws) (fun vs zs => g_kb_Tally___init____most vs zs) := kbindsN E.F_Tally___init__ (ps := ["self", "test", "keys", "most"]) 3 ["most"] (fun us ws => g_kb_Tally___init____most us ws) (fun r1 r2 => rel_kb_Tally___init____most r1 r2) (fun _ _ _ _ _ _ us ws h1 h2 => match us, ws, h1, h2 with | [u0, u1, u2], [w0], _, _ => rfl)
end
end Lw
namespace Ls
open PySem PySem.Spec PyProof.Rows L2
def lq_law : Str := ("law" : Str) ++ (".<locals>." : Str)
def spLaw (K : PySem.W.Frag) (T : List (Addr × Str)) : Sp := fun vs H Q _ => ∃ (a : Addr) (ns : List Int), vs = [.ref a] ∧ (∀ p ∈ T, H p.1 = some (.tbl #[])) ∧ SqL K H a (ns.map V.int) ∧ ns.length ≤ 63 ∧ ∀ H', Q (.bl true) H'
end Ls
namespace Lw
open PySem PySem.Spec PyProof.Rows L2 Ls
abbrev OkLaw : Prop := ∀ {P : Program} {w : World} {K : PySem.W.Frag} {mg : Str → Option Value} {base : Heap} (E : Env K mg w) {c Pt : Addr} {T : List (Addr × Str)} (hc : E.fd_law.code = .ref c) (TB : LamX.TabB base mg c Pt) (hmT : (Pt, lq_law ++ ("<lambda>" : Str)) ∈ T) (huT : ∀ p ∈ T, p.1 = Pt → p.2 = lq_law ++ ("<lambda>" : Str)), FnOk P w K mg base (L2.CX P w) 20 E.a_law E.fd_law ["_law_script"] (spLaw K T)
end Lw
-- own part: head
section
namespace Lw
open PySem PySem.Spec PyProof.Rows L2 Ls LamX
theorem facts {K : PySem.W.Frag} {h : Heap} {w : World} {mg : Str → Option Value} (X : K.In h) (G : h.Ns mainGlobals mg) (y : He.SaysX Lh.fa Lh.fn Lh.tbs Lh.tfs Lh.exB w h K) : ∃ E : Env K mg w, E.a_law = He.ga K "law" := by
  have c := y.t.d
  have hb := y.more
  obtain ⟨fd_law, F_law⟩ := c.def_ 0 (d := Lh.d_law) rfl
  obtain ⟨fd__law_begin, F__law_begin⟩ := c.def_ 1 (d := Lh.d__law_begin) rfl
  obtain ⟨fd__law_words, F__law_words⟩ := c.def_ 2 (d := Lh.d__law_words) rfl
  obtain ⟨fd__law_test, F__law_test⟩ := c.def_ 3 (d := Lh.d__law_test) rfl
  obtain ⟨fd__law_of, F__law_of⟩ := c.def_ 4 (d := Lh.d__law_of) rfl
  obtain ⟨fd__law_ask, F__law_ask⟩ := c.def_ 5 (d := Lh.d__law_ask) rfl
  obtain ⟨fd__law_pick, F__law_pick⟩ := c.def_ 6 (d := Lh.d__law_pick) rfl
  obtain ⟨fd__law_bent_test, F__law_bent_test⟩ := c.def_ 7 (d := Lh.d__law_bent_test) rfl
  obtain ⟨fd__law_test_ok, F__law_test_ok⟩ := c.def_ 8 (d := Lh.d__law_test_ok) rfl
  obtain ⟨fd__law_same, F__law_same⟩ := c.def_ 9 (d := Lh.d__law_same) rfl
  obtain ⟨fd__law_far, F__law_far⟩ := c.def_ 10 (d := Lh.d__law_far) rfl
  obtain ⟨fd_Tally___init__, F_Tally___init__⟩ := c.def_ 11 (d := Lh.d_Tally___init__) rfl
  obtain ⟨fd_Tally_table, F_Tally_table⟩ := c.def_ 12 (d := Lh.d_Tally_table) rfl
  obtain ⟨fd_Tally_dropped, F_Tally_dropped⟩ := c.def_ 13 (d := Lh.d_Tally_dropped) rfl
  obtain ⟨fd__law_odd_name, F__law_odd_name⟩ := c.def_ 14 (d := Lh.d__law_odd_name) rfl
  obtain ⟨fd__law_is_name, F__law_is_name⟩ := c.def_ 15 (d := Lh.d__law_is_name) rfl
  obtain ⟨fd_Tally___len__, F_Tally___len__⟩ := c.def_ 16 (d := Lh.d_Tally___len__) rfl
  obtain ⟨fd__law_word, F__law_word⟩ := c.def_ 17 (d := Lh.d__law_word) rfl
  obtain ⟨fd__law_tree, F__law_tree⟩ := c.def_ 18 (d := Lh.d__law_tree) rfl
  obtain ⟨fd__law_parts, F__law_parts⟩ := c.def_ 19 (d := Lh.d__law_parts) rfl
  obtain ⟨fd__law_leaf, F__law_leaf⟩ := c.def_ 20 (d := Lh.d__law_leaf) rfl
  obtain ⟨fd__law_shape_ok, F__law_shape_ok⟩ := c.def_ 21 (d := Lh.d__law_shape_ok) rfl
  obtain ⟨fd__law_deep, F__law_deep⟩ := c.def_ 22 (d := Lh.d__law_deep) rfl
  obtain ⟨fd_look_test, F_look_test⟩ := c.def_ 23 (d := Lh.d_look_test) rfl
  obtain ⟨fd_is_name, F_is_name⟩ := c.def_ 24 (d := Lh.d_is_name) rfl
  obtain ⟨fd__law_number, F__law_number⟩ := c.def_ 25 (d := Lh.d__law_number) rfl
  obtain ⟨fd__law_leaf_ok, F__law_leaf_ok⟩ := c.def_ 26 (d := Lh.d__law_leaf_ok) rfl
  obtain ⟨fd_is_test, F_is_test⟩ := c.def_ 27 (d := Lh.d_is_test) rfl
  obtain ⟨fd_parts_of, F_parts_of⟩ := c.def_ 28 (d := Lh.d_parts_of) rfl
  obtain ⟨fd_is_leaf, F_is_leaf⟩ := c.def_ 29 (d := Lh.d_is_leaf) rfl
  obtain ⟨fdi_ScribeError, FI_ScribeError⟩ := c.def_ 30 (d := Lh.d_ScribeError___init__) rfl
  obtain ⟨fdi_BadTest, FI_BadTest⟩ := c.def_ 31 (d := Lh.d_BadTest___init__) rfl
  obtain ⟨fdi_BadKeys, FI_BadKeys⟩ := c.def_ 32 (d := Lh.d_BadKeys___init__) rfl
  obtain ⟨fdi_BadSize, FI_BadSize⟩ := c.def_ 33 (d := Lh.d_BadSize___init__) rfl
  refine ⟨{
    C_Tally := He.ga K "Tally", g_Tally := He.glo_ok X G (c.fact 0 (f := .glo "Tally") rfl), cl_Tally := He.cls_ok (c.fact 1 (f := .cls "Tally") rfl)
    na_Tally_test := He.noat_ok (c.fact 2 (f := .noat "Tally" "test") rfl)
    na_Tally_keys_told := He.noat_ok (c.fact 3 (f := .noat "Tally" "keys_told") rfl)
    na_Tally_largest := He.noat_ok (c.fact 4 (f := .noat "Tally" "largest") rfl)
    na_Tally_sums := He.noat_ok (c.fact 5 (f := .noat "Tally" "sums") rfl)
    na_Tally_away := He.noat_ok (c.fact 6 (f := .noat "Tally" "away") rfl)
    a_law := He.ga K "law", fd_law := fd_law, F_law := F_law, g_law := He.glo_ok X G (c.fact 7 (f := .glo "law") rfl)
    a__law_begin := He.ga K "_law_begin", fd__law_begin := fd__law_begin, F__law_begin := F__law_begin, g__law_begin := He.glo_ok X G (c.fact 8 (f := .glo "_law_begin") rfl)
    a__law_words := He.ga K "_law_words", fd__law_words := fd__law_words, F__law_words := F__law_words, g__law_words := He.glo_ok X G (c.fact 9 (f := .glo "_law_words") rfl)
    a__law_test := He.ga K "_law_test", fd__law_test := fd__law_test, F__law_test := F__law_test, g__law_test := He.glo_ok X G (c.fact 10 (f := .glo "_law_test") rfl)
    a__law_of := He.ga K "_law_of", fd__law_of := fd__law_of, F__law_of := F__law_of, g__law_of := He.glo_ok X G (c.fact 11 (f := .glo "_law_of") rfl)
    a__law_ask := He.ga K "_law_ask", fd__law_ask := fd__law_ask, F__law_ask := F__law_ask, g__law_ask := He.glo_ok X G (c.fact 12 (f := .glo "_law_ask") rfl)
    a__law_pick := He.ga K "_law_pick", fd__law_pick := fd__law_pick, F__law_pick := F__law_pick, g__law_pick := He.glo_ok X G (c.fact 13 (f := .glo "_law_pick") rfl)
    a__law_bent_test := He.ga K "_law_bent_test", fd__law_bent_test := fd__law_bent_test, F__law_bent_test := F__law_bent_test, g__law_bent_test := He.glo_ok X G (c.fact 14 (f := .glo "_law_bent_test") rfl)
    a__law_test_ok := He.ga K "_law_test_ok", fd__law_test_ok := fd__law_test_ok, F__law_test_ok := F__law_test_ok, g__law_test_ok := He.glo_ok X G (c.fact 15 (f := .glo "_law_test_ok") rfl)
    a__law_same := He.ga K "_law_same", fd__law_same := fd__law_same, F__law_same := F__law_same, g__law_same := He.glo_ok X G (c.fact 16 (f := .glo "_law_same") rfl)
    a__law_far := He.ga K "_law_far", fd__law_far := fd__law_far, F__law_far := F__law_far, g__law_far := He.glo_ok X G (c.fact 17 (f := .glo "_law_far") rfl)
    a_Tally___init__ := He.ma K (He.ga K "Tally") "__init__", fd_Tally___init__ := fd_Tally___init__, F_Tally___init__ := F_Tally___init__
    mk_Tally := He.mkr_ok (c.fact 18 (f := .mkr "Tally") rfl)
    a_Tally_table := He.ma K (He.ga K "Tally") "table", fd_Tally_table := fd_Tally_table, F_Tally_table := F_Tally_table
    m_Tally_table := He.meth_ok (c.fact 19 (f := .meth "Tally" "table") rfl)
    a_Tally_dropped := He.ma K (He.ga K "Tally") "dropped", fd_Tally_dropped := fd_Tally_dropped, F_Tally_dropped := F_Tally_dropped
    m_Tally_dropped := He.meth_ok (c.fact 20 (f := .meth "Tally" "dropped") rfl)
    a__law_odd_name := He.ga K "_law_odd_name", fd__law_odd_name := fd__law_odd_name, F__law_odd_name := F__law_odd_name, g__law_odd_name := He.glo_ok X G (c.fact 21 (f := .glo "_law_odd_name") rfl)
    a__law_is_name := He.ga K "_law_is_name", fd__law_is_name := fd__law_is_name, F__law_is_name := F__law_is_name, g__law_is_name := He.glo_ok X G (c.fact 22 (f := .glo "_law_is_name") rfl)
    a_Tally___len__ := He.ma K (He.ga K "Tally") "__len__", fd_Tally___len__ := fd_Tally___len__, F_Tally___len__ := F_Tally___len__
    m_Tally___len__ := He.meth_ok (c.fact 23 (f := .meth "Tally" "__len__") rfl)
    a__law_word := He.ga K "_law_word", fd__law_word := fd__law_word, F__law_word := F__law_word, g__law_word := He.glo_ok X G (c.fact 24 (f := .glo "_law_word") rfl)
    a__law_tree := He.ga K "_law_tree", fd__law_tree := fd__law_tree, F__law_tree := F__law_tree, g__law_tree := He.glo_ok X G (c.fact 25 (f := .glo "_law_tree") rfl)
    a__law_parts := He.ga K "_law_parts", fd__law_parts := fd__law_parts, F__law_parts := F__law_parts, g__law_parts := He.glo_ok X G (c.fact 26 (f := .glo "_law_parts") rfl)
    a__law_leaf := He.ga K "_law_leaf", fd__law_leaf := fd__law_leaf, F__law_leaf := F__law_leaf, g__law_leaf := He.glo_ok X G (c.fact 27 (f := .glo "_law_leaf") rfl)
    a__law_shape_ok := He.ga K "_law_shape_ok", fd__law_shape_ok := fd__law_shape_ok, F__law_shape_ok := F__law_shape_ok, g__law_shape_ok := He.glo_ok X G (c.fact 28 (f := .glo "_law_shape_ok") rfl)
    a__law_deep := He.ga K "_law_deep", fd__law_deep := fd__law_deep, F__law_deep := F__law_deep, g__law_deep := He.glo_ok X G (c.fact 29 (f := .glo "_law_deep") rfl)
    a_look_test := He.ga K "look_test", fd_look_test := fd_look_test, F_look_test := F_look_test, g_look_test := He.glo_ok X G (c.fact 30 (f := .glo "look_test") rfl)
    a_is_name := He.ga K "is_name", fd_is_name := fd_is_name, F_is_name := F_is_name, g_is_name := He.glo_ok X G (c.fact 31 (f := .glo "is_name") rfl)
    a__law_number := He.ga K "_law_number", fd__law_number := fd__law_number, F__law_number := F__law_number, g__law_number := He.glo_ok X G (c.fact 32 (f := .glo "_law_number") rfl)
    a__law_leaf_ok := He.ga K "_law_leaf_ok", fd__law_leaf_ok := fd__law_leaf_ok, F__law_leaf_ok := F__law_leaf_ok, g__law_leaf_ok := He.glo_ok X G (c.fact 33 (f := .glo "_law_leaf_ok") rfl)
    a_is_test := He.ga K "is_test", fd_is_test := fd_is_test, F_is_test := F_is_test, g_is_test := He.glo_ok X G (c.fact 34 (f := .glo "is_test") rfl)
    a_parts_of := He.ga K "parts_of", fd_parts_of := fd_parts_of, F_parts_of := F_parts_of, g_parts_of := He.glo_ok X G (c.fact 35 (f := .glo "parts_of") rfl)
    a_is_leaf := He.ga K "is_leaf", fd_is_leaf := fd_is_leaf, F_is_leaf := F_is_leaf, g_is_leaf := He.glo_ok X G (c.fact 36 (f := .glo "is_leaf") rfl)
    n_range := He.free_ok X G (c.fact 37 (f := .free "range") rfl)
    n_len := He.free_ok X G (c.fact 38 (f := .free "len") rfl)
    n_bool := He.free_ok X G (c.fact 39 (f := .free "bool") rfl)
    n_all := He.free_ok X G (c.fact 40 (f := .free "all") rfl)
    n_tuple := He.free_ok X G (c.fact 41 (f := .free "tuple") rfl)
    n_set := He.free_ok X G (c.fact 42 (f := .free "set") rfl)
    n_list := He.free_ok X G (c.fact 43 (f := .free "list") rfl)
    n_str := He.free_ok X G (c.fact 44 (f := .free "str") rfl)
    n_isinstance := He.free_ok X G (c.fact 45 (f := .free "isinstance") rfl)
    n_int := He.free_ok X G (c.fact 46 (f := .free "int") rfl)
    n_sorted := He.free_ok X G (c.fact 47 (f := .free "sorted") rfl)
    n_sum := He.free_ok X G (c.fact 48 (f := .free "sum") rfl)
    n_max := He.free_ok X G (c.fact 49 (f := .free "max") rfl)
    n_ValueError := He.free_ok X G (c.fact 50 (f := .free "ValueError") rfl)
    c_MOST_KEYS := by
      obtain ⟨t, e⟩ := He.int_ok X G (c.fact 51 (f := .int "MOST_KEYS" 16) rfl)
      exact ⟨_, e, ⟨t, rfl⟩⟩
    c_MOST_FIELDS := by
      obtain ⟨t, e⟩ := He.int_ok X G (c.fact 52 (f := .int "MOST_FIELDS" 4) rfl)
      exact ⟨_, e, ⟨t, rfl⟩⟩
    c_LARGEST := by
      obtain ⟨t, e⟩ := He.int_ok X G (c.fact 53 (f := .int "LARGEST" 64) rfl)
      exact ⟨_, e, ⟨t, rfl⟩⟩
    c_LONGEST := by
      obtain ⟨t, e⟩ := He.int_ok X G (c.fact 54 (f := .int "LONGEST" 8) rfl)
      exact ⟨_, e, ⟨t, rfl⟩⟩
    c_LETTERS := by
      obtain ⟨t, e⟩ := He.str_ok X G (c.fact 55 (f := .str "LETTERS" "abcdefghijklmnopqrstuvwxyz") rfl)
      exact ⟨_, e, ⟨t, rfl⟩⟩
    c_MOST_PARTS := by
      obtain ⟨t, e⟩ := He.int_ok X G (c.fact 56 (f := .int "MOST_PARTS" 15) rfl)
      exact ⟨_, e, ⟨t, rfl⟩⟩
    c_DEEPEST := by
      obtain ⟨t, e⟩ := He.int_ok X G (c.fact 57 (f := .int "DEEPEST" 5) rfl)
      exact ⟨_, e, ⟨t, rfl⟩⟩
    D_WITHIN := He.ga K "WITHIN", g_WITHIN := He.glo_ok X G (c.fact 58 (f := .glo "WITHIN") rfl)
    c_LIMIT := by
      obtain ⟨t, e⟩ := He.int_ok X G (c.fact 59 (f := .int "LIMIT" 999999) rfl)
      exact ⟨_, e, ⟨t, rfl⟩⟩
    C_ScribeError := He.ga K "ScribeError", g_ScribeError := He.glo_ok X G (c.fact 60 (f := .glo "ScribeError") rfl)
    C_BadTest := He.ga K "BadTest", g_BadTest := He.glo_ok X G (c.fact 61 (f := .glo "BadTest") rfl)
    C_BadKeys := He.ga K "BadKeys", g_BadKeys := He.glo_ok X G (c.fact 62 (f := .glo "BadKeys") rfl)
    C_BadSize := He.ga K "BadSize", g_BadSize := He.glo_ok X G (c.fact 63 (f := .glo "BadSize") rfl)
    C_BadValue := He.ga K "BadValue", g_BadValue := He.glo_ok X G (c.fact 64 (f := .glo "BadValue") rfl)
    C_Missing := He.ga K "Missing", g_Missing := He.glo_ok X G (c.fact 65 (f := .glo "Missing") rfl)
    fi_ScribeError := He.ma K (He.ga K "ScribeError") "__init__", fdi_ScribeError := fdi_ScribeError, FI_ScribeError := FI_ScribeError
    fi_BadTest := He.ma K (He.ga K "BadTest") "__init__", fdi_BadTest := fdi_BadTest, FI_BadTest := FI_BadTest
    fi_BadKeys := He.ma K (He.ga K "BadKeys") "__init__", fdi_BadKeys := fdi_BadKeys, FI_BadKeys := FI_BadKeys
    fi_BadSize := He.ma K (He.ga K "BadSize") "__init__", fdi_BadSize := fdi_BadSize, FI_BadSize := FI_BadSize
    r_ScribeError := crdB_ok (Lh.exB_ok hb (i := 0) rfl)
    v_ScribeError := cviB_ok (Lh.exB_ok hb (i := 1) rfl)
    o_BadTest := oexB_ok (Lh.exB_ok hb (i := 2) rfl)
    i_BadTest := (iniB_ok (Lh.exB_ok hb (i := 3) rfl)).1
    t_BadTest := (iniB_ok (Lh.exB_ok hb (i := 4) rfl)).2
    w_BadTest := noFB_ok (Lh.exB_ok hb (i := 5) rfl)
    x_BadTest := xfB_ok (Lh.exB_ok hb (i := 6) rfl)
    e_BadTest_BadValue := exmB_ok (Lh.exB_ok hb (i := 7) rfl)
    e_BadTest_ScribeError := exmB_ok (Lh.exB_ok hb (i := 8) rfl)
    e_BadTest_Missing := exmB_ok (Lh.exB_ok hb (i := 9) rfl)
    o_BadKeys := oexB_ok (Lh.exB_ok hb (i := 10) rfl)
    i_BadKeys := (iniB_ok (Lh.exB_ok hb (i := 11) rfl)).1
    t_BadKeys := (iniB_ok (Lh.exB_ok hb (i := 12) rfl)).2
    w_BadKeys := noFB_ok (Lh.exB_ok hb (i := 13) rfl)
    x_BadKeys := xfB_ok (Lh.exB_ok hb (i := 14) rfl)
    e_BadKeys_BadValue := exmB_ok (Lh.exB_ok hb (i := 15) rfl)
    e_BadKeys_ScribeError := exmB_ok (Lh.exB_ok hb (i := 16) rfl)
    e_BadKeys_Missing := exmB_ok (Lh.exB_ok hb (i := 17) rfl)
    o_BadSize := oexB_ok (Lh.exB_ok hb (i := 18) rfl)
    i_BadSize := (iniB_ok (Lh.exB_ok hb (i := 19) rfl)).1
    t_BadSize := (iniB_ok (Lh.exB_ok hb (i := 20) rfl)).2
    w_BadSize := noFB_ok (Lh.exB_ok hb (i := 21) rfl)
    x_BadSize := xfB_ok (Lh.exB_ok hb (i := 22) rfl)
    e_BadSize_BadValue := exmB_ok (Lh.exB_ok hb (i := 23) rfl)
    e_BadSize_ScribeError := exmB_ok (Lh.exB_ok hb (i := 24) rfl)
    e_BadSize_Missing := exmB_ok (Lh.exB_ok hb (i := 25) rfl)
    vei := veiB_ok (Lh.exB_ok hb (i := 26) rfl)
    t_WITHIN := tabK_of (tab_eq y.t 0 rfl) (Lh.exB_ok hb (i := 27) rfl)
    nb_Tally := noFB_ok (Lh.exB_ok hb (i := 28) rfl)
    }, rfl⟩
end Lw
open PySem PySem.W PySem.Calls PyProof.Rows
theorem Lw.head_of (ok : Lw.OkLaw) : PySem.Challenge.rw_lanescribe_k23_tallies_refused.Holds := by
  w_on; o_law
  refine HandSHeadRun.head_any (r := OpenLaw.row PySem.Challenge.rw_lanescribe_k23_tallies_refused) (q := view (OpenLaw.row PySem.Challenge.rw_lanescribe_k23_tallies_refused).prog [47]) (H := Lh.hk) (ob := Lh.ob) (M := 20000) (loose := Lh.loose) (d := HandSHeadRun.topDef (OpenLaw.row PySem.Challenge.rw_lanescribe_k23_tallies_refused).prog 47) (kwd := []) Lh.ob_eq
    (by kernel_rfl) (fun s => by kernel_rfl) Lh.run (by kernel_rfl) (by kernel_rfl) (by kernel_rfl) (by rfl) (by first | assumption | decide +kernel) (by decide +kernel) ⟨rfl, rfl, rfl, rfl, rfl, by decide +kernel⟩ ?hw ?hc
  case hw => w_witness2
  case hc =>
    refine LamX.walk_ofTsE (l := PySem.Challenge.rw_lanescribe_k23_tallies_refused) (n := 63) (k := 20) (x := "_law_script") (CX := fun w => L2.CX PySem.Challenge.rw_lanescribe_k23_tallies_refused.prog w) rfl (by decide) (by kernel_rfl) ⟨rfl, by decide, by decide⟩ ?F (fun _ _ _ _ _ ⟨_, _, _, _, _, _, _, _, _, _, _, _, z⟩ => z)
    intro w mg fa h Y G hmg0
    obtain ⟨K, KX, y⟩ := Y
    have hmg : mg ("law" : PySem.Str) = some (.ref fa) := by
      have e : (HandSHeadRun.topDef (OpenLaw.row PySem.Challenge.rw_lanescribe_k23_tallies_refused).prog 47).name = ("law" : PySem.Str) := by kernel_rfl
      rw [← e]
      exact hmg0
    obtain ⟨E, ea_law⟩ := Lw.facts KX G y
    have e := hmg.symm.trans E.g_law
    cases e
    have b := L2.FunD.bindsA (ps := ["_law_script"]) E.F_law fun _ _ _ _ _ _ us hl => match us, hl with | [_], _ => rfl
    have hc_law : E.fd_law.code = .ref (He.codeOf K ("law", none)) := by
      obtain ⟨oc, od, dV, kV, doc, pm, an, cdv, ct, osl, e1, lk, hcd, _, _⟩ := E.F_law.ex
      obtain ⟨c, hc⟩ := He.codeIn_ref hcd
      have e2 : E.fd_law.code = .ref c := by rw [e1]; exact hc
      have lk2 : K.lookup (He.fAd K ("law", none)) = some ⟨oc, od, .func E.fd_law, osl⟩ := by
        show K.lookup (He.ga K "law") = _
        rw [← ea_law]
        exact lk
      rw [He.codeOf_eq lk2 e2]
      exact e2
    refine ⟨K, KX, E.fd_law, Lh.tfs.map (He.cT K), Ls.spLaw K [((He.cT K ("law", none)).2, Ls.lq_law ++ ("<lambda>" : PySem.Str))], fun p hp => ?_, fun p hp => ?_, fun p hp => ?_, fun s v => b s [v] rfl, fun H a ns hl _ hT hS => ?_, fun base KB GB TB => ?_⟩
    · obtain ⟨d, hd, rfl⟩ := List.mem_map.mp hp
      exact y.empty _ hd
    · obtain ⟨d, hd, rfl⟩ := List.mem_map.mp hp
      exact y.out _ hd
    · obtain ⟨d, hd, rfl⟩ := List.mem_map.mp hp
      exact codeHd_of_K KX (y.hd _ hd)
    · exact ⟨a, ns, rfl, fun p hp => by
        simp only [List.mem_cons, List.not_mem_nil, or_false] at hp
        rcases hp with rfl <;> exact hT _ (List.mem_map_of_mem (by simp [Lh.tfs])), hS, hl, fun _ => rfl⟩
    · exact ok E hc_law (TB _ (List.mem_singleton.mpr rfl)) List.mem_cons_self (fun p hp _ => by rw [List.mem_singleton.mp hp])
end
local macro_rules | `(tactic| walk_at "hg") => `(tactic| first
  | assumption
  | exact upd_same
  | (refine up_new (by assumption) ?_; walk_at "hg")
  | (refine up_ne ?n ?_; (case n => walk_at "ne"); walk_at "hg")
  | (refine Keep.at (by assumption) ?n ?_; (case n => walk_at "ne"); walk_at "hg"))
local macro_rules | `(tactic| walk_at "ne") => `(tactic| first
  | assumption
  | (refine Ne.symm ?_; assumption)
  | (refine ne_of_none ?a ?b; (case b => assumption); (case a => walk_at "hg"))
  | (refine Ne.symm (ne_of_none ?a ?b); (case b => assumption); (case a => walk_at "hg"))
  | (refine ne_of ?a ?b ?c; (case a => assumption); (case b => assumption); (case c => (intro z; cases z))))
local macro_rules | `(tactic| walk_at "sz") => `(tactic| first | omega | decide | (simp only [List.length_cons, List.length_nil, List.length_append, List.length_map, List.length_take, List.length_drop, sizeLine_eq] <;> omega) | (rw [sizeLine_eq]; simp <;> omega))
local macro_rules | `(tactic| walk_at "w1") => `(tactic| first
  | (with_reducible first | refine k_v0 ?_ | refine k_v1 ?_ | refine k_v2 ?_ | refine k_v3 ?_ | refine k_v4 ?_ | refine k_v5 ?_ | refine k_v6 ?_ | refine k_v7 ?_ | refine k_v8 ?_ | refine k_v9 ?_ | refine k_v10 ?_ | refine k_v11 ?_ | refine k_v12 ?_ | refine k_v13 ?_ | refine k_v14 ?_ | refine k_v15 ?_ | refine k_v16 ?_ | refine k_v17 ?_ | refine k_v18 ?_ | refine k_v19 ?_ | refine k_v20 ?_ | refine k_v21 ?_ | refine k_v22 ?_ | refine k_v23 ?_ | refine k_v24 ?_ | refine k_v25 ?_ | refine k_v26 ?_ | refine k_v27 ?_ | refine k_v28 ?_ | refine k_v29 ?_ | refine k_v30 ?_ | refine k_v31 ?_ | refine k_v32 ?_ | refine k_v33 ?_ | refine k_v34 ?_ | refine k_v35 ?_ | refine k_v36 ?_ | refine k_v37 ?_ | refine k_v38 ?_ | refine k_v39 ?_ | refine k_v40 ?_ | refine k_v41 ?_ | refine k_v42 ?_ | refine k_v43 ?_)
  | (with_reducible first
    | refine k_seq ?_ | refine k_c ?_ | refine k_op ?_ | refine k_cons ?_ | refine k_nil ?_ | refine k_call ?_ | refine k_cb ?_ | refine k_ret ?_ | refine k_if ?_ | refine k_test ?_ | refine k_bl ?_
    | refine k_tup ?_ | refine k_lst ?_ | refine k_dget ?_ | refine k_dput ?_ | refine k_drop ?_ | refine k_next ?_ | refine k_B ?_ | refine k_and ?_ | refine k_or ?_ | refine k_not ?_ | refine k_un ?_
    | refine k_bm ?_ | refine k_bm0 ?_ | refine k_sl ?_ | refine k_nop ?_ | refine k_part ?_ | refine k_partI ?_ | refine k_par ?_ | refine k_par2 ?_ | refine k_gcons ?_ | refine k_gnil ?_
    | refine k_andV ?_ | refine k_orV ?_ | refine k_notV ?_ | refine k_ifE ?_ | refine k_chain ?_ | refine k_din ?_ | refine k_dnotin ?_ | refine k_brk ?_ | refine k_cont ?_ | refine k_retN ?_ | refine k_callN ?_ | refine k_yes ?_ | refine k_vei ?_ | refine k_ost ?_ | refine k_cfn ?_ | refine k_step ?_ | refine k_lenset ?_ | refine k_sortset ?_ | refine k_listrg ?_ | refine k_rg1 ?_ | refine k_lc ?_ | refine k_dc ?_
    | refine k_addI ?_ | refine k_sub ?_ | refine k_lt ?_ | refine k_le ?_ | refine k_gt ?_ | refine k_ge ?_ | refine k_eqI ?_ | refine k_neI ?_ | refine k_eqS ?_ | refine k_neS ?_ | refine k_eqB ?_ | refine k_neB ?_ | refine k_neg ?_ | refine k_isN ?_ | refine k_isnotN ?_
    | refine k_for ?_ | refine k_itL ?_ | refine k_itT ?_ | refine k_itR1 ?_ | refine k_itR2 ?_ | refine k_tt ?_ | refine k_ff ?_ | refine k_nt ?_ | refine k_nf ?_)
  | (with_reducible first | refine k_s0 ?_ | refine k_s1 ?_ | refine k_s2 ?_ | refine k_s3 ?_ | refine k_s4 ?_ | refine k_s5 ?_ | refine k_s6 ?_ | refine k_s7 ?_ | refine k_s8 ?_ | refine k_s9 ?_ | refine k_s10 ?_ | refine k_s11 ?_ | refine k_s12 ?_ | refine k_s13 ?_ | refine k_s14 ?_ | refine k_s15 ?_ | refine k_s16 ?_ | refine k_s17 ?_ | refine k_s18 ?_ | refine k_s19 ?_ | refine k_s20 ?_ | refine k_s21 ?_ | refine k_s22 ?_ | refine k_s23 ?_ | refine k_s24 ?_ | refine k_s25 ?_ | refine k_s26 ?_ | refine k_s27 ?_ | refine k_s28 ?_ | refine k_s29 ?_ | refine k_s30 ?_ | refine k_s31 ?_ | refine k_s32 ?_ | refine k_s33 ?_ | refine k_s34 ?_ | refine k_s35 ?_ | refine k_s36 ?_ | refine k_s37 ?_ | refine k_s38 ?_ | refine k_s39 ?_ | refine k_s40 ?_ | refine k_s41 ?_ | refine k_s42 ?_ | refine k_s43 ?_)
  | (with_reducible first | refine k_g0 ?_ | refine k_g1 ?_ | refine k_g2 ?_ | refine k_g3 ?_ | refine k_g4 ?_ | refine k_g5 ?_ | refine k_g6 ?_ | refine k_g7 ?_ | refine k_g8 ?_ | refine k_g9 ?_ | refine k_g10 ?_ | refine k_g11 ?_ | refine k_g12 ?_ | refine k_g13 ?_ | refine k_g14 ?_ | refine k_g15 ?_ | refine k_g16 ?_ | refine k_g17 ?_ | refine k_g18 ?_ | refine k_g19 ?_ | refine k_g20 ?_ | refine k_g21 ?_ | refine k_g22 ?_ | refine k_g23 ?_ | refine k_g24 ?_ | refine k_g25 ?_ | refine k_g26 ?_ | refine k_g27 ?_ | refine k_g28 ?_ | refine k_g29 ?_ | refine k_g30 ?_ | refine k_g31 ?_ | refine k_g32 ?_ | refine k_g33 ?_ | refine k_g34 ?_ | refine k_g35 ?_ | refine k_g36 ?_ | refine k_g37 ?_ | refine k_g38 ?_ | refine k_g39 ?_ | refine k_g40 ?_ | refine k_g41 ?_ | refine k_g42 ?_ | refine k_g43 ?_)
  | (with_reducible refine k_asg ?_)
  | (with_reducible refine k_mod ?e ?_; (case e => first | omega | decide))
  | (with_reducible refine k_mulR ?e ?_; (case e => decide))
  | (with_reducible refine k_mulL ?e ?_; (case e => decide))
  | (with_reducible refine k_new ?e ?_; (case e => walk_at "sz")))
local macro_rules | `(tactic| walk_at "w") => `(tactic| repeat walk_at "w1")
local macro_rules | `(tactic| walk_at "lc") => `(tactic| (simp only [wipe, List.map, List.set_cons_succ, List.set_cons_zero]; walk_at "w"; refine ⟨rfl, ?_⟩; walk_at "w"))
local macro_rules | `(tactic| walk_at "fr") => `(tactic| first | assumption | (refine Same.free ?s (by assumption); (case s => walk_at "sm")) | (refine Keep.free ?k ?d (by assumption); (case k => walk_at "kp"); (case d => walk_at "hg")))
local macro_rules | `(tactic| walk_at "sm") => `(tactic| first
  | assumption
  | exact Same.refl _
  | (refine Same.wr ?s ?f; (case s => walk_at "sm"); (case f => walk_at "fr"))
  | (refine Same.trans ?a (by assumption); (case a => walk_at "sm")))
local macro_rules | `(tactic| walk_at "kp") => `(tactic| first
  | assumption
  | exact Keep.refl
  | (refine Keep.put ?s; (case s => walk_at "kp"))
  | (refine Keep.wr ?s ?f; (case s => walk_at "kp"); (case f => walk_at "fr"))
  | (refine Keep.trans ?a (by assumption); (case a => walk_at "kp"))
  | (refine Keep.same ?s; (case s => walk_at "sm")))
local macro_rules | `(tactic| walk_at "ar") => `(tactic| first
  | (refine k_pos ?h ?_; (case h => omega))
  | (refine k_neg' ?h ?_; (case h => omega))
  | (refine k_npos ?h ?_; (case h => omega))
  | (refine k_nneg ?h ?_; (case h => omega)))
local macro_rules | `(tactic| walk_at "wa") => `(tactic| repeat first | walk_at "w1" | walk_at "ar")
local macro_rules | `(tactic| walk_at "lc1") => `(tactic| simp only [wipe, List.map, List.set_cons_succ, List.set_cons_zero])
local macro_rules | `(tactic| walk_at "lc2") => `(tactic| (walk_at "w"; refine ⟨rfl, ?_⟩; walk_at "w"))
-- own part: lw1
namespace Lw
open PySem PySem.Spec PyProof.Rows L2 Ls
section
variable {P : Program} {w : World} {K : PySem.W.Frag} {mg : Str → Option Value} {base : Heap}
theorem ok__law_pick (E : Env K mg w) : FnOk P w K mg base CX0 1 E.a__law_pick E.fd__law_pick ["_law_d", "_law_many"] (spPick K) := by
  refine E.F__law_pick.ok sc__law_pick (fun vs H Q E h => ?_) (fun cdv A outer s H vs Q E' hr h => ?_)
  · obtain ⟨d, c, m, rfl, _⟩ := h
    rfl
  · obtain ⟨d, c, many, rfl, ⟨n, r, s, ns, h1, h2, h3, h4, h5, h6⟩, m1, m2, q⟩ := h
    have hu := huOf hr
    refine ⟨_, PSs.nox (pss_cut (ps_if (PW.pt (pw_and (pt_cmpR (op_eqU K rfl hu) (pe_dget (hu1 hu) (pv 0) pe_str (fun _ _ => rfl)) pe_int (nomark _)) (pw_and1 (pt_cmpR (op_lt) (pe_dget (hu1 hu) (pv 0) pe_str (fun _ _ => rfl)) (pe_callB (call_lenU K rfl) (by rfl) E.n_len boot_len (pa_cons (pe_dget (hu1 hu) (pv 0) pe_str (fun _ _ => rfl)) pa_nil)) (nomark _))))) (pss_cons (ps_set (i := 2) sc__law_pick.nd rfl (Or.inl rfl) (pe_ix (ix_U K rfl) (pe_dget (hu1 hu) (pv 0) pe_str (fun _ _ => rfl)) (pe_dget (hu1 hu) (pv 0) pe_str (fun _ _ => rfl)) (fun _ _ => rfl)))
(pss_cons (ps_dput (hu1 hu) (pv 0) pe_str (pe_op (op_addU K rfl) (pe_dget (hu1 hu) (pv 0) pe_str (fun _ _ => rfl)) pe_int) rfl)
(pss_one (ps_if (pt_cmpR (op_ge) (pv 2) (pe_op op_pow pe_int pe_int) (nomark _)) (pss_one (ps_dput (hu1 hu) (pv 0) pe_str (pv 2) rfl)) (pss_one (ps_dput (hu1 hu) (pv 0) pe_str (pe_op op_mod (pe_op (op_addU K rfl) (pe_op (op_addU K rfl) (pe_op op_mul (pe_dget (hu1 hu) (pv 0) pe_str (fun _ _ => rfl)) pe_int) (pe_op op_mul (pv 2) pe_int)) pe_int) pe_int) rfl)))))) pss_nil)
(pss_cons (ps_if (pt_cmpR (op_gt) (pe_dget (hu1 hu) (pv 0) pe_str (fun _ _ => rfl)) pe_int (nomark _)) (pss_cons (ps_set (i := 3) sc__law_pick.nd rfl (Or.inl rfl) (pe_op op_mod (pe_dget (hu1 hu) (pv 0) pe_str (fun _ _ => rfl)) (pv 1)))
(pss_cons (ps_dput (hu1 hu) (pv 0) pe_str (pe_op op_fdivW (pe_dget (hu1 hu) (pv 0) pe_str (fun _ _ => rfl)) (pv 1)) rfl)
(pss_one (ps_ret (pv 3))))) pss_nil)
(pss_cons (ps_set (i := 4) sc__law_pick.nd rfl (Or.inl rfl) (pe_op op_mod (pe_op op_mul (pe_dget (hu1 hu) (pv 0) pe_str (fun _ _ => rfl)) (pe_dget (hu1 hu) (pv 0) pe_str (fun _ _ => rfl))) pe_int))
(pss_cons (ps_dput (hu1 hu) (pv 0) pe_str (pe_op op_mod (pe_op (op_addU K rfl) (pe_op (op_addU K rfl) (pe_op op_mul (pv 4) pe_int) (pe_op op_mul (pe_dget (hu1 hu) (pv 0) pe_str (fun _ _ => rfl)) pe_int)) pe_int) pe_int) rfl)
(pss_one (ps_ret (pe_op op_mod (pe_op op_fdivW (pe_dget (hu1 hu) (pv 0) pe_str (fun _ _ => rfl)) pe_int) (pv 1)))))))), ?_⟩
    refine k_body (s1 := [some (.ref d), some (.int many), none, none, none]) rfl ?_
    refine k_cut (fun σ H' => ∃ (n r s : Int) (v : Option V), σ = [some (.ref d), some (.int many), v, none, none] ∧ Keep d H H' ∧ H' d = some (.dK (dd c n r s)) ∧ H' c = some (.lst (ns.map V.int)) ∧ 0 ≤ n ∧ 0 ≤ r ∧ 0 ≤ s ∧ s < 2305843009213693951) ?_ ?_
    · walk_at "w"
      refine k_getS h1 dd_rest ?_
      walk_at "w"
      refine k_itd (fun hr0 => ?_) (fun hr0 => ?_)
      · walk_at "w"
        refine k_getS h1 dd_at ?_
        walk_at "w"
        refine k_getS h1 dd_cells ?_
        walk_at "w"
        refine k_lenL (sql_of h2) ?_
        walk_at "w"
        refine k_itd (fun hl => ?_) (fun hl => ?_)
        · rw [List.length_map] at hl
          obtain ⟨k, rfl⟩ : ∃ k : Nat, n = (k : Int) := ⟨n.toNat, by omega⟩
          have hk : k < ns.length := by omega
          walk_at "w"
          refine k_getS h1 dd_cells ?_
          walk_at "w"
          refine k_getS h1 dd_at ?_
          walk_at "w"
          refine k_ixL (sql_of h2) (atI_nat (v := .int ns[k]) (by rw [List.getElem?_map, List.getElem?_eq_getElem hk]; rfl)) ?_
          walk_at "w"
          refine k_getS h1 dd_at ?_
          walk_at "w"
          refine k_putS h1 dd_len ?_
          rw [dd_put_at]
          have g1 : Keep d H (upd H d (.dK (dd c (k + 1) r s))) := Keep.put Keep.refl
          have nc : c ≠ d := ne_of h2 h1 (by intro z; cases z)
          have g2 : upd H d (.dK (dd c (k + 1) r s)) c = some (.lst (ns.map V.int)) := g1.at nc h2
          walk_at "w"
          refine k_powL (v := 1000000000000000000) (by decide) (by decide) (by decide) ?_
          walk_at "w"
          refine k_itd (fun hb => ?_) (fun hb => ?_)
          · walk_at "w"
            refine k_putS upd_same dd_len ?_
            rw [dd_put_rest]
            exact ⟨_, _, _, _, rfl, Keep.put g1, upd_same, (Keep.put Keep.refl : Keep d _ _).at nc g2, by omega, by omega, h5, h6⟩
          · walk_at "w"
            refine k_getS upd_same dd_seed ?_
            walk_at "w"
            refine k_putS upd_same dd_len ?_
            rw [dd_put_seed]
            exact ⟨_, _, _, _, rfl, Keep.put g1, upd_same, (Keep.put Keep.refl : Keep d _ _).at nc g2, by omega, by omega, by omega, by omega⟩
        · walk_at "w"
          exact ⟨_, _, _, _, rfl, Keep.refl, h1, h2, h3, h4, h5, h6⟩
      · walk_at "w"
        exact ⟨_, _, _, _, rfl, Keep.refl, h1, h2, h3, h4, h5, h6⟩
    · rintro σ' H' ⟨n, r, s, v, rfl, k, h1, h2, h3, h4, h5, h6⟩
      walk_at "w"
      refine k_getS h1 dd_rest ?_
      walk_at "w"
      refine k_itd (fun hr0 => ?_) (fun hr0 => ?_)
      · walk_at "w"
        refine k_getS h1 dd_rest ?_
        walk_at "w"
        refine k_getS h1 dd_rest ?_
        walk_at "w"
        refine k_fdiv m1 m2 ?_
        walk_at "w"
        refine k_putS h1 dd_len ?_
        rw [dd_put_rest]
        walk_at "w"
        exact q _ _ (Keep.put k) ⟨n, _, s, ns, upd_same, (Keep.put Keep.refl : Keep d _ _).at (ne_of h2 h1 (by intro z; cases z)) h2, h3, Int.ediv_nonneg h4 (by omega), h5, h6⟩ (Int.emod_nonneg _ (by omega)) (Int.emod_lt_of_pos _ m1)
      · walk_at "w"
        refine k_getS h1 dd_seed ?_
        walk_at "w"
        refine k_getS h1 dd_seed ?_
        refine k_mulR (by omega) ?_
        walk_at "w"
        refine k_getS h1 dd_seed ?_
        walk_at "w"
        refine k_putS h1 dd_len ?_
        rw [dd_put_seed]
        walk_at "w"
        refine k_getS upd_same dd_seed ?_
        walk_at "w"
        refine k_fdiv (by decide) (by decide) ?_
        walk_at "w"
        exact q _ _ (Keep.put k) ⟨n, r, _, ns, upd_same, (Keep.put Keep.refl : Keep d _ _).at (ne_of h2 h1 (by intro z; cases z)) h2, h3, h4, Int.emod_nonneg _ (by omega), Int.emod_lt_of_pos _ (by omega)⟩ (Int.emod_nonneg _ (by omega)) (Int.emod_lt_of_pos _ m1)
end
end Lw
-- own part: lw5
namespace Lw
open PySem PySem.Spec PyProof.Rows L2 Ls
section
variable {P : Program} {w : World} {K : PySem.W.Frag} {mg : Str → Option Value} {base : Heap}
theorem ok__law_begin (E : Env K mg w) : FnOk P w K mg base CX0 1 E.a__law_begin E.fd__law_begin ["_law_script"] (spBegin K) := by
  refine E.F__law_begin.ok sc__law_begin (fun vs H Q E h => ?_) (fun cdv A outer s H vs Q E' hr h => ?_)
  · obtain ⟨d, m, rfl, _⟩ := h
    rfl
  · obtain ⟨a, ns, rfl, h1, h2, q⟩ := h
    have hu := huOf hr
    refine ⟨_, PSs.nox (pss_cons (ps_set (i := 1) sc__law_begin.nd rfl (Or.inl rfl) pe_int)
(pss_cons (ps_for PassesOwn.never rfl (kIL K rfl (pi_list (pe_slice (sl_U K rfl) (pv 0) po_none (po_some pe_int)))) (pg_name (i := 2) sc__law_begin.nd rfl (Or.inl rfl))
(pss_one (ps_set (i := 1) sc__law_begin.nd rfl (Or.inl rfl) (pe_op op_mod (pe_op (op_addU K rfl) (pe_op (op_addU K rfl) (pe_op op_mul (pv 1) pe_int) (pe_op op_mul (pv 2) pe_int)) pe_int) pe_int))))
(pss_one (ps_ret (pe_disp (pps_cons pe_str (pe_callTy (call_listU K rfl) (by rfl) E.n_list boot_list (pa_cons (pe_slice (sl_U K rfl) (pv 0) po_none (po_some pe_int)) pa_nil)) (pps_cons pe_str pe_int (pps_cons pe_str pe_int (pps_cons pe_str (pv 1) pps_nil)))) (by rfl) (by rfl) (by simp) (by decide)))))), ?_⟩
    refine k_body (s1 := [some (.ref a), none, none]) rfl ?_
    walk_at "w"
    refine k_slL h1 ?_
    rw [cut_all (by rw [List.length_map]; omega)]
    intro p hp
    refine k_itl (sql_of upd_same) ?_
    refine for_list (xs := ns.map V.int) (fun i σ H' => ∃ (s : Int) (c : Option V), σ = [some (.ref a), some (.int s), c] ∧ 0 ≤ s ∧ s < 2305843009213693951 ∧ Same H H' ∧ H' p = some (.lst (ns.map V.int))) ⟨_, _, rfl, by decide, by decide, same_new hp, upd_same⟩ (fun i σ H' _ hP => ?_) (fun i x σ H' hx hP => ?_) (fun σ H' hP => ?_)
    · obtain ⟨s, c, rfl, p1, p2, p3, p4⟩ := hP
      exact sql_of p4
    · obtain ⟨s, c, rfl, p1, p2, p3, p4⟩ := hP
      rw [List.getElem?_map] at hx
      obtain ⟨n, hn, rfl⟩ := Option.map_eq_some_iff.mp hx
      walk_at "w"
      exact ⟨_, _, rfl, Int.emod_nonneg _ (by decide), Int.emod_lt_of_pos _ (by decide), p3, p4⟩
    · obtain ⟨s, c, rfl, p1, p2, p3, p4⟩ := hP
      walk_at "w"
      refine k_disp ?_
      intro d hd
      refine k_prs ?_
      walk_at "w"
      refine k_slL (sql_same (same_new hd) (sql_same p3 h1)) ?_
      rw [cut_all (by rw [List.length_map]; omega)]
      intro pc hpc
      walk_at "w"
      refine k_list (sql_of upd_same) ?_
      intro pl hpl
      refine k_prs ?_
      walk_at "w"
      refine k_prs ?_
      walk_at "w"
      refine k_prs ?_
      walk_at "w"
      refine k_prn ?_
      have hd2 : upd (upd (upd H' d (.dK [])) pc (.lst (ns.map V.int))) pl (.lst (ns.map V.int)) d = some (.dK []) := by walk_at "hg"
      refine ⟨hd2, dd pl 0 0 s, rfl, by show 4 ≤ 15; decide, ?_⟩
      rw [dd_merge]
      refine q _ _ _ ?_ (Same.free p3 (Same.free (same_new hd) (Same.free (same_new hpc) hpl))) ?_ ?_
      · walk_at "fr"
      · walk_at "sm"
      · refine ⟨0, 0, s, ns, upd_same, ?_, by decide, by decide, p1, p2⟩
        rw [upd_ne (ne_of upd_same hd2 (by intro z; cases z))]
        exact upd_same
end
end Lw
-- own part: lw5b
namespace Lw
open PySem PySem.Spec PyProof.Rows L2 Ls
section
variable {P : Program} {w : World} {K : PySem.W.Frag} {mg : Str → Option Value} {base : Heap}
theorem ok__law_of (E : Env K mg w) (G__law_pick : FnOk P w K mg base CX0 1 E.a__law_pick E.fd__law_pick ["_law_d", "_law_many"] (spPick K)) : FnOk P w K mg base CX0 2 E.a__law_of E.fd__law_of ["_law_d", "_law_things"] (spOf K) := by
  refine E.F__law_of.ok sc__law_of (fun vs H Q E h => ?_) (fun cdv A outer s H vs Q E' hr h => ?_)
  · obtain ⟨d, c, m, xs, rfl, _⟩ := h
    rfl
  · obtain ⟨d, c, l, xs, rfl, hD, hl, h0, hn, q⟩ := h
    have hu := huOf hr
    have hr__law_pick := hr.mono (Nat.le_refl _)
    have b__law_pick := b__law_pick E
    refine ⟨_, PSs.nox (pss_one (ps_ret (pe_ix (ix_U K rfl) (pv 1) (pe_call G__law_pick hr__law_pick rfl E.g__law_pick E.F__law_pick.kp b__law_pick .nil pass0 (pa_cons (pv 0) (pa_cons (pe_callB (call_lenU K rfl) (by rfl) E.n_len boot_len (pa_cons (pv 1) pa_nil)) pa_nil))) (fun _ _ => rfl)))), ?_⟩
    refine k_body (s1 := [some (.ref d), some (.ref l)]) rfl ?_
    walk_at "w"
    refine k_lenL hl ?_
    walk_at "w"
    refine use_pick hD (by omega) (by omega) fun r H1 k1 D1 r0 r1 => ?_
    obtain ⟨k, rfl⟩ := Int.eq_ofNat_of_zero_le r0
    have hk : k < xs.length := by omega
    refine k_ixL (hD.sql k1 hl) (atI_nat (List.getElem?_eq_getElem hk)) ?_
    exact q _ _ k1 D1 (List.getElem_mem hk)
end
end Lw
-- own part: lw3
namespace Lw
open PySem PySem.Spec PyProof.Rows L2 Ls
section
variable {P : Program} {w : World} {K : PySem.W.Frag} {mg : Str → Option Value} {base : Heap}
theorem same_turn (E : Env K mg w) (n : Nat) {sp : Sp} (G__law_same : FnOk P w K mg base CX0 n E.a__law_same E.fd__law_same ["_law_found", "_law_due"] sp)
    (use : ∀ (x y : V) (d : PyData) (H : Hp) (Q : VK) (E : XK) (m : Nat), n = m + 1 → Dp K H x d → Dp K H y d → OkD m d → (∀ H', Same H H' → Q (.bl true) H') → sp ([x, y] ++ []) H Q E) :
    FnOk P w K mg base CX0 (n + 1) E.a__law_same E.fd__law_same ["_law_found", "_law_due"] (spSame K n) := by
  refine E.F__law_same.ok sc__law_same (fun vs H Q E h => ?_) (fun cdv A outer s H vs Q E' hr h => ?_)
  · obtain ⟨x, y, d, rfl, _⟩ := h
    rfl
  · obtain ⟨x, y, d, rfl, hx, hy, hd, q⟩ := h
    have hu := huOf hr
    have b__law_same := b__law_same E
    have hr__law_same := hr
    refine ⟨_, PSs.nox (pss_cons (ps_if (pt_cmpR (op_isU) (pv 1) pe_non (nomark _)) (pss_one (ps_ret (pe_cmpR (op_isU) (pv 0) pe_non (nomark _)))) pss_nil)
(pss_cons (ps_if (PW.pt (pw_or (pt_val (pe_callB (call_isiU K rfl) (by rfl) E.n_isinstance boot_isinstance (pa_cons (pv 1) (pa_cons (pe_ty "bool" rfl E.n_bool (by decide +kernel)) pa_nil)))) (pw_or1 (pt_val (pe_callB (call_isiU K rfl) (by rfl) E.n_isinstance boot_isinstance (pa_cons (pv 0) (pa_cons (pe_ty "bool" rfl E.n_bool (by decide +kernel)) pa_nil))))))) (pss_one (ps_ret (pe_and (pe_callB (call_isiU K rfl) (by rfl) E.n_isinstance boot_isinstance (pa_cons (pv 1) (pa_cons (pe_ty "bool" rfl E.n_bool (by decide +kernel)) pa_nil))) (pe_and (pe_callB (call_isiU K rfl) (by rfl) E.n_isinstance boot_isinstance (pa_cons (pv 0) (pa_cons (pe_ty "bool" rfl E.n_bool (by decide +kernel)) pa_nil))) (pe_one (pe_cmpR (op_eqU K rfl hu) (pv 0) (pv 1) (nomark _))))))) pss_nil)
(pss_cons (ps_if (pt_val (pe_callB (call_isiTU K rfl) (by rfl) E.n_isinstance boot_isinstance (pa_cons (pv 1) (pa_cons (pe_tup (pa_cons (pe_ty "int" rfl E.n_int (by decide +kernel)) (pa_cons (pe_ty "str" rfl E.n_str (by decide +kernel)) pa_nil))) pa_nil)))) (pss_one (ps_ret (pe_and (pe_callB (call_isiTU K rfl) (by rfl) E.n_isinstance boot_isinstance (pa_cons (pv 0) (pa_cons (pe_tup (pa_cons (pe_ty "int" rfl E.n_int (by decide +kernel)) (pa_cons (pe_ty "str" rfl E.n_str (by decide +kernel)) pa_nil))) pa_nil))) (pe_and (pe_cmpR (op_eqU K rfl hu) (pe_callB (call_isiU K rfl) (by rfl) E.n_isinstance boot_isinstance (pa_cons (pv 0) (pa_cons (pe_ty "int" rfl E.n_int (by decide +kernel)) pa_nil))) (pe_callB (call_isiU K rfl) (by rfl) E.n_isinstance boot_isinstance (pa_cons (pv 1) (pa_cons (pe_ty "int" rfl E.n_int (by decide +kernel)) pa_nil))) (nomark _)) (pe_one (pe_cmpR (op_eqU K rfl hu) (pv 0) (pv 1) (nomark _))))))) pss_nil)
(pss_cons (ps_if (PW.pt (pw_or (pt_cmpR (op_neU K rfl hu) (pe_callB (call_isiU K rfl) (by rfl) E.n_isinstance boot_isinstance (pa_cons (pv 1) (pa_cons (pe_ty "list" rfl E.n_list (by decide +kernel)) pa_nil))) (pe_callB (call_isiU K rfl) (by rfl) E.n_isinstance boot_isinstance (pa_cons (pv 0) (pa_cons (pe_ty "list" rfl E.n_list (by decide +kernel)) pa_nil))) (nomark _)) (pw_or1 (pt_cmpR (op_neU K rfl hu) (pe_callB (call_isiU K rfl) (by rfl) E.n_isinstance boot_isinstance (pa_cons (pv 1) (pa_cons (pe_ty "tuple" rfl E.n_tuple (by decide +kernel)) pa_nil))) (pe_callB (call_isiU K rfl) (by rfl) E.n_isinstance boot_isinstance (pa_cons (pv 0) (pa_cons (pe_ty "tuple" rfl E.n_tuple (by decide +kernel)) pa_nil))) (nomark _))))) (pss_one (ps_ret pe_bl)) pss_nil)
(pss_one (ps_ret (pe_and (pe_cmpR (op_eqU K rfl hu) (pe_callB (call_lenU K rfl) (by rfl) E.n_len boot_len (pa_cons (pv 0) pa_nil)) (pe_callB (call_lenU K rfl) (by rfl) E.n_len boot_len (pa_cons (pv 1) pa_nil)) (nomark _)) (pe_one (pe_callB (cr_allU K rfl rfl) (by rfl) E.n_all boot_all (pa_cons (pe_lc (own := [("_law_k", 2)]) rfl sc__law_same.nd (pi_range1 rfl E.n_range (pa_cons (pe_callB (call_lenU K rfl) (by rfl) E.n_len boot_len (pa_cons (pv 1) pa_nil)) pa_nil)) (blkOk_by (N := ["_law_found", "_law_due", "_law_k"]) (sc := defScope s__law_same) (by decide +kernel)) (fun _ _ _ _ _ => (pg_name (i := 2) sc__law_same.nd rfl (Or.inl rfl))) (fun _ _ _ _ _ => pts_nil) (fun _ _ _ _ _ => (pe_call G__law_same hr__law_same rfl E.g__law_same E.F__law_same.kp b__law_same .nil pass0 (pa_cons (pe_ix (ix_U K rfl) (pv 0) (pv 2) (fun _ _ => rfl)) (pa_cons (pe_ix (ix_U K rfl) (pv 1) (pv 2) (fun _ _ => rfl)) pa_nil))))) pa_nil)))))))))), ?_⟩
    refine k_body (s1 := [some x, some y, none]) rfl ?_
    have two : d = .none ∨ (∃ b, d = .bool b) ∨ (∃ i, d = .int i) ∨ (∃ z, d = .str z) ∨ ∃ (a c : Addr) (xs ys : List V) (ds : List PyData) (m : Nat) (U : String) (bL bT : Bool), n = m + 1 ∧ x = .ref a ∧ y = .ref c ∧ (SqL K H a xs ∨ SqT K H a xs) ∧ (SqL K H c ys ∨ SqT K H c ys) ∧ DpAll K H xs ds ∧ DpAll K H ys ds ∧
        ds.length ≤ 100000 ∧ (∀ e ∈ ds, OkD m e) ∧ tyn d = U ∧ kitB U "bool" = some false ∧ kitB U "int" = some false ∧ kitB U "str" = some false ∧ kitB U "list" = some bL ∧ kitB U "tuple" = some bT := by
      cases d with
      | none => exact .inl rfl
      | bool b => exact .inr (.inl ⟨b, rfl⟩)
      | int i => exact .inr (.inr (.inl ⟨i, rfl⟩))
      | str z => exact .inr (.inr (.inr (.inl ⟨z, rfl⟩)))
      | list ds =>
        cases n with
        | zero => exact hd.elim
        | succ m =>
          cases hx with
          | lst h1 h2 =>
            cases hy with
            | lst h3 h4 => exact .inr (.inr (.inr (.inr ⟨_, _, _, _, ds, m, _, _, _, rfl, rfl, rfl, .inl h1, .inl h3, h2, h4, hd.1, hd.2, rfl, kt_list_bool, kt_list_int, kt_list_str, kt_list_list, kt_list_tuple⟩)))
      | tuple ds =>
        cases n with
        | zero => exact hd.elim
        | succ m =>
          cases hx with
          | tup h1 h2 =>
            cases hy with
            | tup h3 h4 => exact .inr (.inr (.inr (.inr ⟨_, _, _, _, ds, m, _, _, _, rfl, rfl, rfl, .inr h1, .inr h3, h2, h4, hd.1, hd.2, rfl, kt_tuple_bool, kt_tuple_int, kt_tuple_str, kt_tuple_list, kt_tuple_tuple⟩)))
      | dict i => cases n <;> exact hd.elim
    walk_at "w"
    rcases two with rfl | ⟨b, rfl⟩ | ⟨i, rfl⟩ | ⟨z, rfl⟩ | ⟨a, c, xs, ys, ds, m, U, bL, bT, rfl, rfl, rfl, sx, sy, ax, ay, hl, hds, e0, eb, ei, es, eL, eT⟩
    · cases hx
      cases hy
      refine k_pos rfl ?_
      walk_at "w"
      exact q H (Same.refl H)
    · cases hx
      cases hy
      refine k_neg' (by simp) ?_
      walk_at "w"
      refine k_isi (.bl b) rfl kt_bool_bool ?_
      walk_at "w"
      refine k_isi (.bl b) rfl kt_bool_bool ?_
      walk_at "w"
      refine k_isi (.bl b) rfl kt_bool_bool ?_
      walk_at "w"
      simp only [decide_true]
      exact q H (Same.refl H)
    · cases hx
      cases hy
      refine k_neg' (by simp) ?_
      walk_at "w"
      refine k_isi (.int i) rfl kt_int_bool ?_
      walk_at "w"
      refine k_isi (.int i) rfl kt_int_bool ?_
      walk_at "w"
      intro t nt
      walk_at "w"
      refine k_isi2 (b := true) (.int i) upd_same rfl kt_int_int kt_int_str rfl ?_
      walk_at "w"
      intro t2 nt2
      walk_at "w"
      refine k_isi2 (b := true) (.int i) upd_same rfl kt_int_int kt_int_str rfl ?_
      walk_at "w"
      refine k_isi (.int i) rfl kt_int_int ?_
      walk_at "w"
      refine k_isi (.int i) rfl kt_int_int ?_
      walk_at "w"
      refine k_pos rfl ?_
      walk_at "w"
      simp only [decide_true]
      exact q _ ((same_new nt).trans (same_new nt2))
    · cases hx
      cases hy
      refine k_neg' (by simp) ?_
      walk_at "w"
      refine k_isi (.str z) rfl kt_str_bool ?_
      walk_at "w"
      refine k_isi (.str z) rfl kt_str_bool ?_
      walk_at "w"
      intro t nt
      walk_at "w"
      refine k_isi2 (b := true) (.str z) upd_same rfl kt_str_int kt_str_str rfl ?_
      walk_at "w"
      intro t2 nt2
      walk_at "w"
      refine k_isi2 (b := true) (.str z) upd_same rfl kt_str_int kt_str_str rfl ?_
      walk_at "w"
      refine k_isi (.str z) rfl kt_str_int ?_
      walk_at "w"
      refine k_isi (.str z) rfl kt_str_int ?_
      walk_at "w"
      refine k_pos rfl ?_
      walk_at "w"
      simp only [decide_true]
      exact q _ ((same_new nt).trans (same_new nt2))
    · refine k_neg' (by simp) ?_
      walk_at "w"
      refine k_isi hy e0 eb ?_
      walk_at "w"
      refine k_isi hx e0 eb ?_
      walk_at "w"
      intro t nt
      have s1 := same_new (o := .tup [.ty "int", .ty "str"]) nt
      walk_at "w"
      refine k_isi2 (b := false) (dp_same s1 hy) upd_same e0 ei es rfl ?_
      walk_at "w"
      refine k_isi (dp_same s1 hy) e0 eL ?_
      walk_at "w"
      refine k_isi (dp_same s1 hx) e0 eL ?_
      walk_at "w"
      refine k_nneg rfl ?_
      walk_at "w"
      refine k_isi (dp_same s1 hy) e0 eT ?_
      walk_at "w"
      refine k_isi (dp_same s1 hx) e0 eT ?_
      walk_at "w"
      refine k_nneg rfl ?_
      walk_at "w"
      refine k_lenE (seq_same s1 sx) ?_
      walk_at "w"
      refine k_lenE (seq_same s1 sy) ?_
      walk_at "w"
      refine k_pos (by rw [DpAll.length' ax, DpAll.length' ay]) ?_
      walk_at "w"
      refine k_lenE (seq_same s1 sy) ?_
      walk_at "w"
      have ly := DpAll.length' ay
      refine k_itr1 (by omega) ?_
      intro D hD
      have s2 := s1.trans (same_new (o := .lst []) hD)
      refine lc_range (fun i H' => Same H H' ∧ H D = none ∧ H' D = some (.lst (List.replicate i (V.bl true)))) ⟨s2, s1.free hD, upd_same⟩ (fun i H' hi hP => ?_) (fun H' hP => ?_)
      · obtain ⟨p1, p2, p3⟩ := hP
        walk_at "lc"
        have hi' : i < ds.length := by omega
        obtain ⟨v, hv, dv⟩ := DpAll.getD' ax (List.getElem?_eq_getElem hi')
        obtain ⟨u, hu', du⟩ := DpAll.getD' ay (List.getElem?_eq_getElem hi')
        refine k_ixE (seq_same p1 sx) (at_of (by omega) hv) ?_
        walk_at "w"
        refine k_ixE (seq_same p1 sy) (at_of (by omega) hu') ?_
        walk_at "w"
        refine use _ _ _ _ _ _ m rfl (dp_same p1 dv) (dp_same p1 du) (hds _ (List.getElem_mem hi')) fun H2 s3 => ?_
        refine ⟨_, s3 _ _ p3, ?_, ?_⟩
        · rw [List.length_replicate, sizeLine_eq]
          omega
        · refine ⟨fun b o e => ?_, p2, ?_⟩
          · rw [upd_ne (ne_of_none e p2)]
            exact s3 _ _ (p1 _ _ e)
          · rw [upd_same, List.replicate_succ']
      · obtain ⟨p1, p2, p3⟩ := hP
        walk_at "w"
        refine k_all (bs := List.replicate (ys.length : Int).toNat true) (by rw [List.map_replicate]; exact sql_of p3) ?_
        have ea : (List.replicate (ys.length : Int).toNat true).all id = true := by
          rw [List.all_eq_true]
          intro x hx
          rw [List.eq_of_mem_replicate hx]
          rfl
        rw [ea]
        exact q _ p1
theorem ok__law_same (E : Env K mg w) : ∀ n : Nat, FnOk P w K mg base CX0 (n + 1) E.a__law_same E.fd__law_same ["_law_found", "_law_due"] (spSame K n)
  | 0 => same_turn E 0 (sp := fun _ _ _ _ => False) ⟨fun _ _ _ _ h => h.elim, fun _ _ _ _ _ _ _ _ _ _ _ _ _ h => h.elim⟩ fun x y d H Q E m hm => by omega
  | n + 1 => same_turn E (n + 1) (ok__law_same E n) fun x y d H Q E m hm h1 h2 h3 q => by
    cases hm
    exact use_same h1 h2 h3 q
end
end Lw
set_option hygiene false
local macro_rules | `(tactic| walk_at "mem") => `(tactic| first
  | (with_reducible exact List.mem_cons_self)
  | assumption
  | (with_reducible refine' List.mem_cons_of_mem _ ?mx; (case mx => walk_at "mem")))
local macro_rules | `(tactic| walk_at "om") => `(tactic| first | omega | decide | (simp only [List.length_cons, List.length_nil, List.length_append, List.length_map] <;> omega))
local macro_rules | `(tactic| walk_at "dat") => `(tactic| (with_reducible first
  | exact Dat.int _ | exact Dat.str _ | exact Dat.non | exact Dat.bl _
  | (refine' Dat.im ?dx; (case dx => walk_at "mem"))))
local macro_rules | `(tactic| walk_at "dats") => `(tactic| first
  | (with_reducible exact DatAll.nil)
  | (with_reducible refine' DatAll.cons ?da ?db; (case da => walk_at "dat"); (case db => walk_at "dats")))
local macro_rules | `(tactic| walk_at "dl") => `(tactic| first
  | (refine' Dl.dat ?dx; (case dx => walk_at "dat"))
  | (refine' Dl.ld ?dx; (case dx => walk_at "mem")))
local macro_rules | `(tactic| walk_at "rep") => `(tactic| first
  | (with_reducible exact Rep.here)
  | (with_reducible refine' Rep.there ?rx; (case rx => walk_at "rep")))
local macro_rules | `(tactic| walk_at "rem") => `(tactic| first
  | (with_reducible exact Rem.here)
  | (with_reducible refine' Rem.there ?rx; (case rx => walk_at "rem")))
local macro_rules | `(tactic| walk_at "sub") => `(tactic| first
  | (with_reducible exact Sub.refl)
  | (with_reducible exact Sub.nil)
  | (with_reducible refine' Sub.rem ?rr ?rs; (case rr => walk_at "rem"); (case rs => walk_at "sub"))
  | (with_reducible refine' Sub.dup ?rr ?rs; (case rr => walk_at "mem"); (case rs => walk_at "sub"))
  | (with_reducible refine' Sub.drop ?rx; (case rx => walk_at "sub")))
local macro_rules | `(tactic| walk_at "fl") => `(tactic| first | (with_unfolding_all exact Nat.le_of_ble_eq_true rfl) | with_unfolding_all decide | (simp only [List.length_cons, List.length_nil]; omega))
local macro_rules | `(tactic| walk_at "pf") => `(tactic| rfl)
local macro_rules | `(tactic| walk_at "gv") => `(tactic| (dsimp only [Gv, GvAll, List.nil_append, List.cons_append, List.append_nil]; first
  | refine fun (hS : Ls.Sep _ _) => ?_
  | refine fun v (hS : Ls.Sep _ _) => ?_
  | refine fun v1 v2 (hS : Ls.Sep _ _) => ?_
  | refine fun v1 v2 v3 (hS : Ls.Sep _ _) => ?_))
local macro_rules | `(tactic| walk_at "sa") => `(tactic| (refine fun p (hp : _ = none) => ?_; first
  | (rw [updT_eq p]; (generalize he : updT _ p _ = H'); (first | (refine' andThen (ar_I hS hp he ?dt) ?_; (case dt => walk_at "dats")) | (refine' andThen (ar_T hS hp he) ?_)); clear he hp hS; refine fun hS => ?_)
  | (rw [updL_eq p]; (generalize he : updL _ p _ = H'); (first | (refine' andThen (ar_L hS hp he ?dt) ?_; (case dt => walk_at "dats")) | (refine' andThen (ar_O hS hp he) ?_)); clear he hp hS; refine fun hS => ?_)
  | (rw [updK_eq p]; (generalize he : updK _ p _ = H'); (refine' andThen (ar_K hS hp he) ?_); clear he hp hS; refine fun hS => ?_)))
local macro_rules | `(tactic| walk_at "sr") => `(tactic| with_reducible first
  | (refine' k_lenD hS ?sm ?_; (case sm => walk_at "mem"))
  | (refine' k_lenI hS ?sm ?_; (case sm => walk_at "mem"))
  | (refine' k_lenO hS ?sm ?_; (case sm => walk_at "mem"))
  | (refine' k_lenK hS ?sm ?_; (case sm => walk_at "mem"))
  | (refine' k_ixS' hS ?sm ?se ?_; (case sm => walk_at "mem"); (case se => with_unfolding_all rfl); clear hS; walk_at "gv")
  | (refine' k_ixD hS ?sm ?se ?_; (case sm => walk_at "mem"); (case se => with_unfolding_all rfl); clear hS; walk_at "gv")
  | (refine' k_ixTu hS ?sm ?se ?_; (case sm => walk_at "mem"); (case se => with_unfolding_all rfl))
  | (refine' k_gtupS hS ?sm ?se ?_; (case sm => walk_at "mem"); (case se => with_unfolding_all rfl); clear hS; walk_at "gv")
  | (refine' k_gtupO hS ?sm ?se ?_; (case sm => walk_at "mem"); (case se => with_unfolding_all rfl))
  | (refine' k_tyD hS ?sm ?_; (case sm => walk_at "mem"))
  | (refine' k_tyO hS ?sm ?_; (case sm => walk_at "mem"))
  | (refine' k_appD hS ?sr ?st ?sl ?_; (case sr => walk_at "rep"); (case st => walk_at "dat"); (case sl => walk_at "sz"); clear hS; refine fun H' hS => ?_)
  | (refine' k_appO hS ?sr ?sl ?_; (case sr => walk_at "rep"); (case sl => walk_at "sz"); clear hS; refine fun H' hS => ?_)
  | refine k_chain3 ?_ | refine k_istr ?_ | refine k_istX ?_ | refine k_inSg ?_ | refine k_non ?_
  | (refine' k_fldS hS ?sm ?sc ?sn ?se ?_; (case sm => walk_at "mem"); (case sc => assumption); (case sn => assumption); (case se => with_unfolding_all rfl))
  | (refine' k_fldF hS ?sm ?sc ?sn ?se ?_; (case sm => walk_at "mem"); (case sc => assumption); (case sn => assumption); (case se => with_unfolding_all rfl))
  | (refine' k_fldA hS ?sm ?sc ?sn ?se ?_; (case sm => walk_at "mem"); (case sc => assumption); (case sn => assumption); (case se => with_unfolding_all rfl))
  | (refine' k_putS' hS ?sr ?sc ?sn ?sl ?se ?_; (case sr => walk_at "rep"); (case sc => assumption); (case sn => assumption); (case sl => walk_at "fl"); (case se => walk_at "pf"); clear hS; refine fun H' hS => ?_)
  | (refine' k_putG hS ?sr ?sc ?sn ?sl ?se ?_; (case sr => walk_at "rep"); (case sc => assumption); (case sn => assumption); (case sl => walk_at "fl"); (case se => walk_at "pf"); clear hS; refine fun H' hS => ?_)
  | (refine' k_recvP (Z := ⟨E.C_Kind, E.C_Page, E.C_Lane⟩) hS ?sm ?se ?_; (case sm => walk_at "mem"); (case se => (intro c; with_unfolding_all rfl)))
  | (refine' k_recvL (Z := ⟨E.C_Kind, E.C_Page, E.C_Lane⟩) hS ?sm ?se ?_; (case sm => walk_at "mem"); (case se => (intro b c; with_unfolding_all rfl)))
  | (refine' k_recvLA (Z := ⟨E.C_Kind, E.C_Page, E.C_Lane⟩) hS ?sm ?se ?_; (case sm => walk_at "mem"); (case se => (intro b c; with_unfolding_all rfl)))
  | (refine' k_kname hS ?sm ?sc ?sn ?_; (case sm => walk_at "mem"); (case sc => assumption); (case sn => assumption))
  | (refine' k_kfields hS ?sm ?sc ?sn ?_; (case sm => walk_at "mem"); (case sc => assumption); (case sn => assumption); clear hS; refine fun f hS => ?_)
  | (refine' k_madeT hS ?_; clear hS; refine fun x H hS => ?_)
  | (refine' k_recvK hS ?sm ?se ?_; (case sm => walk_at "mem"); (case se => (intro b; with_unfolding_all rfl)))
  | (refine' k_fldP (Z := ⟨E.C_Kind, E.C_Page, E.C_Lane⟩) hS ?sm ?sc ?sn ?se ?_; (case sm => walk_at "mem"); (case sc => assumption); (case sn => assumption); (case se => (intro c; with_unfolding_all rfl)))
  | (refine' k_fldL (Z := ⟨E.C_Kind, E.C_Page, E.C_Lane⟩) hS ?sm ?sc ?sn ?se ?_; (case sm => walk_at "mem"); (case sc => assumption); (case sn => assumption); (case se => (intro b c; with_unfolding_all rfl)))
  | (refine' k_augS hS ?sr ?sl ?se ?_; (case sr => walk_at "rep"); (case sl => walk_at "fl"); (case se => walk_at "pf"); clear hS; refine fun H' hS => ?_)
  | (refine' k_recvI hS ?sm ?se ?_; (case sm => walk_at "mem"); (case se => with_unfolding_all rfl))
  | (refine' k_recvF hS ?sm ?se ?_; (case sm => walk_at "mem"); (case se => with_unfolding_all rfl))
  | (refine' k_eqzO hS ?sm ?sn ?_; (case sm => walk_at "mem"); (case sn => walk_at "mem"))
  | (refine' k_nezO hS ?sm ?sn ?_; (case sm => walk_at "mem"); (case sn => walk_at "mem"))
  | (refine' k_eqzD hS ?sm ?sn ?_; (case sm => walk_at "mem"); (case sn => walk_at "mem"))
  | (refine' k_nezD hS ?sm ?sn ?_; (case sm => walk_at "mem"); (case sn => walk_at "mem"))
  | (refine' k_ixO hS ?sm ?se ?_; (case sm => walk_at "mem"); (case se => assumption))
  | (refine' k_ixD hS ?sm ?se ?_; (case sm => walk_at "mem"); (case se => assumption); clear hS; walk_at "gv")
  | (refine' k_popAtO hS ?sr ?se ?sb ?_; (case sr => walk_at "rep"); (case se => assumption); (case sb => walk_at "om"); clear hS; refine fun H' hS => ?_)
  | (refine' k_popO hS ?sr ?se ?_; (case sr => walk_at "rep"); (case se => assumption); clear hS; refine fun H' hS => ?_)
  | (refine' k_extO hS ?sr ?sm ?sl ?_; (case sr => walk_at "rep"); (case sm => walk_at "mem"); (case sl => walk_at "sz"); clear hS; refine fun H' hS => ?_)
  | (refine' k_setO hS ?sr ?se ?_; (case sr => walk_at "rep"); (case se => assumption); clear hS; refine fun H' hS => ?_)
  | (refine' k_slTu hS ?sm ?_; (case sm => walk_at "mem"); clear hS; refine fun p H' hS => ?_)
  | (refine' k_slI hS ?sm ?_; (case sm => walk_at "mem"); clear hS; refine fun p H' hS => ?_)
  | (refine' k_slD hS ?sm ?_; (case sm => walk_at "mem"); clear hS; refine fun p H' hS => ?_)
  | (refine' k_slO hS ?sm ?_; (case sm => walk_at "mem"); clear hS; refine fun p H' hS => ?_)
  | refine k_joinU ?_ | refine k_strX ?_ | refine k_iseq ?_ | refine k_enum ?_ | refine k_fld ?_ | refine k_sfld ?_ | refine k_gfld ?_ | refine k_gsub ?_ | refine k_makeK ?_ | (refine' k_aug ?se ?_; (case se => with_unfolding_all rfl); dsimp only [List.set_cons_succ, List.set_cons_zero]) | refine k_ipI ?_ | refine k_asg2 ?_ | refine k_sfldaug ?_ | refine k_meth ?_ | refine k_methN ?_ | refine k_make ?_ | refine k_inadd ?_ | refine k_insub ?_
  | (refine' k_glueS hS ?sm ?sl ?_; (case sm => walk_at "mem"); (case sl => walk_at "om"))
  | (refine' k_seqD hS ?sm ?_; (case sm => walk_at "mem"))
  | (refine' k_seqO hS ?sm ?_; (case sm => walk_at "mem"))
  | (refine' k_seqI hS ?sm ?_; (case sm => walk_at "mem"))
  | (refine' k_enD hS ?sm ?_; (case sm => walk_at "mem"))
  | (refine' k_enO hS ?sm ?_; (case sm => walk_at "mem"))
  | (refine' k_enI hS ?sm ?_; (case sm => walk_at "mem"))
  | (refine' k_tupleS hS ?sm ?_; (case sm => walk_at "mem"); clear hS; refine fun p H' hS => ?_)
  | (refine' k_listS hS ?sm ?_; (case sm => walk_at "mem"); clear hS; refine fun p H' hS => ?_)
  | (refine' k_listO hS ?sm ?_; (case sm => walk_at "mem"); clear hS; refine fun p H' hS => ?_)
  | refine k_min2 ?_ | refine k_max2 ?_
  | (refine' k_addD hS ?sm ?sn ?sl ?_; (case sm => walk_at "mem"); (case sn => walk_at "mem"); (case sl => walk_at "sz"); clear hS; refine fun p H' hS => ?_)
  | (refine' k_inS hS ?sm ?_; (case sm => walk_at "mem"))
  | (refine' k_notinS hS ?sm ?_; (case sm => walk_at "mem"))
  | (refine' k_inI hS ?sm ?_; (case sm => walk_at "mem"))
  | (refine' k_notinI hS ?sm ?_; (case sm => walk_at "mem"))
  | (refine k_fdiv ?sa ?sb ?_; (case sa => (first | omega | decide)); (case sb => (first | omega | decide)))
  | (refine k_itr1 ?se ?_; (case se => omega))
  | (refine' k_itlD hS ?sm ?_; (case sm => walk_at "mem"))
  | (refine' k_itlO hS ?sm ?_; (case sm => walk_at "mem"))
  | (refine' k_ittI hS ?sm ?_; (case sm => walk_at "mem")))
local macro_rules | `(tactic| walk_at "s") => `(tactic| repeat first | walk_at "w1" | walk_at "ar" | walk_at "sa" | walk_at "sr")
local macro_rules | `(tactic| walk_at "pk") => `(tactic| (refine' use_pickS hS ?sm ?sa ?sb ?_; (case sm => walk_at "mem"); (case sa => walk_at "om"); (case sb => walk_at "om"); clear hS))
local macro_rules | `(tactic| walk_at "ofI") => `(tactic| (refine' use_ofI hS ?sm ?sn ?si ?sa ?sb ?_; (case sm => walk_at "mem"); (case sn => walk_at "mem"); (case si => rfl); (case sa => walk_at "om"); (case sb => walk_at "om"); clear hS))
local macro_rules | `(tactic| walk_at "ofS") => `(tactic| (refine' use_ofS hS ?sm ?sn ?si ?sa ?sb ?_; (case sm => walk_at "mem"); (case sn => walk_at "mem"); (case si => rfl); (case sa => walk_at "om"); (case sb => walk_at "om"); clear hS))
local macro_rules | `(tactic| walk_at "hl") => `(tactic| repeat first | (obtain ⟨rfl, -⟩ := h; rfl) | (obtain ⟨_, h⟩ := h))
local macro_rules | `(tactic| walk_at "ls") => `(tactic| (simp only [wipe, List.map, List.set_cons_succ, List.set_cons_zero, List.nil_append, List.cons_append] at hS ⊢; walk_at "s"; refine ⟨rfl, ?_⟩; walk_at "s"))
local macro_rules | `(tactic| walk_at "ns") => `(tactic| (simp only [List.nil_append, List.cons_append] at hS))
local macro_rules | `(tactic| walk_at "gi") => `(tactic| (dsimp only [Gv]; first | refine fun H (hS : Ls.Sep _ _) => ?_ | refine fun a H (hS : Ls.Sep _ _) => ?_))
local macro_rules | `(tactic| walk_at "tp") => `(tactic| (refine' Sep.toPage (Sub.ok ?sa hS) ?sb; (case sa => walk_at "sub"); (case sb => rfl)))
local macro_rules | `(tactic| walk_at "tl") => `(tactic| focus (first
  | (refine' Sep.toLane (bk := bk) (pl := pl) (Sub.ok ?sa hS) ?sb ?_ ?_; (case sa => walk_at "sub"); (case sb => rfl); all_goals (try rfl))
  | (refine' Sep.toLane (Sub.ok ?sa hS) ?sb ?_ ?_; (case sa => walk_at "sub"); (case sb => rfl); all_goals (try rfl))))
-- own part: n1
namespace Ls
open PySem PySem.Spec PyProof.Rows L2
/-! ### names, fields -/
open TL
abbrev IsSg (c : Nat) : Prop := 97 ≤ c ∧ c ≤ 122
def IsNm (z : Str) : Prop := 1 ≤ z.length ∧ z.length ≤ 8 ∧ ∀ c ∈ z.cps.toList, IsSg c
theorem abc_at : ∀ k : Fin 26, (("abcdefghijklmnopqrstuvwxyz" : Str).cps.toList)[k.val]? = some (97 + k.val) := by decide +kernel
theorem abc_ix {r : Int} (h0 : 0 ≤ r) (h1 : r < 26) : atI ("abcdefghijklmnopqrstuvwxyz" : Str).cps.toList r = some (97 + r.toNat) := by
  obtain ⟨k, rfl⟩ := Int.eq_ofNat_of_zero_le h0
  exact atI_nat (abc_at ⟨k, by omega⟩)
theorem join_sigs : ∀ cs : List Nat, (Txt.join ("" : Str) (cs.map fun c => (⟨#[c]⟩ : Str))).cps.toList = cs := fun cs => by
  rw [join_eq]
  show tl _ = _
  rw [tl_join, List.map_map]
  have e : tl ("" : Str) = [] := by decide +kernel
  rw [e]
  have : ∀ cs : List Nat, joinL [] (cs.map (tl ∘ fun c => (⟨#[c]⟩ : Str))) = cs := by
    intro cs
    induction cs with
    | nil => rfl
    | cons c r ih =>
      cases r with
      | nil => rfl
      | cons c2 r2 =>
        show tl (⟨#[c]⟩ : Str) ++ ([] ++ joinL [] ((c2 :: r2).map _)) = _
        rw [ih]
        rfl
  exact this cs
theorem sig_len (c : Nat) : (⟨#[c]⟩ : Str).length = 1 := rfl
theorem sigs_sum (cs : List Nat) : ((cs.map fun c => (⟨#[c]⟩ : Str)).map (·.length)).sum = cs.length := by
  induction cs with
  | nil => rfl
  | cons c r ih =>
    simp only [List.map_cons, List.sum_cons, List.length_cons] at ih ⊢
    rw [ih, sig_len]
    omega
theorem len_toList (z : Str) : z.length = z.cps.toList.length := (Array.length_toList).symm
theorem app_toList (x y : Str) : (x ++ y).cps.toList = x.cps.toList ++ y.cps.toList := by
  rw [Str.cps_append, Array.toList_append]
theorem app_len (x y : Str) : (x ++ y).length = x.length + y.length := Str.length_append x y
def spWord (K : PySem.W.Frag) : Sp := fun vs H Q _ => ∃ (d : Addr) (L : List (As K)), vs = [.ref d] ∧ Sep L H ∧ dr d ∈ L ∧ ∀ z H', IsNm z → Sep L H' → Q (.str z) H'
def spWords (K : PySem.W.Frag) : Sp := fun vs H Q _ => ∃ (d : Addr) (n : Nat) (L : List (As K)), vs = [.ref d, .int n] ∧ n ≤ 8 ∧ Sep L H ∧ dr d ∈ L ∧ ∀ p (zs : List Str) H', zs.length = n → zs.Nodup → (∀ z ∈ zs, IsNm z) → Sep (ld p (zs.map PyData.str) :: L) H' → Q (.ref p) H'
end Ls
namespace Lw
open PySem PySem.Spec PyProof.Rows L2 Ls
theorem ok__law_word {P : Program} {w : World} {K : PySem.W.Frag} {mg : Str → Option Value} {base : Heap} (E : Env K mg w) : FnOk P w K mg base CX0 3 E.a__law_word E.fd__law_word ["_law_d"] (spWord K) := by
  refine E.F__law_word.ok sc__law_word (fun vs H Q E h => ?_) (fun cdv A outer s H vs Q E' hr h => ?_)
  · walk_at "hl"
  · have hu := huOf hr
    have G__law_of := ok__law_of E (ok__law_pick (P := P) (w := w) (base := base) E)
    have hr__law_of := hr.mono (show 2 ≤ 2 by decide)
    have b__law_of := b__law_of E
    have G__law_pick := ok__law_pick (P := P) (w := w) (base := base) E
    have hr__law_pick := hr.mono (show 1 ≤ 2 by decide)
    have b__law_pick := b__law_pick E
    have hcl_Tally := E.cl_Tally
    obtain ⟨d, L, rfl, hS, hd, q⟩ := h
    refine ⟨_, PSs.nox (pss_cons (ps_set (i := 1) sc__law_word.nd rfl (Or.inr rfl) pe_str)
(pss_cons (ps_set (i := 2) sc__law_word.nd rfl (Or.inl rfl) (pe_call G__law_of hr__law_of rfl E.g__law_of E.F__law_of.kp b__law_of .nil pass0 (pa_cons (pv 0) (pa_cons (pe_lst (pa_cons pe_str (pa_cons pe_str (pa_cons pe_str (pa_cons pe_str (pa_cons pe_str pa_nil)))))) pa_nil))))
(pss_cons (ps_set (i := 3) sc__law_word.nd rfl (Or.inl rfl) (pe_op (op_addU K rfl) pe_int (pe_call G__law_pick hr__law_pick rfl E.g__law_pick E.F__law_pick.kp b__law_pick .nil pass0 (pa_cons (pv 0) (pa_cons (pe_op op_sub pe_int (pe_callB (call_lenU K rfl) (by rfl) E.n_len boot_len (pa_cons (pv 2) pa_nil))) pa_nil)))))
(pss_cons (ps_set (i := 4) sc__law_word.nd rfl (Or.inl rfl) (pe_joinU K rfl pe_str (pe_lc (own := [("_law_k", 5)]) rfl sc__law_word.nd (pi_range1 rfl E.n_range (pa_cons (pv 3) pa_nil)) (blkOk_by (N := ["_law_d", "_law_letters", "_law_first", "_law_size", "_law_some", "_law_k"]) (sc := defScope s__law_word) (by decide +kernel)) (fun _ _ _ _ _ => (pg_name (i := 5) sc__law_word.nd rfl (Or.inl rfl))) (fun _ _ _ _ _ => pts_nil) (fun _ _ _ _ _ => (pe_ix (ix_U K rfl) (pv 1) (pe_call G__law_pick hr__law_pick rfl E.g__law_pick E.F__law_pick.kp b__law_pick .nil pass0 (pa_cons (pv 0) (pa_cons pe_int pa_nil))) (fun _ _ => rfl))))))
(pss_one (ps_ret (pe_ix (ix_U K rfl) (pe_lst (pa_cons (pe_op (op_addU K rfl) (pv 2) (pv 4)) (pa_cons (pe_op (op_addU K rfl) (pv 4) (pv 2)) pa_nil))) (pe_call G__law_pick hr__law_pick rfl E.g__law_pick E.F__law_pick.kp b__law_pick .nil pass0 (pa_cons (pv 0) (pa_cons pe_int pa_nil))) (fun _ _ => rfl)))))))), ?_⟩
    refine k_body (s1 := some _ :: [none, none, none, none, none]) rfl ?_
    walk_at "s"
    walk_at "ofS"
    intro z H hz hS
    have hz : z.length ≤ 7 ∧ ∀ c ∈ z.cps.toList, IsSg c := by
      simp only [List.mem_cons, PyData.str.injEq, List.not_mem_nil, or_false] at hz
      rcases hz with rfl | rfl | rfl | rfl | rfl <;> exact ⟨by decide +kernel, by decide +kernel⟩
    walk_at "s"
    refine k_lenS (by rw [sizeLine_eq]; omega) ?_
    walk_at "s"
    walk_at "pk"
    intro r H hS r0 r1
    walk_at "s"
    refine lc_wk (L := L) (n := (1 + r).toNat) (fun i acc L' => L' = L ∧ ∃ cs : List Nat, acc = (cs.map fun c => (⟨#[c]⟩ : Str)).map PyData.str ∧ cs.length = i ∧ ∀ c ∈ cs, IsSg c) (fun i acc L' _ => wk_rng) (Sub.ok ?u hS) ⟨rfl, [], rfl, rfl, by simp⟩ (fun i acc L' hi iv H hS => ?_) (fun acc L' H iv hS => ?_)
    case u => walk_at "sub"
    · obtain ⟨rfl, cs, rfl, hc, hsg⟩ := iv
      walk_at "ls"
      walk_at "pk"
      intro r2 H hS s0 s1
      refine k_ixS (by rw [sizeLine_eq]; decide +kernel) (abc_ix s0 s1) ?_
      refine lc_keep hS (.str _) .refl (by rw [sizeLine_eq]; simp only [List.length_map]; omega) ⟨rfl, cs ++ [97 + r2.toNat], by simp, by simp [hc], fun c hm => ?_⟩
      rcases List.mem_append.mp hm with hm | hm
      · exact hsg c hm
      · rw [List.mem_singleton.mp hm]; exact ⟨by omega, by omega⟩
    · obtain ⟨rfl, cs, rfl, hc, hsg⟩ := iv
      refine k_glueS (z := ("" : Str)) hS (zs := cs.map fun c => (⟨#[c]⟩ : Str)) List.mem_cons_self (by rw [sigs_sum, List.length_map, show ("" : Str).length = 0 by decide +kernel]; omega) ?_
      have hw := join_sigs cs
      generalize Txt.join ("" : Str) (cs.map fun c => (⟨#[c]⟩ : Str)) = w at hw
      have hl : w.length = cs.length := by rw [len_toList, hw]
      walk_at "s"
      refine k_addS (by rw [sizeLine_eq]; omega) ?_
      walk_at "s"
      refine k_addS (by rw [sizeLine_eq]; omega) ?_
      walk_at "s"
      walk_at "pk"
      intro r2 H hS s0 s1
      have e : ∀ x y : Str, (x.length ≤ 7 ∧ ∀ c ∈ x.cps.toList, IsSg c) ∨ True → True := fun _ _ _ => trivial
      have n1 : IsNm (z ++ w) := ⟨by rw [app_len]; omega, by rw [app_len]; omega, fun c hm => by
        rw [app_toList, hw] at hm
        exact (List.mem_append.mp hm).elim (hz.2 c) (hsg c)⟩
      have n2 : IsNm (w ++ z) := ⟨by rw [app_len]; omega, by rw [app_len]; omega, fun c hm => by
        rw [app_toList, hw] at hm
        exact (List.mem_append.mp hm).elim (hsg c) (hz.2 c)⟩
      have : r2 = 0 ∨ r2 = 1 := by omega
      rcases this with rfl | rfl
      · walk_at "s"
        exact q _ _ n1 (Sub.ok (by walk_at "sub") hS)
      · walk_at "s"
        exact q _ _ n2 (Sub.ok (by walk_at "sub") hS)
end Lw
-- own part: n2
namespace Ls
open PySem PySem.Spec PyProof.Rows L2
def cand (j : Nat) : Str := ⟨#[97 + j % 8]⟩ ++ ⟨#[113 + j / 8 % 8]⟩
theorem cand_cps (j : Nat) : (cand j).cps.toList = [97 + j % 8, 113 + j / 8 % 8] := rfl
theorem cand_nm (j : Nat) : IsNm (cand j) := ⟨by rw [len_toList, cand_cps]; show 1 ≤ 2; decide, by rw [len_toList, cand_cps]; show 2 ≤ 8; decide, fun c h => by
  rw [cand_cps] at h
  simp only [List.mem_cons, List.not_mem_nil, or_false] at h
  rcases h with rfl | rfl
  · exact ⟨by omega, by omega⟩
  · exact ⟨by omega, by omega⟩⟩
theorem cand_inj {i j : Nat} (h : cand i = cand j) : i % 8 = j % 8 := by
  have e : (cand i).cps.toList = (cand j).cps.toList := by rw [h]
  rw [cand_cps, cand_cps] at e
  injection e with e _
  omega
theorem ah_ix : ∀ k : Fin 8, (("abcdefgh" : Str).cps.toList)[k.val]? = some (97 + k.val) := by decide +kernel
theorem qx_ix : ∀ k : Fin 8, (("qrstuvwx" : Str).cps.toList)[k.val]? = some (113 + k.val) := by decide +kernel
theorem ah_at (j : Nat) : atI ("abcdefgh" : Str).cps.toList ((j : Int) % 8) = some (97 + j % 8) := by
  have e : (j : Int) % 8 = ((j % 8 : Nat) : Int) := by omega
  rw [e]
  exact atI_nat (ah_ix ⟨j % 8, by omega⟩)
theorem qx_at (j : Nat) : atI ("qrstuvwx" : Str).cps.toList ((j : Int) / 8 % 8) = some (113 + j / 8 % 8) := by
  have e : (j : Int) / 8 % 8 = ((j / 8 % 8 : Nat) : Int) := by omega
  rw [e]
  exact atI_nat (qx_ix ⟨j / 8 % 8, by omega⟩)
theorem nodup_le {α : Type} [DecidableEq α] : ∀ {xs ys : List α}, xs.Nodup → (∀ x ∈ xs, x ∈ ys) → xs.length ≤ ys.length
  | [], _, _, _ => Nat.zero_le _
  | x :: xs, ys, nd, h => by
    obtain ⟨n1, n2⟩ := List.nodup_cons.mp nd
    have hx := h x List.mem_cons_self
    have ih := nodup_le (ys := ys.erase x) n2 fun y hy => (List.mem_erase_of_ne fun e => n1 (by rw [← e]; exact hy)).mpr (h y (List.mem_cons_of_mem _ hy))
    rw [List.length_erase_of_mem hx] at ih
    have := List.length_pos_of_mem hx
    rw [List.length_cons]
    omega
/-- eight unlike words are not all among seven -/
theorem cand_free {zs : List Str} {k : Nat} (hl : zs.length < 8) (h : ∀ t, t < 8 → cand (k + t) ∈ zs) : False := by
  have nd : ((List.range 8).map fun t => cand (k + t)).Nodup := by
    rw [List.nodup_iff_pairwise_ne, List.pairwise_map]
    refine List.Pairwise.imp_of_mem (R := fun a b => a < b) (fun {a b} ha hb lt e => ?_) List.pairwise_lt_range
    have := cand_inj e
    have := List.mem_range.mp ha
    have := List.mem_range.mp hb
    omega
  have sub : ∀ x ∈ (List.range 8).map fun t => cand (k + t), x ∈ zs := by
    intro x hx
    obtain ⟨t, ht, rfl⟩ := List.mem_map.mp hx
    exact h t (List.mem_range.mp ht)
  have := nodup_le nd sub
  rw [List.length_map, List.length_range] at this
  omega
/-! fields -/
abbrev Fd := Str × Int × Int
abbrev fdD (f : Fd) : PyData := .tuple [.str f.1, .int f.2.1, .int f.2.2]
abbrev fdsD (fs : List Fd) : PyData := .tuple (fs.map fdD)
def GoodF (f : Fd) : Prop := IsNm f.1 ∧ -999999 ≤ f.2.1 ∧ f.2.1 ≤ f.2.2 ∧ f.2.2 ≤ 999999
def GoodFs (fs : List Fd) : Prop := fs.length ≤ 4 ∧ (fs.map (·.1)).Nodup ∧ ∀ f ∈ fs, GoodF f
abbrev Kd := Str × List Fd
abbrev kdD (k : Kd) : PyData := .tuple [.str k.1, fdsD k.2]
def GoodK (k : Kd) : Prop := IsNm k.1 ∧ GoodFs k.2
def spBound (K : PySem.W.Frag) : Sp := fun vs H Q _ => ∃ (d : Addr) (L : List (As K)), vs = [.ref d] ∧ Ls.Sep L H ∧ dr d ∈ L ∧ ∀ (n : Int) H', -999999 ≤ n → n ≤ 999999 → Ls.Sep L H' → Q (.int n) H'
def spFields (K : PySem.W.Frag) : Sp := fun vs H Q _ => ∃ (d : Addr) (n : Nat) (L : List (As K)), vs = [.ref d, .int n] ∧ n ≤ 4 ∧ Ls.Sep L H ∧ dr d ∈ L ∧ ∀ p fs H', fs.length = n → GoodFs fs → Ls.Sep (im (.ref p) (fdsD fs) :: L) H' → Q (.ref p) H'
def spKindsFor (K : PySem.W.Frag) : Sp := fun vs H Q _ => ∃ (d : Addr) (L : List (As K)), vs = [.ref d] ∧ Ls.Sep L H ∧ dr d ∈ L ∧ ∀ p (ks : List Kd) H', 1 ≤ ks.length → ks.length ≤ 3 → (∀ k ∈ ks, GoodK k) → Ls.Sep (Ls.ld p (ks.map kdD) :: L) H' → Q (.ref p) H'
end Ls
namespace Lw
open PySem PySem.Spec PyProof.Rows L2 Ls
theorem ok__law_words {P : Program} {w : World} {K : PySem.W.Frag} {mg : Str → Option Value} {base : Heap} (E : Env K mg w) : FnOk P w K mg base CX0 4 E.a__law_words E.fd__law_words ["_law_d", "_law_many"] (spWords K) := by
  refine E.F__law_words.ok sc__law_words (fun vs H Q E h => ?_) (fun cdv A outer s H vs Q E' hr h => ?_)
  · walk_at "hl"
  · have hu := huOf hr
    have G__law_word := ok__law_word (P := P) (w := w) (base := base) E
    have hr__law_word := hr.mono (show 3 ≤ 3 by decide)
    have b__law_word := b__law_word E
    have hcl_Tally := E.cl_Tally
    obtain ⟨d, n, L, rfl, hn, hS, hd, q⟩ := h
    refine ⟨_, PSs.nox (pss_cons (ps_set (i := 2) sc__law_words.nd rfl (Or.inl rfl) (pe_lst pa_nil))
(pss_cons (ps_for PassesOwn.never rfl (pi_range1 rfl E.n_range (pa_cons (pv 1) pa_nil)) (pg_name (i := 3) sc__law_words.nd rfl (Or.inl rfl))
(pss_cons (ps_set (i := 4) sc__law_words.nd rfl (Or.inl rfl) (pe_call G__law_word hr__law_word rfl E.g__law_word E.F__law_word.kp b__law_word .nil pass0 (pa_cons (pv 0) pa_nil)))
(pss_cons (ps_for PassesOwn.never rfl (pi_range1 rfl E.n_range (pa_cons pe_int pa_nil)) (pg_name (i := 5) sc__law_words.nd rfl (Or.inl rfl))
(pss_one (ps_if (pt_cmpR (op_inU K rfl hu) (pv 4) (pv 2) (by with_unfolding_all rfl)) (pss_one (ps_set (i := 4) sc__law_words.nd rfl (Or.inl rfl) (pe_op (op_addU K rfl) (pe_ix (ix_U K rfl) pe_str (pe_op op_mod (pe_op (op_addU K rfl) (pv 3) (pv 5)) pe_int) (fun _ _ => rfl)) (pe_ix (ix_U K rfl) pe_str (pe_op op_mod (pe_op op_fdivW (pe_op (op_addU K rfl) (pv 3) (pv 5)) pe_int) pe_int) (fun _ _ => rfl))))) pss_nil)))
(pss_one (ps_expr (kBM K rfl (pe_bm PySem.F.plainAttrs_list PySem.F.slot_list_append PySem.F.type_list_append mt_append (pv 2) (pa_cons (pv 4) pa_nil))))))))
(pss_one (ps_ret (pv 2))))), ?_⟩
    refine k_body (s1 := some _ :: some _ :: [none, none, none, none]) rfl ?_
    walk_at "s"
    refine for_wk (n := (n : Int).toNat) (L := Ls.ld p [] :: L) (fun i σ L' => ∃ zs : List Str, L' = Ls.ld p (zs.map PyData.str) :: L ∧ zs.length = i ∧ zs.Nodup ∧ (∀ z ∈ zs, IsNm z) ∧ ∃ c1 c2 c3, σ = [some (.ref d), some (.int n), some (.ref p), c1, c2, c3]) (fun i σ L' _ => wk_rng) hS ⟨[], rfl, rfl, .nil, by simp, _, _, _, rfl⟩ (fun i σ L' hi iv H hS => ?_) (fun σ L' H iv hS => ?_)
    · obtain ⟨zs, rfl, hz, nd, nm, c1, c2, c3, rfl⟩ := iv
      walk_at "ns"
      walk_at "s"
      refine ⟨d, _, rfl, hS, by walk_at "mem", fun z H nz hS => ?_⟩
      walk_at "s"
      refine for_wk (n := (64 : Int).toNat) (fun j σ L' => L' = Ls.ld p (zs.map PyData.str) :: L ∧ ∃ w, IsNm w ∧ (w ∉ zs ∨ (w ∈ zs ∧ ∀ t, t < j → t < 8 → cand (i + t) ∈ zs)) ∧ ∃ c3, σ = [some (.ref d), some (.int n), some (.ref p), some (.int (0 + i)), some (.str w), c3]) (fun i σ L' _ => wk_rng) hS ⟨rfl, z, nz, ?_, _, rfl⟩ (fun j σ L' hj iv H hS => ?_) (fun σ L' H iv hS => ?_)
      · by_cases e : z ∈ zs
        · exact .inr ⟨e, fun t h => absurd h (Nat.not_lt_zero _)⟩
        · exact .inl e
      · obtain ⟨rfl, w, nw, hw, c3, rfl⟩ := iv
        walk_at "ns"
        walk_at "s"
        refine k_itd (fun e => ?_) (fun e => ?_)
        · have hw := (hw.resolve_left fun z => z e).2
          walk_at "s"
          have e1 : (0 + (i : Int) + (0 + (j : Int))) = ((i + j : Nat) : Int) := by omega
          rw [e1]
          refine k_ixS (by rw [sizeLine_eq]; decide +kernel) (ah_at _) ?_
          walk_at "s"
          rw [e1]
          walk_at "s"
          refine k_ixS (by rw [sizeLine_eq]; decide +kernel) (qx_at _) ?_
          refine k_addS (by rw [sizeLine_eq]; show 1 + 1 ≤ _; decide) ?_
          walk_at "s"
          refine ⟨_, ⟨rfl, cand (i + j), cand_nm _, ?_, _, rfl⟩, hS⟩
          by_cases e2 : cand (i + j) ∈ zs
          · refine .inr ⟨e2, fun t h1 h2 => ?_⟩
            by_cases e3 : t < j
            · exact hw t e3 h2
            · rw [show t = j by omega]; exact e2
          · exact .inl e2
        · walk_at "s"
          exact ⟨_, ⟨rfl, w, nw, .inl e, _, rfl⟩, hS⟩
      · obtain ⟨rfl, w, nw, hw, c3, rfl⟩ := iv
        have hw : w ∉ zs := by
          rcases hw with hw | ⟨_, hw⟩
          · exact hw
          · exact (cand_free (zs := zs) (k := i) (by omega) fun t h => hw t (by omega) h).elim
        walk_at "s"
        refine ⟨_, ⟨zs ++ [w], by rw [List.map_append]; rfl, by simp [hz], ?_, ?_, _, _, _, rfl⟩, hS⟩
        · rw [List.nodup_append]
          exact ⟨nd, by simp, fun a ha b hb e => hw (by rw [List.mem_singleton.mp hb] at e; exact e ▸ ha)⟩
        · intro x hx
          rcases List.mem_append.mp hx with hx | hx
          · exact nm x hx
          · rw [List.mem_singleton.mp hx]; exact nw
    · obtain ⟨zs, rfl, hz, nd, nm, c1, c2, c3, rfl⟩ := iv
      walk_at "s"
      exact q p zs H (by omega) nd nm hS
end Lw
-- own part: n3
namespace Ls
open PySem PySem.Spec PyProof.Rows L2
instance (z : Str) : Decidable (IsNm z) := by unfold IsNm; exact inferInstance
def kindV (n f : V) : List (Str × V) := [("name", n), ("fields", f)]
/-- the Kind at a: it never changes -/
def kindF {K : PySem.W.Frag} (C a : Addr) (k : Kd) : As K := persW (fun W H => ∃ f dx, W a (.ins C dx (kindV (.str k.1) (.ref f))) ∧ Im K H (.ref f) (fdsD k.2)) (fun _ _ _ t ⟨f, dx, h1, h2⟩ => ⟨f, dx, h1, h2.mono t.1⟩) fun _ _ _ e ⟨f, dx, h1, h2⟩ => ⟨f, dx, e _ _ h1, h2⟩
instance {K : PySem.W.Frag} {C a : Addr} {k : Kd} : Dup (kindF (K := K) C a k) := ⟨fun z => z.1⟩
section
variable {K : PySem.W.Frag} {L : List (As K)} {H : Hp} {C a f : Addr} {k : Kd}
theorem Sep.kind (h : Ls.Sep L H) (m : kindF C a k ∈ L) : ∃ f dx, H a = some (.ins C dx (kindV (.str k.1) (.ref f))) ∧ Im K H (.ref f) (fdsD k.2) := by
  obtain ⟨W, s, ⟨_, f, dx, h1, h2⟩, z⟩ := h.the m
  exact ⟨f, dx, (z _ _ h1).1, h2⟩
theorem Sep.toKind (h : Ls.Sep (inst a C (kindV (.str k.1) (.ref f)) :: L) H) (m : im (.ref f) (fdsD k.2) ∈ L) : Ls.Sep (kindF C a k :: L) H := by
  have g := h.freezeI
  obtain ⟨W, s, z, s1, s2, d, u, ⟨n1, dx, h1, h2⟩, h3⟩ := g
  exact ⟨W, s, z, s1, s2, d, u, ⟨n1, f, dx, h1, Ls.Sep.imm ⟨W, s2, z.less fun b y => (u b).mpr (.inr y), h3⟩ m⟩, h3⟩
theorem k_kname {R : V → Prop} (h : Ls.Sep L H) (m : kindF C a k ∈ L) (c : Cls K C) (n : NoAttr K C ("name" : Str)) (q : R (.str k.1)) : ∃ a' C' dx fs v', V.ref a = .ref a' ∧ H a' = some (.ins C' dx fs) ∧ Cls K C' ∧ NoAttr K C' ("name" : Str) ∧ fs.lookup ("name" : Str) = some v' ∧ R v' := by
  obtain ⟨f, dx, h1, h2⟩ := h.kind m
  exact k_fldt ⟨dx, h1⟩ c n rfl q
theorem k_kfields {R : V → Prop} (h : Ls.Sep L H) (m : kindF C a k ∈ L) (c : Cls K C) (n : NoAttr K C ("fields" : Str)) (q : ∀ f, Ls.Sep (im (.ref f) (fdsD k.2) :: L) H → R (.ref f)) : ∃ a' C' dx fs v', V.ref a = .ref a' ∧ H a' = some (.ins C' dx fs) ∧ Cls K C' ∧ NoAttr K C' ("fields" : Str) ∧ fs.lookup ("fields" : Str) = some v' ∧ R v' := by
  obtain ⟨f, dx, h1, h2⟩ := h.kind m
  exact k_fldt ⟨dx, h1⟩ c n rfl (q f (Sep.im_iff.mpr ⟨h2, h⟩))
theorem k_recvK {R : Addr → Prop} {m : Str} (h : Ls.Sep L H) (w : kindF C a k ∈ L) (e : ∀ f, (kindV (.str k.1) (.ref f)).lookup m = none) (q : R a) : ∃ a' dx fs, V.ref a = .ref a' ∧ H a' = some (.ins C dx fs) ∧ fs.lookup m = none ∧ R a' := by
  obtain ⟨f, dx, h1, h2⟩ := h.kind w
  exact k_recv ⟨dx, _, h1, e f⟩ q
end
def spIsName (K : PySem.W.Frag) : Sp := fun vs H Q _ => ∃ (z : Str) (L : List (As K)), vs = [.str z] ∧ z.length ≤ 1000000 ∧ Ls.Sep L H ∧ ∀ H', Ls.Sep L H' → Q (.bl (decide (IsNm z))) H'
def spLookField (K : PySem.W.Frag) : Sp := fun vs H Q _ => ∃ (f n : Addr) (fd : Fd) (zs : List Str) (L : List (As K)), vs = [.ref f, .ref n] ∧ Ls.Sep L H ∧ im (.ref f) (fdD fd) ∈ L ∧ Ls.ld n (zs.map PyData.str) ∈ L ∧ GoodF fd ∧ fd.1 ∉ zs ∧ ∀ H', Ls.Sep L H' → Q .non H'
def spKindInit (K : PySem.W.Frag) (C : Addr) : Sp := fun vs H Q _ => ∃ (x f : Addr) (k : Kd) (L : List (As K)), vs = [.ref x, .str k.1, .ref f] ∧ Ls.Sep (inst x C [] :: L) H ∧ im (.ref f) (fdsD k.2) ∈ L ∧ GoodK k ∧ ∀ H', Ls.Sep (kindF C x k :: L) H' → Q .non H'
def spLowest (K : PySem.W.Frag) (C : Addr) : Sp := fun vs H Q _ => ∃ (x : Addr) (k : Kd) (L : List (As K)), vs = [.ref x] ∧ Ls.Sep L H ∧ kindF C x k ∈ L ∧ k.2.length ≤ 4 ∧ ∀ p H', Ls.Sep (im (.ref p) (.tuple (k.2.map fun f => .int f.2.1)) :: L) H' → Q (.ref p) H'
def spCells (K : PySem.W.Frag) (C : Addr) : Sp := fun vs H Q _ => ∃ (x : Addr) (k : Kd) (L : List (As K)), vs = [.ref x] ∧ Ls.Sep L H ∧ kindF C x k ∈ L ∧ Q (.int (1 + k.2.length)) H
end Ls
namespace Lw
open PySem PySem.Spec PyProof.Rows L2 Ls
theorem ok_is_name {P : Program} {w : World} {K : PySem.W.Frag} {mg : Str → Option Value} {base : Heap} (E : Env K mg w) : FnOk P w K mg base CX0 1 E.a_is_name E.fd_is_name ["text"] (spIsName K) := by
  refine E.F_is_name.ok sc_is_name (fun vs H Q E h => ?_) (fun cdv A outer s H vs Q E' hr h => ?_)
  · walk_at "hl"
  · have hu := huOf hr
    have hcl_Tally := E.cl_Tally
    obtain ⟨z, L, rfl, hz, hS, q⟩ := h
    refine ⟨_, PSs.nox (pss_one (ps_ret (pe_and (pe_chain op_le op_le pe_int (pe_callB (call_lenU K rfl) (by rfl) E.n_len boot_len (pa_cons (pv 0) pa_nil)) (pe_gc rfl E.c_LONGEST)) (pe_one (pe_callB (cr_allU K rfl rfl) (by rfl) E.n_all boot_all (pa_cons (pe_lc (own := [("sign", 1)]) rfl sc_is_name.nd (pi_str (pv 0)) (blkOk_by (N := ["text", "sign"]) (sc := defScope s_is_name) (by decide +kernel)) (fun _ _ _ _ _ => (pg_name (i := 1) sc_is_name.nd rfl (Or.inl rfl))) (fun _ _ _ _ _ => pts_nil) (fun _ _ _ _ _ => (pe_cmpR (op_inU K rfl hu) (pv 1) (pe_gc rfl E.c_LETTERS) (by with_unfolding_all rfl)))) pa_nil)))))), ?_⟩
    refine k_body (s1 := some _ :: [none]) rfl ?_
    walk_at "s"
    refine k_lenS (by rw [sizeLine_eq]; omega) ?_
    walk_at "s"
    by_cases h1 : 1 ≤ z.length
    · walk_at "s"
      by_cases h2 : z.length ≤ 8
      · walk_at "s"
        refine lc_flat (zs := z.cps.toList) (fun c => [PyData.bool (decide (IsSg c))]) hS (fun acc => wk_str) (fun i c acc hc hk _ la H hS => ?_) (fun H hS => ?_)
        · walk_at "ls"
          have e : decide (c ∈ ("abcdefghijklmnopqrstuvwxyz" : Str).cps.toList) = decide (IsSg c) := by
            have : ∀ k : Fin 26, k.val + 97 ∈ ("abcdefghijklmnopqrstuvwxyz" : Str).cps.toList := by decide +kernel
            have h2 : ∀ c ∈ ("abcdefghijklmnopqrstuvwxyz" : Str).cps.toList, IsSg c := by decide +kernel
            refine decide_eq_decide.mpr ⟨h2 c, fun h => ?_⟩
            have := this ⟨c - 97, by omega⟩
            rwa [show c - 97 + 97 = c by omega] at this
          rw [e]
          refine lc_keep hS (.bl _) .refl ?_ (hk _ rfl)
          have := (List.getElem?_eq_some_iff.mp hc).1
          rw [sizeLine_eq]
          rw [← len_toList] at this
          omega
        · rw [flat_map] at hS
          refine k_allS hS List.mem_cons_self ?_
          have e : z.cps.toList.all (fun c => decide (IsSg c)) = decide (IsNm z) := by
            rw [Bool.eq_iff_iff, List.all_eq_true, decide_eq_true_eq]
            exact ⟨fun h => ⟨h1, h2, fun c hc => of_decide_eq_true (h c hc)⟩, fun h c hc => decide_eq_true (h.2.2 c hc)⟩
          rw [e]
          exact q _ hS.tail
      · have e : decide (IsNm z) = false := decide_eq_false fun h => h2 h.2.1
        rw [e] at q
        walk_at "s"
        exact q _ hS
    · have e : decide (IsNm z) = false := decide_eq_false fun h => h1 h.1
      rw [e] at q
      walk_at "s"
      exact q _ hS
end Lw
-- own part: ts1
namespace Ls
open PySem PySem.Spec PyProof.Rows L2
/-! ### tests: the plain law -/
inductive Tst where
  | all
  | is (n : Str)
  | less (f : Str) (k : Int)
  | same (f : Str) (k : Int)
  | no (a : Tst)
  | an (a b : Tst)
  | or (a b : Tst)
def Tst.D : Tst → PyData
  | .all => .tuple [.str "all"]
  | .is n => .tuple [.str "is", .str n]
  | .less f k => .tuple [.str "less", .str f, .int k]
  | .same f k => .tuple [.str "same", .str f, .int k]
  | .no a => .tuple [.str "not", a.D]
  | .an a b => .tuple [.str "and", a.D, b.D]
  | .or a b => .tuple [.str "or", a.D, b.D]
def Tst.deep : Tst → Nat
  | .no a => a.deep + 1
  | .an a b => max a.deep b.deep + 1
  | .or a b => max a.deep b.deep + 1
  | _ => 1
def Tst.parts : Tst → Nat
  | .no a => a.parts + 1
  | .an a b => a.parts + b.parts + 1
  | .or a b => a.parts + b.parts + 1
  | _ => 1
def Tst.leaves : Tst → List Tst
  | .no a => a.leaves
  | .an a b => a.leaves ++ b.leaves
  | .or a b => a.leaves ++ b.leaves
  | t => [t]
def Lim (k : Int) : Prop := -999999 ≤ k ∧ k ≤ 999999
instance (k : Int) : Decidable (Lim k) := inferInstanceAs (Decidable (_ ∧ _))
def Tst.ok : Tst → Prop
  | .all => True
  | .is n => IsNm n
  | .less f k => IsNm f ∧ Lim k
  | .same f k => IsNm f ∧ Lim k
  | .no a => a.ok
  | .an a b => a.ok ∧ b.ok
  | .or a b => a.ok ∧ b.ok
/-- what a leaf's word and what is behind it make -/
def leafOf (z : Str) (r : List PyData) : Option Tst :=
  if z = "all" then (match r with | [] => some .all | _ => none)
  else if z = "is" then (match r with | [.str n] => if IsNm n then some (.is n) else none | _ => none)
  else if z = "less" then (match r with | [.str f, .int k] => if IsNm f ∧ Lim k then some (.less f k) else none | _ => none)
  else if z = "same" then (match r with | [.str f, .int k] => if IsNm f ∧ Lim k then some (.same f k) else none | _ => none)
  else none
/-- the words that hold tests within -/
def wordK (z : Str) : Option Nat := if z = "not" then some 1 else if z = "and" then some 2 else if z = "or" then some 2 else none
/-- what a word and the tests behind it make -/
def mkT (z : Str) (ts : List Tst) : Option Tst :=
  if z = "not" then (match ts with | [a] => some (.no a) | _ => none)
  else if z = "and" then (match ts with | [a, b] => some (.an a b) | _ => none)
  else if z = "or" then (match ts with | [a, b] => some (.or a b) | _ => none)
  else none
/-- the test that a datum is, at most so deep -/
def dec : Nat → PyData → Option Tst
  | n + 1, .tuple (.str z :: r) => match wordK z with
    | none => leafOf z r
    | some _ => (r.mapM (dec n)).bind (mkT z)
  | _, _ => none
theorem dec_tup (n : Nat) (z : Str) (r : List PyData) : dec (n + 1) (.tuple (.str z :: r)) = match wordK z with
    | none => leafOf z r
    | some _ => (r.mapM (dec n)).bind (mkT z) := by rw [dec]
theorem parts_pos (t : Tst) : 0 < t.parts := by cases t <;> exact Nat.succ_pos _
theorem deep_pos (t : Tst) : 0 < t.deep := by cases t <;> exact Nat.succ_pos _
theorem wordK_not : wordK "not" = some 1 := by decide +kernel
theorem wordK_and : wordK "and" = some 2 := by decide +kernel
theorem wordK_or : wordK "or" = some 2 := by decide +kernel
theorem leafOf_ok {z : Str} {r : List PyData} {t : Tst} (h : leafOf z r = some t) : t.ok ∧ t.D = .tuple (.str z :: r) ∧ t.deep = 1 ∧ t.parts = 1 ∧ t.leaves = [t] := by
  unfold leafOf at h
  split at h
  · rename_i e
    split at h
    · cases h
      exact ⟨trivial, by rw [e]; rfl, rfl, rfl, rfl⟩
    · cases h
  · split at h
    · rename_i e
      split at h
      · split at h
        · rename_i n hn
          cases h
          exact ⟨hn, by rw [e]; rfl, rfl, rfl, rfl⟩
        · cases h
      · cases h
    · split at h
      · rename_i e
        split at h
        · split at h
          · rename_i f k hn
            cases h
            exact ⟨hn, by rw [e]; rfl, rfl, rfl, rfl⟩
          · cases h
        · cases h
      · split at h
        · rename_i e
          split at h
          · split at h
            · rename_i f k hn
              cases h
              exact ⟨hn, by rw [e]; rfl, rfl, rfl, rfl⟩
            · cases h
          · cases h
        · cases h
theorem mapM_all {n : Nat} : ∀ {r : List PyData} {ts : List Tst}, r.mapM (dec n) = some ts → (∀ d t, dec n d = some t → t.ok ∧ t.D = d ∧ t.deep ≤ n) → r = ts.map Tst.D ∧ (∀ t ∈ ts, t.ok ∧ t.deep ≤ n)
  | [], ts, h, _ => by
    have : some [] = some ts := h
    cases this
    exact ⟨rfl, fun t h => by cases h⟩
  | d :: r, ts, h, k => by
    rw [List.mapM_cons] at h
    cases e : dec n d with
    | none => rw [e] at h; cases h
    | some t =>
      rw [e] at h
      cases e2 : r.mapM (dec n) with
      | none => rw [e2] at h; cases h
      | some us =>
        rw [e2] at h
        cases h
        obtain ⟨h1, h2⟩ := mapM_all e2 k
        obtain ⟨k1, k2, k3⟩ := k d t e
        refine ⟨by rw [List.map_cons, k2, ← h1], fun x hx => ?_⟩
        rcases List.mem_cons.mp hx with rfl | hx
        · exact ⟨k1, k3⟩
        · exact h2 x hx
theorem mkT_ok {z : Str} {ts : List Tst} {t : Tst} {n : Nat} (h : mkT z ts = some t) (k : ∀ t ∈ ts, t.ok ∧ t.deep ≤ n) : t.ok ∧ t.D = .tuple (.str z :: ts.map Tst.D) ∧ t.deep ≤ n + 1 ∧ t.parts = 1 + (ts.map Tst.parts).sum ∧ t.leaves = ts.flatMap Tst.leaves ∧ wordK z = some ts.length ∧ t.deep = 1 + (ts.map Tst.deep).foldl max 0 := by
  unfold mkT at h
  split at h
  · rename_i e
    split at h
    · rename_i a
      cases h
      obtain ⟨k1, k2⟩ := k a List.mem_cons_self
      exact ⟨k1, by rw [e]; rfl, by show a.deep + 1 ≤ n + 1; omega, by show a.parts + 1 = 1 + (a.parts + 0); omega, by show a.leaves = a.leaves ++ []; rw [List.append_nil], by rw [e]; exact wordK_not, by show a.deep + 1 = 1 + max 0 a.deep; omega⟩
    · cases h
  · split at h
    · rename_i e
      split at h
      · rename_i a b
        cases h
        obtain ⟨k1, k2⟩ := k a List.mem_cons_self
        obtain ⟨k3, k4⟩ := k b (List.mem_cons_of_mem _ List.mem_cons_self)
        exact ⟨⟨k1, k3⟩, by rw [e]; rfl, by show max a.deep b.deep + 1 ≤ n + 1; omega, by show a.parts + b.parts + 1 = 1 + (a.parts + (b.parts + 0)); omega, by show a.leaves ++ b.leaves = a.leaves ++ (b.leaves ++ []); rw [List.append_nil], by rw [e]; exact wordK_and, by show max a.deep b.deep + 1 = 1 + max (max 0 a.deep) b.deep; omega⟩
      · cases h
    · split at h
      · rename_i e
        split at h
        · rename_i a b
          cases h
          obtain ⟨k1, k2⟩ := k a List.mem_cons_self
          obtain ⟨k3, k4⟩ := k b (List.mem_cons_of_mem _ List.mem_cons_self)
          exact ⟨⟨k1, k3⟩, by rw [e]; rfl, by show max a.deep b.deep + 1 ≤ n + 1; omega, by show a.parts + b.parts + 1 = 1 + (a.parts + (b.parts + 0)); omega, by show a.leaves ++ b.leaves = a.leaves ++ (b.leaves ++ []); rw [List.append_nil], by rw [e]; exact wordK_or, by show max a.deep b.deep + 1 = 1 + max (max 0 a.deep) b.deep; omega⟩
        · cases h
      · cases h
theorem dec_ok : ∀ {n : Nat} {d : PyData} {t : Tst}, dec n d = some t → t.ok ∧ t.D = d ∧ t.deep ≤ n
  | 0, d, t, h => by rw [dec] at h <;> first | cases h | (intros; simp_all)
  | n + 1, d, t, h => by
    unfold dec at h
    split at h
    · rename_i m z r em
      obtain rfl : n = m := Nat.succ.inj em
      split at h
      · obtain ⟨h1, h2, h3, _⟩ := leafOf_ok h
        exact ⟨h1, h2, by omega⟩
      · obtain ⟨ts, e1, e2⟩ := Option.bind_eq_some_iff.mp h
        obtain ⟨h1, h2⟩ := mapM_all e1 fun d t => dec_ok
        obtain ⟨k1, k2, k3, _⟩ := mkT_ok e2 h2
        exact ⟨k1, by rw [k2, h1], k3⟩
    · cases h
theorem leaf_not (r : List PyData) : wordK "all" = none ∧ wordK "is" = none ∧ wordK "less" = none ∧ wordK "same" = none := by decide +kernel
theorem dec_of : ∀ {n : Nat} {t : Tst}, t.ok → t.deep ≤ n → dec n t.D = some t
  | 0, t, _, h => by have := deep_pos t; omega
  | n + 1, t, ho, h => by
    have e1 : ("is" : Str) ≠ "all" := by decide +kernel
    have e2 : ("less" : Str) ≠ "all" := by decide +kernel
    have e3 : ("less" : Str) ≠ "is" := by decide +kernel
    have e4 : ("same" : Str) ≠ "all" := by decide +kernel
    have e5 : ("same" : Str) ≠ "is" := by decide +kernel
    have e6 : ("same" : Str) ≠ "less" := by decide +kernel
    have e7 : ("and" : Str) ≠ "not" := by decide +kernel
    have e8 : ("or" : Str) ≠ "not" := by decide +kernel
    have e9 : ("or" : Str) ≠ "and" := by decide +kernel
    obtain ⟨l1, l2, l3, l4⟩ := leaf_not []
    cases t with
    | all => rw [Tst.D, dec_tup, l1]; rfl
    | is x =>
      rw [Tst.D, dec_tup, l2]
      show leafOf _ _ = _
      unfold leafOf
      rw [if_neg e1, if_pos rfl]
      exact if_pos ho
    | less f k =>
      rw [Tst.D, dec_tup, l3]
      show leafOf _ _ = _
      unfold leafOf
      rw [if_neg e2, if_neg e3, if_pos rfl]
      exact if_pos ho
    | same f k =>
      rw [Tst.D, dec_tup, l4]
      show leafOf _ _ = _
      unfold leafOf
      rw [if_neg e4, if_neg e5, if_neg e6, if_pos rfl]
      exact if_pos ho
    | no a =>
      have ha := dec_of (n := n) (t := a) ho (by have : a.deep + 1 ≤ n + 1 := h; omega)
      rw [Tst.D, dec_tup, wordK_not]
      show (([a.D] : List PyData).mapM (dec n)).bind (mkT "not") = _
      rw [List.mapM_cons, ha]
      rfl
    | an a b =>
      have hm : max a.deep b.deep + 1 ≤ n + 1 := h
      have ha := dec_of (n := n) (t := a) ho.1 (by omega)
      have hb := dec_of (n := n) (t := b) ho.2 (by omega)
      rw [Tst.D, dec_tup, wordK_and]
      show (([a.D, b.D] : List PyData).mapM (dec n)).bind (mkT "and") = _
      rw [List.mapM_cons, ha, List.mapM_cons, hb]
      show mkT "and" [a, b] = _
      unfold mkT
      rw [if_neg e7, if_pos rfl]
    | or a b =>
      have hm : max a.deep b.deep + 1 ≤ n + 1 := h
      have ha := dec_of (n := n) (t := a) ho.1 (by omega)
      have hb := dec_of (n := n) (t := b) ho.2 (by omega)
      rw [Tst.D, dec_tup, wordK_or]
      show (([a.D, b.D] : List PyData).mapM (dec n)).bind (mkT "or") = _
      rw [List.mapM_cons, ha, List.mapM_cons, hb]
      show mkT "or" [a, b] = _
      unfold mkT
      rw [if_neg e8, if_neg e9, if_pos rfl]
/-- what is handed in as a test: texts, numbers, tuples (of c things at most) that begin with a text -/
def RawC (c : Nat) : Nat → PyData → Prop
  | _, .str z => z.length ≤ 1000 ∧ PyData.strOk z = true
  | _, .int _ => True
  | n + 1, .tuple xs => xs.length ≤ c ∧ (∀ x r, xs = x :: r → ∃ z, x = .str z) ∧ ∀ x ∈ xs, RawC c n x
  | _, _ => False
abbrev Raw (n : Nat) (d : PyData) : Prop := RawC 100 n d
theorem RawC.mono {c e : Nat} (hc : c ≤ e) : ∀ {n m : Nat} {d : PyData}, RawC c n d → n ≤ m → RawC e m d
  | n, m, .str z, h, _ => by cases n <;> cases m <;> exact h
  | n, m, .int z, h, _ => by cases n <;> cases m <;> exact h
  | 0, m, .tuple z, h, _ => h.elim
  | n + 1, 0, .tuple z, h, l => by omega
  | n + 1, m + 1, .tuple z, h, l => ⟨Nat.le_trans h.1 hc, h.2.1, fun x hx => RawC.mono hc (h.2.2 x hx) (by omega)⟩
  | n, m, .none, h, _ => by cases n <;> exact h.elim
  | n, m, .bool _, h, _ => by cases n <;> exact h.elim
  | n, m, .list _, h, _ => by cases n <;> exact h.elim
  | n, m, .dict _, h, _ => by cases n <;> exact h.elim
theorem nm_rawS {c n : Nat} {z : Str} (h : z.length ≤ 1000) (k : PyData.strOk z = true) : RawC c n (.str z) := by cases n <;> exact ⟨h, k⟩
theorem nm_strT {z : Str} (h : IsNm z) : PyData.strOk z = true := by
  unfold PyData.strOk
  rw [← Array.all_toList, List.all_eq_true]
  intro c hc
  have := h.2.2 c hc
  exact decide_eq_true (by omega)
theorem raw_mk {c n : Nat} {ys : List PyData} (h1 : ys.length ≤ c) (h2 : ∀ x r, ys = x :: r → ∃ z, x = .str z) (h3 : ∀ y ∈ ys, RawC c n y) : RawC c (n + 1) (.tuple ys) := ⟨h1, h2, h3⟩
theorem raw_okd {c : Nat} (hc : c ≤ 100000) : ∀ {n : Nat} {d : PyData}, RawC c n d → OkD n d
  | n, .str z, h => by cases n <;> exact h.2
  | n, .int z, h => by cases n <;> trivial
  | 0, .tuple z, h => h.elim
  | n + 1, .tuple z, h => ⟨by have := h.1; omega, fun x hx => raw_okd hc (h.2.2 x hx)⟩
  | n, .none, h => by cases n <;> exact h.elim
  | n, .bool _, h => by cases n <;> exact h.elim
  | n, .list _, h => by cases n <;> exact h.elim
  | n, .dict _, h => by cases n <;> exact h.elim
theorem raw_int {c n : Nat} {i : Int} : RawC c n (.int i) := by cases n <;> trivial
theorem ok_rawC : ∀ {n : Nat} {t : Tst}, t.ok → t.deep ≤ n → RawC 3 n t.D
  | 0, t, _, h => by have := deep_pos t; omega
  | n + 1, t, ho, h => by
    have hd : ∀ (x : Str) (q : List PyData), ∀ y r, (PyData.str x :: q : List PyData) = y :: r → ∃ z, y = .str z := fun x q y r e => ⟨x, (List.cons.inj e).1.symm⟩
    have nm : ∀ {x : Str}, IsNm x → RawC 3 n (.str x) := fun h => nm_rawS (by have := h.2.1; omega) (nm_strT h)
    have w : ∀ {x : Str}, x.length ≤ 1000 ∧ PyData.strOk x = true → RawC 3 n (.str x) := fun h => nm_rawS h.1 h.2
    cases t with
    | all => exact ⟨by show 1 ≤ 3; decide, hd _ _, fun x hx => by
        rw [List.mem_singleton.mp hx]
        exact w (by decide +kernel)⟩
    | is z =>
      refine ⟨by show 2 ≤ 3; decide, hd _ _, fun x hx => ?_⟩
      simp only [List.mem_cons, List.not_mem_nil, or_false] at hx
      rcases hx with rfl | rfl
      · exact w (by decide +kernel)
      · exact nm ho
    | less f k =>
      refine ⟨by show 3 ≤ 3; decide, hd _ _, fun x hx => ?_⟩
      simp only [List.mem_cons, List.not_mem_nil, or_false] at hx
      rcases hx with rfl | rfl | rfl
      · exact w (by decide +kernel)
      · exact nm ho.1
      · exact raw_int
    | same f k =>
      refine ⟨by show 3 ≤ 3; decide, hd _ _, fun x hx => ?_⟩
      simp only [List.mem_cons, List.not_mem_nil, or_false] at hx
      rcases hx with rfl | rfl | rfl
      · exact w (by decide +kernel)
      · exact nm ho.1
      · exact raw_int
    | no a =>
      have ha := ok_rawC (n := n) (t := a) ho (by have : a.deep + 1 ≤ n + 1 := h; omega)
      refine ⟨by show 2 ≤ 3; decide, hd _ _, fun x hx => ?_⟩
      simp only [List.mem_cons, List.not_mem_nil, or_false] at hx
      rcases hx with rfl | rfl
      · exact w (by decide +kernel)
      · exact ha
    | an a b =>
      have hm : max a.deep b.deep + 1 ≤ n + 1 := h
      have ha := ok_rawC (n := n) (t := a) ho.1 (by omega)
      have hb := ok_rawC (n := n) (t := b) ho.2 (by omega)
      refine ⟨by show 3 ≤ 3; decide, hd _ _, fun x hx => ?_⟩
      simp only [List.mem_cons, List.not_mem_nil, or_false] at hx
      rcases hx with rfl | rfl | rfl
      · exact w (by decide +kernel)
      · exact ha
      · exact hb
    | or a b =>
      have hm : max a.deep b.deep + 1 ≤ n + 1 := h
      have ha := ok_rawC (n := n) (t := a) ho.1 (by omega)
      have hb := ok_rawC (n := n) (t := b) ho.2 (by omega)
      refine ⟨by show 3 ≤ 3; decide, hd _ _, fun x hx => ?_⟩
      simp only [List.mem_cons, List.not_mem_nil, or_false] at hx
      rcases hx with rfl | rfl | rfl
      · exact w (by decide +kernel)
      · exact ha
      · exact hb
theorem ok_raw {n : Nat} {t : Tst} (h : t.ok) (hd : t.deep ≤ n) : Raw n t.D := (ok_rawC h hd).mono (by decide) (Nat.le_refl _)
/-- what the program counts: 0 where there is no test at most so deep -/
def partsP (n : Nat) (d : PyData) : Int := match dec n d with
  | none => 0
  | some t => (t.parts : Int)
def IsT (d : PyData) : Prop := 1 ≤ partsP 5 d ∧ partsP 5 d ≤ 15
instance (d : PyData) : Decidable (IsT d) := inferInstanceAs (Decidable (_ ∧ _))
theorem isT_of {t : Tst} (h : t.ok) (hd : t.deep ≤ 5) (hp : t.parts ≤ 15) : IsT t.D := by
  unfold IsT partsP
  rw [dec_of h hd]
  have := parts_pos t
  constructor
  · show 1 ≤ (t.parts : Int)
    omega
  · show (t.parts : Int) ≤ 15
    omega
theorem isT_is {d : PyData} (h : IsT d) : ∃ t : Tst, t.D = d ∧ t.ok ∧ t.deep ≤ 5 ∧ t.parts ≤ 15 := by
  unfold IsT partsP at h
  cases e : dec 5 d with
  | none =>
    rw [e] at h
    exact absurd h.1 (by decide)
  | some t =>
    rw [e] at h
    obtain ⟨h1, h2, h3⟩ := dec_ok e
    exact ⟨t, h2, h1, h3, by have h5 : (t.parts : Int) ≤ 15 := h.2; omega⟩
/-- a test from outside: a leaf, or a word with tests behind it -/
theorem Tst.view (t : Tst) : (∃ z r, t.D = .tuple (.str z :: r) ∧ wordK z = none ∧ t.leaves = [t] ∧ t.parts = 1 ∧ t.deep = 1 ∧ (t.ok → Ls.leafOf z r = some t)) ∨
    (∃ z ts, t.D = .tuple (.str z :: ts.map Tst.D) ∧ wordK z = some ts.length ∧ t.leaves = ts.flatMap Tst.leaves ∧ t.parts = 1 + (ts.map Tst.parts).sum ∧ t.deep = 1 + (ts.map Tst.deep).foldl max 0 ∧ (t.ok → ∀ x ∈ ts, x.ok) ∧ (∀ x ∈ ts, x.deep < t.deep) ∧ mkT z ts = some t) := by
  have leaf : ∀ {z r}, t.D = .tuple (.str z :: r) → wordK z = none → t.leaves = [t] → t.parts = 1 → t.deep = 1 → ∃ z r, t.D = .tuple (.str z :: r) ∧ wordK z = none ∧ t.leaves = [t] ∧ t.parts = 1 ∧ t.deep = 1 ∧ (t.ok → Ls.leafOf z r = some t) := fun {z r} h1 h2 h3 h4 h5 => ⟨z, r, h1, h2, h3, h4, h5, fun ho => by
    have := dec_of (n := 1) ho (by omega)
    rw [h1, dec_tup, h2] at this
    exact this⟩
  obtain ⟨l1, l2, l3, l4⟩ := leaf_not []
  have e7 : ("and" : Str) ≠ "not" := by decide +kernel
  have e8 : ("or" : Str) ≠ "not" := by decide +kernel
  have e9 : ("or" : Str) ≠ "and" := by decide +kernel
  cases t with
  | all => exact .inl (leaf rfl l1 rfl rfl rfl)
  | is n => exact .inl (leaf rfl l2 rfl rfl rfl)
  | less f k => exact .inl (leaf rfl l3 rfl rfl rfl)
  | same f k => exact .inl (leaf rfl l4 rfl rfl rfl)
  | no a => exact .inr ⟨"not", [a], rfl, wordK_not, by show a.leaves = a.leaves ++ []; rw [List.append_nil], by show a.parts + 1 = 1 + (a.parts + 0); omega, by show a.deep + 1 = 1 + max 0 a.deep; omega, fun h x hx => by rw [List.mem_singleton.mp hx]; exact h, fun x hx => by rw [List.mem_singleton.mp hx]; exact Nat.lt_succ_self _, by unfold mkT; rw [if_pos rfl]⟩
  | an a b => exact .inr ⟨"and", [a, b], rfl, wordK_and, by show a.leaves ++ b.leaves = a.leaves ++ (b.leaves ++ []); rw [List.append_nil], by show a.parts + b.parts + 1 = 1 + (a.parts + (b.parts + 0)); omega, by show max a.deep b.deep + 1 = 1 + max (max 0 a.deep) b.deep; omega, fun h x hx => by
      simp only [List.mem_cons, List.not_mem_nil, or_false] at hx
      rcases hx with rfl | rfl
      · exact h.1
      · exact h.2, fun x hx => by
      simp only [List.mem_cons, List.not_mem_nil, or_false] at hx
      show x.deep < max a.deep b.deep + 1
      rcases hx with rfl | rfl <;> omega, by unfold mkT; rw [if_neg e7, if_pos rfl]⟩
  | or a b => exact .inr ⟨"or", [a, b], rfl, wordK_or, by show a.leaves ++ b.leaves = a.leaves ++ (b.leaves ++ []); rw [List.append_nil], by show a.parts + b.parts + 1 = 1 + (a.parts + (b.parts + 0)); omega, by show max a.deep b.deep + 1 = 1 + max (max 0 a.deep) b.deep; omega, fun h x hx => by
      simp only [List.mem_cons, List.not_mem_nil, or_false] at hx
      rcases hx with rfl | rfl
      · exact h.1
      · exact h.2, fun x hx => by
      simp only [List.mem_cons, List.not_mem_nil, or_false] at hx
      show x.deep < max a.deep b.deep + 1
      rcases hx with rfl | rfl <;> omega, by unfold mkT; rw [if_neg e8, if_neg e9, if_pos rfl]⟩
theorem Tst.D_tup (t : Tst) : ∃ ds, t.D = .tuple ds := by cases t <;> exact ⟨_, rfl⟩
theorem wordK_le {z : Str} {n : Nat} (h : wordK z = some n) : 1 ≤ n ∧ n ≤ 2 := by
  unfold wordK at h
  split at h
  · cases h; decide
  · split at h
    · cases h; decide
    · split at h
      · cases h; decide
      · cases h
theorem leaves_len : ∀ t : Tst, t.leaves.length ≤ t.parts := by
  intro t
  induction t with
  | no a ih => show a.leaves.length ≤ a.parts + 1; omega
  | an a b i1 i2 => show (a.leaves ++ b.leaves).length ≤ a.parts + b.parts + 1; rw [List.length_append]; omega
  | or a b i1 i2 => show (a.leaves ++ b.leaves).length ≤ a.parts + b.parts + 1; rw [List.length_append]; omega
  | _ => exact Nat.le_refl _
theorem parts_deep : ∀ t : Tst, t.parts < 2 ^ t.deep := by
  intro t
  induction t with
  | no a ih => show a.parts + 1 < 2 ^ (a.deep + 1); rw [Nat.pow_succ]; omega
  | an a b i1 i2 =>
    show a.parts + b.parts + 1 < 2 ^ (max a.deep b.deep + 1)
    have h1 : 2 ^ a.deep ≤ 2 ^ max a.deep b.deep := Nat.pow_le_pow_right (by decide) (Nat.le_max_left ..)
    have h2 : 2 ^ b.deep ≤ 2 ^ max a.deep b.deep := Nat.pow_le_pow_right (by decide) (Nat.le_max_right ..)
    rw [Nat.pow_succ]
    omega
  | or a b i1 i2 =>
    show a.parts + b.parts + 1 < 2 ^ (max a.deep b.deep + 1)
    have h1 : 2 ^ a.deep ≤ 2 ^ max a.deep b.deep := Nat.pow_le_pow_right (by decide) (Nat.le_max_left ..)
    have h2 : 2 ^ b.deep ≤ 2 ^ max a.deep b.deep := Nat.pow_le_pow_right (by decide) (Nat.le_max_right ..)
    rw [Nat.pow_succ]
    omega
  | _ => show 1 < 2 ^ 1; decide
theorem leaves_ok : ∀ {t : Tst}, t.ok → ∀ l ∈ t.leaves, l.ok ∧ l.deep = 1 ∧ l.leaves = [l] := by
  intro t
  induction t with
  | no a ih => exact ih
  | an a b i1 i2 =>
    intro h l hl
    rcases List.mem_append.mp hl with m | m
    · exact i1 h.1 l m
    · exact i2 h.2 l m
  | or a b i1 i2 =>
    intro h l hl
    rcases List.mem_append.mp hl with m | m
    · exact i1 h.1 l m
    · exact i2 h.2 l m
  | _ =>
    intro h l hl
    rw [List.mem_singleton.mp hl]
    exact ⟨h, rfl, rfl⟩
end Ls
-- own part: lo1
namespace Ls
open PySem PySem.Spec PyProof.Rows L2 LamX
def spFar1 (K : PySem.W.Frag) : Sp := fun vs H Q _ => ∃ (d : Addr) (L : List (As K)), vs = [.ref d] ∧ Ls.Sep L H ∧ dr d ∈ L ∧ ∀ (n : Int) H', Ls.Sep L H' → Q (.int n) H'
def spOdd (K : PySem.W.Frag) : Sp := fun vs H Q _ => ∃ (d : Addr) (z : Str) (L : List (As K)), vs = [.ref d, .str z] ∧ z.length ≤ 1000 ∧ PyData.strOk z = true ∧ Ls.Sep L H ∧ dr d ∈ L ∧ ∀ (y : Str) H', y.length ≤ z.length + 8 → PyData.strOk y = true → Ls.Sep L H' → Q (.str y) H'
theorem strOk_mem {y a b : Str} (h : ∀ c ∈ y.cps.toList, c ∈ a.cps.toList ∨ c ∈ b.cps.toList) (ha : PyData.strOk a = true) (hb : PyData.strOk b = true) : PyData.strOk y = true := by
  unfold PyData.strOk at *
  rw [← Array.all_toList, List.all_eq_true] at *
  intro c hc
  rcases h c hc with m | m
  · exact ha c m
  · exact hb c m
theorem strOk_app {a b : Str} (ha : PyData.strOk a = true) (hb : PyData.strOk b = true) : PyData.strOk (a ++ b) = true := strOk_mem (fun c hc => by
  have e : (a ++ b).cps.toList = a.cps.toList ++ b.cps.toList := TL.tl_append a b
  rw [e] at hc
  exact List.mem_append.mp hc) ha hb
theorem strOk_cut {z : Str} {lo hi : Option Int} (h : PyData.strOk z = true) : PyData.strOk (cutS z lo hi) = true := strOk_mem (b := z) (fun c hc => by
  have hc : c ∈ ((z.cps.toList.drop (HT.sIx z.length 0 lo)).take (HT.sIx z.length z.length hi - HT.sIx z.length 0 lo)).toArray.toList := hc
  rw [List.toList_toArray] at hc
  exact .inl (List.mem_of_mem_drop (List.mem_of_mem_take hc))) h h
end Ls
namespace Lw
open PySem PySem.Spec PyProof.Rows L2 Ls LamX
theorem ok__law_far {P : Program} {w : World} {K : PySem.W.Frag} {mg : Str → Option Value} {base : Heap} (E : Env K mg w) : FnOk P w K mg base CX0 2 E.a__law_far E.fd__law_far ["_law_d"] (spFar1 K) := by
  refine E.F__law_far.ok sc__law_far (fun vs H Q E h => ?_) (fun cdv A outer s H vs Q E' hr h => ?_)
  · walk_at "hl"
  · have hu := huOf hr
    have G__law_pick := ok__law_pick (P := P) (w := w) (base := base) E
    have hr__law_pick := hr.mono (show 1 ≤ 1 by decide)
    have b__law_pick := b__law_pick E
    have hcl_Tally := E.cl_Tally
    obtain ⟨d, L, rfl, hS, hd, q⟩ := h
    refine ⟨_, PSs.nox (pss_cons (ps_set (i := 1) sc__law_far.nd rfl (Or.inl rfl) (pe_op (op_addU K rfl) (pe_op op_pow pe_int pe_int) (pe_call G__law_pick hr__law_pick rfl E.g__law_pick E.F__law_pick.kp b__law_pick .nil pass0 (pa_cons (pv 0) (pa_cons (pe_op op_pow pe_int pe_int) pa_nil)))))
(pss_one (ps_ret (pe_ix (ix_U K rfl) (pe_lst (pa_cons (pv 1) (pa_cons (pe_op op_sub pe_int (pv 1)) pa_nil))) (pe_call G__law_pick hr__law_pick rfl E.g__law_pick E.F__law_pick.kp b__law_pick .nil pass0 (pa_cons (pv 0) (pa_cons pe_int pa_nil))) (fun _ _ => rfl))))), ?_⟩
    refine k_body (s1 := some _ :: [none]) rfl ?_
    walk_at "s"
    refine k_powL (v := 1000000000) (by decide) (by decide) (by decide) ?_
    walk_at "s"
    refine k_powL (v := 100000000000000000000000000000) (by decide) (by decide) (by decide) ?_
    walk_at "s"
    walk_at "pk"
    intro r H hS r0 r1
    walk_at "s"
    walk_at "pk"
    intro r2 H hS r3 r4
    have hm : atI [PyData.int (1000000000 + r), PyData.int (0 - (1000000000 + r))] r2 = some (.int (if r2 = 0 then 1000000000 + r else 0 - (1000000000 + r))) := by
      have : r2 = 0 ∨ r2 = 1 := by omega
      rcases this with rfl | rfl <;> rfl
    walk_at "s"
    exact q _ _ (Sub.ok (by walk_at "sub") hS)
theorem ok__law_is_name {P : Program} {w : World} {K : PySem.W.Frag} {mg : Str → Option Value} {base : Heap} (E : Env K mg w) : FnOk P w K mg base CX0 1 E.a__law_is_name E.fd__law_is_name ["_law_text"] (spIsName K) := by
  refine E.F__law_is_name.ok sc__law_is_name (fun vs H Q E h => ?_) (fun cdv A outer s H vs Q E' hr h => ?_)
  · walk_at "hl"
  · have hu := huOf hr
    have hcl_Tally := E.cl_Tally
    obtain ⟨z, L, rfl, hz, hS, q⟩ := h
    refine ⟨_, PSs.nox (pss_one (ps_ret (pe_and (pe_chain op_le op_le pe_int (pe_callB (call_lenU K rfl) (by rfl) E.n_len boot_len (pa_cons (pv 0) pa_nil)) pe_int) (pe_one (pe_callB (cr_allU K rfl rfl) (by rfl) E.n_all boot_all (pa_cons (pe_lc (own := [("_law_sign", 1)]) rfl sc__law_is_name.nd (pi_str (pv 0)) (blkOk_by (N := ["_law_text", "_law_sign"]) (sc := defScope s__law_is_name) (by decide +kernel)) (fun _ _ _ _ _ => (pg_name (i := 1) sc__law_is_name.nd rfl (Or.inl rfl))) (fun _ _ _ _ _ => pts_nil) (fun _ _ _ _ _ => (pe_cmpR (op_inU K rfl hu) (pv 1) pe_str (by with_unfolding_all rfl)))) pa_nil)))))), ?_⟩
    refine k_body (s1 := some _ :: [none]) rfl ?_
    walk_at "s"
    refine k_lenS (by rw [sizeLine_eq]; omega) ?_
    walk_at "s"
    by_cases h1 : 1 ≤ z.length
    · walk_at "s"
      by_cases h2 : z.length ≤ 8
      · walk_at "s"
        refine lc_flat (zs := z.cps.toList) (fun c => [PyData.bool (decide (IsSg c))]) hS (fun acc => wk_str) (fun i c acc hc hk _ la H hS => ?_) (fun H hS => ?_)
        · walk_at "ls"
          have e : decide (c ∈ ("abcdefghijklmnopqrstuvwxyz" : Str).cps.toList) = decide (IsSg c) := by
            have : ∀ k : Fin 26, k.val + 97 ∈ ("abcdefghijklmnopqrstuvwxyz" : Str).cps.toList := by decide +kernel
            have h2 : ∀ c ∈ ("abcdefghijklmnopqrstuvwxyz" : Str).cps.toList, IsSg c := by decide +kernel
            refine decide_eq_decide.mpr ⟨h2 c, fun h => ?_⟩
            have := this ⟨c - 97, by omega⟩
            rwa [show c - 97 + 97 = c by omega] at this
          rw [e]
          refine lc_keep hS (.bl _) .refl ?_ (hk _ rfl)
          have := (List.getElem?_eq_some_iff.mp hc).1
          rw [sizeLine_eq]
          rw [← len_toList] at this
          omega
        · rw [flat_map] at hS
          refine k_allS hS List.mem_cons_self ?_
          have e : z.cps.toList.all (fun c => decide (IsSg c)) = decide (IsNm z) := by
            rw [Bool.eq_iff_iff, List.all_eq_true, decide_eq_true_eq]
            exact ⟨fun h => ⟨h1, h2, fun c hc => of_decide_eq_true (h c hc)⟩, fun h c hc => decide_eq_true (h.2.2 c hc)⟩
          rw [e]
          exact q _ hS.tail
      · have e : decide (IsNm z) = false := decide_eq_false fun h => h2 h.2.1
        rw [e] at q
        walk_at "s"
        exact q _ hS
    · have e : decide (IsNm z) = false := decide_eq_false fun h => h1 h.1
      rw [e] at q
      walk_at "s"
      exact q _ hS
theorem ok__law_odd_name {P : Program} {w : World} {K : PySem.W.Frag} {mg : Str → Option Value} {base : Heap} (E : Env K mg w) : FnOk P w K mg base CX0 3 E.a__law_odd_name E.fd__law_odd_name ["_law_d", "_law_text"] (spOdd K) := by
  refine E.F__law_odd_name.ok sc__law_odd_name (fun vs H Q E h => ?_) (fun cdv A outer s H vs Q E' hr h => ?_)
  · walk_at "hl"
  · have hu := huOf hr
    have G__law_of := ok__law_of E (ok__law_pick (P := P) (w := w) (base := base) E)
    have hr__law_of := hr.mono (show 2 ≤ 2 by decide)
    have b__law_of := b__law_of E
    have hcl_Tally := E.cl_Tally
    obtain ⟨d, z, L, rfl, hz, hzo, hS, hd, q⟩ := h
    refine ⟨_, PSs.nox (pss_cons (ps_set (i := 2) sc__law_odd_name.nd rfl (Or.inl rfl) (pe_lst (pa_cons pe_str (pa_cons (pe_op (op_addU K rfl) (pv 1) pe_str) (pa_cons (pe_op (op_addU K rfl) (pe_slice (sl_U K rfl) (pv 1) po_none (po_some pe_int)) pe_str) (pa_cons (pe_op (op_addU K rfl) (pe_slice (sl_U K rfl) (pv 1) po_none (po_some pe_int)) pe_str) (pa_cons (pe_op (op_addU K rfl) (pe_slice (sl_U K rfl) (pv 1) po_none (po_some pe_int)) pe_str) (pa_cons (pe_op (op_addU K rfl) (pe_slice (sl_U K rfl) (pv 1) po_none (po_some pe_int)) pe_str) (pa_cons (pe_op (op_addU K rfl) pe_str (pe_slice (sl_U K rfl) (pv 1) po_none (po_some pe_int))) pa_nil)))))))))
(pss_one (ps_ret (pe_call G__law_of hr__law_of rfl E.g__law_of E.F__law_of.kp b__law_of .nil pass0 (pa_cons (pv 0) (pa_cons (pv 2) pa_nil)))))), ?_⟩
    refine k_body (s1 := some _ :: some _ :: [none]) rfl ?_
    walk_at "s"
    have c2 := cutS_length z none (some 2)
    have c3 := cutS_length z none (some 3)
    have c4 := cutS_length z none (some 4)
    have c5 := cutS_length z none (some 5)
    refine k_addS (by rw [sizeLine_eq, show ("abcdefgh" : Str).length = 8 by decide +kernel]; omega) ?_
    walk_at "s"
    refine k_slStr (by rw [sizeLine_eq]; omega) ?_
    walk_at "s"
    refine k_addS (by rw [sizeLine_eq, show ("A" : Str).length = 1 by decide +kernel]; omega) ?_
    walk_at "s"
    refine k_slStr (by rw [sizeLine_eq]; omega) ?_
    walk_at "s"
    refine k_addS (by rw [sizeLine_eq, show (" " : Str).length = 1 by decide +kernel]; omega) ?_
    walk_at "s"
    refine k_slStr (by rw [sizeLine_eq]; omega) ?_
    walk_at "s"
    refine k_addS (by rw [sizeLine_eq, show ("1" : Str).length = 1 by decide +kernel]; omega) ?_
    walk_at "s"
    refine k_slStr (by rw [sizeLine_eq]; omega) ?_
    walk_at "s"
    refine k_addS (by rw [sizeLine_eq, show ("_" : Str).length = 1 by decide +kernel]; omega) ?_
    walk_at "s"
    refine k_slStr (by rw [sizeLine_eq]; omega) ?_
    walk_at "s"
    refine k_addS (by rw [sizeLine_eq, show ("{" : Str).length = 1 by decide +kernel]; omega) ?_
    walk_at "s"
    walk_at "ofS"
    intro y H hy hS
    simp only [List.mem_cons, List.not_mem_nil, or_false, PyData.str.injEq] at hy
    refine q y _ ?_ ?_ (Sub.ok (by walk_at "sub") hS)
    · rcases hy with rfl | rfl | rfl | rfl | rfl | rfl | rfl
      · exact (show ("" : Str).length = 0 by decide +kernel) ▸ Nat.zero_le _
      · rw [app_len, show ("abcdefgh" : Str).length = 8 by decide +kernel]
        exact Nat.le_refl _
      · rw [app_len, show ("A" : Str).length = 1 by decide +kernel]
        omega
      · rw [app_len, show (" " : Str).length = 1 by decide +kernel]
        omega
      · rw [app_len, show ("1" : Str).length = 1 by decide +kernel]
        omega
      · rw [app_len, show ("_" : Str).length = 1 by decide +kernel]
        omega
      · rw [app_len, show ("{" : Str).length = 1 by decide +kernel]
        omega
    · rcases hy with rfl | rfl | rfl | rfl | rfl | rfl | rfl
      · decide +kernel
      · exact strOk_app hzo (by decide +kernel)
      · exact strOk_app (strOk_cut hzo) (by decide +kernel)
      · exact strOk_app (strOk_cut hzo) (by decide +kernel)
      · exact strOk_app (strOk_cut hzo) (by decide +kernel)
      · exact strOk_app (strOk_cut hzo) (by decide +kernel)
      · exact strOk_app (by decide +kernel) (strOk_cut hzo)
end Lw
local macro_rules | `(tactic| walk_at "sr") => `(tactic| with_reducible first
  | (refine' k_lenF hS ?sm ?_; (case sm => walk_at "mem"))
  | (refine' k_tyF hS ?sm ?_; (case sm => walk_at "mem"))
  | (refine' k_seqF hS ?sm ?_; (case sm => walk_at "mem"))
  | (refine' k_extD hS ?sr ?sm ?sl ?_; (case sr => walk_at "rep"); (case sm => walk_at "mem"); (case sl => walk_at "sz"); clear hS; refine fun H' hS => ?_))
-- own part: du1
namespace Ls
open PySem PySem.Spec PyProof.Rows L2 TL
/-! ### numbers in a text -/
def IsDg (c : Nat) : Prop := 48 ≤ c ∧ c ≤ 57
instance (c : Nat) : Decidable (IsDg c) := inferInstanceAs (Decidable (48 ≤ c ∧ c ≤ 57))
/-- the figures: what stands behind a sign ahead -/
def figs (z : Str) : Str := if cutS z none (some 1) = ("-" : Str) then cutS z (some 1) none else z
def FigOk (most : Int) (z : Str) : Prop := 1 ≤ ((figs z).length : Int) ∧ ((figs z).length : Int) ≤ most ∧ ∀ c ∈ (figs z).cps.toList, IsDg c
instance (most : Int) (z : Str) : Decidable (FigOk most z) := inferInstanceAs (Decidable (_ ∧ _ ∧ _))
def numIn (most : Int) (z : Str) : Option Int := if FigOk most z then (if (figs z).cps.toList.head? = some 48 ∧ z ≠ ("0" : Str) then none else intText? z) else none
theorem cut1 (z : Str) : (cutS z none (some 1)).cps.toList = z.cps.toList.take 1 := by
  show ((z.cps.toList.drop 0).take (HT.sIx z.length z.length (some ((1 : Nat) : Int)) - 0)).toArray.toList = _
  rw [HT.sIx_nat, List.drop_zero, Nat.sub_zero, List.toList_toArray]
  have e : z.cps.toList.length = z.length := Array.length_toList
  rcases Nat.lt_or_ge z.length 1 with h | h
  · rw [Nat.min_eq_right (by omega), List.take_of_length_le (by omega), List.take_of_length_le (by omega)]
  · rw [Nat.min_eq_left h]
theorem cutR (z : Str) : (cutS z (some 1) none).cps.toList = z.cps.toList.drop 1 := by
  show ((z.cps.toList.drop (HT.sIx z.length 0 (some ((1 : Nat) : Int)))).take (z.length - HT.sIx z.length 0 (some ((1 : Nat) : Int)))).toArray.toList = _
  rw [HT.sIx_nat, List.toList_toArray]
  have e : z.cps.toList.length = z.length := Array.length_toList
  rcases Nat.lt_or_ge z.length 1 with h | h
  · rw [Nat.min_eq_right (by omega), List.drop_of_length_le (by omega), List.drop_of_length_le (by omega), List.take_nil]
  · rw [Nat.min_eq_left h, List.take_of_length_le (by rw [List.length_drop]; omega)]
theorem figs_neg {z : Str} {r : List Nat} (h : z.cps.toList = 45 :: r) : (figs z).cps.toList = r := by
  unfold figs
  rw [if_pos (ext_tl (by show (cutS z none (some 1)).cps.toList = _; rw [cut1, h]; rfl)), cutR, h]
  rfl
theorem figs_pos {z : Str} (h : z.cps.toList.head? ≠ some 45) : figs z = z := by
  unfold figs
  rw [if_neg fun e => h ?_]
  have : (cutS z none (some 1)).cps.toList = ("-" : Str).cps.toList := by rw [e]
  rw [cut1] at this
  cases hz : z.cps.toList with
  | nil => rw [hz] at this; cases this
  | cons c r =>
    rw [hz, List.take_succ_cons, List.take_zero] at this
    have h2 : [c] = [45] := this
    rw [(List.cons.inj h2).1]
    rfl
theorem fig_int {most : Int} {z : Str} (h : FigOk most z) (hm : most ≤ 600) : (∃ n, intText? z = some n) ∧ z.length ≤ 640 := by
  obtain ⟨h1, h2, h3⟩ := h
  cases hz : z.cps.toList with
  | nil =>
    have e : figs z = z := figs_pos (by rw [hz]; exact fun e => by cases e)
    rw [e] at h1
    have e2 : z.cps.toList.length = z.length := Array.length_toList
    rw [hz] at e2
    have : (0 : Nat) = z.length := e2
    omega
  | cons c r =>
    have e2 : z.cps.toList.length = z.length := Array.length_toList
    by_cases hc : c = 45
    · subst hc
      have e := figs_neg hz
      have e3 : (figs z).cps.toList.length = (figs z).length := Array.length_toList
      rw [e] at e3 h3
      rw [hz, List.length_cons] at e2
      exact ⟨⟨_, intText_neg hz (fun c hc => h3 c hc) (fun z => by rw [z] at e3; have : 0 = (figs _).length := e3; omega) (by omega)⟩, by omega⟩
    · have e : figs z = z := figs_pos (by rw [hz]; intro e; exact hc (Option.some.inj e))
      rw [e] at h1 h2 h3
      exact ⟨⟨_, intText_digits (fun c hc => h3 c hc) (fun y => by rw [hz] at y; cases y) (by omega)⟩, by omega⟩
/-! a number's own text -/
def numS (i : Int) : Str := Str.ofString (toString i)
theorem numS_nat (n : Nat) : (numS (n : Int)).cps.toList = numL n := tl_num n
theorem numS_neg (n : Nat) : (numS (-((n + 1 : Nat) : Int))).cps.toList = 45 :: numL (n + 1) := by
  show (Str.ofString ("-" ++ Nat.repr (n + 1))).cps.toList = _
  rw [signs_ofString, String.toList_append, List.map_append, Nat.toList_repr]
  rfl
theorem head_num : ∀ n : Nat, 0 < n → (numL n).head? ≠ some 48 := fun n => by
  induction n using Nat.strongRecOn with
  | ind n ih =>
    intro h0
    rcases Nat.lt_or_ge n 10 with h | h
    · rw [numL_lt h]
      intro e
      have := Option.some.inj e
      omega
    · rw [numL_step h]
      have := ih (n / 10) (by omega) (by omega)
      have hn := numL_ne (n / 10)
      cases hl : numL (n / 10) with
      | nil => exact absurd hl hn
      | cons a r =>
        rw [hl] at this
        exact this
theorem num_in {i most : Int} {k : Nat} (hk : 0 < k) (h : i.natAbs < 10 ^ k) (hm : (k : Int) ≤ most) (hm2 : k ≤ 600) : numIn most (numS i) = some i := by
  have len : ∀ z : Str, z.cps.toList.length = z.length := fun z => Array.length_toList
  rcases Int.lt_or_le i 0 with hi | hi
  · obtain ⟨n, rfl⟩ : ∃ n : Nat, i = -((n + 1 : Nat) : Int) := ⟨i.natAbs - 1, by omega⟩
    have hz := numS_neg n
    have hf := figs_neg hz
    have hn : n + 1 < 10 ^ k := by omega
    have hl := numL_len hk hn
    have hne := numL_ne (n + 1)
    have e1 := len (figs (numS (-((n + 1 : Nat) : Int))))
    rw [hf] at e1
    have h1 := List.length_pos_iff.mpr hne
    have ok : FigOk most (numS (-((n + 1 : Nat) : Int))) := ⟨by omega, by omega, by rw [hf]; exact fun c hc => numL_digits (n + 1) c hc⟩
    have e2 := len (numS (-((n + 1 : Nat) : Int)))
    rw [hz, List.length_cons] at e2
    unfold numIn
    rw [if_pos ok, if_neg fun y => head_num (n + 1) (by omega) (by rw [← hf]; exact y.1), intText_neg hz (numL_digits (n + 1)) hne (by omega), numL_val]
  · obtain ⟨n, rfl⟩ := Int.eq_ofNat_of_zero_le hi
    have hz := numS_nat n
    have hn : n < 10 ^ k := by omega
    have hl := numL_len hk hn
    have hne := numL_ne n
    have hd := numL_digits n
    have hf : figs (numS (n : Int)) = numS (n : Int) := figs_pos (by
      rw [hz]
      intro e
      have := hd 45 (List.mem_of_head? e)
      omega)
    have e1 := len (numS (n : Int))
    rw [hz] at e1
    have h1 := List.length_pos_iff.mpr hne
    have ok : FigOk most (numS (n : Int)) := by
      unfold FigOk
      rw [hf, hz]
      exact ⟨by omega, by omega, fun c hc => hd c hc⟩
    unfold numIn
    rw [if_pos ok, if_neg fun y => ?_, intText_digits (by rw [hz]; exact hd) (by rw [hz]; exact hne) (by omega), hz, numL_val]
    rw [hf, hz] at y
    rcases Nat.eq_zero_or_pos n with h0 | h0
    · subst h0
      exact y.2 rfl
    · exact head_num n h0 y.1
/-- no sign of a number's text but figures and the sign ahead -/
theorem numS_sg (i : Int) : ∀ c ∈ (numS i).cps.toList, c = 45 ∨ IsDg c := by
  rcases Int.lt_or_le i 0 with hi | hi
  · obtain ⟨n, rfl⟩ : ∃ n : Nat, i = -((n + 1 : Nat) : Int) := ⟨i.natAbs - 1, by omega⟩
    rw [numS_neg n]
    intro c hc
    rcases List.mem_cons.mp hc with z | z
    · exact .inl z
    · exact .inr (numL_digits (n + 1) c z)
  · obtain ⟨n, rfl⟩ := Int.eq_ofNat_of_zero_le hi
    rw [numS_nat n]
    exact fun c hc => .inr (numL_digits n c hc)
theorem numS_ok (i : Int) : PyData.strOk (numS i) = true := by
  unfold PyData.strOk
  rw [← Array.all_toList, List.all_eq_true]
  intro c hc
  rcases numS_sg i c hc with h | h
  · subst h; rfl
  · exact decide_eq_true (by have := h.2; omega)
theorem numS_len {i : Int} {k : Nat} (hk : 0 < k) (h : i.natAbs < 10 ^ k) : (numS i).length ≤ k + 1 := by
  have len : ∀ z : Str, z.cps.toList.length = z.length := fun z => Array.length_toList
  rw [← len]
  rcases Int.lt_or_le i 0 with hi | hi
  · obtain ⟨n, rfl⟩ : ∃ n : Nat, i = -((n + 1 : Nat) : Int) := ⟨i.natAbs - 1, by omega⟩
    rw [numS_neg n, List.length_cons]
    have := numL_len hk (show n + 1 < 10 ^ k by omega)
    omega
  · obtain ⟨n, rfl⟩ := Int.eq_ofNat_of_zero_le hi
    rw [numS_nat n]
    have := numL_len hk (show n < 10 ^ k by omega)
    omega
end Ls
local macro_rules | `(tactic| walk_at "at") => `(tactic| first | assumption | exact at00 _ _ | exact at01 _ _ _ | exact at02 _ _ _ _)
local macro_rules | `(tactic| walk_at "sr") => `(tactic| with_reducible first
  | refine k_prs ?_ | refine k_prn ?_
  | (refine' k_getD hS ?sm ?se ?_; (case sm => walk_at "mem"); (case se => with_unfolding_all rfl))
  | refine k_inTb ?_ | refine k_notinTb ?_ | refine k_isSS ?_ | refine k_isSI ?_ | refine k_isST ?_ | refine k_isIS ?_ | refine k_isII ?_ | refine k_isIT ?_
  | (refine' k_isTS hS ?sm ?_; (case sm => walk_at "mem"))
  | (refine' k_isTI hS ?sm ?_; (case sm => walk_at "mem"))
  | (refine' k_isTT hS ?sm ?_; (case sm => walk_at "mem"))
  | (refine' k_ixS' hS ?sm ?se ?_; (case sm => walk_at "mem"); (case se => walk_at "at"); clear hS; walk_at "gv")
  | (refine' k_inS2 hS ?sm ?_; (case sm => walk_at "mem"))
  | (refine' k_inS3 hS ?sm ?_; (case sm => walk_at "mem"))
  | (refine' k_ninS2 hS ?sm ?_; (case sm => walk_at "mem"))
  | (refine' k_ninS3 hS ?sm ?_; (case sm => walk_at "mem"))
  | (refine' k_isiM hS ?sm ?se ?_; (case sm => walk_at "mem"); (case se => assumption)))
-- own part: ts6
namespace Ls
open PySem PySem.Spec PyProof.Rows L2 TL
/-- a list of names -/
def NmsL {K : PySem.W.Frag} (p : Addr) (L : List (As K)) : Prop := ∃ zs : List Str, Ls.ld p (zs.map PyData.str) ∈ L ∧ 0 < zs.length ∧ zs.length ≤ 1000 ∧ ∀ z ∈ zs, IsNm z
def spLNum (K : PySem.W.Frag) : Sp := fun vs H Q _ => ∃ (d : Addr) (L : List (As K)), vs = [.ref d] ∧ Ls.Sep L H ∧ dr d ∈ L ∧ ∀ (n : Int) H', Lim n → Ls.Sep L H' → Q (.int n) H'
def spLLeaf (K : PySem.W.Frag) : Sp := fun vs H Q _ => ∃ (d pn pk : Addr) (L : List (As K)), vs = [.ref d, .ref pn, .ref pk] ∧ Ls.Sep L H ∧ dr d ∈ L ∧ NmsL pn L ∧ NmsL pk L ∧ ∀ p (t : Tst) H', t.ok → t.deep = 1 → Ls.Sep (im (.ref p) t.D :: L) H' → Q (.ref p) H'
def spLTree (K : PySem.W.Frag) (n : Nat) : Sp := fun vs H Q _ => ∃ (d pn pk : Addr) (k : Int) (L : List (As K)), vs = [.ref d, .int k, .ref pn, .ref pk] ∧ k ≤ n + 1 ∧ Ls.Sep L H ∧ dr d ∈ L ∧ NmsL pn L ∧ NmsL pk L ∧ ∀ p (t : Tst) H', t.ok → t.deep ≤ n + 1 → ((t.deep : Int) ≤ k ∨ t.deep = 1) → Ls.Sep (im (.ref p) t.D :: L) H' → Q (.ref p) H'
theorem NmsL.mono {K : PySem.W.Frag} {p : Addr} {L M : List (As K)} (h : NmsL p L) (s : ∀ A ∈ L, A ∈ M) : NmsL p M := by
  obtain ⟨zs, h1, h2⟩ := h
  exact ⟨zs, s _ h1, h2⟩
end Ls
namespace Lw
open PySem PySem.Spec PyProof.Rows L2 Ls
theorem ok__law_number {P : Program} {w : World} {K : PySem.W.Frag} {mg : Str → Option Value} {base : Heap} (E : Env K mg w) : FnOk P w K mg base CX0 3 E.a__law_number E.fd__law_number ["_law_d"] (spLNum K) := by
  refine E.F__law_number.ok sc__law_number (fun vs H Q E h => ?_) (fun cdv A outer s H vs Q E' hr h => ?_)
  · walk_at "hl"
  · have hu := huOf hr
    have G__law_of := ok__law_of E (ok__law_pick (P := P) (w := w) (base := base) E)
    have hr__law_of := hr.mono (show 2 ≤ 2 by decide)
    have b__law_of := b__law_of E
    have G__law_pick := ok__law_pick (P := P) (w := w) (base := base) E
    have hr__law_pick := hr.mono (show 1 ≤ 2 by decide)
    have b__law_pick := b__law_pick E
    have hcl_Tally := E.cl_Tally
    obtain ⟨d, L, rfl, hS, hd, q⟩ := h
    refine ⟨_, PSs.nox (pss_one (ps_ret (pe_call G__law_of hr__law_of rfl E.g__law_of E.F__law_of.kp b__law_of .nil pass0 (pa_cons (pv 0) (pa_cons (pe_lst (pa_cons pe_int (pa_cons pe_int (pa_cons (pe_call G__law_pick hr__law_pick rfl E.g__law_pick E.F__law_pick.kp b__law_pick .nil pass0 (pa_cons (pv 0) (pa_cons pe_int pa_nil))) (pa_cons (pe_op op_sub (pe_call G__law_pick hr__law_pick rfl E.g__law_pick E.F__law_pick.kp b__law_pick .nil pass0 (pa_cons (pv 0) (pa_cons pe_int pa_nil))) pe_int) (pa_cons pe_int (pa_cons (pe_un un_neg pe_int) (pa_cons (pe_op op_sub (pe_call G__law_pick hr__law_pick rfl E.g__law_pick E.F__law_pick.kp b__law_pick .nil pass0 (pa_cons (pv 0) (pa_cons pe_int pa_nil))) pe_int) pa_nil)))))))) pa_nil))))), ?_⟩
    refine k_body (s1 := some _ :: []) rfl ?_
    walk_at "s"
    walk_at "pk"
    intro r H hS r0 r1
    walk_at "s"
    walk_at "pk"
    intro r2 H hS r20 r21
    walk_at "s"
    walk_at "pk"
    intro r3 H hS r30 r31
    walk_at "s"
    walk_at "ofI"
    intro n H hn hS
    refine q n _ ?_ (Sub.ok (by walk_at "sub") hS)
    simp only [List.mem_cons, List.not_mem_nil, or_false, PyData.int.injEq] at hn
    unfold Lim
    omega
theorem ok__law_leaf {P : Program} {w : World} {K : PySem.W.Frag} {mg : Str → Option Value} {base : Heap} (E : Env K mg w) : FnOk P w K mg base CX0 4 E.a__law_leaf E.fd__law_leaf ["_law_d", "_law_names", "_law_kinds"] (spLLeaf K) := by
  refine E.F__law_leaf.ok sc__law_leaf (fun vs H Q E h => ?_) (fun cdv A outer s H vs Q E' hr h => ?_)
  · walk_at "hl"
  · have hu := huOf hr
    have G__law_pick := ok__law_pick (P := P) (w := w) (base := base) E
    have hr__law_pick := hr.mono (show 1 ≤ 3 by decide)
    have b__law_pick := b__law_pick E
    have G__law_of := ok__law_of E (ok__law_pick (P := P) (w := w) (base := base) E)
    have hr__law_of := hr.mono (show 2 ≤ 3 by decide)
    have b__law_of := b__law_of E
    have G__law_number := ok__law_number (P := P) (w := w) (base := base) E
    have hr__law_number := hr.mono (show 3 ≤ 3 by decide)
    have b__law_number := b__law_number E
    have hcl_Tally := E.cl_Tally
    obtain ⟨d, pn, pk, L, rfl, hS, hd, ⟨ns, hn, n0, n1, n2⟩, ⟨ks, hk, k0, k1, k2⟩, q⟩ := h
    refine ⟨_, PSs.nox (pss_cons (ps_set (i := 3) sc__law_leaf.nd rfl (Or.inl rfl) (pe_call G__law_pick hr__law_pick rfl E.g__law_pick E.F__law_pick.kp b__law_pick .nil pass0 (pa_cons (pv 0) (pa_cons pe_int pa_nil))))
(pss_cons (ps_if (pt_cmpR (op_eqU K rfl hu) (pv 3) pe_int (nomark _)) (pss_one (ps_ret (pe_tup (pa_cons pe_str pa_nil)))) pss_nil)
(pss_cons (ps_if (pt_cmpR (op_eqU K rfl hu) (pv 3) pe_int (nomark _)) (pss_one (ps_ret (pe_tup (pa_cons pe_str (pa_cons (pe_call G__law_of hr__law_of rfl E.g__law_of E.F__law_of.kp b__law_of .nil pass0 (pa_cons (pv 0) (pa_cons (pv 2) pa_nil))) pa_nil))))) pss_nil)
(pss_one (ps_ret (pe_tup (pa_cons (pe_ix (ix_U K rfl) (pe_lst (pa_cons pe_str (pa_cons pe_str pa_nil))) (pe_op op_mod (pv 3) pe_int) (fun _ _ => rfl)) (pa_cons (pe_call G__law_of hr__law_of rfl E.g__law_of E.F__law_of.kp b__law_of .nil pass0 (pa_cons (pv 0) (pa_cons (pv 1) pa_nil))) (pa_cons (pe_call G__law_number hr__law_number rfl E.g__law_number E.F__law_number.kp b__law_number .nil pass0 (pa_cons (pv 0) pa_nil)) pa_nil))))))))), ?_⟩
    refine k_body (s1 := some _ :: some _ :: some _ :: [none]) rfl ?_
    walk_at "s"
    walk_at "pk"
    intro r H hS r0 r1
    walk_at "s"
    by_cases e0 : r = 0
    · rw [if_pos (decide_eq_true e0)]
      walk_at "s"
      exact q _ .all _ trivial rfl hS
    · rw [if_neg (by rw [decide_eq_false e0]; exact Bool.false_ne_true)]
      walk_at "s"
      by_cases e1 : r = 1
      · rw [if_pos (decide_eq_true e1)]
        walk_at "s"
        refine use_ofS hS (by walk_at "mem") hk (all_str ks) (by rw [List.length_map]; exact k0) (by rw [List.length_map]; omega) fun z H hz hS => ?_
        obtain ⟨z', hz', e⟩ := List.mem_map.mp hz
        cases e
        walk_at "s"
        exact q _ (.is z) _ (k2 _ hz') rfl hS
      · rw [if_neg (by rw [decide_eq_false e1]; exact Bool.false_ne_true)]
        walk_at "s"
        have hm : atI [PyData.str "less", PyData.str "same"] (r % 2) = some (.str (if r % 2 = 0 then "less" else "same")) := by
          have : r % 2 = 0 ∨ r % 2 = 1 := by omega
          rcases this with e | e <;> rw [e] <;> rfl
        walk_at "s"
        refine use_ofS hS (by walk_at "mem") (List.mem_cons_of_mem _ hn) (all_str ns) (by rw [List.length_map]; exact n0) (by rw [List.length_map]; omega) fun z H hz hS => ?_
        obtain ⟨z', hz', e⟩ := List.mem_map.mp hz
        cases e
        walk_at "s"
        refine ⟨d, _, rfl, hS, by walk_at "mem", fun n H hn hS => ?_⟩
        walk_at "s"
        by_cases e2 : r % 2 = 0
        · rw [if_pos e2] at hS
          exact q _ (.less z n) _ ⟨n2 _ hz', hn⟩ rfl (Sub.ok (by show Sub _ (im (V.ref _) (PyData.tuple [.str "less", .str z, .int n]) :: L); walk_at "sub") hS)
        · rw [if_neg e2] at hS
          exact q _ (.same z n) _ ⟨n2 _ hz', hn⟩ rfl (Sub.ok (by show Sub _ (im (V.ref _) (PyData.tuple [.str "same", .str z, .int n]) :: L); walk_at "sub") hS)
theorem ok__law_tree {P : Program} {w : World} {K : PySem.W.Frag} {mg : Str → Option Value} {base : Heap} (E : Env K mg w) : ∀ n : Nat, FnOk P w K mg base CX0 (5 + n) E.a__law_tree E.fd__law_tree ["_law_d", "_law_deep_here", "_law_names", "_law_kinds"] (recSp (spLTree K) n) := by
  intro n
  induction n with
  | zero => exact E.F__law_tree.ok sc__law_tree (fun vs H Q E h => h.elim) (fun cdv A outer s H vs Q E' hr h => h.elim)
  | succ n ih =>
  replace ih : FnOk P w K mg base CX0 (5 + n) E.a__law_tree E.fd__law_tree ["_law_d", "_law_deep_here", "_law_names", "_law_kinds"] (recSp (spLTree K) n) := ih
  show FnOk P w K mg base CX0 (5 + n + 1) E.a__law_tree E.fd__law_tree ["_law_d", "_law_deep_here", "_law_names", "_law_kinds"] ((spLTree K) n)
  refine E.F__law_tree.ok sc__law_tree (fun vs H Q E h => ?_) (fun cdv A outer s H vs Q E' hr h => ?_)
  · walk_at "hl"
  · have hu := huOf hr
    have G__law_pick := ok__law_pick (P := P) (w := w) (base := base) E
    have hr__law_pick := hr.mono (show 1 ≤ 5 + n by omega)
    have b__law_pick := b__law_pick E
    have G__law_leaf := ok__law_leaf (P := P) (w := w) (base := base) E
    have hr__law_leaf := hr.mono (show 4 ≤ 5 + n by omega)
    have b__law_leaf := b__law_leaf E
    have G__law_tree := ih
    have hr__law_tree := hr
    have b__law_tree := b__law_tree E
    have hcl_Tally := E.cl_Tally
    obtain ⟨d, pn, pk, k, L, rfl, hkn, hS, hd, hn, hk, q⟩ := h
    refine ⟨_, PSs.nox (pss_cons (ps_set (i := 4) sc__law_tree.nd rfl (Or.inl rfl) (pe_call G__law_pick hr__law_pick rfl E.g__law_pick E.F__law_pick.kp b__law_pick .nil pass0 (pa_cons (pv 0) (pa_cons pe_int pa_nil))))
(pss_cons (ps_if (PW.pt (pw_or (pt_cmpR (op_lt) (pv 1) pe_int (nomark _)) (pw_or1 (pt_cmpR (op_eqU K rfl hu) (pv 4) pe_int (nomark _))))) (pss_one (ps_ret (pe_call G__law_leaf hr__law_leaf rfl E.g__law_leaf E.F__law_leaf.kp b__law_leaf .nil pass0 (pa_cons (pv 0) (pa_cons (pv 2) (pa_cons (pv 3) pa_nil)))))) pss_nil)
(pss_cons (ps_if (pt_cmpR (op_eqU K rfl hu) (pv 4) pe_int (nomark _)) (pss_one (ps_ret (pe_tup (pa_cons pe_str (pa_cons (pe_call G__law_tree hr__law_tree rfl E.g__law_tree E.F__law_tree.kp b__law_tree .nil pass0 (pa_cons (pv 0) (pa_cons (pe_op op_sub (pv 1) pe_int) (pa_cons (pv 2) (pa_cons (pv 3) pa_nil))))) pa_nil))))) pss_nil)
(pss_cons (ps_set (i := 5) sc__law_tree.nd rfl (Or.inl rfl) (pe_ix (ix_U K rfl) (pe_lst (pa_cons pe_str (pa_cons pe_str pa_nil))) (pe_op op_mod (pv 4) pe_int) (fun _ _ => rfl)))
(pss_one (ps_ret (pe_tup (pa_cons (pv 5) (pa_cons (pe_call G__law_tree hr__law_tree rfl E.g__law_tree E.F__law_tree.kp b__law_tree .nil pass0 (pa_cons (pv 0) (pa_cons (pe_op op_sub (pv 1) pe_int) (pa_cons (pv 2) (pa_cons (pv 3) pa_nil))))) (pa_cons (pe_call G__law_tree hr__law_tree rfl E.g__law_tree E.F__law_tree.kp b__law_tree .nil pass0 (pa_cons (pv 0) (pa_cons (pe_op op_sub (pv 1) pe_int) (pa_cons (pv 2) (pa_cons (pv 3) pa_nil))))) pa_nil)))))))))), ?_⟩
    refine k_body (s1 := some _ :: some _ :: some _ :: some _ :: [none, none]) rfl ?_
    walk_at "s"
    walk_at "pk"
    intro r H hS r0 r1
    walk_at "s"
    by_cases h2 : k < 2
    · rw [if_pos (decide_eq_true h2)]
      walk_at "s"
      refine ⟨d, pn, pk, _, rfl, hS, hd, hn, hk, fun p t H ho h1 hS => ?_⟩
      exact q p t _ ho (by omega) (.inr h1) hS
    rw [if_neg (by rw [decide_eq_false h2]; exact Bool.false_ne_true)]
    walk_at "s"
    by_cases h0 : r = 0
    · rw [if_pos (decide_eq_true h0)]
      walk_at "s"
      refine ⟨d, pn, pk, _, rfl, hS, hd, hn, hk, fun p t H ho h1 hS => ?_⟩
      exact q p t _ ho (by omega) (.inr h1) hS
    rw [if_neg (by rw [decide_eq_false h0]; exact Bool.false_ne_true)]
    walk_at "s"
    obtain ⟨n', rfl⟩ : ∃ n', n = n' + 1 := ⟨n - 1, by omega⟩
    by_cases h1 : r = 1
    · rw [if_pos (decide_eq_true h1)]
      walk_at "s"
      refine ⟨d, pn, pk, k - 1, _, rfl, by omega, hS, hd, hn, hk, fun p t H ho hd1 hd2 hS => ?_⟩
      walk_at "s"
      refine q _ (.no t) _ ho (by show t.deep + 1 ≤ _; omega) (.inl (by show ((t.deep + 1 : Nat) : Int) ≤ k; omega)) (Sub.ok (by show Sub _ (im (V.ref _) (PyData.tuple [.str "not", t.D]) :: L); walk_at "sub") hS)
    rw [if_neg (by rw [decide_eq_false h1]; exact Bool.false_ne_true)]
    have hm : atI [PyData.str "and", PyData.str "or"] (r % 2) = some (.str (if r % 2 = 0 then "and" else "or")) := by
      have : r % 2 = 0 ∨ r % 2 = 1 := by omega
      rcases this with e | e <;> rw [e] <;> rfl
    walk_at "s"
    refine ⟨d, pn, pk, k - 1, _, rfl, by omega, hS, by walk_at "mem", hn.mono (fun A h => by walk_at "mem"), hk.mono (fun A h => by walk_at "mem"), fun p1 t1 H ho1 hd1 hd11 hS => ?_⟩
    walk_at "s"
    refine ⟨d, pn, pk, k - 1, _, rfl, by omega, hS, by walk_at "mem", hn.mono (fun A h => by walk_at "mem"), hk.mono (fun A h => by walk_at "mem"), fun p2 t2 H ho2 hd2 hd22 hS => ?_⟩
    walk_at "s"
    by_cases e2 : r % 2 = 0
    · rw [if_pos e2] at hS
      exact q _ (.an t1 t2) _ ⟨ho1, ho2⟩ (by show max _ _ + 1 ≤ _; omega) (.inl (by show ((max t1.deep t2.deep + 1 : Nat) : Int) ≤ k; omega)) (Sub.ok (by show Sub _ (im (V.ref _) (PyData.tuple [.str "and", t1.D, t2.D]) :: L); walk_at "sub") hS)
    · rw [if_neg e2] at hS
      exact q _ (.or t1 t2) _ ⟨ho1, ho2⟩ (by show max _ _ + 1 ≤ _; omega) (.inl (by show ((max t1.deep t2.deep + 1 : Nat) : Int) ≤ k; omega)) (Sub.ok (by show Sub _ (im (V.ref _) (PyData.tuple [.str "or", t1.D, t2.D]) :: L); walk_at "sub") hS)
end Lw
-- own part: ts2
namespace Ls
open PySem PySem.Spec PyProof.Rows L2
def spLeaf (K : PySem.W.Frag) : Sp := fun vs H Q _ => ∃ (a : Addr) (z : Str) (r : List PyData) (N : Nat) (L : List (As K)), vs = [.ref a] ∧ Ls.Sep L H ∧ im (.ref a) (.tuple (.str z :: r)) ∈ L ∧ Raw N (.tuple (.str z :: r)) ∧ wordK z = none ∧ ∀ H', Ls.Sep L H' → Q (.bl (Ls.leafOf z r).isSome) H'
def spParts (K : PySem.W.Frag) (n : Nat) : Sp := fun vs H Q _ => ∃ (a : Addr) (k : Nat) (xs : List PyData) (N : Nat) (L : List (As K)), vs = [.ref a, .int k] ∧ k ≤ n ∧ Ls.Sep L H ∧ im (.ref a) (.tuple xs) ∈ L ∧ Raw N (.tuple xs) ∧ ∀ H', Ls.Sep L H' → Q (.int (partsP k (.tuple xs))) H'
theorem raw_d {c N : Nat} {d : PyData} (h : RawC c N d) : (∃ z, d = .str z ∧ z.length ≤ 1000) ∨ (∃ i, d = .int i) ∨ (∃ xs m, d = .tuple xs ∧ N = m + 1 ∧ xs.length ≤ c ∧ (∀ x r, xs = x :: r → ∃ z, x = .str z) ∧ ∀ x ∈ xs, RawC c m x) := by
  cases d with
  | str z => cases N <;> exact .inl ⟨z, rfl, h.1⟩
  | int i => exact .inr (.inl ⟨i, rfl⟩)
  | tuple xs =>
    cases N with
    | zero => exact h.elim
    | succ m => exact .inr (.inr ⟨xs, m, rfl, rfl, h⟩)
  | none => cases N <;> exact h.elim
  | bool b => cases N <;> exact h.elim
  | list b => cases N <;> exact h.elim
  | dict b => cases N <;> exact h.elim
theorem leafO_many {z : Str} {x y u : PyData} {r : List PyData} : Ls.leafOf z (x :: y :: u :: r) = none := by
  have e1 : ∀ n : Str, (x :: y :: u :: r : List PyData) = [.str n] → False := fun n h => by cases h
  have e2 : ∀ (n : Str) (k : Int), (x :: y :: u :: r : List PyData) = [.str n, .int k] → False := fun n k h => by cases h
  unfold Ls.leafOf
  repeat' split
  all_goals first | rfl | exact (e1 _ (by assumption)).elim | exact (e2 _ _ (by assumption)).elim | (rename_i h; exact absurd h (by simp))
end Ls
namespace Lw
open PySem PySem.Spec PyProof.Rows L2 Ls
theorem ok_is_leaf {P : Program} {w : World} {K : PySem.W.Frag} {mg : Str → Option Value} {base : Heap} (E : Env K mg w) : FnOk P w K mg base CX0 2 E.a_is_leaf E.fd_is_leaf ["test"] (spLeaf K) := by
  refine E.F_is_leaf.ok sc_is_leaf (fun vs H Q E h => ?_) (fun cdv A outer s H vs Q E' hr h => ?_)
  · walk_at "hl"
  · have hu := huOf hr
    have G_is_name := ok_is_name (P := P) (w := w) (base := base) E
    have hr_is_name := hr.mono (show 1 ≤ 1 by decide)
    have b_is_name := b_is_name E
    have hcl_Tally := E.cl_Tally
    obtain ⟨a, z, r, N, L, rfl, hS, hm, hr', hw, q⟩ := h
    refine ⟨_, PSs.nox (pss_cons (ps_if (pt_cmpR (op_eqU K rfl hu) (pe_ix (ix_U K rfl) (pv 0) pe_int (fun _ _ => rfl)) pe_str (nomark _)) (pss_one (ps_ret (pe_cmpR (op_eqU K rfl hu) (pe_callB (call_lenU K rfl) (by rfl) E.n_len boot_len (pa_cons (pv 0) pa_nil)) pe_int (nomark _)))) pss_nil)
(pss_cons (ps_if (pt_cmpR (op_eqU K rfl hu) (pe_ix (ix_U K rfl) (pv 0) pe_int (fun _ _ => rfl)) pe_str (nomark _)) (pss_one (ps_ret (pe_and (pe_cmpR (op_eqU K rfl hu) (pe_callB (call_lenU K rfl) (by rfl) E.n_len boot_len (pa_cons (pv 0) pa_nil)) pe_int (nomark _)) (pe_and (pe_callB (call_isiU K rfl) (by rfl) E.n_isinstance boot_isinstance (pa_cons (pe_ix (ix_U K rfl) (pv 0) pe_int (fun _ _ => rfl)) (pa_cons (pe_ty "str" rfl E.n_str (by decide +kernel)) pa_nil))) (pe_one (pe_call G_is_name hr_is_name rfl E.g_is_name E.F_is_name.kp b_is_name .nil pass0 (pa_cons (pe_ix (ix_U K rfl) (pv 0) pe_int (fun _ _ => rfl)) pa_nil))))))) pss_nil)
(pss_cons (ps_if (PW.pt (pw_or (pt_cmpR (op_neU K rfl hu) (pe_callB (call_lenU K rfl) (by rfl) E.n_len boot_len (pa_cons (pv 0) pa_nil)) pe_int (nomark _)) (pw_or (pt_not (pt_val (pe_callB (call_isiU K rfl) (by rfl) E.n_isinstance boot_isinstance (pa_cons (pe_ix (ix_U K rfl) (pv 0) pe_int (fun _ _ => rfl)) (pa_cons (pe_ty "str" rfl E.n_str (by decide +kernel)) pa_nil))))) (pw_or1 (pt_not (pt_val (pe_callB (call_isiU K rfl) (by rfl) E.n_isinstance boot_isinstance (pa_cons (pe_ix (ix_U K rfl) (pv 0) pe_int (fun _ _ => rfl)) (pa_cons (pe_ty "int" rfl E.n_int (by decide +kernel)) pa_nil))))))))) (pss_one (ps_ret pe_bl)) pss_nil)
(pss_one (ps_ret (pe_and (pe_cmpR (op_inU K rfl hu) (pe_ix (ix_U K rfl) (pv 0) pe_int (fun _ _ => rfl)) (pe_tup (pa_cons pe_str (pa_cons pe_str pa_nil))) (by with_unfolding_all rfl)) (pe_and (pe_call G_is_name hr_is_name rfl E.g_is_name E.F_is_name.kp b_is_name .nil pass0 (pa_cons (pe_ix (ix_U K rfl) (pv 0) pe_int (fun _ _ => rfl)) pa_nil)) (pe_one (pe_chain op_le op_le (pe_un un_neg (pe_gc rfl E.c_LIMIT)) (pe_ix (ix_U K rfl) (pv 0) pe_int (fun _ _ => rfl)) (pe_gc rfl E.c_LIMIT)))))))))), ?_⟩
    refine k_body (s1 := some _ :: []) rfl ?_
    walk_at "s"
    by_cases e1 : z = ("all" : Str)
    · rw [if_pos (decide_eq_true e1)]
      walk_at "s"
      have e : decide (((PyData.str z :: r).length : Int) = 1) = (Ls.leafOf z r).isSome := by
        unfold Ls.leafOf
        rw [if_pos e1]
        cases r with
        | nil => rfl
        | cons x r => exact decide_eq_false (by simp; omega)
      rw [e]
      exact q _ hS
    · rw [if_neg (by rw [decide_eq_false e1]; exact Bool.false_ne_true)]
      walk_at "s"
      by_cases e2 : z = ("is" : Str)
      · rw [if_pos (decide_eq_true e2)]
        walk_at "s"
        by_cases hl : ∃ x, r = [x]
        · obtain ⟨x, rfl⟩ := hl
          rw [if_pos (by rfl)]
          obtain ⟨m, rfl⟩ : ∃ m, N = m + 1 := by cases N with | zero => exact hr'.elim | succ m => exact ⟨m, rfl⟩
          have hx := hr'.2.2 x (List.mem_cons_of_mem _ List.mem_cons_self)
          rcases raw_d hx with ⟨s, rfl, hs⟩ | ⟨i, rfl⟩ | ⟨xs, k, rfl, _⟩
          · walk_at "s"
            have e : decide (IsNm s) = (Ls.leafOf z [.str s]).isSome := by
              unfold Ls.leafOf
              rw [if_neg e1, if_pos e2]
              by_cases hn : IsNm s
              · show _ = (if IsNm s then some (Tst.is s) else none).isSome
                rw [if_pos hn, decide_eq_true hn]
                rfl
              · show _ = (if IsNm s then some (Tst.is s) else none).isSome
                rw [if_neg hn, decide_eq_false hn]
                rfl
            refine ⟨s, _, rfl, by omega, hS, fun H hS => ?_⟩
            rw [e]
            exact q _ hS
          · have e : (Ls.leafOf z [.int i]).isSome = false := by
              unfold Ls.leafOf
              rw [if_neg e1, if_pos e2]
              rfl
            rw [e] at q
            walk_at "s"
            exact q _ hS
          · have e : (Ls.leafOf z [.tuple xs]).isSome = false := by
              unfold Ls.leafOf
              rw [if_neg e1, if_pos e2]
              rfl
            rw [e] at q
            walk_at "s"
            exact q _ (Sub.ok (by walk_at "sub") hS)
        · have e : (Ls.leafOf z r).isSome = false := by
            unfold Ls.leafOf
            rw [if_neg e1, if_pos e2]
            split
            · exact (hl ⟨_, rfl⟩).elim
            · rfl
          have e3 : decide (((PyData.str z :: r).length : Int) = 2) = false := decide_eq_false fun h => hl (by
            match r, h with
            | [x], _ => exact ⟨x, rfl⟩
            | [], h => simp at h
            | x :: y :: r, h => simp at h; omega)
          rw [e3, if_neg Bool.false_ne_true]
          rw [e] at q
          exact q _ hS
      · rw [if_neg (by rw [decide_eq_false e2]; exact Bool.false_ne_true)]
        walk_at "s"
        by_cases hl : ∃ x y, r = [x, y]
        · obtain ⟨x, y, rfl⟩ := hl
          rw [if_neg (by show ¬(!decide ((3 : Int) = 3)) = true; decide)]
          obtain ⟨m, rfl⟩ : ∃ m, N = m + 1 := by cases N with | zero => exact hr'.elim | succ m => exact ⟨m, rfl⟩
          have hx := hr'.2.2 x (List.mem_cons_of_mem _ List.mem_cons_self)
          have hy := hr'.2.2 y (List.mem_cons_of_mem _ (List.mem_cons_of_mem _ List.mem_cons_self))
          have no : (∀ s i, ¬ ((x = .str s) ∧ y = .int i)) → (Ls.leafOf z [x, y]).isSome = false := fun h => by
            unfold Ls.leafOf
            rw [if_neg e1, if_neg e2]
            repeat' split
            all_goals first | rfl | (rename_i e _; exact (h _ _ (by cases e; exact ⟨rfl, rfl⟩)).elim)
          walk_at "s"
          rcases raw_d hx with ⟨s, rfl, hs⟩ | ⟨i, rfl⟩ | ⟨xs, k, rfl, _⟩
          · walk_at "s"
            rcases raw_d hy with ⟨s2, rfl, hs2⟩ | ⟨i, rfl⟩ | ⟨xs, k, rfl, _⟩
            · rw [no (by rintro s i ⟨_, h⟩; cases h)] at q
              walk_at "s"
              exact q _ hS
            · walk_at "s"
              have en : ∀ P : Prop, ¬ z = ("less" : Str) → ¬ z = ("same" : Str) → (Ls.leafOf z [.str s, .int i]).isSome = false := fun _ h3 h4 => by
                unfold Ls.leafOf
                rw [if_neg e1, if_neg e2, if_neg h3, if_neg h4]
                rfl
              have ey : (z = ("less" : Str) ∨ z = ("same" : Str)) → (Ls.leafOf z [.str s, .int i]).isSome = decide (IsNm s ∧ Lim i) := fun h => by
                unfold Ls.leafOf
                rw [if_neg e1, if_neg e2]
                by_cases h3 : z = ("less" : Str)
                · rw [if_pos h3]
                  by_cases hn : IsNm s ∧ Lim i
                  · show (if IsNm s ∧ Lim i then some (Tst.less s i) else none).isSome = _
                    rw [if_pos hn, decide_eq_true hn]
                    rfl
                  · show (if IsNm s ∧ Lim i then some (Tst.less s i) else none).isSome = _
                    rw [if_neg hn, decide_eq_false hn]
                    rfl
                · rw [if_neg h3, if_pos (h.resolve_left h3)]
                  by_cases hn : IsNm s ∧ Lim i
                  · show (if IsNm s ∧ Lim i then some (Tst.same s i) else none).isSome = _
                    rw [if_pos hn, decide_eq_true hn]
                    rfl
                  · show (if IsNm s ∧ Lim i then some (Tst.same s i) else none).isSome = _
                    rw [if_neg hn, decide_eq_false hn]
                    rfl
              by_cases hz : z = ("less" : Str) ∨ z = ("same" : Str)
              · rw [if_pos (decide_eq_true (by simp only [List.mem_cons, List.not_mem_nil, or_false]; exact hz))]
                rw [ey hz] at q
                walk_at "s"
                refine ⟨s, _, rfl, by omega, hS, fun H hS => ?_⟩
                by_cases hn : IsNm s
                · rw [decide_eq_true hn]
                  walk_at "s"
                  by_cases h5 : -999999 ≤ i
                  · walk_at "s"
                    rw [show decide (i ≤ 999999) = decide (IsNm s ∧ Lim i) from decide_eq_decide.mpr ⟨fun h => ⟨hn, h5, h⟩, fun h => h.2.2⟩]
                    exact q _ (Sub.ok (by walk_at "sub") hS)
                  · rw [decide_eq_false fun h => h5 h.2.1] at q
                    walk_at "s"
                    exact q _ (Sub.ok (by walk_at "sub") hS)
                · rw [decide_eq_false fun h => hn h.1] at q
                  rw [decide_eq_false hn]
                  walk_at "s"
                  exact q _ (Sub.ok (by walk_at "sub") hS)
              · rw [if_neg (by rw [decide_eq_false (by simp only [List.mem_cons, List.not_mem_nil, or_false]; exact hz)]; exact Bool.false_ne_true)]
                rw [en True (fun h => hz (.inl h)) (fun h => hz (.inr h))] at q
                exact q _ (Sub.ok (by walk_at "sub") hS)
            · rw [no (by rintro s i ⟨_, h⟩; cases h)] at q
              walk_at "s"
              exact q _ (Sub.ok (by walk_at "sub") hS)
          · rw [no (by rintro s i ⟨h, _⟩; cases h)] at q
            walk_at "s"
            exact q _ hS
          · rw [no (by rintro s i ⟨h, _⟩; cases h)] at q
            walk_at "s"
            exact q _ (Sub.ok (by walk_at "sub") hS)
        · have e : (Ls.leafOf z r).isSome = false := by
            unfold Ls.leafOf
            rw [if_neg e1, if_neg e2]
            repeat' split
            all_goals first | rfl | exact (hl ⟨_, _, rfl⟩).elim
          have e3 : decide (((PyData.str z :: r).length : Int) = 3) = false := decide_eq_false fun h => hl (by
            match r, h with
            | [x, y], _ => exact ⟨x, y, rfl⟩
            | [], h => simp at h
            | [x], h => simp at h
            | x :: y :: u :: r, h => simp at h; omega)
          rw [e3, if_pos rfl]
          rw [e] at q
          walk_at "s"
          exact q _ hS
end Lw
-- own part: ts3
namespace Ls
open PySem PySem.Spec PyProof.Rows L2
theorem mkT_some {z : Str} {ts : List Tst} (h : wordK z = some ts.length) : ∃ t, mkT z ts = some t := by
  unfold wordK at h
  unfold mkT
  split at h
  · rename_i e
    rw [if_pos e]
    match ts, h with
    | [a], _ => exact ⟨_, rfl⟩
  · rename_i e
    rw [if_neg e]
    split at h
    · rename_i e
      rw [if_pos e]
      match ts, h with
      | [a, b], _ => exact ⟨_, rfl⟩
    · rename_i e
      rw [if_neg e]
      split at h
      · rename_i e
        rw [if_pos e]
        match ts, h with
        | [a, b], _ => exact ⟨_, rfl⟩
      · cases h
theorem mkT_none {z : Str} {ts : List Tst} (h : wordK z ≠ some ts.length) : mkT z ts = none := by
  unfold wordK at h
  unfold mkT
  repeat' split
  all_goals first | rfl | (exfalso; apply h; simp_all)
theorem mapM_len {α β : Type} {f : α → Option β} : ∀ {r : List α} {ts : List β}, r.mapM f = some ts → ts.length = r.length
  | [], ts, h => by
    have : some [] = some ts := h
    cases this
    rfl
  | d :: r, ts, h => by
    rw [List.mapM_cons] at h
    cases e : f d with
    | none => rw [e] at h; cases h
    | some t =>
      rw [e] at h
      cases e2 : r.mapM f with
      | none => rw [e2] at h; cases h
      | some us =>
        rw [e2] at h
        cases h
        simp [mapM_len e2]
theorem mapM_app {α β : Type} {f : α → Option β} : ∀ {r : List α} {x : α} {ts : List β} {t : β}, r.mapM f = some ts → f x = some t → (r ++ [x]).mapM f = some (ts ++ [t])
  | [], x, ts, t, h, e => by
    have : some [] = some ts := h
    cases this
    rw [List.nil_append, List.mapM_cons, e]
    rfl
  | d :: r, x, ts, t, h, e => by
    rw [List.mapM_cons] at h
    cases e1 : f d with
    | none => rw [e1] at h; cases h
    | some u =>
      rw [e1] at h
      cases e2 : r.mapM f with
      | none => rw [e2] at h; cases h
      | some us =>
        rw [e2] at h
        cases h
        rw [List.cons_append, List.mapM_cons, e1, mapM_app e2 e]
        rfl
theorem mapM_no {α β : Type} {f : α → Option β} : ∀ {r : List α} {x : α}, x ∈ r → f x = none → r.mapM f = none
  | d :: r, x, m, e => by
    rw [List.mapM_cons]
    rcases List.mem_cons.mp m with rfl | m
    · rw [e]; rfl
    · rw [mapM_no m e]
      cases f d <;> rfl
theorem dec_atom {n : Nat} {d : PyData} (h : ∀ xs, d ≠ .tuple xs) : dec n d = none := by
  unfold dec
  split
  · exact (h _ rfl).elim
  · rfl
theorem dec_nil (n : Nat) : dec n (.tuple []) = none := by
  unfold dec
  split
  · rename_i e
    cases e
  · rfl
theorem dec_zero (d : PyData) : dec 0 d = none := by
  unfold dec
  rfl
theorem tabW (z : Str) : List.lookup z [(Str.ofString "not", V.int 1), (Str.ofString "and", V.int 2), (Str.ofString "or", V.int 2)] = (wordK z).map fun n : Nat => V.int n := by
  unfold wordK
  by_cases h1 : z = Str.ofString "not"
  · rw [if_pos h1, h1]
    rw [List.lookup_cons, beq_self_eq_true]
    rfl
  · rw [if_neg h1, List.lookup_cons, beq_false_of_ne h1]
    by_cases h2 : z = Str.ofString "and"
    · rw [if_pos h2, h2]
      simp only [List.lookup_cons, beq_self_eq_true]
      rfl
    · rw [if_neg h2]
      simp only [List.lookup_cons, beq_false_of_ne h2]
      by_cases h3 : z = Str.ofString "or"
      · rw [if_pos h3, h3]
        simp only [beq_self_eq_true]
        rfl
      · rw [if_neg h3]
        simp only [beq_false_of_ne h3]
        rfl
theorem pP_leaf {k : Nat} {z : Str} {r : List PyData} (hw : wordK z = none) : partsP (k + 1) (.tuple (.str z :: r)) = if (Ls.leafOf z r).isSome = true then 1 else 0 := by
  unfold partsP
  rw [dec_tup, hw]
  show (match Ls.leafOf z r with | none => 0 | some t => (t.parts : Int)) = _
  cases e : Ls.leafOf z r with
  | none => rfl
  | some t =>
    obtain ⟨_, _, _, h4, _⟩ := leafOf_ok e
    show (t.parts : Int) = 1
    rw [h4]
    rfl
theorem pP_some {k l : Nat} {z : Str} {r : List PyData} {ts : List Tst} (hw : wordK z = some l) (hl : r.length = l) (h : r.mapM (dec k) = some ts) : partsP (k + 1) (.tuple (.str z :: r)) = 1 + ((ts.map Tst.parts).sum : Nat) := by
  unfold partsP
  rw [dec_tup, hw]
  show (match (r.mapM (dec k)).bind (mkT z) with | none => 0 | some t => (t.parts : Int)) = _
  have hts := mapM_len h
  obtain ⟨t, ht⟩ := mkT_some (z := z) (ts := ts) (by rw [hw, hts, hl])
  rw [h]
  show (match mkT z ts with | none => 0 | some t => (t.parts : Int)) = _
  rw [ht]
  obtain ⟨h1, h2⟩ := mapM_all h fun d t => dec_ok
  obtain ⟨_, _, _, k4, _⟩ := mkT_ok ht h2
  show (t.parts : Int) = _
  rw [k4]
  omega
theorem pP_none {k l : Nat} {z : Str} {r : List PyData} (hw : wordK z = some l) (h : r.length ≠ l ∨ r.mapM (dec k) = none) : partsP (k + 1) (.tuple (.str z :: r)) = 0 := by
  unfold partsP
  rw [dec_tup, hw]
  show (match (r.mapM (dec k)).bind (mkT z) with | none => 0 | some t => (t.parts : Int)) = _
  cases e : r.mapM (dec k) with
  | none => rfl
  | some ts =>
    have hts := mapM_len e
    show (match mkT z ts with | none => 0 | some t => (t.parts : Int)) = _
    rw [mkT_none (by
      rw [hw, hts]
      intro y
      rcases h with h | h
      · exact h (Option.some.inj y).symm
      · rw [e] at h; cases h)]
end Ls
namespace Lw
open PySem PySem.Spec PyProof.Rows L2 Ls
theorem ok_parts_of {P : Program} {w : World} {K : PySem.W.Frag} {mg : Str → Option Value} {base : Heap} (E : Env K mg w) : ∀ n : Nat, FnOk P w K mg base CX0 (3 + n) E.a_parts_of E.fd_parts_of ["test", "deep"] (recSp (spParts K) n) := by
  intro n
  induction n with
  | zero => exact E.F_parts_of.ok sc_parts_of (fun vs H Q E h => h.elim) (fun cdv A outer s H vs Q E' hr h => h.elim)
  | succ n ih =>
  replace ih : FnOk P w K mg base CX0 (3 + n) E.a_parts_of E.fd_parts_of ["test", "deep"] (recSp (spParts K) n) := ih
  show FnOk P w K mg base CX0 (3 + n + 1) E.a_parts_of E.fd_parts_of ["test", "deep"] ((spParts K) n)
  refine E.F_parts_of.ok sc_parts_of (fun vs H Q E h => ?_) (fun cdv A outer s H vs Q E' hr h => ?_)
  · walk_at "hl"
  · have hu := huOf hr
    have G_is_leaf := ok_is_leaf (P := P) (w := w) (base := base) E
    have hr_is_leaf := hr.mono (show 2 ≤ 3 + n by omega)
    have b_is_leaf := b_is_leaf E
    have G_parts_of := ih
    have hr_parts_of := hr
    have b_parts_of := b_parts_of E
    have hcl_Tally := E.cl_Tally
    obtain ⟨a, k, xs, N, L, rfl, hk, hS, hm, hr', q⟩ := h
    obtain ⟨m, rfl⟩ : ∃ m, N = m + 1 := by cases N with | zero => exact hr'.elim | succ m => exact ⟨m, rfl⟩
    refine ⟨_, PSs.nox (pss_cons (ps_if (PW.pt (pw_or (pt_cmpR (op_eqU K rfl hu) (pv 1) pe_int (nomark _)) (pw_or1 (pt_cmpR (op_eqU K rfl hu) (pe_callB (call_lenU K rfl) (by rfl) E.n_len boot_len (pa_cons (pv 0) pa_nil)) pe_int (nomark _))))) (pss_one (ps_ret pe_int)) pss_nil)
(pss_cons (ps_if (pt_cmpR (op_notinT E.t_WITHIN) (pe_ix (ix_U K rfl) (pv 0) pe_int (fun _ _ => rfl)) (pe_glob (v := .ref E.D_WITHIN) rfl E.g_WITHIN rfl) (by with_unfolding_all rfl)) (pss_one (ps_ret (pe_callTy (call_int1) (by rfl) E.n_int boot_int (pa_cons (pe_call G_is_leaf hr_is_leaf rfl E.g_is_leaf E.F_is_leaf.kp b_is_leaf .nil pass0 (pa_cons (pv 0) pa_nil)) pa_nil)))) pss_nil)
(pss_cons (ps_asg (pv 0) (pg_tupS (n := 1) K rfl (pgs_cons (pg_name (i := 2) sc_parts_of.nd rfl (Or.inl rfl)) (pgs_star (pg_name (i := 3) sc_parts_of.nd rfl (Or.inl rfl)) pgs_nil))))
(pss_cons (ps_if (pt_cmpR (op_neU K rfl hu) (pe_callB (call_lenU K rfl) (by rfl) E.n_len boot_len (pa_cons (pv 3) pa_nil)) (pe_ix (ix_T E.t_WITHIN) (pe_glob (v := .ref E.D_WITHIN) rfl E.g_WITHIN rfl) (pv 2) (fun _ _ => rfl)) (nomark _)) (pss_one (ps_ret pe_int)) pss_nil)
(pss_cons (ps_set (i := 4) sc_parts_of.nd rfl (Or.inl rfl) pe_int)
(pss_cons (ps_for PassesOwn.never rfl (pi_seqU K rfl (pv 3)) (pg_name (i := 5) sc_parts_of.nd rfl (Or.inl rfl))
(pss_cons (ps_set (i := 6) sc_parts_of.nd rfl (Or.inl rfl) (pe_join (pe_ifExp (pt_val (pe_callB (call_isiU K rfl) (by rfl) E.n_isinstance boot_isinstance (pa_cons (pv 5) (pa_cons (pe_ty "tuple" rfl E.n_tuple (by decide +kernel)) pa_nil)))) (pe_call G_parts_of hr_parts_of rfl E.g_parts_of E.F_parts_of.kp b_parts_of .nil pass0 (pa_cons (pv 5) (pa_cons (pe_op op_sub (pv 1) pe_int) pa_nil))) pe_int)))
(pss_cons (ps_if (pt_cmpR (op_eqU K rfl hu) (pv 6) pe_int (nomark _)) (pss_one (ps_ret pe_int)) pss_nil)
(pss_one (ps_aug (i := 4) sc_parts_of.nd rfl (Or.inl rfl) (pv 6) ip_add)))))
(pss_one (ps_ret (pv 4))))))))), ?_⟩
    refine k_body (s1 := some _ :: some _ :: [none, none, none, none, none]) rfl ?_
    walk_at "s"
    cases k with
    | zero =>
      have e : partsP 0 (.tuple xs) = 0 := by
        unfold partsP
        rw [dec_zero]
      rw [e] at q
      walk_at "s"
      exact q _ hS
    | succ k =>
      walk_at "s"
      cases xs with
      | nil =>
        have e : partsP (k + 1) (.tuple []) = 0 := by
          unfold partsP
          rw [dec_nil]
        rw [e] at q
        rw [if_pos (by rfl)]
        walk_at "s"
        exact q _ hS
      | cons x r =>
        obtain ⟨z, rfl⟩ := hr'.2.1 x r rfl
        rw [if_neg (by rw [decide_eq_false (by simp; omega)]; exact Bool.false_ne_true)]
        walk_at "s"
        rw [tabW]
        cases hw : wordK z with
        | none =>
          rw [if_pos (by rfl)]
          walk_at "s"
          refine ⟨a, z, r, m + 1, _, rfl, hS, hm, hr', hw, fun H hS => ?_⟩
          rw [pP_leaf hw] at q
          refine .inr ⟨_, rfl, ?_⟩
          exact q _ hS
        | some l =>
          rw [if_neg (by exact Bool.false_ne_true)]
          walk_at "s"
          refine k_gtupStar hS (by walk_at "mem") (by show 1 ≤ r.length + 1; omega) (by have := hr'.1; omega) ?_
          show ∀ p H', Ls.Sep (Ls.ld p r :: ([] ++ L)) H' → _
          intro p H hS
          replace hS : Ls.Sep (Ls.ld p r :: L) H := hS
          show gCons (gName 2) (gCons (gName 3) gNil) [V.str z, V.ref p] _ _ _
          walk_at "s"
          refine k_ixTb (by rw [tabW, hw]; rfl) ?_
          walk_at "s"
          by_cases hl : r.length = l
          · rw [if_neg (by rw [hl]; simp)]
            walk_at "s"
            have hrl : r.length ≤ 100 := by have := hr'.1; simp at this; omega
            refine for_wk (L := Ls.ld p r :: L) (n := r.length) (fun i σ L' => L' = Ls.ld p r :: L ∧ ∃ (ts : List Tst) (c5 c6 : Option V), (r.take i).mapM (dec k) = some ts ∧ σ = [some (.ref a), some (.int (k + 1 : Nat)), some (.str z), some (.ref p), some (.int (1 + ((ts.map Tst.parts).sum : Nat))), c5, c6]) (fun i σ L' e => by obtain ⟨rfl, _⟩ := e; exact wk_ld (by walk_at "mem")) hS ⟨rfl, [], _, _, by rfl, rfl⟩ (fun i σ L' hi iv => ?_) (fun σ L' H iv hS => ?_)
            · obtain ⟨rfl, ts, c5, c6, hts, rfl⟩ := iv
              intro d hd
              have hdr := hr'.2.2 d (List.mem_cons_of_mem _ (List.mem_of_getElem? hd))
              have htk : r.take (i + 1) = r.take i ++ [d] := by rw [List.take_add_one, hd]; rfl
              rcases raw_d hdr with ⟨s, rfl, hs⟩ | ⟨j, rfl⟩ | ⟨xs, m2, rfl, _, rl, _⟩
              · have hn : dec k (.str s) = none := dec_atom fun xs h => by cases h
                have q0 := pP_none hw (.inr (mapM_no (List.mem_of_getElem? hd) hn))
                rw [q0] at q
                walk_at "gi"
                walk_at "ns"
                walk_at "s"
                refine k_nojoin ?_
                walk_at "s"
                exact q _ (Sub.ok (by walk_at "sub") hS)
              · have hn : dec k (.int j) = none := dec_atom fun xs h => by cases h
                have q0 := pP_none hw (.inr (mapM_no (List.mem_of_getElem? hd) hn))
                rw [q0] at q
                walk_at "gi"
                walk_at "ns"
                walk_at "s"
                refine k_nojoin ?_
                walk_at "s"
                exact q _ (Sub.ok (by walk_at "sub") hS)
              · walk_at "gi"
                walk_at "ns"
                walk_at "s"
                refine k_nojoin ?_
                walk_at "s"
                obtain ⟨n', rfl⟩ : ∃ n', n = n' + 1 := ⟨n - 1, by omega⟩
                rw [show ((k + 1 : Nat) : Int) - 1 = (k : Nat) by omega]
                refine ⟨_, k, xs, m, _, rfl, by omega, hS, by walk_at "mem", hdr, fun H hS => ?_⟩
                walk_at "s"
                cases e : dec k (.tuple xs) with
                | none =>
                  have q0 := pP_none hw (.inr (mapM_no (List.mem_of_getElem? hd) e))
                  rw [q0] at q
                  have e2 : partsP k (.tuple xs) = 0 := by unfold partsP; rw [e]
                  rw [e2, if_pos (by rfl)]
                  walk_at "s"
                  exact q _ (Sub.ok (by walk_at "sub") hS)
                | some t =>
                  have e2 : partsP k (.tuple xs) = (t.parts : Int) := by unfold partsP; rw [e]
                  have hp := parts_pos t
                  rw [e2, if_neg (by rw [decide_eq_false (by omega)]; exact Bool.false_ne_true)]
                  walk_at "s"
                  have hsum : (1 + ((((ts ++ [t]).map Tst.parts).sum : Nat) : Int)) = 1 + ((ts.map Tst.parts).sum : Nat) + (t.parts : Nat) := by
                    rw [List.map_append, List.sum_append]
                    simp only [List.map_cons, List.map_nil, List.sum_cons, List.sum_nil, Nat.add_zero]
                    omega
                  exact ⟨_, ⟨rfl, ts ++ [t], _, _, by rw [htk]; exact mapM_app hts e, by rw [hsum]⟩, Sub.ok (by walk_at "sub") hS⟩
            · obtain ⟨rfl, ts, c5, c6, hts, rfl⟩ := iv
              rw [List.take_length] at hts
              rw [pP_some hw hl hts] at q
              walk_at "s"
              exact q _ (Sub.ok (by walk_at "sub") hS)
          · rw [if_pos (by rw [decide_eq_false (by omega)]; rfl)]
            rw [pP_none hw (.inl hl)] at q
            walk_at "s"
            exact q _ (Sub.ok (by walk_at "sub") hS)
end Lw
-- own part: a5
namespace Ls
open PySem PySem.Spec PyProof.Rows L2 LamX
/-- what _law_ask makes of what it is handed: what is let out and caught -/
def TAsk (K : PySem.W.Frag) (CV CS CM : Addr) : (XK → Hp → VK → Prop) → Hp → VK → Prop := fun tl H Q => ∀ (E' : XK) (Q' : VK),
  (∀ (C dd : Addr) (w : Str) (H' : Hp), PySem.W.exmOne K (.ref C) (.ref CV) = some false → PySem.W.exmOne K (.ref C) (.ref CS) = some true → XfC K C → PySem.W.findIn K (.ref C) "word" = some none → H' dd = some (.xd [("word", .str w)]) →
    (∀ p, H' p = none → Q (.ref p) (upd H' p (.lst [.str w, .non]))) → E' (.ref C) (some dd) H') →
  (∀ (C dd : Addr) (w : Str) (H' : Hp), PySem.W.exmOne K (.ref C) (.ref CV) = some false → PySem.W.exmOne K (.ref C) (.ref CS) = some false → PySem.W.exmOne K (.ref C) (.ref CM) = some true → XfC K C → PySem.W.findIn K (.ref C) "word" = some none → H' dd = some (.xd [("word", .str w)]) →
    (∀ p, H' p = none → Q (.ref p) (upd H' p (.lst [.str w, .non]))) → E' (.ref C) (some dd) H') →
  (∀ (C dd : Addr) (w : V) (i : Int) (H' : Hp), PySem.W.exmOne K (.ref C) (.ref CV) = some true → XfC K C → PySem.W.findIn K (.ref C) "at" = some none → i.natAbs < 10 ^ 100 → H' dd = some (.xd [("at", .int i), ("word", w)]) →
    (∀ p, H' p = none → Q (.ref p) (upd H' p (.lst [.str (("badvalue " : Str) ++ (toString i : String)), .non]))) → E' (.ref C) (some dd) H') →
  (∀ v H', (∀ p, H' p = none → Q (.ref p) (upd H' p (.lst [.str "", v]))) → Q' v H') → tl E' H Q'
theorem bv_len {i : Int} (h : i.natAbs < 10 ^ 100) : ("badvalue " : Str).length + (Str.ofString (toString i)).length ≤ sizeLine := by
  have := num_len (k := 100) (by decide) h
  have e : ("badvalue " : Str).length = 9 := by decide +kernel
  rw [e, sizeLine_eq]
  omega
end Ls
namespace Lw
open PySem PySem.Spec PyProof.Rows L2 Ls LamX
section
variable {P : Program} {w : World} {K : PySem.W.Frag} {mg : Str → Option Value} {base : Heap}
theorem ask_gives (E : Env K mg w) {X : Cx} (hK : X.K = K) (hmg : X.mg = mg) {g : Addr} {cdg : Value} {q : Str} :
    GivesZ X ["_law_ask_here", "_law_told", "_law_word_here", "e"] "_law_ask" (defScope s__law_ask) g cdg (defBody s__law_ask) "_law_ask_here" q (TAsk K E.C_BadValue E.C_ScribeError E.C_Missing) := by
  subst hK hmg
  intro f c' s H Q tl act hc h
  refine ⟨_, pss_cons (ps_set (i := 1) sc__law_ask.nd rfl (Or.inl rfl) pe_non) (pss_cons (ps_set (i := 2) sc__law_ask.nd rfl (Or.inl rfl) pe_str)
    (pss_cons (ps_try_cl (l := [(.ref E.C_BadValue, 3, fun a cls d => tAsg (tOp (rAddU X.K) (tC (.str "badvalue ")) (tCB (fun xs H Q => ∃ i : Int, xs = [.int i] ∧ i.natAbs.log2 < 1920 ∧ Q (.str (toString i)) H) (tCons (tXfA X.K a cls d "at" (tVar 3)) tNil))) (gName 2)), (.ref E.C_ScribeError, 3, fun a cls d => tAsg (tXfA X.K a cls d "word" (tVar 3)) (gName 2)), (.ref E.C_Missing, 3, fun a cls d => tAsg (tXfA X.K a cls d "word" (tVar 3)) (gName 2))])
      (tb := fun (W : WX) (D : Ends) (σ : L2.St) (H : Hp) => σ[0]? = some (some (V.ref f)) ∧ H c' = some (CodeO c' q) ∧ tl (fun cls d H' => W cls d σ H') H fun v H' => D.nx (σ.set 1 (some v)) H')
      rfl rfl sc__law_ask.nd LamX.takes0 (fun W pn xe tk _ => ⟨fun pins s' σ H' D I h' => (pss_one (ps_set (i := 1) sc__law_ask.nd rfl (Or.inl rfl) (act W pn xe _ _ tk))).run pins s' σ H' D I h'⟩)
      (.cons ⟨rfl, by decide, .inl E.g_BadValue⟩ rfl rfl (fun a oe cls d pn hz hf => pss_one (ps_set (i := 2) sc__law_ask.nd rfl (Or.inl rfl) (pe_op (op_addU X.K rfl) pe_str (pe_callTy call_str_int (by rfl) E.n_str boot_str (pa_cons (pe_xfA X.K rfl hz hf (pv 3)) pa_nil))))) (.cons ⟨rfl, by decide, .inl E.g_ScribeError⟩ rfl rfl (fun a oe cls d pn hz hf => pss_one (ps_set (i := 2) sc__law_ask.nd rfl (Or.inl rfl) (pe_xfA X.K rfl hz hf (pv 3))))
        (.cons ⟨rfl, by decide, .inl E.g_Missing⟩ rfl rfl (fun a oe cls d pn hz hf => pss_one (ps_set (i := 2) sc__law_ask.nd rfl (Or.inl rfl) (pe_xfA X.K rfl hz hf (pv 3)))) .nil))))
      (pss_one (ps_ret (pe_lst (pa_cons (pv 2) (pa_cons (pv 1) pa_nil))))))), ?_⟩
  refine k_body (s1 := [some (.ref f), none, none, none]) rfl ?_
  walk_at "w"
  refine ⟨rfl, hc, h _ _ (fun C dd w H' e1 e2 xf no hd q => ?_) (fun C dd w H' e1 e2 e3 xf no hd q => ?_) (fun C dd w i H' e1 xf no hi hd q => ?_) fun v H' q => ?_⟩
  · refine ⟨false, e1, (fun z => by cases z), fun _ => ⟨true, e2, fun _ a _ => ?_, fun z => by cases z⟩⟩
    refine k_body (s1 := [some (.ref f), some .non, some (.str ""), some (.ref a)]) rfl ?_
    refine ⟨C, xf, no, _, rfl, rfl, rfl, dd, [("word", .str w)], .str w, rfl, hd, by simp [List.lookup], ?_⟩
    dsimp only [gone]
    refine k_body (s1 := [some (.ref f), some .non, some (.str w), none]) rfl ?_
    walk_at "w"
    exact q
  · refine ⟨false, e1, (fun z => by cases z), fun _ => ⟨false, e2, (fun z => by cases z), fun _ => ⟨true, e3, fun _ a _ => ?_, fun z => by cases z⟩⟩⟩
    refine k_body (s1 := [some (.ref f), some .non, some (.str ""), some (.ref a)]) rfl ?_
    refine ⟨C, xf, no, _, rfl, rfl, rfl, dd, [("word", .str w)], .str w, rfl, hd, by simp [List.lookup], ?_⟩
    dsimp only [gone]
    refine k_body (s1 := [some (.ref f), some .non, some (.str w), none]) rfl ?_
    walk_at "w"
    exact q
  · refine ⟨true, e1, fun _ a _ => ?_, fun z => by cases z⟩
    refine k_body (s1 := [some (.ref f), some .non, some (.str ""), some (.ref a)]) rfl ?_
    walk_at "w"
    refine ⟨C, xf, no, _, rfl, rfl, rfl, dd, [("at", .int i), ("word", w)], .int i, rfl, hd, by simp [List.lookup], ?_⟩
    walk_at "w"
    refine ⟨i, rfl, log_lt hi, ?_⟩
    refine k_addS (bv_len hi) ?_
    walk_at "w"
    dsimp only [gone]
    refine k_body (s1 := [some (.ref f), some .non, some (.str (("badvalue " : Str) ++ (toString i : String))), none]) rfl ?_
    walk_at "w"
    exact q
  · refine k_body (s1 := [some (.ref f), some v, some (.str ""), none]) rfl ?_
    walk_at "w"
    exact q
theorem pe_askT (E : Env K mg w) {X : Cx} (hK : X.K = K) (hmg : X.mg = mg) {q : Str} (hq : X.env.qual = q) {T : List (Addr × Str)} {c Pt : Addr} {k : Nat} {params : Arguments} {body : Expr} {scope : Scope} {t : XK → TE} {p lpos pos : Pos} (TB : TabB X.base X.mg c Pt) (hcode : X.env.code = .ref c)
    (hmT : (Pt, q ++ ("<lambda>" : Str)) ∈ T) (hu : ∀ p ∈ T, p.1 = Pt → p.2 = q ++ ("<lambda>" : Str)) (hr : Room (k + 2) X.A) (L : LamS X.env.scope scope) (hdef : defaultsOf params X.env = ([], []))
    (bind0 : ∀ (q : Str) (cl : List (Str × Addr)) (pm cv ctv : Value), bindArgs (PySem.W.kla_fn "<lambda>" q params body scope cl pm cv ctv) ⟨[], []⟩ = pure [])
    (bodyP : ∀ (A : Around) (outer : List PySem.Env) (s : Shared) (H : Hp) (E : XK) (f c' : Addr), Room k (A.deeper (lamEnv X scope s.heap.objs.size f c')) → PE (lamCx X A outer s H E scope f c') body (t E)) (hg : Gl X "_law_ask" := by rfl) :
    PE X (.Call (.Name "_law_ask" p) [.Lambda params body scope lpos] [] pos) (tLam T (TAsk K E.C_BadValue E.C_ScribeError E.C_Missing) t) := by
  subst hK hmg hq
  obtain ⟨oc, od, dV, kV, doc, pm, an, cdv, ct, osl, e, lk, hcd, _, _⟩ := E.F__law_ask.ex
  have b := b__law_ask E
  rw [e] at lk b
  exact pe_lamZ hg E.g__law_ask E.F__law_ask.kp lk hcd b sc__law_ask rfl (.inl rfl) (ask_gives E rfl rfl) TB hcode hmT hu hr L hdef bind0 bodyP
end
end Lw
namespace Ls
open PySem PySem.Spec PyProof.Rows L2 LamX
section
variable {K : PySem.W.Frag} {L M : List (As K)} {H H' H1 : Hp} {σ : L2.St} {C CV CS CM : Addr} {w : Str} {E' : XK} {Q : VK}
/-- a refusal that is caught -/
theorem ask_lets (e1 : PySem.W.exmOne K (.ref C) (.ref CV) = some false) (e2 : PySem.W.exmOne K (.ref C) (.ref CS) = some true) (xf : XfC K C) (no : PySem.W.findIn K (.ref C) "word" = some none)
    (hE : ∀ (C dd : Addr) (w : Str) (H' : Hp), PySem.W.exmOne K (.ref C) (.ref CV) = some false → PySem.W.exmOne K (.ref C) (.ref CS) = some true → XfC K C → PySem.W.findIn K (.ref C) "word" = some none → H' dd = some (.xd [("word", .str w)]) →
    (∀ p, H' p = none → Q (.ref p) (upd H' p (.lst [.str w, .non]))) → E' (.ref C) (some dd) H')
    (q : ∀ p H', Ls.Sep (ob p (.lst [.str w, .non]) :: L) H' → Q (.ref p) H') : Lets L C w E' := fun d H' hS => hE C d w H' e1 e2 xf no (hS.obm List.mem_cons_self) fun p hp => q p _ (hS.tail.new hp rfl)
end
end Ls
-- own part: a6
namespace Ls
open PySem PySem.Spec PyProof.Rows L2 LamX
section
variable {K : PySem.W.Frag} {L M : List (As K)} {H H' H1 : Hp} {C CV CS CM : Addr} {w : Str} {i : Int} {Q : VK} {tl : XK → Hp → VK → Prop}
/-- an ask, all its ends told at once: P says what the call gives or lets out, with the word -/
theorem task_by (P : V → Str → Hp → Prop) (R : ∀ v w H', P v w H' → ∀ p, H' p = none → Q (.ref p) (upd H' p (.lst [.str w, v])))
    (h : ∀ (E' : XK) (Q' : VK), (∀ v H', P v "" H' → Q' v H') →
      (∀ C ww (L : List (As K)), PySem.W.exmOne K (.ref C) (.ref CV) = some false → PySem.W.exmOne K (.ref C) (.ref CS) = some true → XfC K C → PySem.W.findIn K (.ref C) "word" = some none → (∀ H', Ls.Sep L H' → P .non ww H') → Lets L C ww E') →
      (∀ C ww (L : List (As K)), PySem.W.exmOne K (.ref C) (.ref CV) = some false → PySem.W.exmOne K (.ref C) (.ref CS) = some false → PySem.W.exmOne K (.ref C) (.ref CM) = some true → XfC K C → PySem.W.findIn K (.ref C) "word" = some none → (∀ H', Ls.Sep L H' → P .non ww H') → Lets L C ww E') →
      (∀ C ww (i : Int) (L : List (As K)), PySem.W.exmOne K (.ref C) (.ref CV) = some true → XfC K C → PySem.W.findIn K (.ref C) "at" = some none → i.natAbs < 10 ^ 100 → (∀ d H', Ls.Sep (ob d (.xd [("at", .int i), ("word", .str ww)]) :: L) H' → P .non (("badvalue " : Str) ++ (toString i : String)) H') → LetsA L C "at" ww (.int i) E') → tl E' H Q') :
    TAsk K CV CS CM tl H Q := fun E' Q' hS hM hV hO => h E' Q' (fun v H' p => hO v H' (R _ _ _ p))
  (fun C ww L e1 e2 xf no p d H' s => hS C d ww H' e1 e2 xf no (s.obm List.mem_cons_self) (R _ _ _ (p _ s.tail)))
  (fun C ww L e1 e2 e3 xf no p d H' s => hM C d ww H' e1 e2 e3 xf no (s.obm List.mem_cons_self) (R _ _ _ (p _ s.tail)))
  (fun C ww i L e1 xf no hi p d H' s => hV C d (.str ww) i H' e1 xf no hi (s.obm List.mem_cons_self) (R _ _ _ (p _ _ s)))
end
end Ls
-- own part: ts4
namespace Ls
open PySem PySem.Spec PyProof.Rows L2
theorem gv_T {K : PySem.W.Frag} (t : Tst) {q : V → List (As K) → Prop} (h : ∀ a, q (.ref a) [im (.ref a) t.D]) : Gv (K := K) t.D q := by
  cases t <;> exact h
section
variable {K : PySem.W.Frag} {L : List (As K)} {a : Addr} {ts : List Tst}
theorem wk_imT (m : im (.ref a) (.tuple (ts.map Tst.D)) ∈ L) : Wk (Itt K a) L ts.length fun i q => ∀ t, ts[i]? = some t → ∀ b, q (.ref b) [im (.ref b) t.D] :=
  (wk_imm m).mono fun i q hi k t ht => gv_T t (k t ht)
theorem wk_ldT (m : Ls.ld a (ts.map Tst.D) ∈ L) : Wk (Itl K a) L ts.length fun i q => ∀ t, ts[i]? = some t → ∀ b, q (.ref b) [im (.ref b) t.D] :=
  (wk_ldm m).mono fun i q hi k t ht => gv_T t (k t ht)
end
theorem flat_part {α β : Type} {f : α → List β} {ts : List α} {i : Nat} {x : α} (h : ts[i]? = some x) : (((ts.take i).flatMap f) ++ f x).length ≤ (ts.flatMap f).length := by
  have e : ts = ts.take i ++ x :: ts.drop (i + 1) := by
    obtain ⟨hi, hx⟩ := List.getElem?_eq_some_iff.mp h
    rw [← hx, ← List.drop_eq_getElem_cons hi, List.take_append_drop]
  have e2 : (ts.flatMap f).length = (((ts.take i).flatMap f) ++ f x).length + ((ts.drop (i + 1)).flatMap f).length := by
    conv => lhs; rw [e]
    rw [List.flatMap_append, List.flatMap_cons, List.length_append, List.length_append, List.length_append]
    omega
  omega
theorem cut1D (x : PyData) (ds : List PyData) : Ls.cutD (x :: ds) (some 1) none = ds := by
  rw [cutD_from (by decide)]
  rfl
def spIsTest (K : PySem.W.Frag) : Sp := fun vs H Q _ => ∃ (a : Addr) (xs : List PyData) (N : Nat) (L : List (As K)), vs = [.ref a] ∧ Ls.Sep L H ∧ im (.ref a) (.tuple xs) ∈ L ∧ Raw N (.tuple xs) ∧ ∀ H', Ls.Sep L H' → Q (.bl (decide (IsT (.tuple xs)))) H'
def spLookT (K : PySem.W.Frag) : Sp := fun vs H Q _ => ∃ (a : Addr) (t : Tst) (L : List (As K)), vs = [.ref a] ∧ Ls.Sep L H ∧ im (.ref a) t.D ∈ L ∧ t.ok ∧ t.deep ≤ 5 ∧ t.parts ≤ 15 ∧ ∀ H', Ls.Sep L H' → Q .non H'
def spLookTX (K : PySem.W.Frag) (CB : Addr) : Sp := fun vs H Q E => ∃ (a : Addr) (xs : List PyData) (N : Nat) (L : List (As K)), vs = [.ref a] ∧ Ls.Sep L H ∧ im (.ref a) (.tuple xs) ∈ L ∧ Raw N (.tuple xs) ∧ (IsT (.tuple xs) → ∀ H', Ls.Sep L H' → Q .non H') ∧ (¬ IsT (.tuple xs) → Lets L CB "badtest" E)
def spLeavesIn (K : PySem.W.Frag) (n : Nat) : Sp := fun vs H Q _ => ∃ (a : Addr) (t : Tst) (L : List (As K)), vs = [.ref a] ∧ t.deep ≤ n + 1 ∧ n ≤ 10 ∧ Ls.Sep L H ∧ im (.ref a) t.D ∈ L ∧ ∀ p H', Ls.Sep (Ls.ld p (t.leaves.map Tst.D) :: L) H' → Q (.ref p) H'
end Ls
namespace Lw
open PySem PySem.Spec PyProof.Rows L2 Ls
theorem ok_is_test {P : Program} {w : World} {K : PySem.W.Frag} {mg : Str → Option Value} {base : Heap} (E : Env K mg w) : FnOk P w K mg base CX0 10 E.a_is_test E.fd_is_test ["test"] (spIsTest K) := by
  refine E.F_is_test.ok sc_is_test (fun vs H Q E h => ?_) (fun cdv A outer s H vs Q E' hr h => ?_)
  · walk_at "hl"
  · have hu := huOf hr
    have G_parts_of := ok_parts_of (P := P) (w := w) (base := base) E 6
    have hr_parts_of := hr.mono (show 9 ≤ 9 by decide)
    have b_parts_of := b_parts_of E
    have hcl_Tally := E.cl_Tally
    obtain ⟨a, xs, N, L, rfl, hS, hm, hr', q⟩ := h
    refine ⟨_, PSs.nox (pss_one (ps_ret (pe_chain op_le op_le pe_int (pe_call G_parts_of hr_parts_of rfl E.g_parts_of E.F_parts_of.kp b_parts_of .nil pass0 (pa_cons (pv 0) (pa_cons (pe_gc rfl E.c_DEEPEST) pa_nil))) (pe_gc rfl E.c_MOST_PARTS)))), ?_⟩
    refine k_body (s1 := some _ :: []) rfl ?_
    walk_at "s"
    refine ⟨a, 5, xs, N, _, rfl, by decide, hS, hm, hr', fun H hS => ?_⟩
    walk_at "s"
    by_cases h1 : 1 ≤ partsP 5 (.tuple xs)
    · walk_at "s"
      rw [show decide (partsP 5 (.tuple xs) ≤ 15) = decide (IsT (.tuple xs)) from decide_eq_decide.mpr ⟨fun h => ⟨h1, h⟩, fun h => h.2⟩]
      exact q _ hS
    · rw [decide_eq_false fun h => h1 h.1] at q
      walk_at "s"
      exact q _ hS
theorem ok_look_test {P : Program} {w : World} {K : PySem.W.Frag} {mg : Str → Option Value} {base : Heap} (E : Env K mg w) : FnOk P w K mg base CX0 11 E.a_look_test E.fd_look_test ["test"] (spLookT K) := by
  refine E.F_look_test.ok sc_look_test (fun vs H Q E h => ?_) (fun cdv A outer s H vs Q E' hr h => ?_)
  · walk_at "hl"
  · have hu := huOf hr
    have G_is_test := ok_is_test (P := P) (w := w) (base := base) E
    have hr_is_test := hr.mono (show 10 ≤ 10 by decide)
    have b_is_test := b_is_test E
    have hcl_Tally := E.cl_Tally
    obtain ⟨a, t, L, rfl, hS, hm, ho, hd, hp, q⟩ := h
    refine ⟨_, PSs.nox (pss_one (ps_if (pt_not (pt_val (pe_call G_is_test hr_is_test rfl E.g_is_test E.F_is_test.kp b_is_test .nil pass0 (pa_cons (pv 0) pa_nil)))) (pss_one ps_never) pss_nil)), ?_⟩
    refine k_body (s1 := some _ :: []) rfl ?_
    obtain ⟨xs, ex⟩ := t.D_tup
    have hi := isT_of ho hd hp
    have hraw := ok_raw ho hd
    rw [ex] at hm hi hraw
    walk_at "s"
    refine ⟨a, xs, 5, _, rfl, hS, hm, hraw, fun H hS => ?_⟩
    rw [decide_eq_true hi]
    walk_at "s"
    exact q _ hS
theorem okI_ScribeError {P : Program} {w : World} {K : PySem.W.Frag} {mg : Str → Option Value} {base : Heap} (E : Env K mg w) : FnOk P w K mg base CX0 1 E.fi_ScribeError E.fdi_ScribeError ["self", "word"] (spInit1 K) := by
  refine E.FI_ScribeError.ok sc_ScribeError___init__ (fun vs H Q E h => ?_) (fun cdv A outer s H vs Q E' hr h => ?_)
  · obtain ⟨a, C, w, rfl, _⟩ := h
    rfl
  · obtain ⟨a, C, w, rfl, T, no, ha, q⟩ := h
    refine ⟨_, PSs.nox (pss_cons (ps_expr (pe_veinit rfl E.n_ValueError E.vei (pa_cons (pv 0) (pa_cons (pv 1) pa_nil))))
(pss_one (ps_ost (pv 0) (pv 1)))), ?_⟩
    refine k_body (s1 := [some (.ref a), some (.str w)]) rfl ?_
    walk_at "w"
    refine ⟨a, C, [.str w], rfl, by show 1 ≤ 1000; omega, T, ha, ?_⟩
    walk_at "w"
    exact ⟨a, C, rfl, T, no, .inl ⟨ha, fun dx h1 h2 => q dx h1 h2⟩⟩
theorem okI_BadTest {P : Program} {w : World} {K : PySem.W.Frag} {mg : Str → Option Value} {base : Heap} (E : Env K mg w) : FnOk P w K mg base CX0 2 E.fi_BadTest E.fdi_BadTest ["self"] (spInit0 K "badtest") := by
  refine E.FI_BadTest.ok sc_BadTest___init__ (fun vs H Q E h => ?_) (fun cdv A outer s H vs Q E' hr h => ?_)
  · obtain ⟨a, C, rfl, _⟩ := h
    rfl
  · obtain ⟨a, C, rfl, T, no, ha, q⟩ := h
    have GI_ScribeError := okI_ScribeError (P := P) (w := w) (base := base) E
    have hrI_ScribeError := hr.mono (show 1 ≤ 1 by decide)
    have bI_ScribeError := bI_ScribeError E
    refine ⟨_, PSs.nox (pss_one (ps_expr (pe_cfn (pe_glob (v := .ref E.C_ScribeError) rfl E.g_ScribeError rfl) E.r_ScribeError E.v_ScribeError E.FI_ScribeError.kp GI_ScribeError hrI_ScribeError bI_ScribeError pass0 (pa_cons (pv 0) (pa_cons pe_str pa_nil))))), ?_⟩
    refine k_body (s1 := [some (.ref a)]) rfl ?_
    walk_at "w"
    refine ⟨rfl, ?_⟩
    walk_at "w"
    exact ⟨a, C, _, rfl, T, no, ha, q⟩
theorem okI_BadKeys {P : Program} {w : World} {K : PySem.W.Frag} {mg : Str → Option Value} {base : Heap} (E : Env K mg w) : FnOk P w K mg base CX0 2 E.fi_BadKeys E.fdi_BadKeys ["self"] (spInit0 K "badkeys") := by
  refine E.FI_BadKeys.ok sc_BadKeys___init__ (fun vs H Q E h => ?_) (fun cdv A outer s H vs Q E' hr h => ?_)
  · obtain ⟨a, C, rfl, _⟩ := h
    rfl
  · obtain ⟨a, C, rfl, T, no, ha, q⟩ := h
    have GI_ScribeError := okI_ScribeError (P := P) (w := w) (base := base) E
    have hrI_ScribeError := hr.mono (show 1 ≤ 1 by decide)
    have bI_ScribeError := bI_ScribeError E
    refine ⟨_, PSs.nox (pss_one (ps_expr (pe_cfn (pe_glob (v := .ref E.C_ScribeError) rfl E.g_ScribeError rfl) E.r_ScribeError E.v_ScribeError E.FI_ScribeError.kp GI_ScribeError hrI_ScribeError bI_ScribeError pass0 (pa_cons (pv 0) (pa_cons pe_str pa_nil))))), ?_⟩
    refine k_body (s1 := [some (.ref a)]) rfl ?_
    walk_at "w"
    refine ⟨rfl, ?_⟩
    walk_at "w"
    exact ⟨a, C, _, rfl, T, no, ha, q⟩
theorem okI_BadSize {P : Program} {w : World} {K : PySem.W.Frag} {mg : Str → Option Value} {base : Heap} (E : Env K mg w) : FnOk P w K mg base CX0 2 E.fi_BadSize E.fdi_BadSize ["self"] (spInit0 K "badsize") := by
  refine E.FI_BadSize.ok sc_BadSize___init__ (fun vs H Q E h => ?_) (fun cdv A outer s H vs Q E' hr h => ?_)
  · obtain ⟨a, C, rfl, _⟩ := h
    rfl
  · obtain ⟨a, C, rfl, T, no, ha, q⟩ := h
    have GI_ScribeError := okI_ScribeError (P := P) (w := w) (base := base) E
    have hrI_ScribeError := hr.mono (show 1 ≤ 1 by decide)
    have bI_ScribeError := bI_ScribeError E
    refine ⟨_, PSs.nox (pss_one (ps_expr (pe_cfn (pe_glob (v := .ref E.C_ScribeError) rfl E.g_ScribeError rfl) E.r_ScribeError E.v_ScribeError E.FI_ScribeError.kp GI_ScribeError hrI_ScribeError bI_ScribeError pass0 (pa_cons (pv 0) (pa_cons pe_str pa_nil))))), ?_⟩
    refine k_body (s1 := [some (.ref a)]) rfl ?_
    walk_at "w"
    refine ⟨rfl, ?_⟩
    walk_at "w"
    exact ⟨a, C, _, rfl, T, no, ha, q⟩
theorem okX_look_test {P : Program} {w : World} {K : PySem.W.Frag} {mg : Str → Option Value} {base : Heap} (E : Env K mg w) : FnOk P w K mg base (L2.CX P w) 14 E.a_look_test E.fd_look_test ["test"] (spLookTX K E.C_BadTest) := by
  refine E.F_look_test.ok sc_look_test (fun vs H Q E h => ?_) (fun cdv A outer s H vs Q E' hr h => ?_)
  · walk_at "hl"
  · have hu := huOf hr
    have G_is_test := ok_is_test (P := P) (w := w) (base := base) E
    have hr_is_test := hr.mono (show 10 ≤ 13 by decide)
    have b_is_test := b_is_test E
    have GI_BadTest := okI_BadTest (P := P) (w := w) (base := base) E
    have hrI_BadTest := hr.mono (show 3 ≤ 13 by decide)
    have bI_BadTest := bI_BadTest E
    have hcl_Tally := E.cl_Tally
    obtain ⟨a, xs, N, L, rfl, hS, hm, hr', q1, q2⟩ := h
    refine ⟨_, (pss_one (ps_if (pt_not (pt_val (pe_call G_is_test hr_is_test rfl E.g_is_test E.F_is_test.kp b_is_test .nil pass0 (pa_cons (pv 0) pa_nil)))) (pss_one (ps_raise rfl (takes_of rfl rfl rfl rfl) (pmk_oex0 E.o_BadTest E.i_BadTest E.t_BadTest GI_BadTest hrI_BadTest bI_BadTest .nil pass0 rfl E.g_BadTest))) pss_nil)), ?_⟩
    refine k_body (s1 := some _ :: []) rfl ?_
    walk_at "s"
    refine ⟨a, xs, N, _, rfl, hS, hm, hr', fun H hS => ?_⟩
    by_cases hi : IsT (.tuple xs)
    · rw [decide_eq_true hi]
      walk_at "s"
      exact q1 hi _ hS
    · rw [decide_eq_false hi]
      walk_at "s"
      exact raise_lets E.o_BadTest E.w_BadTest hS ((q2 hi).sub (by walk_at "sub"))
end Lw
-- own part: ts7
namespace Ls
open PySem PySem.Spec PyProof.Rows L2 TL
def spLParts (K : PySem.W.Frag) (n : Nat) : Sp := fun vs H Q _ => ∃ (a : Addr) (t : Tst) (L : List (As K)), vs = [.ref a] ∧ t.deep ≤ n + 1 ∧ Ls.Sep L H ∧ im (.ref a) t.D ∈ L ∧ ∀ H', Ls.Sep L H' → Q (.int t.parts) H'
def spLDeep (K : PySem.W.Frag) (n : Nat) : Sp := fun vs H Q _ => ∃ (a : Addr) (t : Tst) (L : List (As K)), vs = [.ref a] ∧ t.deep ≤ n + 1 ∧ Ls.Sep L H ∧ im (.ref a) t.D ∈ L ∧ ∀ H', Ls.Sep L H' → Q (.int t.deep) H'
def spLShape (K : PySem.W.Frag) (n : Nat) : Sp := fun vs H Q _ => ∃ (v : V) (d : PyData) (L : List (As K)), vs = [v] ∧ Ls.Sep L H ∧ im v d ∈ L ∧ Raw n d ∧ ∀ H', Ls.Sep L H' → Q (.bl (dec n d).isSome) H'
def spLLeaves (K : PySem.W.Frag) (n : Nat) : Sp := fun vs H Q _ => ∃ (a : Addr) (t : Tst) (L : List (As K)), vs = [.ref a] ∧ t.deep ≤ n + 1 ∧ n ≤ 10 ∧ Ls.Sep L H ∧ im (.ref a) t.D ∈ L ∧ ∀ p H', Ls.Sep (Ls.ld p (t.leaves.map Tst.D) :: L) H' → Q (.ref p) H'
theorem word3 (z : Str) : decide (z ∈ [("not" : Str), "and", "or"]) = (wordK z).isSome := by
  unfold wordK
  by_cases h1 : z = ("not" : Str)
  · rw [if_pos h1, decide_eq_true (by rw [h1]; exact List.mem_cons_self)]
    rfl
  · rw [if_neg h1]
    by_cases h2 : z = ("and" : Str)
    · rw [if_pos h2, decide_eq_true (by rw [h2]; exact List.mem_cons_of_mem _ List.mem_cons_self)]
      rfl
    · rw [if_neg h2]
      by_cases h3 : z = ("or" : Str)
      · rw [if_pos h3, decide_eq_true (by rw [h3]; exact List.mem_cons_of_mem _ (List.mem_cons_of_mem _ List.mem_cons_self))]
        rfl
      · rw [if_neg h3, decide_eq_false fun m => by
          simp only [List.mem_cons, List.not_mem_nil, or_false] at m
          rcases m with m | m | m
          · exact h1 m
          · exact h2 m
          · exact h3 m]
        rfl
theorem parts_cast : ∀ ts : List Tst, (ts.map fun t => (t.parts : Int)).sum = (((ts.map Tst.parts).sum : Nat) : Int)
  | [] => rfl
  | t :: ts => by
    have := parts_cast ts
    simp only [List.map_cons, List.sum_cons, this]
    omega
theorem fmax {i : Nat} : ∀ (ds : List Nat) (a : Nat), (a = i ∨ i ∈ ds) → a ≤ i → (∀ k ∈ ds, k ≤ i) → ds.foldl max a = i
  | [], a, h, _, _ => by
    rcases h with h | h
    · exact h
    · cases h
  | d :: ds, a, h, ha, hk => by
    rw [List.foldl_cons]
    have hd := hk d List.mem_cons_self
    refine fmax ds (max a d) ?_ (by omega) fun k hm => hk k (List.mem_cons_of_mem _ hm)
    rcases h with h | h
    · exact .inl (by omega)
    · rcases List.mem_cons.mp h with h | h
      · exact .inl (by omega)
      · exact .inr h
theorem word2 (z : Str) : decide (z ∈ [("and" : Str), "or"]) = decide (wordK z = some 2) := by
  have e7 : ("not" : Str) ≠ "and" := by decide +kernel
  have e8 : ("not" : Str) ≠ "or" := by decide +kernel
  unfold wordK
  refine decide_eq_decide.mpr ⟨fun m => ?_, fun m => ?_⟩
  · simp only [List.mem_cons, List.not_mem_nil, or_false] at m
    rcases m with m | m
    · rw [if_neg fun h => e7 (h.symm.trans m), if_pos m]
    · rw [if_neg fun h => e8 (h.symm.trans m)]
      by_cases h2 : z = ("and" : Str)
      · rw [if_pos h2]
      · rw [if_neg h2, if_pos m]
  · split at m
    · cases m
    · split at m
      · rename_i h
        rw [h]
        exact List.mem_cons_self
      · split at m
        · rename_i h
          rw [h]
          exact List.mem_cons_of_mem _ List.mem_cons_self
        · cases m
theorem word1 (z : Str) : decide (z = ("not" : Str)) = decide (wordK z = some 1) := by
  unfold wordK
  refine decide_eq_decide.mpr ⟨fun m => by rw [if_pos m], fun m => ?_⟩
  split at m
  · rename_i h
    exact h
  · split at m
    · cases m
    · split at m <;> cases m
def two2 (n : Nat) (r : List PyData) : Bool := match r with
  | [x, y] => (dec n x).isSome && (dec n y).isSome
  | _ => false
def one1 (n : Nat) (r : List PyData) : Bool := match r with
  | [x] => (dec n x).isSome
  | _ => false
theorem dec_w2 {n : Nat} {z : Str} {r : List PyData} (hw : wordK z = some 2) : (dec (n + 1) (.tuple (.str z :: r))).isSome = two2 n r := by
  rw [dec_tup, hw]
  unfold two2
  show ((r.mapM (dec n)).bind (mkT z)).isSome = _
  split
  · rename_i x y
    rw [List.mapM_cons, List.mapM_cons]
    cases e1 : dec n x with
    | none => rfl
    | some t1 =>
      cases e2 : dec n y with
      | none => rfl
      | some t2 =>
        obtain ⟨t, ht⟩ := mkT_some (z := z) (ts := [t1, t2]) hw
        show (mkT z [t1, t2]).isSome = true
        rw [ht]
        rfl
  · rename_i hno
    cases e : r.mapM (dec n) with
    | none => rfl
    | some ts =>
      have hl := mapM_len e
      show (mkT z ts).isSome = false
      rw [mkT_none (fun y => by
        rw [hw] at y
        have y := Option.some.inj y
        match r, hl.symm.trans y.symm with
        | [x, y], _ => exact hno x y rfl)]
      rfl
theorem dec_w1 {n : Nat} {z : Str} {r : List PyData} (hw : wordK z = some 1) : (dec (n + 1) (.tuple (.str z :: r))).isSome = one1 n r := by
  rw [dec_tup, hw]
  unfold one1
  show ((r.mapM (dec n)).bind (mkT z)).isSome = _
  split
  · rename_i x
    rw [List.mapM_cons]
    cases e1 : dec n x with
    | none => rfl
    | some t1 =>
      obtain ⟨t, ht⟩ := mkT_some (z := z) (ts := [t1]) hw
      show (mkT z [t1]).isSome = true
      rw [ht]
      rfl
  · rename_i hno
    cases e : r.mapM (dec n) with
    | none => rfl
    | some ts =>
      have hl := mapM_len e
      show (mkT z ts).isSome = false
      rw [mkT_none (fun y => by
        rw [hw] at y
        have y := Option.some.inj y
        match r, hl.symm.trans y.symm with
        | [x], _ => exact hno x rfl)]
      rfl
def spLLeafOk (K : PySem.W.Frag) : Sp := fun vs H Q _ => ∃ (a : Addr) (z : Str) (r : List PyData) (N : Nat) (L : List (As K)), vs = [.ref a] ∧ Ls.Sep L H ∧ im (.ref a) (.tuple (.str z :: r)) ∈ L ∧ Raw N (.tuple (.str z :: r)) ∧ wordK z = none ∧ ∀ H', Ls.Sep L H' → Q (.bl (Ls.leafOf z r).isSome) H'
end Ls
namespace Lw
open PySem PySem.Spec PyProof.Rows L2 Ls
theorem ok__law_parts {P : Program} {w : World} {K : PySem.W.Frag} {mg : Str → Option Value} {base : Heap} (E : Env K mg w) : ∀ n : Nat, FnOk P w K mg base CX0 (1 + n) E.a__law_parts E.fd__law_parts ["_law_test_here"] (recSp (spLParts K) n) := by
  intro n
  induction n with
  | zero => exact E.F__law_parts.ok sc__law_parts (fun vs H Q E h => h.elim) (fun cdv A outer s H vs Q E' hr h => h.elim)
  | succ n ih =>
  replace ih : FnOk P w K mg base CX0 (1 + n) E.a__law_parts E.fd__law_parts ["_law_test_here"] (recSp (spLParts K) n) := ih
  show FnOk P w K mg base CX0 (1 + n + 1) E.a__law_parts E.fd__law_parts ["_law_test_here"] ((spLParts K) n)
  refine E.F__law_parts.ok sc__law_parts (fun vs H Q E h => ?_) (fun cdv A outer s H vs Q E' hr h => ?_)
  · walk_at "hl"
  · have hu := huOf hr
    have G__law_parts := ih
    have hr__law_parts := hr
    have b__law_parts := b__law_parts E
    have hcl_Tally := E.cl_Tally
    obtain ⟨a, t, L, rfl, hd, hS, hm, q⟩ := h
    refine ⟨_, PSs.nox (pss_cons (ps_if (pt_cmpR (op_notinU K rfl hu) (pe_ix (ix_U K rfl) (pv 0) pe_int (fun _ _ => rfl)) (pe_tup (pa_cons pe_str (pa_cons pe_str (pa_cons pe_str pa_nil)))) (by with_unfolding_all rfl)) (pss_one (ps_ret pe_int)) pss_nil)
(pss_one (ps_ret (pe_op (op_addU K rfl) pe_int (pe_callB (cr_sumU K rfl rfl) (by rfl) E.n_sum boot_sum (pa_cons (pe_lc (own := [("_law_part", 1)]) rfl sc__law_parts.nd (pi_seqU K rfl (pe_slice (sl_U K rfl) (pv 0) (po_some pe_int) po_none)) (blkOk_by (N := ["_law_test_here", "_law_part"]) (sc := defScope s__law_parts) (by decide +kernel)) (fun _ _ _ _ _ => (pg_name (i := 1) sc__law_parts.nd rfl (Or.inl rfl))) (fun _ _ _ _ _ => pts_nil) (fun _ _ _ _ _ => (pe_call G__law_parts hr__law_parts rfl E.g__law_parts E.F__law_parts.kp b__law_parts .nil pass0 (pa_cons (pv 1) pa_nil)))) pa_nil)))))), ?_⟩
    refine k_body (s1 := some _ :: [none]) rfl ?_
    rcases t.view with ⟨z, r, ed, hw, el, hp1, _⟩ | ⟨z, ts, ed, hw, el, hpp, _, _, hlt, _⟩
    · rw [hp1] at q
      rw [ed] at hm
      walk_at "s"
      rw [word3, hw]
      walk_at "s"
      exact q _ (Sub.ok (by walk_at "sub") hS)
    · rw [ed] at hm
      have hl2 := wordK_le hw
      walk_at "s"
      rw [word3, hw, if_neg (by exact Bool.false_ne_true)]
      walk_at "s"
      rename_i ps _
      rw [cut1D] at hS
      refine lc_flat (zs := ts) (fun t => [PyData.int t.parts]) hS (fun acc => wk_imT (by walk_at "mem")) (fun j x acc hx hk _ la b => ?_) (fun H hS => ?_)
      · clear hS
        intro H hS
        have hxt := hlt x (List.mem_of_getElem? hx)
        have hj := (List.getElem?_eq_some_iff.mp hx).1
        obtain ⟨n', rfl⟩ : ∃ n', n = n' + 1 := ⟨n - 1, by have := deep_pos x; omega⟩
        walk_at "ls"
        refine ⟨b, x, _, rfl, by omega, hS, by walk_at "mem", fun H hS => ?_⟩
        exact lc_keep hS (d := .int x.parts) (.int _) (by walk_at "sub") (by rw [sizeLine_eq]; omega) (hk _ rfl)
      rw [flat_map (fun t : Tst => PyData.int t.parts)] at hS
      walk_at "s"
      refine k_sumS (zs := ts) (f := fun t => (t.parts : Int)) hS (by walk_at "mem") ?_
      walk_at "s"
      have e : (1 : Int) + (ts.map fun t => (t.parts : Int)).sum = t.parts := by
        rw [hpp]
        have := parts_cast ts
        omega
      rw [e]
      exact q _ (Sub.ok (by walk_at "sub") hS)
theorem ok__law_deep {P : Program} {w : World} {K : PySem.W.Frag} {mg : Str → Option Value} {base : Heap} (E : Env K mg w) : ∀ n : Nat, FnOk P w K mg base CX0 (1 + n) E.a__law_deep E.fd__law_deep ["_law_test_here"] (recSp (spLDeep K) n) := by
  intro n
  induction n with
  | zero => exact E.F__law_deep.ok sc__law_deep (fun vs H Q E h => h.elim) (fun cdv A outer s H vs Q E' hr h => h.elim)
  | succ n ih =>
  replace ih : FnOk P w K mg base CX0 (1 + n) E.a__law_deep E.fd__law_deep ["_law_test_here"] (recSp (spLDeep K) n) := ih
  show FnOk P w K mg base CX0 (1 + n + 1) E.a__law_deep E.fd__law_deep ["_law_test_here"] ((spLDeep K) n)
  refine E.F__law_deep.ok sc__law_deep (fun vs H Q E h => ?_) (fun cdv A outer s H vs Q E' hr h => ?_)
  · walk_at "hl"
  · have hu := huOf hr
    have G__law_deep := ih
    have hr__law_deep := hr
    have b__law_deep := b__law_deep E
    have hcl_Tally := E.cl_Tally
    obtain ⟨a, t, L, rfl, hd, hS, hm, q⟩ := h
    refine ⟨_, PSs.nox (pss_cons (ps_if (pt_cmpR (op_notinU K rfl hu) (pe_ix (ix_U K rfl) (pv 0) pe_int (fun _ _ => rfl)) (pe_tup (pa_cons pe_str (pa_cons pe_str (pa_cons pe_str pa_nil)))) (by with_unfolding_all rfl)) (pss_one (ps_ret pe_int)) pss_nil)
(pss_one (ps_ret (pe_op (op_addU K rfl) pe_int (pe_callB (call_maxU K rfl rfl) (by rfl) E.n_max boot_max (pa_cons (pe_lc (own := [("_law_part", 1)]) rfl sc__law_deep.nd (pi_seqU K rfl (pe_slice (sl_U K rfl) (pv 0) (po_some pe_int) po_none)) (blkOk_by (N := ["_law_test_here", "_law_part"]) (sc := defScope s__law_deep) (by decide +kernel)) (fun _ _ _ _ _ => (pg_name (i := 1) sc__law_deep.nd rfl (Or.inl rfl))) (fun _ _ _ _ _ => pts_nil) (fun _ _ _ _ _ => (pe_call G__law_deep hr__law_deep rfl E.g__law_deep E.F__law_deep.kp b__law_deep .nil pass0 (pa_cons (pv 1) pa_nil)))) pa_nil)))))), ?_⟩
    refine k_body (s1 := some _ :: [none]) rfl ?_
    rcases t.view with ⟨z, r, ed, hw, el, hp1, hd1, _⟩ | ⟨z, ts, ed, hw, el, hpp, hdd, _, hlt, _⟩
    · rw [hd1] at q
      rw [ed] at hm
      walk_at "s"
      rw [word3, hw]
      walk_at "s"
      exact q _ (Sub.ok (by walk_at "sub") hS)
    · rw [ed] at hm
      have hl2 := wordK_le hw
      walk_at "s"
      rw [word3, hw, if_neg (by exact Bool.false_ne_true)]
      walk_at "s"
      rename_i ps _
      rw [cut1D] at hS
      refine lc_flat (zs := ts) (fun t => [PyData.int t.deep]) hS (fun acc => wk_imT (by walk_at "mem")) (fun j x acc hx hk _ la b => ?_) (fun H hS => ?_)
      · clear hS
        intro H hS
        have hxt := hlt x (List.mem_of_getElem? hx)
        have hj := (List.getElem?_eq_some_iff.mp hx).1
        obtain ⟨n', rfl⟩ : ∃ n', n = n' + 1 := ⟨n - 1, by have := deep_pos x; omega⟩
        walk_at "ls"
        refine ⟨b, x, _, rfl, by omega, hS, by walk_at "mem", fun H hS => ?_⟩
        exact lc_keep hS (d := .int x.deep) (.int _) (by walk_at "sub") (by rw [sizeLine_eq]; omega) (hk _ rfl)
      rw [flat_map (fun t : Tst => PyData.int t.deep), show (ts.map fun t : Tst => PyData.int t.deep) = (ts.map fun t => (t.deep : Int)).map PyData.int by rw [List.map_map]; rfl] at hS
      walk_at "s"
      refine k_maxI (ns := ts.map fun t => (t.deep : Int)) hS (by walk_at "mem") (by intro e; have := congrArg List.length e; rw [List.length_map] at this; exact absurd this (by show ts.length ≠ 0; omega)) fun i hi hk => ?_
      walk_at "s"
      obtain ⟨x, hx, rfl⟩ := List.mem_map.mp hi
      have e : (1 : Int) + x.deep = t.deep := by
        have := fmax (i := x.deep) (ts.map Tst.deep) 0 (.inr (List.mem_map_of_mem hx)) (Nat.zero_le _) fun k hm => by
          obtain ⟨y, hy, rfl⟩ := List.mem_map.mp hm
          have := hk y.deep (List.mem_map_of_mem (f := fun t : Tst => (t.deep : Int)) hy)
          omega
        omega
      rw [e]
      exact q _ (Sub.ok (by walk_at "sub") hS)
end Lw
-- own part: ts8
namespace Ls
open PySem PySem.Spec PyProof.Rows L2 TL
def GTst (d : PyData) : Prop := ∃ t : Tst, t.D = d ∧ t.ok ∧ t.deep ≤ 5 ∧ t.parts ≤ 15
theorem isT_good {d : PyData} : IsT d ↔ GTst d := ⟨isT_is, fun ⟨t, e, h1, h2, h3⟩ => e ▸ isT_of h1 h2 h3⟩
def spLTestOk (K : PySem.W.Frag) : Sp := fun vs H Q _ => ∃ (a : Addr) (xs : List PyData) (n : Nat) (L : List (As K)), vs = [.ref a] ∧ n ≤ 8 ∧ Ls.Sep L H ∧ im (.ref a) (.tuple xs) ∈ L ∧ Raw n (.tuple xs) ∧ ∀ H', Ls.Sep L H' → Q (.bl (decide (IsT (.tuple xs)))) H'
end Ls
namespace Lw
open PySem PySem.Spec PyProof.Rows L2 Ls
theorem ok__law_leaf_ok {P : Program} {w : World} {K : PySem.W.Frag} {mg : Str → Option Value} {base : Heap} (E : Env K mg w) : FnOk P w K mg base CX0 2 E.a__law_leaf_ok E.fd__law_leaf_ok ["_law_test_here"] (spLLeafOk K) := by
  refine E.F__law_leaf_ok.ok sc__law_leaf_ok (fun vs H Q E h => ?_) (fun cdv A outer s H vs Q E' hr h => ?_)
  · walk_at "hl"
  · have hu := huOf hr
    have G__law_is_name := ok__law_is_name (P := P) (w := w) (base := base) E
    have hr__law_is_name := hr.mono (show 1 ≤ 1 by decide)
    have b__law_is_name := b__law_is_name E
    have hcl_Tally := E.cl_Tally
    obtain ⟨a, z, r, N, L, rfl, hS, hm, hr', hw, q⟩ := h
    refine ⟨_, PSs.nox (pss_cons (ps_if (pt_cmpR (op_eqU K rfl hu) (pe_ix (ix_U K rfl) (pv 0) pe_int (fun _ _ => rfl)) pe_str (nomark _)) (pss_one (ps_ret (pe_cmpR (op_eqU K rfl hu) (pe_callB (call_lenU K rfl) (by rfl) E.n_len boot_len (pa_cons (pv 0) pa_nil)) pe_int (nomark _)))) pss_nil)
(pss_cons (ps_if (pt_cmpR (op_eqU K rfl hu) (pe_ix (ix_U K rfl) (pv 0) pe_int (fun _ _ => rfl)) pe_str (nomark _)) (pss_one (ps_ret (pe_and (pe_cmpR (op_eqU K rfl hu) (pe_callB (call_lenU K rfl) (by rfl) E.n_len boot_len (pa_cons (pv 0) pa_nil)) pe_int (nomark _)) (pe_and (pe_callB (call_isiU K rfl) (by rfl) E.n_isinstance boot_isinstance (pa_cons (pe_ix (ix_U K rfl) (pv 0) pe_int (fun _ _ => rfl)) (pa_cons (pe_ty "str" rfl E.n_str (by decide +kernel)) pa_nil))) (pe_one (pe_call G__law_is_name hr__law_is_name rfl E.g__law_is_name E.F__law_is_name.kp b__law_is_name .nil pass0 (pa_cons (pe_ix (ix_U K rfl) (pv 0) pe_int (fun _ _ => rfl)) pa_nil))))))) pss_nil)
(pss_cons (ps_if (PW.pt (pw_or (pt_cmpR (op_notinU K rfl hu) (pe_ix (ix_U K rfl) (pv 0) pe_int (fun _ _ => rfl)) (pe_tup (pa_cons pe_str (pa_cons pe_str pa_nil))) (by with_unfolding_all rfl)) (pw_or1 (pt_cmpR (op_neU K rfl hu) (pe_callB (call_lenU K rfl) (by rfl) E.n_len boot_len (pa_cons (pv 0) pa_nil)) pe_int (nomark _))))) (pss_one (ps_ret pe_bl)) pss_nil)
(pss_cons (ps_if (PW.pt (pw_or (pt_not (pt_val (pe_callB (call_isiU K rfl) (by rfl) E.n_isinstance boot_isinstance (pa_cons (pe_ix (ix_U K rfl) (pv 0) pe_int (fun _ _ => rfl)) (pa_cons (pe_ty "str" rfl E.n_str (by decide +kernel)) pa_nil))))) (pw_or1 (pt_not (pt_val (pe_call G__law_is_name hr__law_is_name rfl E.g__law_is_name E.F__law_is_name.kp b__law_is_name .nil pass0 (pa_cons (pe_ix (ix_U K rfl) (pv 0) pe_int (fun _ _ => rfl)) pa_nil))))))) (pss_one (ps_ret pe_bl)) pss_nil)
(pss_one (ps_ret (pe_and (pe_callB (call_isiU K rfl) (by rfl) E.n_isinstance boot_isinstance (pa_cons (pe_ix (ix_U K rfl) (pv 0) pe_int (fun _ _ => rfl)) (pa_cons (pe_ty "int" rfl E.n_int (by decide +kernel)) pa_nil))) (pe_one (pe_chain op_le op_le (pe_un un_neg pe_int) (pe_ix (ix_U K rfl) (pv 0) pe_int (fun _ _ => rfl)) pe_int))))))))), ?_⟩
    refine k_body (s1 := some _ :: []) rfl ?_
    walk_at "s"
    by_cases e1 : z = ("all" : Str)
    · rw [if_pos (decide_eq_true e1)]
      walk_at "s"
      have e : decide (((PyData.str z :: r).length : Int) = 1) = (Ls.leafOf z r).isSome := by
        unfold Ls.leafOf
        rw [if_pos e1]
        cases r with
        | nil => rfl
        | cons x r => exact decide_eq_false (by simp; omega)
      rw [e]
      exact q _ hS
    · rw [if_neg (by rw [decide_eq_false e1]; exact Bool.false_ne_true)]
      walk_at "s"
      by_cases e2 : z = ("is" : Str)
      · rw [if_pos (decide_eq_true e2)]
        walk_at "s"
        by_cases hl : ∃ x, r = [x]
        · obtain ⟨x, rfl⟩ := hl
          rw [if_pos (by rfl)]
          obtain ⟨m, rfl⟩ : ∃ m, N = m + 1 := by cases N with | zero => exact hr'.elim | succ m => exact ⟨m, rfl⟩
          have hx := hr'.2.2 x (List.mem_cons_of_mem _ List.mem_cons_self)
          rcases raw_d hx with ⟨s, rfl, hs⟩ | ⟨i, rfl⟩ | ⟨xs, k, rfl, _⟩
          · walk_at "s"
            have e : decide (IsNm s) = (Ls.leafOf z [.str s]).isSome := by
              unfold Ls.leafOf
              rw [if_neg e1, if_pos e2]
              by_cases hn : IsNm s
              · show _ = (if IsNm s then some (Tst.is s) else none).isSome
                rw [if_pos hn, decide_eq_true hn]
                rfl
              · show _ = (if IsNm s then some (Tst.is s) else none).isSome
                rw [if_neg hn, decide_eq_false hn]
                rfl
            refine ⟨s, _, rfl, by omega, hS, fun H hS => ?_⟩
            rw [e]
            exact q _ hS
          · have e : (Ls.leafOf z [.int i]).isSome = false := by
              unfold Ls.leafOf
              rw [if_neg e1, if_pos e2]
              rfl
            rw [e] at q
            walk_at "s"
            exact q _ hS
          · have e : (Ls.leafOf z [.tuple xs]).isSome = false := by
              unfold Ls.leafOf
              rw [if_neg e1, if_pos e2]
              rfl
            rw [e] at q
            walk_at "s"
            exact q _ (Sub.ok (by walk_at "sub") hS)
        · have e : (Ls.leafOf z r).isSome = false := by
            unfold Ls.leafOf
            rw [if_neg e1, if_pos e2]
            split
            · exact (hl ⟨_, rfl⟩).elim
            · rfl
          have e3 : decide (((PyData.str z :: r).length : Int) = 2) = false := decide_eq_false fun h => hl (by
            match r, h with
            | [x], _ => exact ⟨x, rfl⟩
            | [], h => simp at h
            | x :: y :: r, h => simp at h; omega)
          rw [e3, if_neg Bool.false_ne_true]
          rw [e] at q
          exact q _ hS
      · rw [if_neg (by rw [decide_eq_false e2]; exact Bool.false_ne_true)]
        walk_at "s"
        have en : ∀ y, ¬ z = ("less" : Str) → ¬ z = ("same" : Str) → (Ls.leafOf z y).isSome = false := fun y h3 h4 => by
          unfold Ls.leafOf
          rw [if_neg e1, if_neg e2, if_neg h3, if_neg h4]
          rfl
        by_cases hz : z = ("less" : Str) ∨ z = ("same" : Str)
        · rw [if_neg (by rw [decide_eq_true (by simp only [List.mem_cons, List.not_mem_nil, or_false]; exact hz)]; exact Bool.false_ne_true)]
          walk_at "s"
          by_cases hl : ∃ x y, r = [x, y]
          · obtain ⟨x, y, rfl⟩ := hl
            rw [if_neg (by show ¬(!decide ((3 : Int) = 3)) = true; decide)]
            obtain ⟨m, rfl⟩ : ∃ m, N = m + 1 := by cases N with | zero => exact hr'.elim | succ m => exact ⟨m, rfl⟩
            have hx := hr'.2.2 x (List.mem_cons_of_mem _ List.mem_cons_self)
            have hy := hr'.2.2 y (List.mem_cons_of_mem _ (List.mem_cons_of_mem _ List.mem_cons_self))
            have no : (∀ s i, ¬ ((x = .str s) ∧ y = .int i)) → (Ls.leafOf z [x, y]).isSome = false := fun h => by
              unfold Ls.leafOf
              rw [if_neg e1, if_neg e2]
              repeat' split
              all_goals first | rfl | (rename_i e _; exact (h _ _ (by cases e; exact ⟨rfl, rfl⟩)).elim)
            have ey : ∀ s i, (Ls.leafOf z [.str s, .int i]).isSome = decide (IsNm s ∧ Lim i) := fun s i => by
              unfold Ls.leafOf
              rw [if_neg e1, if_neg e2]
              by_cases h3 : z = ("less" : Str)
              · rw [if_pos h3]
                by_cases hn : IsNm s ∧ Lim i
                · show (if IsNm s ∧ Lim i then some (Tst.less s i) else none).isSome = _
                  rw [if_pos hn, decide_eq_true hn]
                  rfl
                · show (if IsNm s ∧ Lim i then some (Tst.less s i) else none).isSome = _
                  rw [if_neg hn, decide_eq_false hn]
                  rfl
              · rw [if_neg h3, if_pos (hz.resolve_left h3)]
                by_cases hn : IsNm s ∧ Lim i
                · show (if IsNm s ∧ Lim i then some (Tst.same s i) else none).isSome = _
                  rw [if_pos hn, decide_eq_true hn]
                  rfl
                · show (if IsNm s ∧ Lim i then some (Tst.same s i) else none).isSome = _
                  rw [if_neg hn, decide_eq_false hn]
                  rfl
            walk_at "s"
            rcases raw_d hx with ⟨s, rfl, hs⟩ | ⟨i, rfl⟩ | ⟨xs, k, rfl, _⟩
            · walk_at "s"
              refine ⟨s, _, rfl, by omega, hS, fun H hS => ?_⟩
              by_cases hn : IsNm s
              · rw [decide_eq_true hn]
                walk_at "s"
                rcases raw_d hy with ⟨s2, rfl, hs2⟩ | ⟨i, rfl⟩ | ⟨xs, k, rfl, _⟩
                · rw [no (by rintro s i ⟨_, h⟩; cases h)] at q
                  walk_at "s"
                  exact q _ (Sub.ok (by walk_at "sub") hS)
                · rw [ey] at q
                  walk_at "s"
                  by_cases h5 : -999999 ≤ i
                  · walk_at "s"
                    rw [show decide (i ≤ 999999) = decide (IsNm s ∧ Lim i) from decide_eq_decide.mpr ⟨fun h => ⟨hn, h5, h⟩, fun h => h.2.2⟩]
                    exact q _ (Sub.ok (by walk_at "sub") hS)
                  · rw [decide_eq_false fun h => h5 h.2.1] at q
                    walk_at "s"
                    exact q _ (Sub.ok (by walk_at "sub") hS)
                · rw [no (by rintro s i ⟨_, h⟩; cases h)] at q
                  walk_at "s"
                  exact q _ (Sub.ok (by walk_at "sub") hS)
              · have e9 : (Ls.leafOf z [.str s, y]).isSome = false := by
                  rcases raw_d hy with ⟨s2, rfl, hs2⟩ | ⟨i, rfl⟩ | ⟨xs, k, rfl, _⟩
                  · exact no (by rintro s i ⟨_, h⟩; cases h)
                  · rw [ey]
                    exact decide_eq_false fun h => hn h.1
                  · exact no (by rintro s i ⟨_, h⟩; cases h)
                rw [e9] at q
                rw [decide_eq_false hn]
                walk_at "s"
                exact q _ (Sub.ok (by walk_at "sub") hS)
            · rw [no (by rintro s i ⟨h, _⟩; cases h)] at q
              walk_at "s"
              exact q _ (Sub.ok (by walk_at "sub") hS)
            · rw [no (by rintro s i ⟨h, _⟩; cases h)] at q
              walk_at "s"
              exact q _ (Sub.ok (by walk_at "sub") hS)
          · have e : (Ls.leafOf z r).isSome = false := by
              unfold Ls.leafOf
              rw [if_neg e1, if_neg e2]
              repeat' split
              all_goals first | rfl | exact (hl ⟨_, _, rfl⟩).elim
            have e3 : decide (((PyData.str z :: r).length : Int) = 3) = false := decide_eq_false fun h => hl (by
              match r, h with
              | [x, y], _ => exact ⟨x, y, rfl⟩
              | [], h => simp at h
              | [x], h => simp at h
              | x :: y :: u :: r, h => simp at h; omega)
            rw [e3, if_pos (by rfl)]
            rw [e] at q
            walk_at "s"
            exact q _ (Sub.ok (by walk_at "sub") hS)
        · rw [if_pos (by rw [decide_eq_false (by simp only [List.mem_cons, List.not_mem_nil, or_false]; exact hz)]; rfl)]
          rw [en _ (fun h => hz (.inl h)) (fun h => hz (.inr h))] at q
          walk_at "s"
          exact q _ (Sub.ok (by walk_at "sub") hS)
theorem ok__law_shape_ok {P : Program} {w : World} {K : PySem.W.Frag} {mg : Str → Option Value} {base : Heap} (E : Env K mg w) : ∀ n : Nat, FnOk P w K mg base CX0 (3 + n) E.a__law_shape_ok E.fd__law_shape_ok ["_law_test_here"] (recSp (spLShape K) n) := by
  intro n
  induction n with
  | zero => exact E.F__law_shape_ok.ok sc__law_shape_ok (fun vs H Q E h => h.elim) (fun cdv A outer s H vs Q E' hr h => h.elim)
  | succ n ih =>
  replace ih : FnOk P w K mg base CX0 (3 + n) E.a__law_shape_ok E.fd__law_shape_ok ["_law_test_here"] (recSp (spLShape K) n) := ih
  show FnOk P w K mg base CX0 (3 + n + 1) E.a__law_shape_ok E.fd__law_shape_ok ["_law_test_here"] ((spLShape K) n)
  refine E.F__law_shape_ok.ok sc__law_shape_ok (fun vs H Q E h => ?_) (fun cdv A outer s H vs Q E' hr h => ?_)
  · walk_at "hl"
  · have hu := huOf hr
    have G__law_leaf_ok := ok__law_leaf_ok (P := P) (w := w) (base := base) E
    have hr__law_leaf_ok := hr.mono (show 2 ≤ 3 + n by omega)
    have b__law_leaf_ok := b__law_leaf_ok E
    have G__law_shape_ok := ih
    have hr__law_shape_ok := hr
    have b__law_shape_ok := b__law_shape_ok E
    have hcl_Tally := E.cl_Tally
    obtain ⟨v, d, L, rfl, hS, hm, hr', q⟩ := h
    refine ⟨_, PSs.nox (pss_cons (ps_if (PW.pt (pw_or (pt_not (pt_val (pe_callB (call_isiU K rfl) (by rfl) E.n_isinstance boot_isinstance (pa_cons (pv 0) (pa_cons (pe_ty "tuple" rfl E.n_tuple (by decide +kernel)) pa_nil))))) (pw_or1 (pt_cmpR (op_eqU K rfl hu) (pe_callB (call_lenU K rfl) (by rfl) E.n_len boot_len (pa_cons (pv 0) pa_nil)) pe_int (nomark _))))) (pss_one (ps_ret pe_bl)) pss_nil)
(pss_cons (ps_if (pt_cmpR (op_inU K rfl hu) (pe_ix (ix_U K rfl) (pv 0) pe_int (fun _ _ => rfl)) (pe_tup (pa_cons pe_str (pa_cons pe_str pa_nil))) (by with_unfolding_all rfl)) (pss_one (ps_ret (pe_and (pe_cmpR (op_eqU K rfl hu) (pe_callB (call_lenU K rfl) (by rfl) E.n_len boot_len (pa_cons (pv 0) pa_nil)) pe_int (nomark _)) (pe_and (pe_call G__law_shape_ok hr__law_shape_ok rfl E.g__law_shape_ok E.F__law_shape_ok.kp b__law_shape_ok .nil pass0 (pa_cons (pe_ix (ix_U K rfl) (pv 0) pe_int (fun _ _ => rfl)) pa_nil)) (pe_one (pe_call G__law_shape_ok hr__law_shape_ok rfl E.g__law_shape_ok E.F__law_shape_ok.kp b__law_shape_ok .nil pass0 (pa_cons (pe_ix (ix_U K rfl) (pv 0) pe_int (fun _ _ => rfl)) pa_nil))))))) pss_nil)
(pss_cons (ps_if (pt_cmpR (op_eqU K rfl hu) (pe_ix (ix_U K rfl) (pv 0) pe_int (fun _ _ => rfl)) pe_str (nomark _)) (pss_one (ps_ret (pe_and (pe_cmpR (op_eqU K rfl hu) (pe_callB (call_lenU K rfl) (by rfl) E.n_len boot_len (pa_cons (pv 0) pa_nil)) pe_int (nomark _)) (pe_one (pe_call G__law_shape_ok hr__law_shape_ok rfl E.g__law_shape_ok E.F__law_shape_ok.kp b__law_shape_ok .nil pass0 (pa_cons (pe_ix (ix_U K rfl) (pv 0) pe_int (fun _ _ => rfl)) pa_nil)))))) pss_nil)
(pss_one (ps_ret (pe_call G__law_leaf_ok hr__law_leaf_ok rfl E.g__law_leaf_ok E.F__law_leaf_ok.kp b__law_leaf_ok .nil pass0 (pa_cons (pv 0) pa_nil))))))), ?_⟩
    refine k_body (s1 := some _ :: []) rfl ?_
    walk_at "s"
    rcases raw_d hr' with ⟨s, rfl, hs⟩ | ⟨i, rfl⟩ | ⟨xs, m, rfl, hN, hxl, hh, hx⟩
    · obtain rfl := im_isStr hS hm
      rw [dec_atom (fun xs h => by cases h)] at q
      walk_at "s"
      exact q _ hS
    · obtain rfl := im_isInt hS hm
      rw [dec_atom (fun xs h => by cases h)] at q
      walk_at "s"
      exact q _ hS
    · obtain ⟨a, rfl⟩ := im_isRef hS hm
      walk_at "s"
      cases xs with
      | nil =>
        rw [dec_nil] at q
        rw [if_pos (by rfl)]
        walk_at "s"
        exact q _ hS
      | cons x r =>
        obtain ⟨z, rfl⟩ := hh x r rfl
        obtain rfl : n = m + 1 := hN
        rw [if_neg (by rw [decide_eq_false (by simp; omega)]; exact Bool.false_ne_true)]
        walk_at "s"
        rw [word2]
        have rcl : ∀ (v : V) (x : PyData) (H : Hp) (Q : VK) (E : XK) (L' : List (As K)), Ls.Sep L' H → im v x ∈ L' → Raw m x → (∀ H', Ls.Sep L' H' → Q (.bl (dec m x).isSome) H') → recSp (spLShape K) (m + 1) [v] H Q E := fun v x H Q E L' hS hm hx q => ⟨v, x, L', rfl, hS, hm, hx, q⟩
        by_cases h2 : wordK z = some 2
        · rw [decide_eq_true h2]
          walk_at "s"
          rw [dec_w2 h2] at q
          by_cases hl : ∃ x y, r = [x, y]
          · obtain ⟨x, y, rfl⟩ := hl
            have h1x := hx x (List.mem_cons_of_mem _ List.mem_cons_self)
            have h1y := hx y (List.mem_cons_of_mem _ (List.mem_cons_of_mem _ List.mem_cons_self))
            rw [if_pos (by rfl)]
            replace q : ∀ H', Ls.Sep L H' → Q (.bl ((dec m x).isSome && (dec m y).isSome)) H' := q
            walk_at "s"
            refine k_ixG hS (by walk_at "mem") (at01 _ _ _) fun v hS => ?_
            walk_at "s"
            refine rcl v x _ _ _ _ hS (by walk_at "mem") h1x fun H hS => ?_
            cases ex : (dec m x).isSome with
            | false =>
              rw [show ((dec m x).isSome && (dec m y).isSome) = false by rw [ex]; rfl] at q
              walk_at "s"
              exact q _ (Sub.ok (by walk_at "sub") hS)
            | true =>
              rw [show ((dec m x).isSome && (dec m y).isSome) = (dec m y).isSome by rw [ex]; rfl] at q
              walk_at "s"
              refine k_ixG hS (by walk_at "mem") (at02 _ _ _ _) fun u hS => ?_
              walk_at "s"
              refine rcl u y _ _ _ _ hS (by walk_at "mem") h1y fun H hS => ?_
              exact q _ (Sub.ok (by walk_at "sub") hS)
          · have e3 : decide (((PyData.str z :: r).length : Int) = 3) = false := decide_eq_false fun h => hl (by
              match r, h with
              | [x, y], _ => exact ⟨x, y, rfl⟩
              | [], h => simp at h
              | [x], h => simp at h
              | x :: y :: u :: r, h => simp at h; omega)
            rw [e3, if_neg Bool.false_ne_true]
            have e4 : two2 m r = false := by
              unfold two2
              split
              · exact (hl ⟨_, _, rfl⟩).elim
              · rfl
            rw [e4] at q
            exact q _ (Sub.ok (by walk_at "sub") hS)
        · rw [decide_eq_false h2]
          walk_at "s"
          rw [word1]
          by_cases h1 : wordK z = some 1
          · rw [decide_eq_true h1]
            walk_at "s"
            rw [dec_w1 h1] at q
            by_cases hl : ∃ x, r = [x]
            · obtain ⟨x, rfl⟩ := hl
              have h1x := hx x (List.mem_cons_of_mem _ List.mem_cons_self)
              rw [if_pos (by rfl)]
              walk_at "s"
              refine k_ixG hS (by walk_at "mem") (at01 _ _ _) fun v hS => ?_
              walk_at "s"
              refine rcl v x _ _ _ _ hS (by walk_at "mem") h1x fun H hS => ?_
              exact q _ (Sub.ok (by walk_at "sub") hS)
            · have e3 : decide (((PyData.str z :: r).length : Int) = 2) = false := decide_eq_false fun h => hl (by
                match r, h with
                | [x], _ => exact ⟨x, rfl⟩
                | [], h => simp at h
                | x :: y :: r, h => simp at h; omega)
              rw [e3, if_neg Bool.false_ne_true]
              have e4 : one1 m r = false := by
                unfold one1
                split
                · exact (hl ⟨_, rfl⟩).elim
                · rfl
              rw [e4] at q
              exact q _ (Sub.ok (by walk_at "sub") hS)
          · have h0 : wordK z = none := by
              cases hw : wordK z with
              | none => rfl
              | some k =>
                have := wordK_le hw
                rcases (show k = 1 ∨ k = 2 by omega) with rfl | rfl
                · exact (h1 hw).elim
                · exact (h2 hw).elim
            rw [decide_eq_false h1]
            walk_at "s"
            refine ⟨a, z, r, m + 1, _, rfl, hS, by walk_at "mem", ⟨hxl, hh, hx⟩, h0, fun H hS => ?_⟩
            have e : dec (m + 1) (.tuple (.str z :: r)) = Ls.leafOf z r := by
              rw [dec_tup, h0]
            rw [e] at q
            exact q _ (Sub.ok (by walk_at "sub") hS)
theorem ok__law_test_ok {P : Program} {w : World} {K : PySem.W.Frag} {mg : Str → Option Value} {base : Heap} (E : Env K mg w) : FnOk P w K mg base CX0 13 E.a__law_test_ok E.fd__law_test_ok ["_law_test_here"] (spLTestOk K) := by
  refine E.F__law_test_ok.ok sc__law_test_ok (fun vs H Q E h => ?_) (fun cdv A outer s H vs Q E' hr h => ?_)
  · walk_at "hl"
  · have hu := huOf hr
    have G__law_shape_ok := ok__law_shape_ok (P := P) (w := w) (base := base) E 9
    have hr__law_shape_ok := hr.mono (show 12 ≤ 12 by decide)
    have b__law_shape_ok := b__law_shape_ok E
    have G__law_deep := ok__law_deep (P := P) (w := w) (base := base) E 9
    have hr__law_deep := hr.mono (show 10 ≤ 12 by decide)
    have b__law_deep := b__law_deep E
    have G__law_parts := ok__law_parts (P := P) (w := w) (base := base) E 9
    have hr__law_parts := hr.mono (show 10 ≤ 12 by decide)
    have b__law_parts := b__law_parts E
    have hcl_Tally := E.cl_Tally
    obtain ⟨a, xs, n, L, rfl, hn, hS, hm, hr', q⟩ := h
    refine ⟨_, PSs.nox (pss_one (ps_ret (pe_and (pe_call G__law_shape_ok hr__law_shape_ok rfl E.g__law_shape_ok E.F__law_shape_ok.kp b__law_shape_ok .nil pass0 (pa_cons (pv 0) pa_nil)) (pe_and (pe_cmpR (op_le) (pe_call G__law_deep hr__law_deep rfl E.g__law_deep E.F__law_deep.kp b__law_deep .nil pass0 (pa_cons (pv 0) pa_nil)) pe_int (nomark _)) (pe_one (pe_cmpR (op_le) (pe_call G__law_parts hr__law_parts rfl E.g__law_parts E.F__law_parts.kp b__law_parts .nil pass0 (pa_cons (pv 0) pa_nil)) pe_int (nomark _))))))), ?_⟩
    refine k_body (s1 := some _ :: []) rfl ?_
    walk_at "s"
    refine ⟨.ref a, .tuple xs, _, rfl, hS, hm, hr'.mono (Nat.le_refl _) hn, fun H hS => ?_⟩
    cases e : dec 8 (.tuple xs) with
    | none =>
      have hi : ¬ IsT (.tuple xs) := fun h => by
        obtain ⟨t, h1, h2, h3, h4⟩ := isT_is h
        have := dec_of (n := 8) h2 (by omega)
        rw [h1, e] at this
        cases this
      rw [decide_eq_false hi] at q
      walk_at "s"
      rw [if_neg (by exact Bool.false_ne_true)]
      exact q _ hS
    | some t =>
      obtain ⟨ho, ed, h8⟩ := dec_ok e
      rw [← ed] at hm
      walk_at "s"
      rw [if_pos (by rfl)]
      walk_at "s"
      refine ⟨a, t, _, rfl, by show t.deep ≤ 9; omega, hS, hm, fun H hS => ?_⟩
      walk_at "s"
      by_cases h5 : t.deep ≤ 5
      · rw [if_pos (decide_eq_true (by omega))]
        walk_at "s"
        refine ⟨a, t, _, rfl, by show t.deep ≤ 9; omega, hS, hm, fun H hS => ?_⟩
        walk_at "s"
        rw [show decide ((t.parts : Int) ≤ 15) = decide (IsT (.tuple xs)) from decide_eq_decide.mpr ⟨fun h => ed ▸ isT_of ho h5 (by omega), fun h => by
          obtain ⟨t', h1, h2, h3, h4⟩ := isT_is h
          have := dec_of (n := 8) h2 (by omega)
          rw [h1, e] at this
          cases this
          omega⟩]
        exact q _ hS
      · have hi : ¬ IsT (.tuple xs) := fun h => by
          obtain ⟨t', h1, h2, h3, h4⟩ := isT_is h
          have := dec_of (n := 8) h2 (by omega)
          rw [h1, e] at this
          cases this
          exact h5 h3
        rw [decide_eq_false hi] at q
        rw [if_neg (by rw [decide_eq_false (by omega)]; exact Bool.false_ne_true)]
        exact q _ hS
end Lw
-- own part: ts5
namespace Ls
open PySem PySem.Spec PyProof.Rows L2 TL
/-! ### a test's text -/
def Tst.text : Tst → Str
  | .all => "all"
  | .is n => ("is:" : Str) ++ n
  | .less f k => f ++ ("<" : Str) ++ numS k
  | .same f k => f ++ ("=" : Str) ++ numS k
  | .no a => ("not" : Str) ++ ("(" : Str) ++ Txt.join "," [a.text] ++ (")" : Str)
  | .an a b => ("and" : Str) ++ ("(" : Str) ++ Txt.join "," [a.text, b.text] ++ (")" : Str)
  | .or a b => ("or" : Str) ++ ("(" : Str) ++ Txt.join "," [a.text, b.text] ++ (")" : Str)
theorem text_mk {z : Str} {ts : List Tst} {t : Tst} (h : mkT z ts = some t) : t.text = z ++ ("(" : Str) ++ Txt.join "," (ts.map Tst.text) ++ (")" : Str) := by
  unfold mkT at h
  split at h
  · rename_i e
    split at h
    · cases h
      rw [e]
      rfl
    · cases h
  · split at h
    · rename_i e
      split at h
      · cases h
        rw [e]
        rfl
      · cases h
    · split at h
      · rename_i e
        split at h
        · cases h
          rw [e]
          rfl
        · cases h
      · cases h
theorem sapT (a b : Str) : (a ++ b).length = a.length + b.length := by
  have l : ∀ z : Str, (tl z).length = z.length := fun z => Array.length_toList
  rw [← l, ← l, ← l, tl_append, List.length_append]
theorem join1 (a : Str) : Txt.join "," [a] = a := by
  refine ext_tl ?_
  rw [join_eq, tl_join]
  rfl
theorem join2 (a b : Str) : Txt.join "," [a, b] = a ++ (("," : Str) ++ b) := by
  refine ext_tl ?_
  rw [join_eq, tl_join, tl_append, tl_append]
  rfl
theorem lim_len {k : Int} (h : Lim k) : (numS k).length ≤ 7 := numS_len (k := 6) (by decide) (by have h1 := h.1; have h2 := h.2; omega)
theorem text_len : ∀ {t : Tst}, t.ok → t.text.length ≤ 20 * t.parts := by
  intro t
  have l3 : ("all" : Str).length = 3 := by decide +kernel
  have li : ("is:" : Str).length = 3 := by decide +kernel
  have l1 : ("<" : Str).length = 1 := by decide +kernel
  have l2 : ("=" : Str).length = 1 := by decide +kernel
  have ln : ("not" : Str).length = 3 := by decide +kernel
  have la : ("and" : Str).length = 3 := by decide +kernel
  have lo : ("or" : Str).length = 2 := by decide +kernel
  have lp : ("(" : Str).length = 1 := by decide +kernel
  have lq : (")" : Str).length = 1 := by decide +kernel
  have lc : ("," : Str).length = 1 := by decide +kernel
  induction t with
  | all => intro h; show ("all" : Str).length ≤ 20 * 1; omega
  | is n =>
    intro h
    have h : IsNm n := h
    have := h.2.1
    show (("is:" : Str) ++ n).length ≤ 20 * 1
    rw [sapT]
    omega
  | less f k =>
    intro h
    have h1 : IsNm f := h.1
    have := h1.2.1
    have := lim_len h.2
    show (f ++ ("<" : Str) ++ numS k).length ≤ 20 * 1
    rw [sapT, sapT]
    omega
  | same f k =>
    intro h
    have h1 : IsNm f := h.1
    have := h1.2.1
    have := lim_len h.2
    show (f ++ ("=" : Str) ++ numS k).length ≤ 20 * 1
    rw [sapT, sapT]
    omega
  | no a ih =>
    intro h
    have := ih h
    show (("not" : Str) ++ ("(" : Str) ++ Txt.join "," [a.text] ++ (")" : Str)).length ≤ 20 * (a.parts + 1)
    rw [sapT, sapT, sapT, join1]
    omega
  | an a b i1 i2 =>
    intro h
    have := i1 h.1
    have := i2 h.2
    show (("and" : Str) ++ ("(" : Str) ++ Txt.join "," [a.text, b.text] ++ (")" : Str)).length ≤ 20 * (a.parts + b.parts + 1)
    rw [sapT, sapT, sapT, join2, sapT, sapT]
    omega
  | or a b i1 i2 =>
    intro h
    have := i1 h.1
    have := i2 h.2
    show (("or" : Str) ++ ("(" : Str) ++ Txt.join "," [a.text, b.text] ++ (")" : Str)).length ≤ 20 * (a.parts + b.parts + 1)
    rw [sapT, sapT, sapT, join2, sapT, sapT]
    omega
theorem text_sum {ts : List Tst} (h : ∀ t ∈ ts, t.ok) : ((ts.map Tst.text).map (·.length)).sum ≤ 20 * (ts.map Tst.parts).sum := by
  induction ts with
  | nil => exact Nat.zero_le _
  | cons t ts ih =>
    have h1 := text_len (h t List.mem_cons_self)
    have h2 := ih fun x hx => h x (List.mem_cons_of_mem _ hx)
    simp only [List.map_cons, List.sum_cons]
    simp only [List.map_map] at h2 ⊢
    omega
theorem wordK_is {z : Str} {n : Nat} (h : wordK z = some n) : z = ("not" : Str) ∨ z = ("and" : Str) ∨ z = ("or" : Str) := by
  unfold wordK at h
  split at h
  · rename_i e; exact .inl e
  · split at h
    · rename_i e; exact .inr (.inl e)
    · split at h
      · rename_i e; exact .inr (.inr e)
      · cases h
theorem empT (z : Str) : Str.empty ++ z = z := by
  refine ext_tl ?_
  rw [tl_append]
  rfl
theorem lim_big {k : Int} (h : Lim k) : k.natAbs < 10 ^ 100 := by
  have h1 := h.1
  have h2 := h.2
  have : k.natAbs < 10 ^ 7 := by omega
  exact Nat.lt_of_lt_of_le this (Nat.pow_le_pow_right (by decide) (by decide))
def spTextOf (K : PySem.W.Frag) (n : Nat) : Sp := fun vs H Q _ => ∃ (a : Addr) (t : Tst) (L : List (As K)), vs = [.ref a] ∧ t.ok ∧ t.deep ≤ n + 1 ∧ n ≤ 10 ∧ Ls.Sep L H ∧ im (.ref a) t.D ∈ L ∧ ∀ H', Ls.Sep L H' → Q (.str t.text) H'
def spLeavesX (K : PySem.W.Frag) (CB : Addr) : Sp := fun vs H Q E => ∃ (a : Addr) (xs : List PyData) (N : Nat) (L : List (As K)), vs = [.ref a] ∧ Ls.Sep L H ∧ im (.ref a) (.tuple xs) ∈ L ∧ Raw N (.tuple xs) ∧ (∀ t : Tst, t.D = .tuple xs → t.ok → t.deep ≤ 5 → t.parts ≤ 15 → ∀ p H', Ls.Sep (Ls.ld p (t.leaves.map Tst.D) :: L) H' → Q (.ref p) H') ∧ (¬ IsT (.tuple xs) → Lets L CB "badtest" E)
def spTextX (K : PySem.W.Frag) (CB : Addr) : Sp := fun vs H Q E => ∃ (a : Addr) (xs : List PyData) (N : Nat) (L : List (As K)), vs = [.ref a] ∧ Ls.Sep L H ∧ im (.ref a) (.tuple xs) ∈ L ∧ Raw N (.tuple xs) ∧ (∀ t : Tst, t.D = .tuple xs → t.ok → t.deep ≤ 5 → t.parts ≤ 15 → ∀ H', Ls.Sep L H' → Q (.str t.text) H') ∧ (¬ IsT (.tuple xs) → Lets L CB "badtest" E)
def spLeavesG (K : PySem.W.Frag) : Sp := fun vs H Q E => ∃ (a : Addr) (t : Tst) (L : List (As K)), vs = [.ref a] ∧ Ls.Sep L H ∧ im (.ref a) t.D ∈ L ∧ t.ok ∧ t.deep ≤ 5 ∧ t.parts ≤ 15 ∧ ∀ p H', Ls.Sep (Ls.ld p (t.leaves.map Tst.D) :: L) H' → Q (.ref p) H'
def spTextG (K : PySem.W.Frag) : Sp := fun vs H Q E => ∃ (a : Addr) (t : Tst) (L : List (As K)), vs = [.ref a] ∧ Ls.Sep L H ∧ im (.ref a) t.D ∈ L ∧ t.ok ∧ t.deep ≤ 5 ∧ t.parts ≤ 15 ∧ ∀ H', Ls.Sep L H' → Q (.str t.text) H'
end Ls
namespace Lw
open PySem PySem.Spec PyProof.Rows L2 Ls
end Lw
-- own part: ts9
namespace Ls
open PySem PySem.Spec PyProof.Rows L2 TL
def spLText (K : PySem.W.Frag) (n : Nat) : Sp := fun vs H Q _ => ∃ (a : Addr) (t : Tst) (L : List (As K)), vs = [.ref a] ∧ t.ok ∧ t.deep ≤ n + 1 ∧ n ≤ 10 ∧ Ls.Sep L H ∧ im (.ref a) t.D ∈ L ∧ ∀ H', Ls.Sep L H' → Q (.str t.text) H'
def spLBentT (K : PySem.W.Frag) (n : Nat) : Sp := fun vs H Q _ => ∃ (d : Addr) (v : V) (x : PyData) (c m : Nat) (L : List (As K)), vs = [.ref d, v] ∧ m ≤ n ∧ m ≤ 20 ∧ c ≤ 50 ∧ 3 ≤ c ∧ Ls.Sep L H ∧ dr d ∈ L ∧ im v x ∈ L ∧ RawC c m x ∧ ∀ u y H', RawC (c + 1) (m + 2) y → ((∃ xs, x = .tuple xs) → ∃ ys, y = .tuple ys) → Ls.Sep (im u y :: L) H' → Q u H'
end Ls
namespace Lw
open PySem PySem.Spec PyProof.Rows L2 Ls
end Lw
-- own part: ts10
namespace Ls
open PySem PySem.Spec PyProof.Rows L2
theorem cutD_iniT (ds : List PyData) : Ls.cutD ds none (some (-1)) = ds.dropLast := by
  have e : HT.sIx ds.length ds.length (some (-1)) = ds.length - 1 := by
    unfold HT.sIx
    dsimp only
    first
    | omega
    | (split <;> omega)
    | (simp only []; omega)
    | (simp; omega)
  show (ds.drop 0).take (HT.sIx ds.length ds.length (some (-1)) - 0) = _
  rw [e, List.drop_zero, Nat.sub_zero, List.dropLast_eq_take]
end Ls
namespace Lw
open PySem PySem.Spec PyProof.Rows L2 Ls
theorem ok__law_bent_test {P : Program} {w : World} {K : PySem.W.Frag} {mg : Str → Option Value} {base : Heap} (E : Env K mg w) : ∀ n : Nat, FnOk P w K mg base CX0 (5 + n) E.a__law_bent_test E.fd__law_bent_test ["_law_d", "_law_test_here"] (recSp (spLBentT K) n) := by
  intro n
  induction n with
  | zero => exact E.F__law_bent_test.ok sc__law_bent_test (fun vs H Q E h => h.elim) (fun cdv A outer s H vs Q E' hr h => h.elim)
  | succ n ih =>
  replace ih : FnOk P w K mg base CX0 (5 + n) E.a__law_bent_test E.fd__law_bent_test ["_law_d", "_law_test_here"] (recSp (spLBentT K) n) := ih
  show FnOk P w K mg base CX0 (5 + n + 1) E.a__law_bent_test E.fd__law_bent_test ["_law_d", "_law_test_here"] ((spLBentT K) n)
  refine E.F__law_bent_test.ok sc__law_bent_test (fun vs H Q E h => ?_) (fun cdv A outer s H vs Q E' hr h => ?_)
  · walk_at "hl"
  · have hu := huOf hr
    have G__law_pick := ok__law_pick (P := P) (w := w) (base := base) E
    have hr__law_pick := hr.mono (show 1 ≤ 5 + n by omega)
    have b__law_pick := b__law_pick E
    have G__law_odd_name := ok__law_odd_name (P := P) (w := w) (base := base) E
    have hr__law_odd_name := hr.mono (show 3 ≤ 5 + n by omega)
    have b__law_odd_name := b__law_odd_name E
    have G__law_word := ok__law_word (P := P) (w := w) (base := base) E
    have hr__law_word := hr.mono (show 3 ≤ 5 + n by omega)
    have b__law_word := b__law_word E
    have G__law_of := ok__law_of E (ok__law_pick (P := P) (w := w) (base := base) E)
    have hr__law_of := hr.mono (show 2 ≤ 5 + n by omega)
    have b__law_of := b__law_of E
    have G__law_bent_test := ih
    have hr__law_bent_test := hr
    have b__law_bent_test := b__law_bent_test E
    have G__law_far := ok__law_far (P := P) (w := w) (base := base) E
    have hr__law_far := hr.mono (show 2 ≤ 5 + n by omega)
    have b__law_far := b__law_far E
    have hcl_Tally := E.cl_Tally
    obtain ⟨d, v, x, c, m, L, rfl, hmn, hm20, hc, hc3, hS, hd, hm, hr', q⟩ := h
    refine ⟨_, PSs.nox (pss_cons (ps_if (PW.pt (pw_or (pt_not (pt_val (pe_callB (call_isiU K rfl) (by rfl) E.n_isinstance boot_isinstance (pa_cons (pv 1) (pa_cons (pe_ty "tuple" rfl E.n_tuple (by decide +kernel)) pa_nil))))) (pw_or1 (pt_cmpR (op_eqU K rfl hu) (pv 1) (pe_tup pa_nil) (nomark _))))) (pss_one (ps_ret (pv 1))) pss_nil)
(pss_cons (ps_set (i := 2) sc__law_bent_test.nd rfl (Or.inl rfl) (pe_call G__law_pick hr__law_pick rfl E.g__law_pick E.F__law_pick.kp b__law_pick .nil pass0 (pa_cons (pv 0) (pa_cons pe_int pa_nil))))
(pss_cut (ps_if (PW.pt (pw_and (pt_cmpR (op_gt) (pe_callB (call_lenU K rfl) (by rfl) E.n_len boot_len (pa_cons (pv 1) pa_nil)) pe_int (nomark _)) (pw_and (pt_cmpR (op_inU K rfl hu) (pe_ix (ix_U K rfl) (pv 1) pe_int (fun _ _ => rfl)) (pe_tup (pa_cons pe_str (pa_cons pe_str (pa_cons pe_str pa_nil)))) (by with_unfolding_all rfl)) (pw_and1 (pt_cmpR (op_eqU K rfl hu) (pe_call G__law_pick hr__law_pick rfl E.g__law_pick E.F__law_pick.kp b__law_pick .nil pass0 (pa_cons (pv 0) (pa_cons pe_int pa_nil))) pe_int (nomark _)))))) (pss_cons (ps_set (i := 3) sc__law_bent_test.nd rfl (Or.inl rfl) (pe_op (op_addU K rfl) pe_int (pe_call G__law_pick hr__law_pick rfl E.g__law_pick E.F__law_pick.kp b__law_pick .nil pass0 (pa_cons (pv 0) (pa_cons (pe_op op_sub (pe_callB (call_lenU K rfl) (by rfl) E.n_len boot_len (pa_cons (pv 1) pa_nil)) pe_int) pa_nil)))))
(pss_one (ps_ret (pe_op (op_addU K rfl) (pe_op (op_addU K rfl) (pe_slice (sl_U K rfl) (pv 1) po_none (po_some (pv 3))) (pe_tup (pa_cons (pe_call G__law_bent_test hr__law_bent_test rfl E.g__law_bent_test E.F__law_bent_test.kp b__law_bent_test .nil pass0 (pa_cons (pv 0) (pa_cons (pe_ix (ix_U K rfl) (pv 1) (pv 3) (fun _ _ => rfl)) pa_nil))) pa_nil))) (pe_slice (sl_U K rfl) (pv 1) (po_some (pe_op (op_addU K rfl) (pv 3) pe_int)) po_none))))) pss_nil)
(pss_cons (ps_if (pt_cmpR (op_eqU K rfl hu) (pv 2) pe_int (nomark _)) (pss_one (ps_ret (pe_slice (sl_U K rfl) (pv 1) po_none (po_some (pe_un un_neg pe_int))))) pss_nil)
(pss_cons (ps_if (pt_cmpR (op_eqU K rfl hu) (pv 2) pe_int (nomark _)) (pss_one (ps_ret (pe_op (op_addU K rfl) (pv 1) (pe_tup (pa_cons (pe_call G__law_of hr__law_of rfl E.g__law_of E.F__law_of.kp b__law_of .nil pass0 (pa_cons (pv 0) (pa_cons (pe_lst (pa_cons (pe_tup (pa_cons pe_str pa_nil)) (pa_cons pe_int (pa_cons pe_str pa_nil)))) pa_nil))) pa_nil))))) pss_nil)
(pss_cons (ps_if (pt_cmpR (op_eqU K rfl hu) (pv 2) pe_int (nomark _)) (pss_one (ps_ret (pe_op (op_addU K rfl) (pe_tup (pa_cons (pe_call G__law_of hr__law_of rfl E.g__law_of E.F__law_of.kp b__law_of .nil pass0 (pa_cons (pv 0) (pa_cons (pe_lst (pa_cons pe_str (pa_cons pe_str (pa_cons pe_str (pa_cons pe_str (pa_cons pe_str pa_nil)))))) pa_nil))) pa_nil)) (pe_slice (sl_U K rfl) (pv 1) (po_some pe_int) po_none)))) pss_nil)
(pss_cons (ps_if (pt_cmpR (op_eqU K rfl hu) (pv 2) pe_int (nomark _)) (pss_one (ps_ret (pe_tup (pa_cons pe_str (pa_cons (pe_call G__law_odd_name hr__law_odd_name rfl E.g__law_odd_name E.F__law_odd_name.kp b__law_odd_name .nil pass0 (pa_cons (pv 0) (pa_cons (pe_call G__law_word hr__law_word rfl E.g__law_word E.F__law_word.kp b__law_word .nil pass0 (pa_cons (pv 0) pa_nil)) pa_nil))) (pa_cons pe_int pa_nil)))))) pss_nil)
(pss_cons (ps_if (pt_cmpR (op_eqU K rfl hu) (pv 2) pe_int (nomark _)) (pss_one (ps_ret (pe_tup (pa_cons pe_str (pa_cons (pe_call G__law_word hr__law_word rfl E.g__law_word E.F__law_word.kp b__law_word .nil pass0 (pa_cons (pv 0) pa_nil)) (pa_cons (pe_call G__law_of hr__law_of rfl E.g__law_of E.F__law_of.kp b__law_of .nil pass0 (pa_cons (pv 0) (pa_cons (pe_lst (pa_cons pe_int (pa_cons (pe_un un_neg pe_int) (pa_cons (pe_call G__law_far hr__law_far rfl E.g__law_far E.F__law_far.kp b__law_far .nil pass0 (pa_cons (pv 0) pa_nil)) (pa_cons (pe_tup (pa_cons pe_str pa_nil)) pa_nil))))) pa_nil))) pa_nil)))))) pss_nil)
(pss_cons (ps_if (pt_cmpR (op_eqU K rfl hu) (pv 2) pe_int (nomark _)) (pss_one (ps_ret (pe_tup (pa_cons pe_str (pa_cons (pe_call G__law_odd_name hr__law_odd_name rfl E.g__law_odd_name E.F__law_odd_name.kp b__law_odd_name .nil pass0 (pa_cons (pv 0) (pa_cons (pe_call G__law_word hr__law_word rfl E.g__law_word E.F__law_word.kp b__law_word .nil pass0 (pa_cons (pv 0) pa_nil)) pa_nil))) pa_nil))))) pss_nil)
(pss_cons (ps_if (pt_cmpR (op_eqU K rfl hu) (pv 2) pe_int (nomark _)) (pss_one (ps_ret (pe_tup (pa_cons pe_str (pa_cons (pv 1) (pa_cons (pv 1) pa_nil)))))) pss_nil)
(pss_cons (ps_if (pt_cmpR (op_eqU K rfl hu) (pv 2) pe_int (nomark _)) (pss_one (ps_ret (pe_tup (pa_cons pe_str (pa_cons (pv 1) pa_nil))))) pss_nil)
(pss_cons (ps_if (pt_cmpR (op_eqU K rfl hu) (pv 2) pe_int (nomark _)) (pss_one (ps_ret (pe_tup (pa_cons pe_str (pa_cons (pv 1) (pa_cons (pe_call G__law_of hr__law_of rfl E.g__law_of E.F__law_of.kp b__law_of .nil pass0 (pa_cons (pv 0) (pa_cons (pe_lst (pa_cons pe_str (pa_cons pe_int (pa_cons (pe_tup (pa_cons pe_str pa_nil)) pa_nil)))) pa_nil))) pa_nil)))))) pss_nil)
(pss_one (ps_ret (pv 1))))))))))))))), ?_⟩
    refine k_body (s1 := some _ :: some _ :: [none, none]) rfl ?_
    walk_at "s"
    rcases raw_d hr' with ⟨s, rfl, hs⟩ | ⟨i, rfl⟩ | ⟨xs, k, rfl, hN, hxl, hh, hx⟩
    · obtain rfl := im_isStr hS hm
      walk_at "s"
      refine q _ (.str s) _ (hr'.mono (by omega) (by omega)) (fun ⟨xs, e⟩ => by cases e) (Sub.ok (by walk_at "sub") hS)
    · obtain rfl := im_isInt hS hm
      walk_at "s"
      refine q _ (.int i) _ (hr'.mono (by omega) (by omega)) (fun ⟨xs, e⟩ => by cases e) (Sub.ok (by walk_at "sub") hS)
    obtain ⟨a, rfl⟩ := im_isRef hS hm
    obtain rfl := hN
    have hok := raw_okd (by omega) hr'
    replace q : ∀ u ys H', RawC (c + 1) (k + 3) (.tuple ys) → Ls.Sep (im u (.tuple ys) :: L) H' → Q u H' := fun u ys H' h1 h2 => q u _ H' h1 (fun _ => ⟨ys, rfl⟩) h2
    have hnm : ∀ {z : Str} {j : Nat}, IsNm z → RawC (c + 1) j (.str z) := fun h => nm_rawS (by have := h.2.1; omega) (nm_strT h)
    walk_at "s"
    refine k_eqF (m := 1) hS (.dat (.im (by walk_at "mem"))) (.dat (.im (by walk_at "mem"))) hok (by exact ⟨by decide, fun d hd => by cases hd⟩) (by omega) (by decide) ?_
    cases xs with
    | nil =>
      rw [show PyData.eqv (.tuple []) (.tuple []) = true from rfl]
      walk_at "s"
      exact q _ [] _ (raw_mk (Nat.zero_le _) (fun x r e => by cases e) (fun y hy => by cases hy)) (Sub.ok (by walk_at "sub") hS)
    | cons x0 r =>
      obtain ⟨z, rfl⟩ := hh x0 r rfl
      rw [show PyData.eqv (.tuple (.str z :: r)) (.tuple []) = false from rfl]
      have hx' : ∀ y ∈ (PyData.str z :: r), RawC (c + 1) (k + 2) y := fun y hy => (hx y hy).mono (by omega) (by omega)
      have hz0 : RawC (c + 1) (k + 2) (.str z) := hx' _ List.mem_cons_self
      have hrl : r.length + 1 ≤ c := hxl
      have hd0 : ∀ (s : Str) (l : List PyData) (x : PyData) (r : List PyData), PyData.str s :: l = x :: r → ∃ z, x = .str z := fun s l x r e => ⟨s, by cases e; rfl⟩
      walk_at "s"
      walk_at "pk"
      intro w H hS w0 w1
      walk_at "s"
      have hpk := hS
      obtain ⟨L1, e1⟩ : ∃ L1, L1 = im (.ref p) (PyData.tuple []) :: L := ⟨_, rfl⟩
      refine k_cut (fun σ H => ∃ c3, σ = [some (.ref d), some (.ref a), some (.int w), c3] ∧ Ls.Sep L H) ?_ ?_
      · walk_at "s"
        by_cases hl : r = []
        · subst hl
          rw [if_neg (by show ¬ (decide ((1 : Int) < 1)) = true; decide)]
          walk_at "s"
          exact ⟨_, rfl, Sub.ok (by walk_at "sub") hS⟩
        obtain ⟨r1, r2, rfl⟩ : ∃ x y, r = x :: y := by
          cases r with
          | nil => exact (hl rfl).elim
          | cons x y => exact ⟨x, y, rfl⟩
        rw [if_pos (decide_eq_true (by simp; omega))]
        walk_at "s"
        rw [word3]
        cases hw : wordK z with
        | none =>
          rw [if_neg (by exact Bool.false_ne_true)]
          walk_at "s"
          exact ⟨_, rfl, Sub.ok (by walk_at "sub") hS⟩
        | some l =>
          rw [if_pos (by rfl)]
          walk_at "s"
          walk_at "pk"
          intro u H hS u0 u1
          walk_at "s"
          by_cases hu0 : u = 0
          · rw [if_pos (decide_eq_true hu0)]
            walk_at "s"
            walk_at "pk"
            intro t H hS t0 t1
            obtain ⟨j, hj⟩ : ∃ j : Nat, 1 + t = j := ⟨(1 + t).toNat, by omega⟩
            obtain ⟨n', rfl⟩ : ∃ n', n = n' + 1 := ⟨n - 1, by omega⟩
            have hj1 : 1 ≤ j := by omega
            have hjl : j < (PyData.str z :: r1 :: r2).length := by omega
            obtain ⟨x, hx0⟩ : ∃ x, (PyData.str z :: r1 :: r2)[j]? = some x := ⟨_, List.getElem?_eq_getElem hjl⟩
            have hxm := List.mem_of_getElem? hx0
            walk_at "s"
            rw [hj]
            walk_at "s"
            rename_i ps1 _
            refine k_ixG hS (by walk_at "mem") (atI_nat hx0) fun v hS => ?_
            walk_at "s"
            refine ⟨d, v, x, c, k, _, rfl, by omega, by omega, hc, hc3, hS, by walk_at "mem", by walk_at "mem", hx x hxm, fun u y H hy _ hS => ?_⟩
            walk_at "s"
            have ec1 : Ls.cutD (PyData.str z :: r1 :: r2) none (some (1 + t)) = (PyData.str z :: r1 :: r2).take j := by rw [hj, cutD_to (by omega), Int.toNat_natCast]
            have ec2 : Ls.cutD (PyData.str z :: r1 :: r2) (some ((j : Int) + 1)) none = (PyData.str z :: r1 :: r2).drop (j + 1) := by rw [cutD_from (by omega)]; rfl
            have htk := List.length_take_le j (PyData.str z :: r1 :: r2)
            have htd : ((PyData.str z :: r1 :: r2).drop (j + 1)).length ≤ (PyData.str z :: r1 :: r2).length - (j + 1) := by rw [List.length_drop]; exact Nat.le_refl _
            refine k_addIA hS (by walk_at "mem") (by walk_at "mem") (by rw [ec1, sizeLine_eq]; show _ + 1 ≤ _; omega) fun p2 H hS => ?_
            walk_at "s"
            rename Addr => p3
            refine k_addIA hS (by walk_at "mem") (by walk_at "mem") (by rw [ec1, ec2, sizeLine_eq, List.length_append]; show _ + 1 + _ ≤ _; omega) fun p4 H hS => ?_
            rw [ec1, ec2] at hS
            refine q _ (((PyData.str z :: r1 :: r2).take j ++ [y]) ++ (PyData.str z :: r1 :: r2).drop (j + 1)) _ (raw_mk (by rw [List.length_append, List.length_append]; show _ + 1 + _ ≤ _; omega) (fun x r e => ?_) fun y1 hy1 => ?_) (Sub.ok (by walk_at "sub") hS)
            · obtain ⟨j', rfl⟩ : ∃ j', j = j' + 1 := ⟨j - 1, by omega⟩
              rw [List.take_succ_cons] at e
              exact ⟨z, (List.cons.inj e).1.symm⟩
            · rcases List.mem_append.mp hy1 with hy1 | hy1
              · rcases List.mem_append.mp hy1 with hy1 | hy1
                · exact hx' _ (List.mem_of_mem_take hy1)
                · rw [List.mem_singleton.mp hy1]
                  exact hy
              · exact hx' _ (List.mem_of_mem_drop hy1)
          · rw [if_neg (by rw [decide_eq_false hu0]; exact Bool.false_ne_true)]
            walk_at "s"
            exact ⟨_, rfl, Sub.ok (by walk_at "sub") hS⟩
      · rintro σ H ⟨c3, rfl, hS⟩
        clear hpk
        walk_at "s"
        by_cases e0 : w = 0
        · rw [if_pos (decide_eq_true e0)]
          walk_at "s"
          rw [cutD_iniT] at hS
          refine q _ (PyData.str z :: r).dropLast _ (raw_mk (by rw [List.length_dropLast]; show r.length + 1 - 1 ≤ _; omega) (fun x r' e => ?_) fun y hy => hx' y (by rw [List.dropLast_eq_take] at hy; exact List.mem_of_mem_take hy)) (Sub.ok (by walk_at "sub") hS)
          cases r with
          | nil => cases e
          | cons r1 r2 =>
            rw [List.dropLast_cons₂] at e
            exact ⟨z, (List.cons.inj e).1.symm⟩
        rw [if_neg (by rw [decide_eq_false e0]; exact Bool.false_ne_true)]
        walk_at "s"
        have hall : RawC (c + 1) (k + 2) (.tuple [.str "all"]) := raw_mk (by show 1 ≤ _; omega) (hd0 _ _) fun y hy => by
          rw [List.mem_singleton.mp hy]
          exact nm_rawS (by decide +kernel) (by decide +kernel)
        by_cases e1 : w = 1
        · rw [if_pos (decide_eq_true e1)]
          walk_at "s"
          refine use_ofD hS (by walk_at "mem") (by walk_at "mem") (by show 0 < 3; decide) (by show 3 < _; decide) fun e u H he hS => ?_
          have hre : RawC (c + 1) (k + 2) e := by
            simp only [List.mem_cons, List.not_mem_nil, or_false] at he
            rcases he with rfl | rfl | rfl
            · exact hall
            · exact raw_int
            · exact nm_rawS (by decide +kernel) (by decide +kernel)
          walk_at "s"
          refine k_addIA hS (by walk_at "mem") (by walk_at "mem") (by rw [sizeLine_eq]; show r.length + 1 + 1 ≤ _; omega) fun p2 H hS => ?_
          refine q _ ((PyData.str z :: r) ++ [e]) _ (raw_mk (by rw [List.length_append]; show r.length + 1 + 1 ≤ _; omega) (hd0 _ _) fun y hy => ?_) (Sub.ok (by walk_at "sub") hS)
          rcases List.mem_append.mp hy with hy | hy
          · exact hx' _ hy
          · rw [List.mem_singleton.mp hy]
            exact hre
        rw [if_neg (by rw [decide_eq_false e1]; exact Bool.false_ne_true)]
        walk_at "s"
        by_cases e2 : w = 2
        · rw [if_pos (decide_eq_true e2)]
          walk_at "s"
          walk_at "ofS"
          intro s H hs hS
          have hrs : RawC (c + 1) (k + 2) (.str s) := by
            simp only [List.mem_cons, List.not_mem_nil, or_false, PyData.str.injEq] at hs
            rcases hs with rfl | rfl | rfl | rfl | rfl <;> exact nm_rawS (by decide +kernel) (by decide +kernel)
          walk_at "s"
          rw [cut1D] at hS
          rename Addr => ps
          refine k_addIA hS (by walk_at "mem") (by walk_at "mem") (by rw [sizeLine_eq]; show 1 + r.length ≤ _; omega) fun p2 H hS => ?_
          refine q _ ([PyData.str s] ++ r) _ (raw_mk (by show (r.length) + 1 ≤ _; omega) (hd0 _ _) fun y hy => ?_) (Sub.ok (by walk_at "sub") hS)
          rcases List.mem_cons.mp hy with rfl | hy
          · exact hrs
          · exact hx' _ (List.mem_cons_of_mem _ hy)
        rw [if_neg (by rw [decide_eq_false e2]; exact Bool.false_ne_true)]
        walk_at "s"
        by_cases e3 : w = 3
        · rw [if_pos (decide_eq_true e3)]
          walk_at "s"
          refine ⟨d, _, rfl, hS, by walk_at "mem", fun y H hy hS => ?_⟩
          walk_at "s"
          refine ⟨d, y, _, rfl, by have := hy.2.1; omega, nm_strT hy, hS, by walk_at "mem", fun y2 H hy2 hyo hS => ?_⟩
          walk_at "s"
          refine q _ [.str "less", .str y2, .int 4] _ (raw_mk (by show 3 ≤ _; omega) (hd0 _ _) fun y hy' => ?_) (Sub.ok (by walk_at "sub") hS)
          simp only [List.mem_cons, List.not_mem_nil, or_false] at hy'
          rcases hy' with rfl | rfl | rfl
          · exact nm_rawS (by decide +kernel) (by decide +kernel)
          · exact nm_rawS (by have := hy.2.1; omega) hyo
          · exact raw_int
        rw [if_neg (by rw [decide_eq_false e3]; exact Bool.false_ne_true)]
        walk_at "s"
        by_cases e4 : w = 4
        · rw [if_pos (decide_eq_true e4)]
          walk_at "s"
          refine ⟨d, _, rfl, hS, by walk_at "mem", fun y H hy hS => ?_⟩
          walk_at "s"
          refine ⟨d, _, rfl, hS, by walk_at "mem", fun i H hS => ?_⟩
          walk_at "s"
          refine use_ofD hS (by walk_at "mem") (by walk_at "mem") (by show 0 < 4; decide) (by show 4 < _; decide) fun e u H he hS => ?_
          have hre : RawC (c + 1) (k + 2) e := by
            simp only [List.mem_cons, List.not_mem_nil, or_false] at he
            rcases he with rfl | rfl | rfl | rfl
            · exact raw_int
            · exact raw_int
            · exact raw_int
            · exact hall
          walk_at "s"
          refine q _ [.str "same", .str y, e] _ (raw_mk (by show 3 ≤ _; omega) (hd0 _ _) fun y1 hy1 => ?_) (Sub.ok (by walk_at "sub") hS)
          simp only [List.mem_cons, List.not_mem_nil, or_false] at hy1
          rcases hy1 with rfl | rfl | rfl
          · exact nm_rawS (by decide +kernel) (by decide +kernel)
          · exact hnm hy
          · exact hre
        rw [if_neg (by rw [decide_eq_false e4]; exact Bool.false_ne_true)]
        walk_at "s"
        by_cases e5 : w = 5
        · rw [if_pos (decide_eq_true e5)]
          walk_at "s"
          refine ⟨d, _, rfl, hS, by walk_at "mem", fun y H hy hS => ?_⟩
          walk_at "s"
          refine ⟨d, y, _, rfl, by have := hy.2.1; omega, nm_strT hy, hS, by walk_at "mem", fun y2 H hy2 hyo hS => ?_⟩
          walk_at "s"
          refine q _ [.str "is", .str y2] _ (raw_mk (by show 2 ≤ _; omega) (hd0 _ _) fun y hy' => ?_) (Sub.ok (by walk_at "sub") hS)
          simp only [List.mem_cons, List.not_mem_nil, or_false] at hy'
          rcases hy' with rfl | rfl
          · exact nm_rawS (by decide +kernel) (by decide +kernel)
          · exact nm_rawS (by have := hy.2.1; omega) hyo
        rw [if_neg (by rw [decide_eq_false e5]; exact Bool.false_ne_true)]
        walk_at "s"
        have hself : RawC (c + 1) (k + 2) (.tuple (.str z :: r)) := hr'.mono (by omega) (by omega)
        by_cases e6 : w = 6
        · rw [if_pos (decide_eq_true e6)]
          walk_at "s"
          refine q _ [.str "and", .tuple (.str z :: r), .tuple (.str z :: r)] _ (raw_mk (by show 3 ≤ _; omega) (hd0 _ _) fun y hy' => ?_) (Sub.ok (by walk_at "sub") hS)
          simp only [List.mem_cons, List.not_mem_nil, or_false] at hy'
          rcases hy' with rfl | rfl | rfl
          · exact nm_rawS (by decide +kernel) (by decide +kernel)
          · exact hself
          · exact hself
        rw [if_neg (by rw [decide_eq_false e6]; exact Bool.false_ne_true)]
        walk_at "s"
        by_cases e7 : w = 7
        · rw [if_pos (decide_eq_true e7)]
          walk_at "s"
          refine q _ [.str "not", .tuple (.str z :: r)] _ (raw_mk (by show 2 ≤ _; omega) (hd0 _ _) fun y hy' => ?_) (Sub.ok (by walk_at "sub") hS)
          simp only [List.mem_cons, List.not_mem_nil, or_false] at hy'
          rcases hy' with rfl | rfl
          · exact nm_rawS (by decide +kernel) (by decide +kernel)
          · exact hself
        rw [if_neg (by rw [decide_eq_false e7]; exact Bool.false_ne_true)]
        walk_at "s"
        by_cases e8 : w = 8
        · rw [if_pos (decide_eq_true e8)]
          walk_at "s"
          refine use_ofD hS (by walk_at "mem") (by walk_at "mem") (by show 0 < 3; decide) (by show 3 < _; decide) fun e u H he hS => ?_
          have hre : RawC (c + 1) (k + 2) e := by
            simp only [List.mem_cons, List.not_mem_nil, or_false] at he
            rcases he with rfl | rfl | rfl
            · exact nm_rawS (by decide +kernel) (by decide +kernel)
            · exact raw_int
            · exact hall
          walk_at "s"
          refine q _ [.str "or", .tuple (.str z :: r), e] _ (raw_mk (by show 3 ≤ _; omega) (hd0 _ _) fun y1 hy1 => ?_) (Sub.ok (by walk_at "sub") hS)
          simp only [List.mem_cons, List.not_mem_nil, or_false] at hy1
          rcases hy1 with rfl | rfl | rfl
          · exact nm_rawS (by decide +kernel) (by decide +kernel)
          · exact hself
          · exact hre
        rw [if_neg (by rw [decide_eq_false e8]; exact Bool.false_ne_true)]
        walk_at "s"
        refine q _ (PyData.str z :: r) _ (hr'.mono (by omega) (by omega)) (Sub.ok (by walk_at "sub") hS)
end Lw
-- own part: tl1
namespace Ls
open PySem PySem.Spec PyProof.Rows L2 LamX TL
/-! ### tallies refused, and the empty one -/
def KeysOk (cs : List Str) : Prop := cs.length ≤ 4 ∧ (∀ z ∈ cs, IsNm z) ∧ cs.Nodup
noncomputable instance {cs : List Str} : Decidable (KeysOk cs) := Classical.propDecidable _
noncomputable def tallyW (xs : List PyData) (cs : List Str) (n : Int) : Str := if ¬ IsT (.tuple xs) then "badtest" else if ¬ KeysOk cs then "badkeys" else if ¬ (1 ≤ n ∧ n ≤ 64) then "badsize" else ""
theorem tallyW_or (xs : List PyData) (cs : List Str) (n : Int) : tallyW xs cs n = "" ∨ tallyW xs cs n = "badtest" ∨ tallyW xs cs n = "badkeys" ∨ tallyW xs cs n = "badsize" := by
  unfold tallyW
  split
  · exact .inr (.inl rfl)
  · split
    · exact .inr (.inr (.inl rfl))
    · split
      · exact .inr (.inr (.inr rfl))
      · exact .inl rfl
theorem tallyW_ok (xs : List PyData) (cs : List Str) (n : Int) : PyData.strOk (tallyW xs cs n) = true := by
  rcases tallyW_or xs cs n with h | h | h | h <;> rw [h] <;> decide +kernel
theorem dcnt_lt {cs : List Str} : (dcnt cs cs.length < cs.length) ↔ ¬ cs.Nodup := by
  have h := dcnt_le cs cs.length
  rw [← dcnt_all]
  omega
def newTally (C x a k ps : Addr) (n : Int) {K : PySem.W.Frag} : As K := inst x C [("test", .ref a), ("keys_told", .ref k), ("largest", .int n), ("sums", .ref ps), ("away", .int 0)]
def spTallyX (K : PySem.W.Frag) (C CT CK CS : Addr) : Sp := fun vs H Q E => ∃ (x a k : Addr) (xs : List PyData) (N : Nat) (cs : List Str) (n : Int) (L : List (As K)), vs = [.ref x, .ref a, .ref k, .int n] ∧ Ls.Sep (inst x C [] :: L) H ∧ im (.ref a) (.tuple xs) ∈ L ∧ im (.ref k) (.tuple (cs.map PyData.str)) ∈ L ∧ Raw N (.tuple xs) ∧ cs.length ≤ 50 ∧ (∀ z ∈ cs, z.length ≤ 1000) ∧
  (tallyW xs cs n = "" → ∀ ps H', Ls.Sep (newTally C x a k ps n :: ob ps (.dK []) :: L) H' → Q .non H') ∧ (tallyW xs cs n = "badtest" → Lets L CT "badtest" E) ∧ (tallyW xs cs n = "badkeys" → Lets L CK "badkeys" E) ∧ (tallyW xs cs n = "badsize" → Lets L CS "badsize" E)
def spTable0 (K : PySem.W.Frag) (C : Addr) : Sp := fun vs H Q _ => ∃ (x a k ps : Addr) (n : Int) (L : List (As K)), vs = [.ref x] ∧ Ls.Sep L H ∧ newTally C x a k ps n ∈ L ∧ ob ps (.dK []) ∈ L ∧ ∀ p H', Ls.Sep (Ls.ld p [] :: L) H' → Q (.ref p) H'
def spTally0 (K : PySem.W.Frag) (C : Addr) : Sp := fun vs H Q _ => ∃ (x a k ps : Addr) (n : Int) (L : List (As K)), vs = [.ref x] ∧ Ls.Sep L H ∧ newTally C x a k ps n ∈ L ∧ ob ps (.dK []) ∈ L ∧ ∀ H', Ls.Sep L H' → Q (.int 0) H'
end Ls
namespace Lw
open PySem PySem.Spec PyProof.Rows L2 Ls LamX
theorem okX_Tally___init__ {P : Program} {w : World} {K : PySem.W.Frag} {mg : Str → Option Value} {base : Heap} (E : Env K mg w) : FnOk P w K mg base (L2.CX P w) 15 E.a_Tally___init__ E.fd_Tally___init__ ["self", "test", "keys", "most"] (spTallyX K E.C_Tally E.C_BadTest E.C_BadKeys E.C_BadSize) := by
  refine E.F_Tally___init__.ok sc_Tally___init__ (fun vs H Q E h => ?_) (fun cdv A outer s H vs Q E' hr h => ?_)
  · walk_at "hl"
  · have hu := huOf hr
    have G_look_test := okX_look_test (P := P) (w := w) (base := base) E
    have hr_look_test := hr.mono (show 14 ≤ 14 by decide)
    have b_look_test := b_look_test E
    have G_is_name := ok_is_name (P := P) (w := w) (base := base) E
    have hr_is_name := hr.mono (show 1 ≤ 14 by decide)
    have b_is_name := b_is_name E
    have GI_BadKeys := okI_BadKeys (P := P) (w := w) (base := base) E
    have hrI_BadKeys := hr.mono (show 3 ≤ 14 by decide)
    have bI_BadKeys := bI_BadKeys E
    have GI_BadSize := okI_BadSize (P := P) (w := w) (base := base) E
    have hrI_BadSize := hr.mono (show 3 ≤ 14 by decide)
    have bI_BadSize := bI_BadSize E
    have hcl_Tally := E.cl_Tally
    have hna_Tally_test := E.na_Tally_test
    have hna_Tally_keys_told := E.na_Tally_keys_told
    have hna_Tally_largest := E.na_Tally_largest
    have hna_Tally_sums := E.na_Tally_sums
    have hna_Tally_away := E.na_Tally_away
    obtain ⟨x, a, k, xs, N, cs, n, L, rfl, hS, hma, hmk, hr', hcl, hcz, q, qt, qk, qs⟩ := h
    refine ⟨_, (pss_cons (ps_expr (pe_call G_look_test hr_look_test rfl E.g_look_test E.F_look_test.kp b_look_test .nil (passes_call (takes_of rfl rfl rfl rfl) fun _ _ _ _ h => h) (pa_cons (pv 1) pa_nil)))
(pss_cons (ps_if (PW.pt (pw_or (pt_cmpR (op_gt) (pe_callB (call_lenU K rfl) (by rfl) E.n_len boot_len (pa_cons (pv 2) pa_nil)) (pe_gc rfl E.c_MOST_FIELDS) (nomark _)) (pw_or (pt_not (pt_val (pe_callB (cr_allU K rfl rfl) (by rfl) E.n_all boot_all (pa_cons (pe_lc (own := [("key", 4)]) rfl sc_Tally___init__.nd (pi_seqU K rfl (pv 2)) (blkOk_by (N := ["self", "test", "keys", "most", "key"]) (sc := defScope s_Tally___init__) (by decide +kernel)) (fun _ _ _ _ _ => (pg_name (i := 4) sc_Tally___init__.nd rfl (Or.inl rfl))) (fun _ _ _ _ _ => pts_nil) (fun _ _ _ _ _ => (pe_call G_is_name hr_is_name rfl E.g_is_name E.F_is_name.kp b_is_name .nil pass0 (pa_cons (pv 4) pa_nil)))) pa_nil)))) (pw_or1 (pt_cmpR (op_lt) (pe_lenSetT K rfl rfl E.n_len rfl E.n_set (pv 2)) (pe_callB (call_lenU K rfl) (by rfl) E.n_len boot_len (pa_cons (pv 2) pa_nil)) (nomark _)))))) (pss_one (ps_raise rfl (takes_of rfl rfl rfl rfl) (pmk_oex0 E.o_BadKeys E.i_BadKeys E.t_BadKeys GI_BadKeys hrI_BadKeys bI_BadKeys .nil pass0 rfl E.g_BadKeys))) pss_nil)
(pss_cons (ps_if (pt_not (pt_chain op_le op_le pe_int (pv 3) (pe_gc rfl E.c_LARGEST))) (pss_one (ps_raise rfl (takes_of rfl rfl rfl rfl) (pmk_oex0 E.o_BadSize E.i_BadSize E.t_BadSize GI_BadSize hrI_BadSize bI_BadSize .nil pass0 rfl E.g_BadSize))) pss_nil)
(pss_cons (kSF K rfl (ps_fld (pv 0) (pv 1) rfl))
(pss_cons (kSF K rfl (ps_fld (pv 0) (pv 2) rfl))
(pss_cons (kSF K rfl (ps_fld (pv 0) (pv 3) rfl))
(pss_cons (kSF K rfl (ps_fld (pv 0) pe_dnewK rfl))
(pss_one (kSF K rfl (ps_fld (pv 0) pe_int rfl)))))))))), ?_⟩
    refine k_body (s1 := some _ :: some _ :: some _ :: some _ :: [none]) rfl ?_
    walk_at "s"
    refine ⟨a, xs, N, _, rfl, hS, by walk_at "mem", hr', fun ht H hS => ?_, fun ht => ?_⟩
    · have ek : ¬ KeysOk cs → tallyW xs cs n = "badkeys" := fun hk => by
        unfold tallyW
        rw [if_neg (fun z => z ht), if_pos hk]
      walk_at "s"
      simp only [List.length_map]
      by_cases h4 : 4 < cs.length
      · rw [if_pos (decide_eq_true (by omega))]
        walk_at "s"
        exact raise_lets E.o_BadKeys E.w_BadKeys hS ((qk (ek fun z => by have := z.1; omega)).sub (by walk_at "sub"))
      rw [if_neg (by rw [decide_eq_false (by omega)]; exact Bool.false_ne_true)]
      walk_at "s"
      refine lc_flat (zs := cs) (fun z => [PyData.bool (decide (IsNm z))]) hS (fun acc => wk_imm (f := PyData.str) (by walk_at "mem")) (fun j z acc hz hk _ la => ?_) (fun H hS => ?_)
      · clear hS
        have hj := (List.getElem?_eq_some_iff.mp hz).1
        have hzl := hcz z (List.mem_of_getElem? hz)
        walk_at "gi"
        walk_at "ls"
        refine ⟨z, _, rfl, by omega, hS, fun H hS => ?_⟩
        exact lc_keep hS (.bl _) (by walk_at "sub") (by rw [sizeLine_eq]; omega) (hk _ rfl)
      rw [flat_map (fun z : Str => PyData.bool (decide (IsNm z)))] at hS
      walk_at "s"
      refine k_allS hS (by walk_at "mem") ?_
      by_cases h5 : ∀ z ∈ cs, IsNm z
      · rw [show cs.all (fun z => decide (IsNm z)) = true from List.all_eq_true.mpr fun z hz => decide_eq_true (h5 z hz)]
        walk_at "s"
        refine k_lensetT ?_
        walk_at "s"
        obtain ⟨k', ys, e', g1, g2⟩ := im_tup (hS.imm (v := .ref k) (d := .tuple (cs.map PyData.str)) (by walk_at "mem"))
        cases e'
        cases ims_str g2
        refine ⟨k, cs, rfl, g1, by omega, ?_⟩
        clear g1 g2
        walk_at "s"
        simp only [List.length_map]
        by_cases h6 : cs.Nodup
        · rw [if_neg (by rw [decide_eq_false (fun z => dcnt_lt.mp (Int.ofNat_lt.mp z) h6)]; exact Bool.false_ne_true)]
          have hk : KeysOk cs := ⟨by omega, h5, h6⟩
          have es : ¬ (1 ≤ n ∧ n ≤ 64) → tallyW xs cs n = "badsize" := fun hn => by
            unfold tallyW
            rw [if_neg (fun z => z ht), if_neg (fun z => z hk), if_pos hn]
          walk_at "s"
          by_cases b1 : 1 ≤ n
          · rw [if_pos (decide_eq_true b1)]
            walk_at "s"
            by_cases b2 : n ≤ 64
            · rw [if_neg (by rw [decide_eq_true b2]; exact Bool.false_ne_true)]
              walk_at "s"
              have ew : tallyW xs cs n = "" := by
                unfold tallyW
                rw [if_neg (fun z => z ht), if_neg (fun z => z hk), if_neg (fun z => z ⟨b1, b2⟩)]
              exact q ew p _ (Sub.ok (N := ob p (.dK []) :: Ls.ld _ _ :: newTally E.C_Tally x a k p n :: L) (by walk_at "sub") hS)
            · rw [if_pos (by rw [decide_eq_false b2]; rfl)]
              walk_at "s"
              exact raise_lets E.o_BadSize E.w_BadSize hS ((qs (es fun z => b2 z.2)).sub (by walk_at "sub"))
          · rw [if_neg (by rw [decide_eq_false b1]; exact Bool.false_ne_true)]
            walk_at "s"
            exact raise_lets E.o_BadSize E.w_BadSize hS ((qs (es fun z => b1 z.1)).sub (by walk_at "sub"))
        · rw [if_pos (decide_eq_true (Int.ofNat_lt.mpr (dcnt_lt.mpr h6)))]
          walk_at "s"
          exact raise_lets E.o_BadKeys E.w_BadKeys hS ((qk (ek fun z => h6 z.2.2)).sub (by walk_at "sub"))
      · rw [show cs.all (fun z => decide (IsNm z)) = false from Bool.eq_false_iff.mpr fun e => h5 fun z hz => of_decide_eq_true (List.all_eq_true.mp e z hz)]
        walk_at "s"
        exact raise_lets E.o_BadKeys E.w_BadKeys hS ((qk (ek fun z => h5 z.2.1)).sub (by walk_at "sub"))
    · have ew : tallyW xs cs n = "badtest" := by unfold tallyW; rw [if_pos ht]
      exact (qt ew).sub (by walk_at "sub")
theorem ok_Tally_table {P : Program} {w : World} {K : PySem.W.Frag} {mg : Str → Option Value} {base : Heap} (E : Env K mg w) : FnOk P w K mg base CX0 4 E.a_Tally_table E.fd_Tally_table ["self"] (spTable0 K E.C_Tally) := by
  refine E.F_Tally_table.ok sc_Tally_table (fun vs H Q E h => ?_) (fun cdv A outer s H vs Q E' hr h => ?_)
  · walk_at "hl"
  · have hu := huOf hr
    have hcl_Tally := E.cl_Tally
    have hna_Tally_sums := E.na_Tally_sums
    obtain ⟨x, a, k, ps, n, L, rfl, hS, hm, hp, q⟩ := h
    refine ⟨_, PSs.nox (pss_one (ps_ret (pe_lc (own := [("key", 1)]) rfl sc_Tally_table.nd (pi_seqU K rfl (pe_callB (call_sortedDI rfl) (by rfl) E.n_sorted boot_sorted (pa_cons (kFld K rfl (pe_fld (pv 0) rfl)) pa_nil))) (blkOk_by (N := ["self", "key"]) (sc := defScope s_Tally_table) (by decide +kernel)) (fun _ _ _ _ _ => (pg_name (i := 1) sc_Tally_table.nd rfl (Or.inl rfl))) (fun _ _ _ _ _ => pts_nil) (fun _ _ _ _ _ => (pe_tup (pa_cons (pv 1) (pa_cons (pe_dget (hu1 hu) (kFld K rfl (pe_fld (pv 0) rfl)) (pv 1) (fun _ _ => rfl)) pa_nil))))))), ?_⟩
    refine k_body (s1 := some _ :: [none]) rfl ?_
    unfold newTally at hm
    walk_at "s"
    refine ⟨ps, [], [], rfl, .inl (hS.obm hp), rfl, by decide, fun ys p hy _ hn => ?_⟩
    obtain rfl := List.perm_nil.mp hy
    replace hS := hS.newD (p := p) (xs := []) (ds := []) hn .nil
    obtain ⟨pe, epe⟩ : ∃ pe, pe = p := ⟨_, rfl⟩
    rw [← epe] at hS ⊢
    clear epe
    walk_at "s"
    refine lc_flat (zs := ([] : List Int)) (fun _ => [PyData.none]) hS (fun acc => wk_ldm (f := PyData.int) (by show Ls.ld pe [] ∈ _; walk_at "mem")) (fun j z acc hz hk _ la => by simp at hz) (fun H hS => ?_)
    exact q _ _ (Sub.ok (N := Ls.ld p [] :: Ls.ld pe [] :: L) (by walk_at "sub") hS)
theorem ok_Tally_dropped {P : Program} {w : World} {K : PySem.W.Frag} {mg : Str → Option Value} {base : Heap} (E : Env K mg w) : FnOk P w K mg base CX0 2 E.a_Tally_dropped E.fd_Tally_dropped ["self"] (spTally0 K E.C_Tally) := by
  refine E.F_Tally_dropped.ok sc_Tally_dropped (fun vs H Q E h => ?_) (fun cdv A outer s H vs Q E' hr h => ?_)
  · walk_at "hl"
  · have hu := huOf hr
    have hcl_Tally := E.cl_Tally
    have hna_Tally_away := E.na_Tally_away
    obtain ⟨x, a, k, ps, n, L, rfl, hS, hm, hp, q⟩ := h
    refine ⟨_, PSs.nox (pss_one (ps_ret (kFld K rfl (pe_fld (pv 0) rfl)))), ?_⟩
    refine k_body (s1 := some _ :: []) rfl ?_
    unfold newTally at hm
    walk_at "s"
    exact q _ hS
theorem ok_Tally___len__ {P : Program} {w : World} {K : PySem.W.Frag} {mg : Str → Option Value} {base : Heap} (E : Env K mg w) : FnOk P w K mg base CX0 2 E.a_Tally___len__ E.fd_Tally___len__ ["self"] (spTally0 K E.C_Tally) := by
  refine E.F_Tally___len__.ok sc_Tally___len__ (fun vs H Q E h => ?_) (fun cdv A outer s H vs Q E' hr h => ?_)
  · walk_at "hl"
  · have hu := huOf hr
    have hcl_Tally := E.cl_Tally
    have hna_Tally_sums := E.na_Tally_sums
    obtain ⟨x, a, k, ps, n, L, rfl, hS, hm, hp, q⟩ := h
    refine ⟨_, PSs.nox (pss_one (ps_ret (pe_callB (call_lenU K rfl) (by rfl) E.n_len boot_len (pa_cons (kFld K rfl (pe_fld (pv 0) rfl)) pa_nil)))), ?_⟩
    refine k_body (s1 := some _ :: []) rfl ?_
    unfold newTally at hm
    walk_at "s"
    exact q _ hS
end Lw
-- own part: ts12
namespace Ls
open PySem PySem.Spec PyProof.Rows L2 TL
/-! ### events that pass: the plain law -/
/-- a field's number: the first one of that name -/
def spotF : List Fd → Str → Option Nat
  | [], _ => none
  | f :: fs, x => if f.1 = x then some 0 else (spotF fs x).map (· + 1)
/-- a field's value -/
def valF (fs : List Fd) (us : List Int) (x : Str) : Option Int := (spotF fs x).bind fun i => us[i]?
def Tst.pass (k : Kd) (us : List Int) : Tst → Bool
  | .all => true
  | .is n => decide (k.1 = n)
  | .less f c => match valF k.2 us f with
    | none => false
    | some u => decide (u < c)
  | .same f c => match valF k.2 us f with
    | none => false
    | some u => decide (u = c)
  | .no a => !a.pass k us
  | .an a b => a.pass k us && b.pass k us
  | .or a b => a.pass k us || b.pass k us
theorem spotF_lt : ∀ {fs : List Fd} {x : Str} {i : Nat}, spotF fs x = some i → i < fs.length ∧ (fs.map (·.1))[i]? = some x
  | f :: fs, x, i, h => by
    unfold spotF at h
    split at h
    · rename_i e
      cases h
      exact ⟨Nat.succ_pos _, by rw [List.map_cons, e]; rfl⟩
    · obtain ⟨j, hj, rfl⟩ := Option.map_eq_some_iff.mp h
      obtain ⟨h1, h2⟩ := spotF_lt hj
      exact ⟨Nat.succ_lt_succ h1, by rw [List.map_cons]; exact h2⟩
theorem spotF_none : ∀ {fs : List Fd} {x : Str}, spotF fs x = none ↔ x ∉ fs.map (·.1)
  | [], x => ⟨fun _ m => (List.not_mem_nil m).elim, fun _ => rfl⟩
  | f :: fs, x => by
    unfold spotF
    rw [List.map_cons]
    by_cases e : f.1 = x
    · rw [if_pos e]
      exact ⟨fun h => (Option.some_ne_none _ h).elim, fun h => (h (e ▸ List.mem_cons_self)).elim⟩
    · rw [if_neg e, Option.map_eq_none_iff, spotF_none (fs := fs)]
      exact ⟨fun h m => by
        rcases List.mem_cons.mp m with m | m
        · exact e m.symm
        · exact h m, fun h m => h (List.mem_cons_of_mem _ m)⟩
theorem spotF_first : ∀ {fs : List Fd} {x : Str} {i : Nat}, spotF fs x = some i → ∀ j, j < i → (fs.map (·.1))[j]? ≠ some x
  | f :: fs, x, i, h, j, hj => by
    unfold spotF at h
    split at h
    · cases h
      omega
    · rename_i e
      obtain ⟨i', hi, rfl⟩ := Option.map_eq_some_iff.mp h
      rw [List.map_cons]
      cases j with
      | zero => exact fun y => e (Option.some.inj y)
      | succ j =>
        rw [List.getElem?_cons_succ]
        exact spotF_first hi j (by omega)
section
variable {K : PySem.W.Frag} {L : List (As K)} {H : Hp} {Q : VK} {a : Addr} {v : V}
theorem k_indexS {zs : List Str} {z : Str} {j : Nat} (h : Ls.Sep L H) (m : Ls.ld a (zs.map PyData.str) ∈ L) (e : zs[j]? = some z) (n : ∀ i, i < j → zs[i]? ≠ some z) (q : Q (.int j) H) : rIndex K (.ref a) [.str z] H Q := by
  obtain ⟨xs, h1, h2⟩ := h.ldm m
  cases ims_str h2
  refine ⟨a, _, .str z, j, .str z, rfl, rfl, sql_of h1, rfl, flat_strs zs, by rw [List.getElem?_map, e]; rfl, decide_eq_true rfl, fun i y hi hy => ?_, q⟩
  rw [List.getElem?_map] at hy
  obtain ⟨s, hs, rfl⟩ := Option.map_eq_some_iff.mp hy
  exact decide_eq_false fun c => n i hi (by rw [hs, c])
theorem im_isD {t : Tst} (h : Ls.Sep L H) (m : im v t.D ∈ L) : ∃ a, v = .ref a := by
  obtain ⟨ds, e⟩ := t.D_tup
  rw [e] at m
  exact im_isRef h m
end
def oiF (o : Option Nat) : V := match o with
  | none => .non
  | some i => .int (i : Nat)
def spPlace (K : PySem.W.Frag) (C : Addr) : Sp := fun vs H Q _ => ∃ (x : Addr) (k : Kd) (f : Str) (L : List (As K)), vs = [.ref x, .str f] ∧ Ls.Sep L H ∧ kindF C x k ∈ L ∧ k.2.length ≤ 4 ∧ ∀ H', Ls.Sep L H' → Q (oiF (spotF k.2 f)) H'
def spLeafHolds (K : PySem.W.Frag) (C : Addr) : Sp := fun vs H Q _ => ∃ (a x v : Addr) (t : Tst) (k : Kd) (us : List Int) (L : List (As K)), vs = [.ref a, .ref x, .ref v] ∧ t.deep = 1 ∧ Ls.Sep L H ∧ im (.ref a) t.D ∈ L ∧ kindF C x k ∈ L ∧ im (.ref v) (.tuple (us.map PyData.int)) ∈ L ∧ k.2.length ≤ 4 ∧ us.length = k.2.length ∧ ∀ H', Ls.Sep L H' → Q (.bl (t.pass k us)) H'
def spPasses (K : PySem.W.Frag) (C : Addr) (n : Nat) : Sp := fun vs H Q _ => ∃ (a x v : Addr) (t : Tst) (k : Kd) (us : List Int) (L : List (As K)), vs = [.ref a, .ref x, .ref v] ∧ t.deep ≤ n + 1 ∧ Ls.Sep L H ∧ im (.ref a) t.D ∈ L ∧ kindF C x k ∈ L ∧ im (.ref v) (.tuple (us.map PyData.int)) ∈ L ∧ k.2.length ≤ 4 ∧ us.length = k.2.length ∧ ∀ H', Ls.Sep L H' → Q (.bl (t.pass k us)) H'
end Ls
namespace Lw
open PySem PySem.Spec PyProof.Rows L2 Ls
end Lw
-- own part: v1
namespace Ls
open PySem PySem.Spec PyProof.Rows L2 LamX
/-- the first value that is none of its field, or the lesser count where the counts differ -/
def needV : Nat → List Fd → List Int → Option Nat
  | _, [], [] => none
  | n, f :: fs, u :: us => if f.2.1 ≤ u ∧ u ≤ f.2.2 then needV (n + 1) fs us else some n
  | n, _, _ => some n
theorem needV_same {n : Nat} : needV n [] [] = none := rfl
theorem needV_end {n : Nat} : ∀ {fs : List Fd} {us : List Int}, fs.length ≠ us.length → fs = [] ∨ us = [] → needV n fs us = some n
  | [], [], h, _ => absurd rfl h
  | [], _ :: _, _, _ => rfl
  | _ :: _, [], _, _ => rfl
  | _ :: _, _ :: _, _, h => by rcases h with h | h <;> cases h
def spNeedX (K : PySem.W.Frag) (C CB : Addr) : Sp := fun vs H Q E => ∃ (x v : Addr) (k : Kd) (us : List Int) (L : List (As K)), vs = [.ref x, .ref v] ∧ Ls.Sep L H ∧ kindF C x k ∈ L ∧ im (.ref v) (.tuple (us.map PyData.int)) ∈ L ∧ k.2.length ≤ 4 ∧ us.length ≤ 100 ∧
  (needV 0 k.2 us = none → ∀ H', Ls.Sep L H' → Q .non H') ∧ ∀ i, needV 0 k.2 us = some i → LetsA L CB "at" "badvalue" (.int (i : Nat)) E
end Ls
namespace Lw
open PySem PySem.Spec PyProof.Rows L2 Ls LamX

end Lw
-- own part: ts13
namespace Ls
open PySem PySem.Spec PyProof.Rows L2 TL
def InF (fs : List Fd) (us : List Int) : Prop := us.length = fs.length ∧ ∀ (i : Nat) (f : Fd) (u : Int), fs[i]? = some f → us[i]? = some u → f.2.1 ≤ u ∧ u ≤ f.2.2
theorem needV_inF : ∀ {fs : List Fd} {us : List Int} {n : Nat}, needV n fs us = none ↔ InF fs us
  | [], [], n => Iff.intro (fun _ => ⟨rfl, fun i f u h => by simp at h⟩) (fun _ => rfl)
  | [], u :: us, n => Iff.intro (fun h => (by cases h)) (fun h => absurd h.1 (Nat.succ_ne_zero _))
  | f :: fs, [], n => Iff.intro (fun h => (by cases h)) (fun h => absurd h.1.symm (Nat.succ_ne_zero _))
  | f :: fs, u :: us, n => by
    rw [needV]
    by_cases c : f.2.1 ≤ u ∧ u ≤ f.2.2
    · rw [if_pos c, needV_inF (fs := fs) (us := us) (n := n + 1)]
      refine Iff.intro (fun ⟨h1, h2⟩ => ⟨by rw [List.length_cons, List.length_cons, h1], fun i g v hg hv => ?_⟩) (fun ⟨h1, h2⟩ => ⟨Nat.succ.inj h1, fun i g v hg hv => h2 (i + 1) g v hg hv⟩)
      cases i with
      | zero => cases hg; cases hv; exact c
      | succ i => exact h2 i g v hg hv
    · rw [if_neg c]
      exact Iff.intro (fun h => (by cases h)) (fun h => (c (h.2 0 f u rfl rfl)).elim)
def spHoldsX (K : PySem.W.Frag) (C CB CV : Addr) : Sp := fun vs H Q E => ∃ (a x v : Addr) (xs : List PyData) (N : Nat) (k : Kd) (us : List Int) (L : List (As K)), vs = [.ref a, .ref x, .ref v] ∧ Ls.Sep L H ∧ im (.ref a) (.tuple xs) ∈ L ∧ kindF C x k ∈ L ∧ im (.ref v) (.tuple (us.map PyData.int)) ∈ L ∧ Raw N (.tuple xs) ∧ k.2.length ≤ 4 ∧ us.length ≤ 100 ∧
  (∀ t : Tst, t.D = .tuple xs → t.ok → t.deep ≤ 5 → t.parts ≤ 15 → needV 0 k.2 us = none → ∀ H', Ls.Sep L H' → Q (.bl (t.pass k us)) H') ∧ (¬ IsT (.tuple xs) → Lets L CB "badtest" E) ∧ (IsT (.tuple xs) → ∀ i, needV 0 k.2 us = some i → LetsA L CV "at" "badvalue" (.int (i : Nat)) E)
def spLPasses (K : PySem.W.Frag) (n : Nat) : Sp := fun vs H Q _ => ∃ (a f v : Addr) (t : Tst) (k : Kd) (us : List Int) (L : List (As K)), vs = [.ref a, .str k.1, .ref f, .ref v] ∧ t.deep ≤ n + 1 ∧ Ls.Sep L H ∧ im (.ref a) t.D ∈ L ∧ im (.ref f) (fdsD k.2) ∈ L ∧ im (.ref v) (.tuple (us.map PyData.int)) ∈ L ∧ k.2.length ≤ 4 ∧ us.length = k.2.length ∧ ∀ H', Ls.Sep L H' → Q (.bl (t.pass k us)) H'
/-- the numbers of the fields of a name -/
def spotsF (fs : List Fd) (x : Str) (n : Nat) : List Nat := (List.range n).filter fun i => decide ((fs.map (·.1))[i]? = some x)
theorem spots_head (fs : List Fd) (x : Str) : (spotsF fs x fs.length).head? = spotF fs x := by
  unfold spotsF
  rw [List.head?_filter]
  cases e : spotF fs x with
  | none =>
    rw [List.find?_eq_none]
    intro i hi
    have hn := spotF_none.mp e
    rw [decide_eq_true_eq]
    intro h
    exact hn (List.mem_of_getElem? h)
  | some j =>
    obtain ⟨h1, h2⟩ := spotF_lt e
    rw [List.find?_range_eq_some]
    exact ⟨decide_eq_true h2, List.mem_range.mpr h1, fun i hi => by rw [decide_eq_false (spotF_first e i hi)]; rfl⟩
theorem spotsF_succ (fs : List Fd) (x : Str) (n : Nat) : spotsF fs x (n + 1) = spotsF fs x n ++ (if (fs.map (·.1))[n]? = some x then [n] else []) := by
  unfold spotsF
  rw [List.range_succ, List.filter_append]
  congr 1
  by_cases h : (fs.map (·.1))[n]? = some x
  · rw [if_pos h, List.filter_cons, if_pos (decide_eq_true h)]
    rfl
  · rw [if_neg h, List.filter_cons, if_neg (by rw [decide_eq_false h]; exact Bool.false_ne_true)]
    rfl
theorem spotsF_len (fs : List Fd) (x : Str) (n : Nat) : (spotsF fs x n).length ≤ n := by
  have := List.length_filter_le (fun i => decide ((fs.map (·.1))[i]? = some x)) (List.range n)
  rw [List.length_range] at this
  exact this
end Ls
namespace Lw
open PySem PySem.Spec PyProof.Rows L2 Ls
end Lw
-- own part: ts14
namespace Ls
open PySem PySem.Spec PyProof.Rows L2 TL
def spValueB (K : PySem.W.Frag) : Sp := fun vs H Q _ => ∃ (d f : Addr) (fd : Fd) (L : List (As K)), vs = [.ref d, .ref f] ∧ Ls.Sep L H ∧ dr d ∈ L ∧ im (.ref f) (fdD fd) ∈ L ∧ GoodF fd ∧ ∀ (n : Int) H', fd.2.1 ≤ n → n ≤ fd.2.2 → Ls.Sep L H' → Q (.int n) H'
def spKindOf (K : PySem.W.Frag) : Sp := fun vs H Q _ => ∃ (d : Addr) (L : List (As K)), vs = [.ref d] ∧ Ls.Sep L H ∧ dr d ∈ L ∧ ∀ p (k : Kd) H', GoodK k → Ls.Sep (im (.ref p) (kdD k) :: L) H' → Q (.ref p) H'
def spNamesOf (K : PySem.W.Frag) : Sp := fun vs H Q _ => ∃ (d f : Addr) (fs : List Fd) (L : List (As K)), vs = [.ref d, .ref f] ∧ Ls.Sep L H ∧ dr d ∈ L ∧ im (.ref f) (fdsD fs) ∈ L ∧ GoodFs fs ∧ ∀ p (zs : List Str) H', 0 < zs.length → zs.length ≤ 10 → (∀ z ∈ zs, IsNm z) → Ls.Sep (Ls.ld p (zs.map PyData.str) :: L) H' → Q (.ref p) H'
def spLTest (K : PySem.W.Frag) : Sp := fun vs H Q _ => ∃ (d pn pk : Addr) (L : List (As K)), vs = [.ref d, .ref pn, .ref pk] ∧ Ls.Sep L H ∧ dr d ∈ L ∧ NmsL pn L ∧ NmsL pk L ∧ ∀ p (t : Tst) H', t.ok → t.deep ≤ 5 → t.parts ≤ 15 → Ls.Sep (im (.ref p) t.D :: L) H' → Q (.ref p) H'
/-- the tuples in a datum, itself among them, but empty ones that stand outermost alone -/
def anyL : Nat → PyData → List PyData
  | n + 1, .tuple xs => (if xs = [] then [] else [.tuple xs]) ++ (xs.drop 1).flatMap (anyL n)
  | _, _ => []
theorem anyL_tup (n : Nat) (xs : List PyData) : anyL (n + 1) (.tuple xs) = (if xs = [] then [] else [.tuple xs]) ++ (xs.drop 1).flatMap (anyL n) := by rw [anyL]
theorem anyL_raw {c : Nat} : ∀ {n : Nat} {d : PyData}, RawC c n d → ∀ e ∈ anyL n d, ∃ z r m, e = .tuple (.str z :: r) ∧ m < n ∧ r.length < c ∧ ∀ y ∈ r, RawC c m y
  | 0, d, h, e, he => by cases d <;> first | exact h.elim | (unfold anyL at he; cases he)
  | n + 1, .tuple xs, h, e, he => by
    rw [anyL_tup] at he
    rcases List.mem_append.mp he with he | he
    · split at he
      · cases he
      · rename_i hx
        rw [List.mem_singleton.mp he]
        cases xs with
        | nil => exact (hx rfl).elim
        | cons x r =>
          obtain ⟨z, rfl⟩ := h.2.1 x r rfl
          exact ⟨z, r, n, rfl, Nat.lt_succ_self n, by have := h.1; simp at this; omega, fun y hy => h.2.2 y (List.mem_cons_of_mem _ hy)⟩
    · obtain ⟨x, hx, he⟩ := List.mem_flatMap.mp he
      obtain ⟨z, r, m, h1, h2, h3⟩ := anyL_raw (h.2.2 x (List.mem_of_mem_drop hx)) e he
      exact ⟨z, r, m, h1, by omega, h3⟩
  | n + 1, .str z, h, e, he => by unfold anyL at he; cases he
  | n + 1, .int z, h, e, he => by unfold anyL at he; cases he
  | n + 1, .none, h, e, he => h.elim
  | n + 1, .bool _, h, e, he => h.elim
  | n + 1, .list _, h, e, he => h.elim
  | n + 1, .dict _, h, e, he => h.elim
theorem anyL_atom {n : Nat} {d : PyData} (h : ∀ xs, d ≠ .tuple xs) : anyL n d = [] := by
  unfold anyL
  split
  · exact (h _ rfl).elim
  · rfl
theorem flat_le {α β : Type} {f : α → List β} {b : Nat} : ∀ {xs : List α}, (∀ x ∈ xs, (f x).length ≤ b) → (xs.flatMap f).length ≤ b * xs.length
  | [], _ => Nat.zero_le _
  | x :: xs, h => by
    have h1 := h x List.mem_cons_self
    have h2 := flat_le fun y hy => h y (List.mem_cons_of_mem _ hy)
    rw [List.flatMap_cons, List.length_append, List.length_cons, Nat.mul_succ]
    omega
theorem four_pos (n : Nat) : 1 ≤ 4 ^ n := Nat.pos_of_ne_zero (by simp)
theorem anyL_len : ∀ {n : Nat} {d : PyData}, RawC 4 n d → (anyL n d).length ≤ 4 ^ n
  | 0, d, h => by unfold anyL; exact Nat.zero_le _
  | n + 1, .tuple xs, h => by
    rw [anyL_tup, List.length_append]
    have h1 := flat_le (f := anyL n) (b := 4 ^ n) (xs := xs.drop 1) fun x hx => anyL_len (h.2.2 x (List.mem_of_mem_drop hx))
    have h2 : (xs.drop 1).length ≤ 3 := by rw [List.length_drop]; have := h.1; omega
    have h3 : 4 ^ n * (xs.drop 1).length ≤ 4 ^ n * 3 := Nat.mul_le_mul_left _ h2
    have h4 : (if xs = [] then ([] : List PyData) else [.tuple xs]).length ≤ 1 := by split <;> simp
    have h5 : 1 ≤ 4 ^ n := four_pos n
    rw [Nat.pow_succ]
    omega
  | n + 1, .str z, h => by unfold anyL; exact Nat.zero_le _
  | n + 1, .int z, h => by unfold anyL; exact Nat.zero_le _
  | n + 1, .none, h => h.elim
  | n + 1, .bool _, h => h.elim
  | n + 1, .list _, h => h.elim
  | n + 1, .dict _, h => h.elim
def spNear (K : PySem.W.Frag) : Sp := fun vs H Q _ => ∃ (d a f : Addr) (xs : List PyData) (fs : List Fd) (L : List (As K)), vs = [.ref d, .ref a, .ref f] ∧ Ls.Sep L H ∧ dr d ∈ L ∧ im (.ref a) (.tuple xs) ∈ L ∧ im (.ref f) (fdsD fs) ∈ L ∧ RawC 4 9 (.tuple xs) ∧ GoodFs fs ∧ ∀ p us H', InF fs us → Ls.Sep (im (.ref p) (.tuple (us.map PyData.int)) :: L) H' → Q (.ref p) H'
def spLAny (K : PySem.W.Frag) (n : Nat) : Sp := fun vs H Q _ => ∃ (a : Addr) (xs : List PyData) (L : List (As K)), vs = [.ref a] ∧ n ≤ 9 ∧ Ls.Sep L H ∧ im (.ref a) (.tuple xs) ∈ L ∧ RawC 4 (n + 1) (.tuple xs) ∧ ∀ p H', Ls.Sep (Ls.ld p (anyL (n + 1) (.tuple xs)) :: L) H' → Q (.ref p) H'
end Ls
namespace Lw
open PySem PySem.Spec PyProof.Rows L2 Ls
theorem ok__law_test {P : Program} {w : World} {K : PySem.W.Frag} {mg : Str → Option Value} {base : Heap} (E : Env K mg w) : FnOk P w K mg base CX0 13 E.a__law_test E.fd__law_test ["_law_d", "_law_names", "_law_kinds"] (spLTest K) := by
  refine E.F__law_test.ok sc__law_test (fun vs H Q E h => ?_) (fun cdv A outer s H vs Q E' hr h => ?_)
  · walk_at "hl"
  · have hu := huOf hr
    have G__law_tree := ok__law_tree (P := P) (w := w) (base := base) E 6
    have hr__law_tree := hr.mono (show 11 ≤ 12 by decide)
    have b__law_tree := b__law_tree E
    have G__law_pick := ok__law_pick (P := P) (w := w) (base := base) E
    have hr__law_pick := hr.mono (show 1 ≤ 12 by decide)
    have b__law_pick := b__law_pick E
    have G__law_parts := ok__law_parts (P := P) (w := w) (base := base) E 9
    have hr__law_parts := hr.mono (show 10 ≤ 12 by decide)
    have b__law_parts := b__law_parts E
    have G__law_leaf := ok__law_leaf (P := P) (w := w) (base := base) E
    have hr__law_leaf := hr.mono (show 4 ≤ 12 by decide)
    have b__law_leaf := b__law_leaf E
    have hcl_Tally := E.cl_Tally
    obtain ⟨d, pn, pk, L, rfl, hS, hd, hn, hk, q⟩ := h
    refine ⟨_, PSs.nox (pss_cons (ps_set (i := 3) sc__law_test.nd rfl (Or.inl rfl) (pe_call G__law_tree hr__law_tree rfl E.g__law_tree E.F__law_tree.kp b__law_tree .nil pass0 (pa_cons (pv 0) (pa_cons (pe_op (op_addU K rfl) pe_int (pe_call G__law_pick hr__law_pick rfl E.g__law_pick E.F__law_pick.kp b__law_pick .nil pass0 (pa_cons (pv 0) (pa_cons pe_int pa_nil)))) (pa_cons (pv 1) (pa_cons (pv 2) pa_nil))))))
(pss_one (ps_ret (pe_join (pe_ifExp (pt_cmpR (op_lt) (pe_call G__law_parts hr__law_parts rfl E.g__law_parts E.F__law_parts.kp b__law_parts .nil pass0 (pa_cons (pv 3) pa_nil)) pe_int (nomark _)) (pv 3) (pe_tup (pa_cons pe_str (pa_cons (pe_call G__law_leaf hr__law_leaf rfl E.g__law_leaf E.F__law_leaf.kp b__law_leaf .nil pass0 (pa_cons (pv 0) (pa_cons (pv 1) (pa_cons (pv 2) pa_nil)))) pa_nil)))))))), ?_⟩
    refine k_body (s1 := some _ :: some _ :: some _ :: [none]) rfl ?_
    walk_at "s"
    walk_at "pk"
    intro r H hS r0 r1
    walk_at "s"
    refine ⟨d, pn, pk, 1 + r, _, rfl, by show 1 + r ≤ (5 : Nat) + 1; omega, hS, by walk_at "mem", hn, hk, fun pt t H hto htd hd2 hS => ?_⟩
    have h5 : t.deep ≤ 5 := by have := deep_pos t; omega
    walk_at "s"
    refine k_joinS (fun v (M : List (As K)) => ∃ (p : Addr) (u : Tst), v = .ref p ∧ u.ok ∧ u.deep ≤ 5 ∧ u.parts ≤ 15 ∧ M = im (.ref p) u.D :: L) ?_ ?_
    · walk_at "s"
      refine ⟨pt, t, _, rfl, by show t.deep ≤ 9; omega, hS, by walk_at "mem", fun H hS => ?_⟩
      walk_at "s"
      by_cases h16 : t.parts < 16
      · rw [if_pos (decide_eq_true (by omega))]
        walk_at "s"
        exact ⟨_, ⟨pt, t, rfl, hto, h5, by omega, rfl⟩, hS⟩
      · rw [if_neg (by rw [decide_eq_false (by omega)]; exact Bool.false_ne_true)]
        walk_at "s"
        refine ⟨d, pn, pk, _, rfl, hS, by walk_at "mem", hn.mono (fun A h => by walk_at "mem"), hk.mono (fun A h => by walk_at "mem"), fun p2 u H huo hu1 hS => ?_⟩
        walk_at "s"
        rename Addr => p3
        have hp : u.parts = 1 := by
          have := parts_deep u
          have := parts_pos u
          rw [hu1] at *
          omega
        exact ⟨_, ⟨p3, .no u, rfl, huo, by show u.deep + 1 ≤ 5; omega, by show u.parts + 1 ≤ 15; omega, rfl⟩, Sub.ok (by show Sub _ (im (V.ref _) (PyData.tuple [.str "not", u.D]) :: L); walk_at "sub") hS⟩
    · rintro _ M H ⟨p, u, rfl, huo, hu5, hup, rfl⟩ hS
      exact q p u _ huo hu5 hup hS
end Lw
-- own part: tl2
namespace Ls
open PySem PySem.Spec PyProof.Rows L2 LamX TL
instance {K : PySem.W.Frag} {C x a k ps : Addr} {n : Int} : NoTb (newTally C x a k ps n (K := K)) := inferInstanceAs (NoTb (inst x C _))
theorem nm_strK {z : Str} (h : IsNm z) : PyData.strOk z = true := by
  unfold PyData.strOk
  rw [← Array.all_toList, List.all_eq_true]
  intro c hc
  have := h.2.2 c hc
  exact decide_eq_true (by omega)
theorem okd_new : OkD 4 (.list [.list [], .int 0, .int 0, .bool false]) := by
  refine ⟨by show 4 ≤ 100000; decide, fun x hx => ?_⟩
  simp only [List.mem_cons, List.not_mem_nil, or_false] at hx
  rcases hx with rfl | rfl | rfl | rfl
  · exact ⟨by show 0 ≤ 100000; decide, fun y hy => by simp at hy⟩
  · trivial
  · trivial
  · trivial
theorem at_nat {α : Type} {xs : List α} {j : Nat} {x : α} (h : xs[j]? = some x) : atI xs (j : Int) = some x := by
  unfold atI
  rw [ixN_nat (List.getElem?_eq_some_iff.mp h).1]
  exact h
theorem at_lastJ {α : Type} {xs : List α} {x : α} (h : xs[xs.length - 1]? = some x) : atI xs (-1) = some x := by
  have hl := (List.getElem?_eq_some_iff.mp h).1
  unfold atI
  have e : ixN xs.length (-1) = some (xs.length - 1) := by
    unfold ixN
    simp
    omega
  rw [e]
  exact h
end Ls
namespace Lw
open PySem PySem.Spec PyProof.Rows L2 Ls LamX
theorem ok_law {P : Program} {w : World} {K : PySem.W.Frag} {mg : Str → Option Value} {base : Heap} (E : Env K mg w) {c Pt : Addr} {T : List (Addr × Str)} (hc : E.fd_law.code = .ref c) (TB : LamX.TabB base mg c Pt) (hmT : (Pt, lq_law ++ ("<lambda>" : Str)) ∈ T) (huT : ∀ p ∈ T, p.1 = Pt → p.2 = lq_law ++ ("<lambda>" : Str)) : FnOk P w K mg base (L2.CX P w) 20 E.a_law E.fd_law ["_law_script"] (spLaw K T) := by
  obtain ⟨oc, od, dV, kV, doc, pm, an, cdv, ct, osl, e, lk, hcd, _, _⟩ := E.F_law.ex
  rw [e] at lk hc ⊢
  change cdv = .ref c at hc
  subst hc
  refine fn_of lk hcd sc_law (fun vs H Q E h => ?_) (fun A outer s H vs Q E' hr h => ?_)
  · walk_at "hl"
  · have hu := huOf hr
    have G__law_begin := ok__law_begin (P := P) (w := w) (base := base) E
    have hr__law_begin := hr.mono (show 1 ≤ 19 by decide)
    have b__law_begin := b__law_begin E
    have G__law_words := ok__law_words (P := P) (w := w) (base := base) E
    have hr__law_words := hr.mono (show 4 ≤ 19 by decide)
    have b__law_words := b__law_words E
    have G__law_test := ok__law_test (P := P) (w := w) (base := base) E
    have hr__law_test := hr.mono (show 13 ≤ 19 by decide)
    have b__law_test := b__law_test E
    have G__law_of := ok__law_of E (ok__law_pick (P := P) (w := w) (base := base) E)
    have hr__law_of := hr.mono (show 2 ≤ 19 by decide)
    have b__law_of := b__law_of E
    have G__law_pick := ok__law_pick (P := P) (w := w) (base := base) E
    have hr__law_pick := hr.mono (show 1 ≤ 19 by decide)
    have b__law_pick := b__law_pick E
    have G__law_bent_test := ok__law_bent_test (P := P) (w := w) (base := base) E 8
    have hr__law_bent_test := hr.mono (show 13 ≤ 19 by decide)
    have b__law_bent_test := b__law_bent_test E
    have G__law_test_ok := ok__law_test_ok (P := P) (w := w) (base := base) E
    have hr__law_test_ok := hr.mono (show 13 ≤ 19 by decide)
    have b__law_test_ok := b__law_test_ok E
    have G__law_same := ok__law_same (P := P) (w := w) (base := base) E 4
    have hr__law_same := hr.mono (show 5 ≤ 19 by decide)
    have b__law_same := b__law_same E
    have G__law_far := ok__law_far (P := P) (w := w) (base := base) E
    have hr__law_far := hr.mono (show 2 ≤ 19 by decide)
    have b__law_far := b__law_far E
    have G_Tally___init__ := okX_Tally___init__ (P := P) (w := w) (base := base) E
    have hr_Tally___init__ := hr.mono (show 15 ≤ 19 by decide)
    have hrm_Tally := hr.mono (show 15 + 1 ≤ 19 by decide)
    have G_Tally_table := ok_Tally_table (P := P) (w := w) (base := base) E
    have hr_Tally_table := hr.mono (show 4 ≤ 19 by decide)
    have b_Tally_table := b_Tally_table E
    have G_Tally_dropped := ok_Tally_dropped (P := P) (w := w) (base := base) E
    have hr_Tally_dropped := hr.mono (show 2 ≤ 19 by decide)
    have b_Tally_dropped := b_Tally_dropped E
    have G_Tally___len__ := ok_Tally___len__ (P := P) (w := w) (base := base) E
    have hr_Tally___len__ := hr.mono (show 2 ≤ 19 by decide)
    have hrm_Tally___len__ := hr.mono (show 2 + 1 ≤ 19 by decide)
    have hrb_Tally := hr.mono (show 2 + 3 ≤ 19 by decide)
    have b_Tally___len__ := b_Tally___len__ E
    have G__law_odd_name := ok__law_odd_name (P := P) (w := w) (base := base) E
    have hr__law_odd_name := hr.mono (show 3 ≤ 19 by decide)
    have b__law_odd_name := b__law_odd_name E
    have G__law_is_name := ok__law_is_name (P := P) (w := w) (base := base) E
    have hr__law_is_name := hr.mono (show 1 ≤ 19 by decide)
    have b__law_is_name := b__law_is_name E
    have hcl_Tally := E.cl_Tally
    have kb_Tally___init____most := kb_Tally___init____most E
    obtain ⟨a, ns, rfl, hT, hs, hl, q⟩ := h
    refine ⟨_, PSs.nox (pss_cons (ps_set (i := 1) sc_law.nd rfl (Or.inl rfl) (pe_call G__law_begin hr__law_begin rfl E.g__law_begin E.F__law_begin.kp b__law_begin .nil pass0 (pa_cons (pv 0) pa_nil)))
(pss_cons (ps_for PassesOwn.never rfl (pi_range1 rfl E.n_range (pa_cons pe_int pa_nil)) (pg_name (i := 2) sc_law.nd rfl (Or.inl rfl))
(pss_cons (ps_set (i := 3) sc_law.nd rfl (Or.inl rfl) (pe_call G__law_words hr__law_words rfl E.g__law_words E.F__law_words.kp b__law_words .nil pass0 (pa_cons (pv 1) (pa_cons pe_int pa_nil))))
(pss_cons (ps_set (i := 4) sc_law.nd rfl (Or.inr rfl) (pe_call G__law_test hr__law_test rfl E.g__law_test E.F__law_test.kp b__law_test .nil pass0 (pa_cons (pv 1) (pa_cons (pv 3) (pa_cons (pv 3) pa_nil)))))
(pss_cut (ps_if (pt_cmpR (op_eqU K rfl hu) (pe_call G__law_pick hr__law_pick rfl E.g__law_pick E.F__law_pick.kp b__law_pick .nil pass0 (pa_cons (pv 1) (pa_cons pe_int pa_nil))) pe_int (nomark _)) (pss_one (ps_set (i := 4) sc_law.nd rfl (Or.inr rfl) (pe_call G__law_bent_test hr__law_bent_test rfl E.g__law_bent_test E.F__law_bent_test.kp b__law_bent_test .nil pass0 (pa_cons (pv 1) (pa_cons (pv 4) pa_nil))))) pss_nil)
(pss_cons (ps_set (i := 5) sc_law.nd rfl (Or.inr rfl) (pe_slice (sl_U K rfl) (pv 3) po_none (po_some (pe_call G__law_pick hr__law_pick rfl E.g__law_pick E.F__law_pick.kp b__law_pick .nil pass0 (pa_cons (pv 1) (pa_cons pe_int pa_nil))))))
(pss_cut (ps_if (PW.pt (pw_and (pt_cmpR (op_neZ K rfl hu) (pv 5) (pe_lst pa_nil) (nomark _)) (pw_and1 (pt_cmpR (op_eqU K rfl hu) (pe_call G__law_pick hr__law_pick rfl E.g__law_pick E.F__law_pick.kp b__law_pick .nil pass0 (pa_cons (pv 1) (pa_cons pe_int pa_nil))) pe_int (nomark _))))) (pss_cons (ps_set (i := 6) sc_law.nd rfl (Or.inl rfl) (pe_call G__law_pick hr__law_pick rfl E.g__law_pick E.F__law_pick.kp b__law_pick .nil pass0 (pa_cons (pv 1) (pa_cons (pe_callB (call_lenU K rfl) (by rfl) E.n_len boot_len (pa_cons (pv 5) pa_nil)) pa_nil))))
(pss_one (ps_asg (pe_call G__law_of hr__law_of rfl E.g__law_of E.F__law_of.kp b__law_of .nil pass0 (pa_cons (pv 1) (pa_cons (pe_lst (pa_cons (pe_call G__law_odd_name hr__law_odd_name rfl E.g__law_odd_name E.F__law_odd_name.kp b__law_odd_name .nil pass0 (pa_cons (pv 1) (pa_cons (pe_ix (ix_U K rfl) (pv 5) (pv 6) (fun _ _ => rfl)) pa_nil))) (pa_cons (pe_ix (ix_U K rfl) (pv 5) pe_int (fun _ _ => rfl)) (pa_cons (pe_ix (ix_U K rfl) (pv 5) (pe_un un_neg pe_int) (fun _ _ => rfl)) pa_nil)))) pa_nil))) (pg_sub (pv 5) (pv 6) set_list)))) pss_nil)
(pss_cons (ps_set (i := 7) sc_law.nd rfl (Or.inr rfl) (pe_call G__law_of hr__law_of rfl E.g__law_of E.F__law_of.kp b__law_of .nil pass0 (pa_cons (pv 1) (pa_cons (pe_lst (pa_cons pe_int (pa_cons pe_int (pa_cons pe_int (pa_cons pe_int (pa_cons pe_int (pa_cons (pe_call G__law_far hr__law_far rfl E.g__law_far E.F__law_far.kp b__law_far .nil pass0 (pa_cons (pv 1) pa_nil)) (pa_cons (pe_op (op_addU K rfl) pe_int (pe_call G__law_pick hr__law_pick rfl E.g__law_pick E.F__law_pick.kp b__law_pick .nil pass0 (pa_cons (pv 1) (pa_cons pe_int pa_nil)))) pa_nil)))))))) pa_nil))))
(pss_cons (ps_set (i := 8) sc_law.nd rfl (Or.inl rfl) pe_str)
(pss_cut (ps_if (pt_not (pt_val (pe_call G__law_test_ok hr__law_test_ok rfl E.g__law_test_ok E.F__law_test_ok.kp b__law_test_ok .nil pass0 (pa_cons (pv 4) pa_nil)))) (pss_one (ps_set (i := 8) sc_law.nd rfl (Or.inl rfl) pe_str)) (pss_one (ps_if (PW.pt (pw_or (pt_cmpR (op_gt) (pe_callB (call_lenU K rfl) (by rfl) E.n_len boot_len (pa_cons (pv 5) pa_nil)) pe_int (nomark _)) (pw_or1 (pt_cmpR (op_lt) (pe_lenSetS K rfl rfl E.n_len rfl E.n_set (pv 5)) (pe_callB (call_lenU K rfl) (by rfl) E.n_len boot_len (pa_cons (pv 5) pa_nil)) (nomark _))))) (pss_one (ps_set (i := 8) sc_law.nd rfl (Or.inl rfl) pe_str)) (pss_one (ps_if (pt_not (pt_val (pe_callB (cr_allU K rfl rfl) (by rfl) E.n_all boot_all (pa_cons (pe_lc (own := [("_law_key", 9)]) rfl sc_law.nd (pi_seqU K rfl (pv 5)) (blkOk_by (N := ["_law_script", "_law_d", "_law_turn", "_law_names", "_law_probe", "_law_cols", "_law_at", "_law_few", "_law_due", "_law_key", "_law_word_here", "_law_tally", "_law_found"]) (sc := defScope s_law) (by decide +kernel)) (fun _ _ _ _ _ => (pg_name (i := 9) sc_law.nd rfl (Or.inl rfl))) (fun _ _ _ _ _ => pts_nil) (fun _ _ _ _ _ => (pe_call G__law_is_name hr__law_is_name rfl E.g__law_is_name E.F__law_is_name.kp b__law_is_name .nil pass0 (pa_cons (pv 9) pa_nil)))) pa_nil)))) (pss_one (ps_set (i := 8) sc_law.nd rfl (Or.inl rfl) pe_str)) (pss_one (ps_if (pt_not (pt_chain op_le op_le pe_int (pv 7) pe_int)) (pss_one (ps_set (i := 8) sc_law.nd rfl (Or.inl rfl) pe_str)) pss_nil)))))))
(pss_cons (ps_asg (pe_askT E rfl rfl (q := lq_law) rfl TB rfl hmT huT hr (lamS_by rfl) rfl (fun _ _ _ _ _ => rfl) (fun A outer s H E' f c' hr' => (pe_makeK E.mk_Tally G_Tally___init__ (hr'.mono (show 16 ≤ 17 by decide)) rfl E.g_Tally kb_Tally___init____most (passes_call (takes_of rfl rfl rfl rfl) fun _ _ _ _ h => h) (pa_cons (pv 4) (pa_cons (pe_callTy (call_tupleU K rfl) (by rfl) E.n_tuple boot_tuple (pa_cons (pv 5) pa_nil)) pa_nil)) (pk_cons (pv 7) pk_nil)))) (kGLst (n := 2) K rfl (pg_lst rfl (pgs_cons (pg_name (i := 10) sc_law.nd rfl (Or.inl rfl)) (pgs_cons (pg_name (i := 11) sc_law.nd rfl (Or.inl rfl)) pgs_nil)))))
(pss_cons (ps_if (pt_not (pt_val (pe_call G__law_same hr__law_same rfl E.g__law_same E.F__law_same.kp b__law_same .nil pass0 (pa_cons (pv 10) (pa_cons (pv 8) pa_nil))))) (pss_one (ps_ret pe_bl)) pss_nil)
(pss_one (ps_if (pt_cmpR (op_eqU K rfl hu) (pv 8) pe_str (nomark _)) (pss_cons (ps_set (i := 12) sc_law.nd rfl (Or.inl rfl) (pe_lst (pa_cons (pe_meth0 (pv 11) E.cl_Tally E.m_Tally_table G_Tally_table hr_Tally_table b_Tally_table .nil pass0) (pa_cons (pe_meth0 (pv 11) E.cl_Tally E.m_Tally_dropped G_Tally_dropped hr_Tally_dropped b_Tally_dropped .nil pass0) (pa_cons (pe_callB (call_lenC E.m_Tally___len__ G_Tally___len__ hrm_Tally___len__ b_Tally___len__ pass0) (by rfl) E.n_len boot_len (pa_cons (pv 11) pa_nil)) (pa_cons (pe_callTy (call_boolC E.nb_Tally E.m_Tally___len__ G_Tally___len__ hrb_Tally b_Tally___len__ pass0) (by rfl) E.n_bool boot_bool (pa_cons (pv 11) pa_nil)) pa_nil))))))
(pss_one (ps_if (pt_not (pt_val (pe_call G__law_same hr__law_same rfl E.g__law_same E.F__law_same.kp b__law_same .nil pass0 (pa_cons (pv 12) (pa_cons (pe_lst (pa_cons (pe_lst pa_nil) (pa_cons pe_int (pa_cons pe_int (pa_cons pe_bl pa_nil))))) pa_nil))))) (pss_one (ps_ret pe_bl)) pss_nil))) pss_nil)))))))))))))
(pss_one (ps_ret pe_bl)))), ?_⟩
    refine k_body (s1 := some _ :: [none, none, none, none, none, none, none, none, none, none, none, none]) rfl ?_
    have hS := Sep.tabs0 (K := K) hT
    walk_at "s"
    refine use_beginS (L := [tabsA T]) hS hs hl (fun d H hS => ?_)
    walk_at "s"
    refine for_wk (n := (4 : Int).toNat) (fun i σ L' => L' = [dr d, tabsA T] ∧ ∃ c2 c3 c4 c5 c6 c7 c8 c9 c10 c11 c12, σ = [some (.ref a), some (.ref d), c2, c3, c4, c5, c6, c7, c8, c9, c10, c11, c12]) (fun i σ L' _ => wk_rng) hS ⟨rfl, _, _, _, _, _, _, _, _, _, _, _, rfl⟩ (fun i σ L' hi iv H hS => ?_) (fun σ L' H iv hS => ?_)
    · obtain ⟨rfl, c2, c3, c4, c5, c6, c7, c8, c9, c10, c11, c12, rfl⟩ := iv
      walk_at "ns"
      walk_at "s"
      refine ⟨d, 5, _, rfl, by decide, hS, by walk_at "mem", fun pn zs H hzl hzd hzn hS => ?_⟩
      walk_at "s"
      have hN : NmsL (K := K) pn [Ls.ld pn (zs.map PyData.str), dr d, tabsA T] := ⟨zs, List.mem_cons_self, by omega, by omega, hzn⟩
      refine ⟨d, pn, pn, _, rfl, hS, by walk_at "mem", hN, hN, fun p1 t H hto htd htp hS => ?_⟩
      clear hN
      walk_at "s"
      refine k_cut (fun σ H => ∃ (p1 : Addr) (xs : List PyData), RawC 4 8 (.tuple xs) ∧ σ = [some (.ref a), some (.ref d), some (.int (0 + i)), some (.ref pn), some (.ref p1), c5, c6, c7, c8, c9, c10, c11, c12] ∧ Ls.Sep (K := K) [im (.ref p1) (.tuple xs), Ls.ld pn (zs.map PyData.str), dr d, tabsA T] H) ?_ ?_
      · walk_at "s"
        walk_at "pk"
        intro r1 H hS r10 r11
        walk_at "s"
        obtain ⟨ds, ed⟩ := t.D_tup
        have hrw := ok_rawC hto htd
        by_cases b : r1 = 0
        · rw [if_pos (decide_eq_true b)]
          walk_at "s"
          refine ⟨d, .ref p1, t.D, 3, 5, _, rfl, by show 5 ≤ 7; decide, by decide, by decide, by decide, hS, by walk_at "mem", by walk_at "mem", hrw, fun v y H hy hty hS => ?_⟩
          obtain ⟨ys, rfl⟩ := hty ⟨ds, ed⟩
          obtain ⟨pu, rfl⟩ := im_isRef hS (by walk_at "mem")
          walk_at "s"
          exact ⟨pu, ys, hy.mono (by decide) (by decide), rfl, Sub.ok (by walk_at "sub") hS⟩
        · rw [if_neg (by rw [decide_eq_false b]; exact Bool.false_ne_true)]
          walk_at "s"
          rw [ed] at hS hrw
          exact ⟨p1, ds, hrw.mono (by decide) (by decide), rfl, Sub.ok (by walk_at "sub") hS⟩
      clear hS hto htd htp
      rintro σ H ⟨p1, xs, hrw, rfl, hS⟩
      walk_at "s"
      walk_at "pk"
      intro r2 H hS r20 r21
      walk_at "s"
      obtain ⟨pc, epc⟩ : ∃ pc, pc = p := ⟨_, rfl⟩
      rw [← epc] at hS ⊢
      clear epc
      rw [cutD_to r20, ← List.map_take] at hS
      obtain ⟨cs, ecs⟩ : ∃ cs, cs = zs.take r2.toNat := ⟨_, rfl⟩
      rw [← ecs] at hS
      have hcl : cs.length ≤ 5 := by rw [ecs, List.length_take]; omega
      have hcn : ∀ z ∈ cs, IsNm z := fun z hz => hzn z (by rw [ecs] at hz; exact List.mem_of_mem_take hz)
      clear ecs
      refine k_cut (fun σ H => ∃ (pc : Addr) (cs : List Str) (e6 : Option V), cs.length ≤ 5 ∧ (∀ z ∈ cs, z.length ≤ 100) ∧ σ = [some (.ref a), some (.ref d), some (.int (0 + i)), some (.ref pn), some (.ref p1), some (.ref pc), e6, c7, c8, c9, c10, c11, c12] ∧ Ls.Sep (K := K) [Ls.ld pc (cs.map PyData.str), im (.ref p1) (.tuple xs), dr d, tabsA T] H) ?_ ?_
      · have skip : ∀ z ∈ cs, z.length ≤ 100 := fun z hz => by have := (hcn z hz).2.1; omega
        walk_at "s"
        by_cases hc0 : cs = []
        · rw [if_neg (by rw [hc0]; decide)]
          walk_at "s"
          exact ⟨pc, cs, _, hcl, skip, rfl, Sub.ok (by walk_at "sub") hS⟩
        · rw [if_pos (by rw [decide_eq_false (fun e => hc0 (List.map_eq_nil_iff.mp e))]; rfl)]
          walk_at "s"
          walk_at "pk"
          intro r3 H hS r30 r31
          walk_at "s"
          by_cases b : r3 = 0
          · rw [if_pos (decide_eq_true b)]
            walk_at "s"
            have hcp : 0 < cs.length := List.length_pos_iff.mpr hc0
            walk_at "pk"
            intro r4 H hS r40 r41
            obtain ⟨j, rfl⟩ := Int.eq_ofNat_of_zero_le r40
            simp only [List.length_map] at r41
            have hj : j < cs.length := by omega
            have g0 : atI (cs.map PyData.str) 0 = some (.str (cs[0]'hcp)) := at_nat (j := 0) (by rw [List.getElem?_map, List.getElem?_eq_getElem hcp]; rfl)
            have gj : atI (cs.map PyData.str) (j : Int) = some (.str (cs[j]'hj)) := at_nat (by rw [List.getElem?_map, List.getElem?_eq_getElem hj]; rfl)
            have ge : atI (cs.map PyData.str) (-1) = some (.str (cs[cs.length - 1]'(by omega))) := at_lastJ (by rw [List.length_map, List.getElem?_map, List.getElem?_eq_getElem (by omega)]; rfl)
            have h0l := (hcn _ (List.getElem_mem hcp)).2.1
            have hjl := (hcn _ (List.getElem_mem hj)).2.1
            have hel := (hcn _ (List.getElem_mem (show cs.length - 1 < cs.length by omega))).2.1
            walk_at "s"
            refine ⟨d, cs[j], _, rfl, by omega, nm_strK (hcn _ (List.getElem_mem hj)), hS, by walk_at "mem", fun y H hyl _ hS => ?_⟩
            walk_at "s"
            walk_at "ofS"
            intro z H hz hS
            have hzl2 : z.length ≤ 100 := by
              simp only [List.mem_cons, PyData.str.injEq, List.not_mem_nil, or_false] at hz
              rcases hz with rfl | rfl | rfl <;> omega
            walk_at "s"
            refine k_setD hS (j := j) (d := .str z) (by walk_at "rep") (.str _) (ixN_nat (by rw [List.length_map]; exact hj)) fun H hS => ?_
            rw [← List.map_set (f := PyData.str) (l := cs) (i := j) (a := z)] at hS
            refine ⟨pc, cs.set j z, _, by rw [List.length_set]; exact hcl, fun y hy => ?_, rfl, Sub.ok (by walk_at "sub") hS⟩
            rcases List.mem_or_eq_of_mem_set hy with hy | rfl
            · exact skip y hy
            · exact hzl2
          · rw [if_neg (by rw [decide_eq_false b]; exact Bool.false_ne_true)]
            walk_at "s"
            exact ⟨pc, cs, _, hcl, skip, rfl, Sub.ok (by walk_at "sub") hS⟩
      clear hS hcl hcn
      rintro σ H ⟨pc, cs, e6, hcl, hcz, rfl, hS⟩
      walk_at "s"
      refine ⟨d, _, rfl, hS, by walk_at "mem", fun nf H hS => ?_⟩
      walk_at "s"
      walk_at "pk"
      intro r3 H hS r30 r31
      walk_at "s"
      walk_at "ofI"
      intro n H _ hS
      walk_at "s"
      replace hS : Ls.Sep [Ls.ld pc (cs.map PyData.str), im (.ref p1) (.tuple xs), dr d, tabsA T] _ := Sub.ok (by walk_at "sub") hS
      refine k_cut (fun σ H => σ = [some (.ref a), some (.ref d), some (.int (0 + i)), some (.ref pn), some (.ref p1), some (.ref pc), e6, some (.int n), some (.str (tallyW xs cs n)), c9, c10, c11, c12] ∧ Ls.Sep (K := K) [Ls.ld pc (cs.map PyData.str), im (.ref p1) (.tuple xs), dr d, tabsA T] H) ?_ ?_
      · walk_at "s"
        refine ⟨p1, xs, 8, _, rfl, by decide, hS, by walk_at "mem", hrw.mono (by decide) (Nat.le_refl _), fun H hS => ?_⟩
        refine ⟨_, rfl, ?_⟩
        by_cases ht : IsT (.tuple xs)
        · rw [decide_eq_true ht]
          have ek : ¬ KeysOk cs → tallyW xs cs n = "badkeys" := fun hk => by
            unfold tallyW
            rw [if_neg (fun z => z ht), if_pos hk]
          walk_at "s"
          simp only [List.length_map]
          by_cases h4 : 4 < cs.length
          · rw [ek fun z => by have := z.1; omega, if_pos (decide_eq_true (by omega))]
            walk_at "s"
            exact ⟨rfl, hS⟩
          rw [if_neg (by rw [decide_eq_false (by omega)]; exact Bool.false_ne_true)]
          walk_at "s"
          refine k_lensetS ?_
          walk_at "s"
          obtain ⟨ys, g1, g2⟩ := hS.ldm (a := pc) (ds := cs.map PyData.str) (by walk_at "mem")
          cases ims_str g2
          refine ⟨pc, cs, rfl, sql_of g1, by omega, ?_⟩
          clear g1 g2
          walk_at "s"
          simp only [List.length_map]
          by_cases h6 : cs.Nodup
          · rw [if_neg (by rw [decide_eq_false (fun z => dcnt_lt.mp (Int.ofNat_lt.mp z) h6)]; exact Bool.false_ne_true)]
            walk_at "s"
            refine lc_flat (zs := cs) (fun z => [PyData.bool (decide (IsNm z))]) hS (fun acc => wk_ldm (f := PyData.str) (by walk_at "mem")) (fun j z acc hz hk _ la => ?_) (fun H hS => ?_)
            · clear hS
              have hj := (List.getElem?_eq_some_iff.mp hz).1
              have hzl := hcz z (List.mem_of_getElem? hz)
              walk_at "gi"
              walk_at "ls"
              refine ⟨z, _, rfl, by omega, hS, fun H hS => ?_⟩
              exact lc_keep hS (.bl _) (by walk_at "sub") (by rw [sizeLine_eq]; omega) (hk _ rfl)
            rw [flat_map (fun z : Str => PyData.bool (decide (IsNm z)))] at hS
            walk_at "s"
            refine k_allS hS (by walk_at "mem") ?_
            by_cases h5 : ∀ z ∈ cs, IsNm z
            · rw [show cs.all (fun z => decide (IsNm z)) = true from List.all_eq_true.mpr fun z hz => decide_eq_true (h5 z hz)]
              walk_at "s"
              have hk : KeysOk cs := ⟨by omega, h5, h6⟩
              have es : ¬ (1 ≤ n ∧ n ≤ 64) → tallyW xs cs n = "badsize" := fun hn => by
                unfold tallyW
                rw [if_neg (fun z => z ht), if_neg (fun z => z hk), if_pos hn]
              by_cases b1 : 1 ≤ n
              · rw [if_pos (decide_eq_true b1)]
                walk_at "s"
                by_cases b2 : n ≤ 64
                · rw [if_neg (by rw [decide_eq_true b2]; exact Bool.false_ne_true)]
                  walk_at "s"
                  have ew : tallyW xs cs n = "" := by
                    unfold tallyW
                    rw [if_neg (fun z => z ht), if_neg (fun z => z hk), if_neg (fun z => z ⟨b1, b2⟩)]
                  rw [ew]
                  exact ⟨rfl, Sub.ok (by walk_at "sub") hS⟩
                · rw [es fun z => b2 z.2, if_pos (by rw [decide_eq_false b2]; rfl)]
                  walk_at "s"
                  exact ⟨rfl, Sub.ok (by walk_at "sub") hS⟩
              · rw [es fun z => b1 z.1, if_neg (by rw [decide_eq_false b1]; exact Bool.false_ne_true)]
                walk_at "s"
                exact ⟨rfl, Sub.ok (by walk_at "sub") hS⟩
            · rw [show cs.all (fun z => decide (IsNm z)) = false from Bool.eq_false_iff.mpr fun e => h5 fun z hz => of_decide_eq_true (List.all_eq_true.mp e z hz), ek fun z => h5 z.2.1]
              walk_at "s"
              exact ⟨rfl, Sub.ok (by walk_at "sub") hS⟩
          · rw [if_pos (decide_eq_true (Int.ofNat_lt.mpr (dcnt_lt.mpr h6))), ek fun z => h6 z.2.2]
            walk_at "s"
            exact ⟨rfl, hS⟩
        · have ew : tallyW xs cs n = "badtest" := by unfold tallyW; rw [if_pos ht]
          rw [decide_eq_false ht, ew]
          walk_at "s"
          exact ⟨rfl, hS⟩
      clear hS
      rintro σ H ⟨rfl, hS⟩
      walk_at "s"
      refine k_lamS hS (by walk_at "rem") ?_
      clear hS
      intro H hS
      refine task_by (fun v w H => w = tallyW xs cs n ∧ (tallyW xs cs n = "" → ∃ xt k ps, v = .ref xt ∧ Ls.Sep (K := K) [newTally E.C_Tally xt p1 k ps n, ob ps (.dK []), tabsA T, dr d] H) ∧ (tallyW xs cs n ≠ "" → v = .non ∧ Ls.Sep (K := K) [tabsA T, dr d] H)) ?_ ?_
      · clear hS
        rintro v w H ⟨rfl, hA, hB⟩ pt hp
        by_cases ew : tallyW xs cs n = ""
        · obtain ⟨xt, k, ps, rfl, hS⟩ := hA ew
          replace hS := hS.new (p := pt) (o := .lst [.str (tallyW xs cs n), .ref xt]) hp rfl
          walk_at "s"
          refine k_glst hS (by walk_at "mem") rfl ?_
          walk_at "s"
          refine use_sameD hS (.dat (.str _)) (.dat (.str _)) (show PyData.strOk _ = true from tallyW_ok xs cs n) ?_
          clear hS
          intro H hS
          have hS2 : Ls.Sep (inst xt E.C_Tally [("test", .ref p1), ("keys_told", .ref k), ("largest", .int n), ("sums", .ref ps), ("away", .int 0)] :: [ob ps (.dK []), tabsA T, dr d]) _ := Sub.ok (N := [ob pt (.lst [.str (tallyW xs cs n), .ref xt]), inst xt E.C_Tally [("test", .ref p1), ("keys_told", .ref k), ("largest", .int n), ("sums", .ref ps), ("away", .int 0)], ob ps (.dK []), tabsA T, dr d]) (by walk_at "sub") hS
          clear hS
          have hS := hS2
          clear hS2
          walk_at "s"
          refine ⟨xt, p1, k, ps, n, _, rfl, hS, by show inst xt _ _ ∈ _; walk_at "mem", by walk_at "mem", fun pe H hS => ?_⟩
          walk_at "s"
          refine ⟨xt, p1, k, ps, n, _, rfl, hS, by show inst xt _ _ ∈ _; walk_at "mem", by walk_at "mem", fun H hS => ?_⟩
          walk_at "s"
          refine k_lenC hS (a := xt) (C := E.C_Tally) (by walk_at "mem") ?_
          refine ⟨xt, p1, k, ps, n, _, rfl, hS, by show inst xt _ _ ∈ _; walk_at "mem", by walk_at "mem", fun H hS => ?_⟩
          refine ⟨0, rfl, by decide, by decide, ?_⟩
          walk_at "s"
          refine k_boolC hS (a := xt) (C := E.C_Tally) (by walk_at "mem") ?_
          refine ⟨xt, p1, k, ps, n, _, rfl, hS, by show inst xt _ _ ∈ _; walk_at "mem", by walk_at "mem", fun H hS => ?_⟩
          refine ⟨0, rfl, by decide, by decide, ?_⟩
          walk_at "s"
          rename_i pf _ pj _
          replace hS : Ls.Sep (Ls.ld pj [] :: Ls.ld pe [] :: ob p (.lst [.ref pj, .int 0, .int 0, .bl false]) :: ob pf (.lst [.ref pe, .int 0, .int 0, .bl false]) :: [tabsA T, dr d]) _ := Sub.ok (N := [ob p (.lst [.ref pj, .int 0, .int 0, .bl false]), Ls.ld pj [], ob pf (.lst [.ref pe, .int 0, .int 0, .bl false]), Ls.ld pe [], inst xt E.C_Tally [("test", .ref p1), ("keys_told", .ref k), ("largest", .int n), ("sums", .ref ps), ("away", .int 0)], ob ps (.dK []), tabsA T, dr d]) (by walk_at "sub") hS
          have hF := hS.frzD
          clear hS
          replace hF : Ls.Sep (Ls.ld pe [] :: Ls.fd (.ref pj) (.list []) :: ob p (.lst [.ref pj, .int 0, .int 0, .bl false]) :: ob pf (.lst [.ref pe, .int 0, .int 0, .bl false]) :: [tabsA T, dr d]) _ := Sub.ok (by walk_at "sub") hF
          have hS := hF.frzD
          clear hF
          have hS := ((hS.fdOf (.bl false)).fdOf (.int 0)).fdsNil
          have hS := ((hS.fdsCons (v := .bl false) (d := .bool false) (by walk_at "mem") (by walk_at "mem")).fdsCons (v := .int 0) (d := .int 0) (by walk_at "mem") (by walk_at "mem")).fdsCons (v := .int 0) (d := .int 0) (by walk_at "mem") (by walk_at "mem")
          have hS := hS.fdsCons (v := .ref pe) (d := .list []) (by walk_at "mem") (by walk_at "mem")
          have hS := hS.fdsCons (vs := [.int 0, .int 0, .bl false]) (ds := [.int 0, .int 0, .bool false]) (v := .ref pj) (d := .list []) (by walk_at "mem") (by walk_at "mem")
          refine use_sameF hS (.ob (vs := [.ref pe, .int 0, .int 0, .bl false]) (by walk_at "mem") (by walk_at "mem")) (.ob (vs := [.ref pj, .int 0, .int 0, .bl false]) (by walk_at "mem") (by walk_at "mem")) (n := 4) (d := .list [.list [], .int 0, .int 0, .bool false]) okd_new fun H hS => ?_
          walk_at "s"
          exact ⟨_, ⟨rfl, _, _, _, _, _, _, _, _, _, _, _, rfl⟩, Sub.ok (by walk_at "sub") hS⟩
        · obtain ⟨rfl, hS⟩ := hB ew
          replace hS := hS.new (p := pt) (o := .lst [.str (tallyW xs cs n), .non]) hp rfl
          walk_at "s"
          refine k_glst hS (by walk_at "mem") rfl ?_
          walk_at "s"
          refine use_sameD hS (.dat (.str _)) (.dat (.str _)) (show PyData.strOk _ = true from tallyW_ok xs cs n) ?_
          clear hS
          intro H hS
          walk_at "s"
          exact ⟨_, ⟨rfl, _, _, _, _, _, _, _, _, _, _, _, rfl⟩, Sub.ok (by walk_at "sub") hS⟩
      · intro E' Q' qO qS qM qV
        walk_at "s"
        refine ⟨rfl, rfl, k_madeK hS ?_⟩
        clear hS
        intro xt H hS
        refine ⟨xt, p1, p, xs, 8, cs, n, _, rfl, hS, by walk_at "mem", by walk_at "mem", hrw.mono (by decide) (Nat.le_refl _), by omega, fun z hz => by have := hcz z hz; omega, fun ew ps H hS => ⟨rfl, ?_⟩, fun ew => ?_, fun ew => ?_, fun ew => ?_⟩
        · exact qO _ _ ⟨ew.symm, fun _ => ⟨xt, p, ps, rfl, Sub.ok (by walk_at "sub") hS⟩, fun n => (n ew).elim⟩
        · exact qS _ _ _ E.e_BadTest_BadValue E.e_BadTest_ScribeError E.x_BadTest E.w_BadTest fun H hS => ⟨ew.symm, fun n => by rw [ew] at n; exact absurd n (by decide +kernel), fun _ => ⟨rfl, Sub.ok (by walk_at "sub") hS⟩⟩
        · exact qS _ _ _ E.e_BadKeys_BadValue E.e_BadKeys_ScribeError E.x_BadKeys E.w_BadKeys fun H hS => ⟨ew.symm, fun n => by rw [ew] at n; exact absurd n (by decide +kernel), fun _ => ⟨rfl, Sub.ok (by walk_at "sub") hS⟩⟩
        · exact qS _ _ _ E.e_BadSize_BadValue E.e_BadSize_ScribeError E.x_BadSize E.w_BadSize fun H hS => ⟨ew.symm, fun n => by rw [ew] at n; exact absurd n (by decide +kernel), fun _ => ⟨rfl, Sub.ok (by walk_at "sub") hS⟩⟩
    · obtain ⟨rfl, c2, c3, c4, c5, c6, c7, c8, c9, c10, c11, c12, rfl⟩ := iv
      walk_at "s"
      exact q _
end Lw
-- own part: end
theorem PySem.Challenge.cw_lanescribe_k23_tallies_refused_holds : PySem.Challenge.rw_lanescribe_k23_tallies_refused.Holds :=
  Lw.head_of @Lw.ok_law
