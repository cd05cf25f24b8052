import PyProof.Rows.All
import Wide.All
import OpenK.AllK
import Wide.FinOn
import PySem.Challenge.RW_lanescribe_k05_texts_read_as_tests
import HandS.Head0
import HandS.Head1
import HandS.Head2
import HandS.HeadEnd
import HandS.HeadHook1
import HandS.HeadHook2
import HandS.HeadHook3
import HandS.HeadHook4
import HandS.HeadWalk
import HandS.EndTab
import KE.KNestM
import KE.KStateDown
import HandS.ForMost
import HandS.Exc
import HandS.TryOnly
import HandS.TryMany
import HandS.WordsExc
import HandS.Flow
import HandS.Style
import HandS.DictComp
import HandS.Deep
import HandS.Wide
import HandS.Defaults
import HandS.MakeKwOnly
import HandS.Zip
import HandS.TupAny
import HandS.TupLe
import HandS.IsInst
import HandS.Walk
import HandS.EndBits
import HandS.ClsMeth
import HandS.ExcInit
import HandS.ExcField
import HandS.Lambda
import HandS.ExcOwn
import KE.GoesMore
import HandS.Codes
import HandS.MakeKw
import HandS.OwnEq
import HandS.NamedTupGet
import OpenK.KOps
import KE.KDictZip
import HandS.Dict
import HandS.SetFor
import HandS.FStr
import KE.SortKeyHeap
import HandS.SortKw
import HandS.ExcValue
import KE.DataMinMax
import HandS.Strs
import HandS.Conv
import PyProof.WalksMore
import PyProof.CollectIter
import PyProof.InstNe
import HandS.More
import HandS.RaiseMore
import HandS.SortInts
import HandS.Text
import KE.KxText
import KE.IntTextLaws
import PyProof.Rows.StrRev
import PyProof.Rows.StrCountLaw
import KE.KStrOpen
set_option Elab.async false
set_option linter.all false
set_option maxRecDepth 100000
set_option maxHeartbeats 4000000
open PySem PySem.Spec PyProof.Rows L2
namespace Ls
end Ls
open Ls
namespace Lw
open PySem PySem.Spec PyProof.Rows L2 Ls
def top (i : Nat) : Stmt := PySem.Challenge.pw_lanescribe_k05_texts_read_as_tests.main.body.getD i (.Pass ⟨0, 0, 0, 0⟩)
abbrev s_law : Stmt := top 51
theorem sc_law : FnScope ["_law_script", "_law_d", "_law_turn", "_law_names", "_law_deep_here", "_law_tree_here", "_law_text", "_law_step", "_law_due", "_law_found", "_law_word_here"] ["_law_script"] (defScope s_law) := ⟨rfl, rfl, rfl, by decide +kernel, rfl, by decide +kernel, by decide +kernel⟩
abbrev s__law_begin : Stmt := top 29
theorem sc__law_begin : FnScope ["_law_script", "_law_seed", "_law_cell"] ["_law_script"] (defScope s__law_begin) := ⟨rfl, rfl, rfl, by decide +kernel, rfl, by decide +kernel, by decide +kernel⟩
abbrev s__law_tree : Stmt := top 39
theorem sc__law_tree : FnScope ["_law_d", "_law_deep_here", "_law_names", "_law_kinds", "_law_way", "_law_word_here"] ["_law_d", "_law_deep_here", "_law_names", "_law_kinds"] (defScope s__law_tree) := ⟨rfl, rfl, rfl, by decide +kernel, rfl, by decide +kernel, by decide +kernel⟩
abbrev s__law_test_text : Stmt := top 45
theorem sc__law_test_text : FnScope ["_law_test", "_law_part"] ["_law_test"] (defScope s__law_test_text) := ⟨rfl, rfl, rfl, by decide +kernel, rfl, by decide +kernel, by decide +kernel⟩
abbrev s__law_read : Stmt := top 49
theorem sc__law_read : FnScope ["_law_text", "_law_deep_here", "_law_word_here", "_law_inner", "_law_halves_here", "_law_found", "_law_half"] ["_law_text", "_law_deep_here"] (defScope s__law_read) := ⟨rfl, rfl, rfl, by decide +kernel, rfl, by decide +kernel, by decide +kernel⟩
abbrev s__law_ask : Stmt := top 36
theorem sc__law_ask : FnScope ["_law_ask_here", "_law_told", "_law_word_here", "e"] ["_law_ask_here"] (defScope s__law_ask) := ⟨rfl, rfl, rfl, by decide +kernel, rfl, by decide +kernel, by decide +kernel⟩
abbrev s__law_words : Stmt := top 34
theorem sc__law_words : FnScope ["_law_d", "_law_many", "_law_found", "_law_k", "_law_word_here", "_law_step"] ["_law_d", "_law_many"] (defScope s__law_words) := ⟨rfl, rfl, rfl, by decide +kernel, rfl, by decide +kernel, by decide +kernel⟩
abbrev s__law_pick : Stmt := top 30
theorem sc__law_pick : FnScope ["_law_d", "_law_many", "_law_cell", "_law_digit", "_law_one"] ["_law_d", "_law_many"] (defScope s__law_pick) := ⟨rfl, rfl, rfl, by decide +kernel, rfl, by decide +kernel, by decide +kernel⟩
abbrev s__law_bent_text : Stmt := top 50
theorem sc__law_bent_text : FnScope ["_law_d", "_law_text", "_law_bits", "_law_bit", "_law_at", "_law_way", "_law_pair"] ["_law_d", "_law_text"] (defScope s__law_bent_text) := ⟨rfl, rfl, rfl, by decide +kernel, rfl, by decide +kernel, by decide +kernel⟩
abbrev s__law_same : Stmt := top 32
theorem sc__law_same : FnScope ["_law_found", "_law_due", "_law_k"] ["_law_found", "_law_due"] (defScope s__law_same) := ⟨rfl, rfl, rfl, by decide +kernel, rfl, by decide +kernel, by decide +kernel⟩
abbrev s__law_test_ok : Stmt := top 44
theorem sc__law_test_ok : FnScope ["_law_test"] ["_law_test"] (defScope s__law_test_ok) := ⟨rfl, rfl, rfl, by decide +kernel, rfl, by decide +kernel, by decide +kernel⟩
abbrev s_read_test : Stmt := top 27
theorem sc_read_test : FnScope ["text", "found"] ["text"] (defScope s_read_test) := ⟨rfl, rfl, rfl, by decide +kernel, rfl, by decide +kernel, by decide +kernel⟩
abbrev s_test_text : Stmt := top 22
theorem sc_test_text : FnScope ["test"] ["test"] (defScope s_test_text) := ⟨rfl, rfl, rfl, by decide +kernel, rfl, by decide +kernel, by decide +kernel⟩
abbrev s__law_leaf : Stmt := top 38
theorem sc__law_leaf : FnScope ["_law_d", "_law_names", "_law_kinds", "_law_way"] ["_law_d", "_law_names", "_law_kinds"] (defScope s__law_leaf) := ⟨rfl, rfl, rfl, by decide +kernel, rfl, by decide +kernel, by decide +kernel⟩
abbrev s__law_read_field : Stmt := top 48
theorem sc__law_read_field : FnScope ["_law_text", "_law_at", "_law_number_here"] ["_law_text"] (defScope s__law_read_field) := ⟨rfl, rfl, rfl, by decide +kernel, rfl, by decide +kernel, by decide +kernel⟩
abbrev s__law_halves : Stmt := top 47
theorem sc__law_halves : FnScope ["_law_text", "_law_spots", "_law_at"] ["_law_text"] (defScope s__law_halves) := ⟨rfl, rfl, rfl, by decide +kernel, rfl, by decide +kernel, by decide +kernel⟩
abbrev s__law_word : Stmt := top 33
theorem sc__law_word : FnScope ["_law_d", "_law_letters", "_law_first", "_law_size", "_law_some", "_law_k"] ["_law_d"] (defScope s__law_word) := ⟨rfl, rfl, rfl, by decide +kernel, rfl, by decide +kernel, by decide +kernel⟩
abbrev s__law_of : Stmt := top 31
theorem sc__law_of : FnScope ["_law_d", "_law_things"] ["_law_d", "_law_things"] (defScope s__law_of) := ⟨rfl, rfl, rfl, by decide +kernel, rfl, by decide +kernel, by decide +kernel⟩
abbrev s__law_shape_ok : Stmt := top 43
theorem sc__law_shape_ok : FnScope ["_law_test"] ["_law_test"] (defScope s__law_shape_ok) := ⟨rfl, rfl, rfl, by decide +kernel, rfl, by decide +kernel, by decide +kernel⟩
abbrev s__law_deep : Stmt := top 41
theorem sc__law_deep : FnScope ["_law_test", "_law_part"] ["_law_test"] (defScope s__law_deep) := ⟨rfl, rfl, rfl, by decide +kernel, rfl, by decide +kernel, by decide +kernel⟩
abbrev s__law_parts : Stmt := top 40
theorem sc__law_parts : FnScope ["_law_test", "_law_part"] ["_law_test"] (defScope s__law_parts) := ⟨rfl, rfl, rfl, by decide +kernel, rfl, by decide +kernel, by decide +kernel⟩
abbrev s_test_in : Stmt := top 26
theorem sc_test_in : FnScope ["text", "deep", "word", "inner", "halves", "found", "half"] ["text", "deep"] (defScope s_test_in) := ⟨rfl, rfl, rfl, by decide +kernel, rfl, by decide +kernel, by decide +kernel⟩
abbrev s_is_test : Stmt := top 19
theorem sc_is_test : FnScope ["test"] ["test"] (defScope s_is_test) := ⟨rfl, rfl, rfl, by decide +kernel, rfl, by decide +kernel, by decide +kernel⟩
abbrev s_look_test : Stmt := top 20
theorem sc_look_test : FnScope ["test"] ["test"] (defScope s_look_test) := ⟨rfl, rfl, rfl, by decide +kernel, rfl, by decide +kernel, by decide +kernel⟩
abbrev s_text_of : Stmt := top 21
theorem sc_text_of : FnScope ["test", "word", "inner", "within", "part"] ["test"] (defScope s_text_of) := ⟨rfl, rfl, rfl, by decide +kernel, rfl, by decide +kernel, by decide +kernel⟩
abbrev s__law_number : Stmt := top 37
theorem sc__law_number : FnScope ["_law_d"] ["_law_d"] (defScope s__law_number) := ⟨rfl, rfl, rfl, by decide +kernel, rfl, by decide +kernel, by decide +kernel⟩
abbrev s__law_number_in : Stmt := top 46
theorem sc__law_number_in : FnScope ["_law_text", "_law_most", "_law_figures", "_law_sign"] ["_law_text", "_law_most"] (defScope s__law_number_in) := ⟨rfl, rfl, rfl, by decide +kernel, rfl, by decide +kernel, by decide +kernel⟩
abbrev s__law_leaf_ok : Stmt := top 42
theorem sc__law_leaf_ok : FnScope ["_law_test"] ["_law_test"] (defScope s__law_leaf_ok) := ⟨rfl, rfl, rfl, by decide +kernel, rfl, by decide +kernel, by decide +kernel⟩
abbrev s_leaf_in : Stmt := top 25
theorem sc_leaf_in : FnScope ["text", "sign", "head", "mark", "tail", "number"] ["text"] (defScope s_leaf_in) := ⟨rfl, rfl, rfl, by decide +kernel, rfl, by decide +kernel, by decide +kernel⟩
abbrev s_parted_at : Stmt := top 24
theorem sc_parted_at : FnScope ["text", "deep", "at", "sign"] ["text"] (defScope s_parted_at) := ⟨rfl, rfl, rfl, by decide +kernel, rfl, by decide +kernel, by decide +kernel⟩
abbrev s_parts_of : Stmt := top 18
theorem sc_parts_of : FnScope ["test", "deep", "word", "inner", "many", "part", "more"] ["test", "deep"] (defScope s_parts_of) := ⟨rfl, rfl, rfl, by decide +kernel, rfl, by decide +kernel, by decide +kernel⟩
abbrev s__law_is_name : Stmt := top 35
theorem sc__law_is_name : FnScope ["_law_text", "_law_sign"] ["_law_text"] (defScope s__law_is_name) := ⟨rfl, rfl, rfl, by decide +kernel, rfl, by decide +kernel, by decide +kernel⟩
abbrev s_number_in : Stmt := top 23
theorem sc_number_in : FnScope ["text", "most", "figures", "sign"] ["text", "most"] (defScope s_number_in) := ⟨rfl, rfl, rfl, by decide +kernel, rfl, by decide +kernel, by decide +kernel⟩
abbrev s_is_leaf : Stmt := top 17
theorem sc_is_leaf : FnScope ["test"] ["test"] (defScope s_is_leaf) := ⟨rfl, rfl, rfl, by decide +kernel, rfl, by decide +kernel, by decide +kernel⟩
abbrev s_is_name : Stmt := top 9
theorem sc_is_name : FnScope ["text", "sign"] ["text"] (defScope s_is_name) := ⟨rfl, rfl, rfl, by decide +kernel, rfl, by decide +kernel, by decide +kernel⟩
abbrev s_ScribeError___init__ : Stmt := inClass (top 1) 0
theorem sc_ScribeError___init__ : FnScope ["self", "word"] ["self", "word"] (defScope s_ScribeError___init__) := ⟨rfl, rfl, rfl, by decide +kernel, rfl, by decide +kernel, by decide +kernel⟩
abbrev s_BadTest___init__ : Stmt := inClass (top 3) 0
theorem sc_BadTest___init__ : FnScope ["self"] ["self"] (defScope s_BadTest___init__) := ⟨rfl, rfl, rfl, by decide +kernel, rfl, by decide +kernel, by decide +kernel⟩
end Lw
namespace Ls
open PySem PySem.Spec PyProof.Rows L2
section
variable {X : Cx}
def rAddU (K : PySem.W.Frag) : R2 := fun x y H Q => (∃ i j, x = .int i ∧ y = .int j ∧ Q (.int (i + j)) H) ∨ (∃ i j, x = .str i ∧ y = .str j ∧ i.length + j.length ≤ sizeLine ∧ Q (.str (i ++ j)) H) ∨ rCat x y H Q ∨ rCatA K x y H Q
theorem op_addU0 : OpR X (binaryOp .Add) (rAddU X.K) := OpR.or op_add (OpR.or op_add_str (OpR.or op_cat op_catA))
def rEqU (K : PySem.W.Frag) : R2 := fun x y H Q => rEq x y H Q ∨ rEqD K x y H Q
def rNeU (K : PySem.W.Frag) : R2 := fun x y H Q => rNe x y H Q ∨ rNeD K x y H Q
theorem op_eqU0 (hu : X.A.units + 66 < cLine) : OpR X (compareOp .Eq) (rEqU X.K) := OpR.or op_eq (op_eqD (by omega))
theorem op_neU0 (hu : X.A.units + 66 < cLine) : OpR X (compareOp .NotEq) (rNeU X.K) := OpR.or op_ne (op_neD (by omega))
def rIsU : R2 := fun x y H Q => (y = .non ∧ Q (.bl (decide (x = .non))) H) ∨ (∃ a b, x = .bl a ∧ y = .bl b ∧ Q (.bl (decide (a = b))) H)
def rIsNotU : R2 := fun x y H Q => (y = .non ∧ Q (.bl (!decide (x = .non))) H) ∨ (∃ a b, x = .bl a ∧ y = .bl b ∧ Q (.bl (!decide (a = b))) H)
theorem op_isU : OpR X (compareOp .Is) rIsU := OpR.or op_isN op_is_bl
theorem op_isnotU : OpR X (compareOp .IsNot) rIsNotU := OpR.or op_notN op_isnot_bl
def rInSg : R2 := fun x y H Q => ∃ (c : Nat) (z : Str), x = .str ⟨#[c]⟩ ∧ y = .str z ∧ Q (.bl (decide (c ∈ z.cps.toList))) H
def rNotInSg : R2 := fun x y H Q => ∃ (c : Nat) (z : Str), x = .str ⟨#[c]⟩ ∧ y = .str z ∧ Q (.bl (!decide (c ∈ z.cps.toList))) H
def rInU (K : PySem.W.Frag) : R2 := fun x y H Q => rIn K false x y H Q ∨ rInD K x y H Q ∨ rInSg x y H Q
def rNotInU (K : PySem.W.Frag) : R2 := fun x y H Q => rIn K true x y H Q ∨ rNotInD K x y H Q ∨ rNotInSg x y H Q
theorem op_inU0 (hu : X.A.units + 66 < cLine) : OpR X (compareOp .In) (rInU X.K) := OpR.or op_in_seq (OpR.or (op_inD (by omega)) op_in_sign)
theorem op_notinU0 (hu : X.A.units + 66 < cLine) : OpR X (compareOp .NotIn) (rNotInU X.K) := OpR.or op_notIn_seq (OpR.or (op_notInD (by omega)) op_notIn_sign)
def rLenU (K : PySem.W.Frag) : List V → Hp → VK → Prop := fun xs H Q => (∃ p ys, xs = [.ref p] ∧ (SqL K H p ys ∨ SqT K H p ys) ∧ Q (.int ys.length) H) ∨ (∃ z, xs = [.str z] ∧ z.length ≤ sizeLine ∧ Q (.int z.length) H) ∨ (∃ a kvs, xs = [V.ref a] ∧ H a = some (.dK kvs) ∧ Q (.int kvs.length) H)
theorem call_lenU0 : CallR X (.builtin "len") (rLenU X.K) := CallR.or call_len_seq (CallR.or call_len_str call_lenD)
def rSlU (K : PySem.W.Frag) : V → Option Int → Option Int → Hp → VK → Prop := fun x lo hi H Q => rSlL K x lo hi H Q ∨ rSlA K x lo hi H Q ∨ rSlS x lo hi H Q
theorem sl_U0 : SlR X (rSlU X.K) := SlR.or sl_list (SlR.or sl_tupA sl_str)
def rMaxU (K : PySem.W.Frag) : List V → Hp → VK → Prop := fun vs H Q => (∃ i j, vs = [.int i, .int j] ∧ Q (.int (if j > i then j else i)) H) ∨ rMax K vs H Q
def rMinU (K : PySem.W.Frag) : List V → Hp → VK → Prop := fun vs H Q => (∃ i j, vs = [.int i, .int j] ∧ Q (.int (if j < i then j else i)) H) ∨ rMin K vs H Q
theorem call_maxU0 (hc : X.calm = true) : CallR X (.builtin "max") (rMaxU X.K) := CallR.or (call_max2 hc) (cr_max hc)
end
section
variable {X : Cx}
theorem op_addU (K : PySem.W.Frag) (hK : X.K = K)  : OpR X (binaryOp .Add) (rAddU K) := by
  subst hK
  exact op_addU0
theorem op_eqU (K : PySem.W.Frag) (hK : X.K = K) (hu : X.A.units + 66 < cLine) : OpR X (compareOp .Eq) (rEqU K) := by
  subst hK
  exact op_eqU0 hu
theorem op_neU (K : PySem.W.Frag) (hK : X.K = K) (hu : X.A.units + 66 < cLine) : OpR X (compareOp .NotEq) (rNeU K) := by
  subst hK
  exact op_neU0 hu
theorem op_inU (K : PySem.W.Frag) (hK : X.K = K) (hu : X.A.units + 66 < cLine) : OpR X (compareOp .In) (rInU K) := by
  subst hK
  exact op_inU0 hu
theorem op_notinU (K : PySem.W.Frag) (hK : X.K = K) (hu : X.A.units + 66 < cLine) : OpR X (compareOp .NotIn) (rNotInU K) := by
  subst hK
  exact op_notinU0 hu
theorem call_lenU (K : PySem.W.Frag) (hK : X.K = K)  : CallR X (.builtin "len") (rLenU K) := by
  subst hK
  exact call_lenU0
theorem sl_U (K : PySem.W.Frag) (hK : X.K = K)  : SlR X (rSlU K) := by
  subst hK
  exact sl_U0
theorem call_maxU (K : PySem.W.Frag) (hK : X.K = K) (hc : X.calm = true) : CallR X (.builtin "max") (rMaxU K) := by
  subst hK
  exact call_maxU0 hc
def rListU (K : PySem.W.Frag) : List V → Hp → VK → Prop := fun xs H Q => ∃ p ys, xs = [V.ref p] ∧ (SqL K H p ys ∨ SqT K H p ys) ∧ ∀ l, H l = none → Q (.ref l) (upd H l (.lst ys))
def rTupleU (K : PySem.W.Frag) : List V → Hp → VK → Prop := fun xs H Q => ∃ p ys, xs = [.ref p] ∧ ((SqL K H p ys ∧ ∀ l, H l = none → Q (.ref l) (upd H l (.tup ys))) ∨ (SqT K H p ys ∧ Q (.ref p) H))
theorem call_listU (K : PySem.W.Frag) (hK : X.K = K) : CallR X (.type "list") (rListU K) := by
  subst hK
  exact call_list_of
theorem call_tupleU (K : PySem.W.Frag) (hK : X.K = K) : CallR X (.type "tuple") (rTupleU K) := by
  subst hK
  exact call_tuple_of
theorem cr_sumU (K : PySem.W.Frag) (hK : X.K = K) (hc : X.calm = true) : CallR X (.builtin "sum") (rSum K) := by
  subst hK
  exact cr_sum hc
theorem cr_allU (K : PySem.W.Frag) (hK : X.K = K) (hc : X.calm = true) : CallR X (.builtin "all") (rAll K) := by
  subst hK
  exact cr_all hc
theorem call_isiU (K : PySem.W.Frag) (hK : X.K = K) : CallR X (.builtin "isinstance") (rIsi K) := by
  subst hK
  exact call_isi
theorem call_isiTU (K : PySem.W.Frag) (hK : X.K = K) : CallR X (.builtin "isinstance") (rIsiT K) := by
  subst hK
  exact call_isiT
theorem ix_U (K : PySem.W.Frag) (hK : X.K = K) : IxR X (rIx K) := by
  subst hK
  exact ix_seq
theorem kBM {e : Expr} {T : String} {r : V → List V → Hp → VK → Prop} {to : TE} {t : TA} (K : PySem.W.Frag) (hK : X.K = K) (h : PE X e (tBM X.K T r to t)) : PE X e (tBM K T r to t) := hK ▸ h
theorem kGTup {e : Expr} {n : Nat} {t : TGs} (K : PySem.W.Frag) (hK : X.K = K) (h : PG X e (gTup X.K n t)) : PG X e (gTup K n t) := hK ▸ h
theorem kIL {tg l : Expr} {tl : TE} (K : PySem.W.Frag) (hK : X.K = K) (h : PI X tg l (iList X.K tl)) : PI X tg l (iList K tl) := hK ▸ h
end
theorem huOf {A : Around} {k : Nat} (hr : Room k A) : A.units + 66 < cLine := by
  have := hr.un
  omega
end Ls
namespace Ls
open PySem PySem.Spec PyProof.Rows L2
/-- tuples stay (they always do) -/
def Tp (K : PySem.W.Frag) (H H' : Hp) : Prop := ∀ a xs, SqT K H a xs → SqT K H' a xs
/-- all but the object at d stays -/
def Keep (d : Addr) (H H' : Hp) : Prop := ∀ b o, b ≠ d → H b = some o → H' b = some o
theorem same_new {H : Hp} {p : Addr} {o : HO} (h : H p = none) : Same H (upd H p o) := fun b x e => by
  rw [upd_ne (ne_of_none e h)]
  exact e
theorem rd_same {H H' : Hp} {a : Addr} {u : HO} (e : Same H H') (h : Rd H a u) : Rd H' a u := by
  rcases h with h | ⟨o, h⟩
  · exact .inl (e _ _ h)
  · exact .inr ⟨o, e _ _ h⟩
theorem sqt_same {K : PySem.W.Frag} {H H' : Hp} {a : Addr} {xs : List V} (e : Same H H') (h : SqT K H a xs) : SqT K H' a xs := by
  rcases h with h | h
  · exact .inl (rd_same e h)
  · exact .inr h
theorem Tp.refl {K : PySem.W.Frag} {H : Hp} : Tp K H H := fun _ _ h => h
theorem Tp.trans {K : PySem.W.Frag} {H H1 H2 : Hp} (a : Tp K H H1) (b : Tp K H1 H2) : Tp K H H2 := fun x xs h => b x xs (a x xs h)
theorem Tp.same {K : PySem.W.Frag} {H H' : Hp} (e : Same H H') : Tp K H H' := fun _ _ h => sqt_same e h
theorem Tp.new {K : PySem.W.Frag} {H : Hp} {p : Addr} {o : HO} (h : H p = none) : Tp K H (upd H p o) := Tp.same (same_new h)
/-- an object that is no tuple (nor a locked one) -/
def NoT : HO → Bool
  | .tup _ => false
  | .frz _ _ => false
  | _ => true
theorem keep_tp {K : PySem.W.Frag} {d : Addr} {H H' : Hp} {o : HO} (k : Keep d H H') (h : H d = some o) (n : NoT o = true) : Tp K H H' := fun a xs q => by
  have ne : ∀ u, NoT u = false → H a = some u → a ≠ d := fun u hu e z => by
    rw [z, h] at e
    cases e
    rw [n] at hu
    cases hu
  rcases q with (q | ⟨u, q⟩) | q
  · exact .inl (.inl (k _ _ (ne _ rfl q) q))
  · exact .inl (.inr ⟨u, k _ _ (ne _ rfl q) q⟩)
  · exact .inr q
theorem Keep.refl {d : Addr} {H : Hp} : Keep d H H := fun _ _ _ h => h
theorem Keep.trans {d : Addr} {H H1 H2 : Hp} (a : Keep d H H1) (b : Keep d H1 H2) : Keep d H H2 := fun c o n h => b c o n (a c o n h)
theorem Keep.same {d : Addr} {H H' : Hp} (e : Same H H') : Keep d H H' := fun b o _ h => e b o h
theorem Keep.new {d p : Addr} {H H' : Hp} {o : HO} (k : Keep d H H') (h : H' p = none) : Keep d H (upd H' p o) := fun b u n e => same_new h _ _ (k b u n e)
theorem Keep.put {d : Addr} {H H' : Hp} {o : HO} (k : Keep d H H') : Keep d H (upd H' d o) := fun b u n e => by
  rw [upd_ne n]
  exact k b u n e
/-- a write to what did not stand there at first -/
theorem Keep.wr {d p : Addr} {H H' : Hp} {o : HO} (k : Keep d H H') (h : H p = none) : Keep d H (upd H' p o) := fun b u n e => by
  rw [upd_ne (ne_of_none e h)]
  exact k b u n e
theorem Same.wr {p : Addr} {H H' : Hp} {o : HO} (k : Same H H') (h : H p = none) : Same H (upd H' p o) := fun b u e => by
  rw [upd_ne (ne_of_none e h)]
  exact k b u e
theorem Keep.free {d p : Addr} {H H' : Hp} {o : HO} (k : Keep d H H') (hd : H' d = some o) (h : H' p = none) : H p = none := by
  cases q : H p with
  | none => rfl
  | some u =>
    by_cases e : p = d
    · rw [e, hd] at h
      cases h
    · rw [k p u e q] at h
      cases h
theorem sql_same {K : PySem.W.Frag} {H H' : Hp} {a : Addr} {xs : List V} (e : Same H H') (h : SqL K H a xs) : SqL K H' a xs := e.seq h
theorem sql_keep {K : PySem.W.Frag} {d : Addr} {H H' : Hp} {a : Addr} {xs : List V} {kvs : List (Key × V)} (k : Keep d H H') (hd : H d = some (.dK kvs)) (h : SqL K H a xs) : SqL K H' a xs := by
  have ne : ∀ u, (∀ ks, u ≠ .dK ks) → H a = some u → a ≠ d := fun u hu e z => by
    rw [z, hd] at e
    exact hu _ (Option.some.inj e).symm
  rcases h with (q | ⟨u, q⟩) | q
  · exact .inl (.inl (k _ _ (ne _ (fun _ z => by cases z) q) q))
  · exact .inl (.inr ⟨u, k _ _ (ne _ (fun _ z => by cases z) q) q⟩)
  · exact .inr q
mutual
inductive Im (K : PySem.W.Frag) (H : Hp) : V → PyData → Prop
  | non : Im K H .non .none
  | bl (b : Bool) : Im K H (.bl b) (.bool b)
  | int (i : Int) : Im K H (.int i) (.int i)
  | str (x : Str) : Im K H (.str x) (.str x)
  | tup {a : Addr} {xs : List V} {ds : List PyData} : SqT K H a xs → ImAll K H xs ds → Im K H (.ref a) (.tuple ds)
inductive ImAll (K : PySem.W.Frag) (H : Hp) : List V → List PyData → Prop
  | nil : ImAll K H [] []
  | cons {v : V} {vs : List V} {d : PyData} {ds : List PyData} : Im K H v d → ImAll K H vs ds → ImAll K H (v :: vs) (d :: ds)
end
section
variable {K : PySem.W.Frag} {H H' : Hp}
mutual
theorem Im.mono (t : Tp K H H') : ∀ {v : V} {d : PyData}, Im K H v d → Im K H' v d
  | _, _, .non => .non
  | _, _, .bl b => .bl b
  | _, _, .int i => .int i
  | _, _, .str x => .str x
  | _, _, .tup h hs => .tup (t _ _ h) (ImAll.mono t hs)
theorem ImAll.mono (t : Tp K H H') : ∀ {vs : List V} {ds : List PyData}, ImAll K H vs ds → ImAll K H' vs ds
  | _, _, .nil => .nil
  | _, _, .cons h hs => .cons (Im.mono t h) (ImAll.mono t hs)
end
mutual
theorem Im.dp : ∀ {v : V} {d : PyData}, Im K H v d → Dp K H v d
  | _, _, .non => .non
  | _, _, .bl b => .bl b
  | _, _, .int i => .int i
  | _, _, .str x => .str x
  | _, _, .tup h hs => .tup h (ImAll.dp hs)
theorem ImAll.dp : ∀ {vs : List V} {ds : List PyData}, ImAll K H vs ds → DpAll K H vs ds
  | _, _, .nil => .nil
  | _, _, .cons h hs => .cons (Im.dp h) (ImAll.dp hs)
end
theorem ImAll.length : ∀ {vs : List V} {ds : List PyData}, ImAll K H vs ds → vs.length = ds.length
  | _, _, .nil => rfl
  | _, _, .cons _ hs => congrArg Nat.succ (ImAll.length hs)
theorem ImAll.app : ∀ {vs ws : List V} {ds es : List PyData}, ImAll K H vs ds → ImAll K H ws es → ImAll K H (vs ++ ws) (ds ++ es)
  | _, _, _, _, .nil, h => h
  | _, _, _, _, .cons a b, h => .cons a (ImAll.app b h)
theorem ImAll.snoc {vs : List V} {ds : List PyData} {v : V} {d : PyData} (h : ImAll K H vs ds) (a : Im K H v d) : ImAll K H (vs ++ [v]) (ds ++ [d]) := h.app (.cons a .nil)
theorem ImAll.get : ∀ {vs : List V} {ds : List PyData} {i : Nat} {v : V}, ImAll K H vs ds → vs[i]? = some v → ∃ d, ds[i]? = some d ∧ Im K H v d
  | _, _, i, _, .nil, e => by simp at e
  | _, _, 0, _, .cons a _, e => by
    simp at e
    subst e
    exact ⟨_, rfl, a⟩
  | _, _, i + 1, v, .cons _ b, e => by
    obtain ⟨d, h1, h2⟩ := ImAll.get (i := i) (v := v) b (by simpa using e)
    exact ⟨d, by simpa using h1, h2⟩
theorem ImAll.getD : ∀ {vs : List V} {ds : List PyData} {i : Nat} {d : PyData}, ImAll K H vs ds → ds[i]? = some d → ∃ v, vs[i]? = some v ∧ Im K H v d
  | _, _, i, _, .nil, e => by simp at e
  | _, _, 0, _, .cons a _, e => by
    simp at e
    subst e
    exact ⟨_, rfl, a⟩
  | _, _, i + 1, d, .cons _ b, e => by
    obtain ⟨v, h1, h2⟩ := ImAll.getD (i := i) (d := d) b (by simpa using e)
    exact ⟨v, by simpa using h1, h2⟩
theorem ImAll.take : ∀ {vs : List V} {ds : List PyData} (n : Nat), ImAll K H vs ds → ImAll K H (vs.take n) (ds.take n)
  | _, _, 0, _ => by simp only [List.take_zero]; exact .nil
  | _, _, n + 1, .nil => by simp only [List.take_nil]; exact .nil
  | _, _, n + 1, .cons a b => .cons a (ImAll.take n b)
theorem ImAll.drop : ∀ {vs : List V} {ds : List PyData} (n : Nat), ImAll K H vs ds → ImAll K H (vs.drop n) (ds.drop n)
  | _, _, 0, h => h
  | _, _, n + 1, .nil => by simp only [List.drop_nil]; exact .nil
  | _, _, n + 1, .cons a b => ImAll.drop n b
theorem im_int {v : V} {i : Int} (h : Im K H v (.int i)) : v = .int i := by cases h; rfl
theorem im_str {v : V} {x : Str} (h : Im K H v (.str x)) : v = .str x := by cases h; rfl
theorem im_bl {v : V} {b : Bool} (h : Im K H v (.bool b)) : v = .bl b := by cases h; rfl
theorem im_non {v : V} (h : Im K H v .none) : v = .non := by cases h; rfl
theorem im_tup {v : V} {ds : List PyData} (h : Im K H v (.tuple ds)) : ∃ a xs, v = .ref a ∧ SqT K H a xs ∧ ImAll K H xs ds := by
  cases h with
  | tup h hs => exact ⟨_, _, rfl, h, hs⟩
end
theorem sqt_of {K : PySem.W.Frag} {H : Hp} {p : Addr} {xs : List V} (h : H p = some (.tup xs)) : SqT K H p xs := .inl (.inl h)
theorem sql_of {K : PySem.W.Frag} {H : Hp} {p : Addr} {xs : List V} (h : H p = some (.lst xs)) : SqL K H p xs := .inl (.inl h)
end Ls
namespace Ls
open PySem PySem.Spec PyProof.Rows L2
section
variable {K : PySem.W.Frag} {σ : L2.St} {H : Hp} {Q : VK} {D : Ends} {ta tb tc te td ty tv : TE} {tt tu : TT} {t u : TS} {tl : TA} {x y z v : V} {i j : Int} {b c : Bool} {a p l : Addr} {xs ys : List V}
theorem k_seq (h : t { D with nx := u D } σ H) : tSeq t u D σ H := h
theorem k_next (h : D.nx σ H) : tNext D σ H := h
theorem k_brk (h : D.bk σ H) : tBreak D σ H := h
theorem k_cont (h : D.ct σ H) : tCont D σ H := h
theorem k_drop (h : te σ H fun _ H1 => D.nx σ H1) : tDrop te D σ H := h
theorem k_ret (h : te σ H D.rt) : tRet te D σ H := h
theorem k_retN (h : D.rt .non H) : tRetN D σ H := h
theorem k_if (h : tt σ H fun b H1 => if b = true then t D σ H1 else u D σ H1) : tIfS tt t u D σ H := h
theorem k_asg {g : TG} (h : te σ H fun x H1 => g x σ H1 D.nx) : tAsg te g D σ H := h
theorem k_par {i j : Nat} (h : tl σ H fun vs H1 => ∃ v w, vs = [v, w] ∧ D.nx ((σ.set i (some v)).set j (some w)) H1) : tPar i j tl D σ H := h
theorem k_par2 {Q : V → V → Prop} (h : Q x y) : ∃ v w, [x, y] = [v, w] ∧ Q v w := ⟨x, y, rfl, h⟩
theorem k_gtup {n : Nat} {tg : TGs} {R : L2.St → Hp → Prop} (h1 : SqT K H a xs) (h2 : xs.length = n) (h : tg xs σ H R) : gTup K n tg (.ref a) σ H R := ⟨a, xs, rfl, h1, h2, h⟩
theorem k_gcons {tg : TG} {ug : TGs} {R : L2.St → Hp → Prop} (h : tg x σ H fun σ' H' => ug xs σ' H' R) : gCons tg ug (x :: xs) σ H R := ⟨x, xs, rfl, h⟩
theorem k_gnil {R : L2.St → Hp → Prop} (h : R σ H) : gNil [] σ H R := ⟨rfl, h⟩
theorem k_c (q : Q v H) : tC v σ H Q := q
theorem k_op {r : R2} (h : ta σ H fun x H1 => tb σ H1 fun y H2 => r x y H2 Q) : tOp r ta tb σ H Q := h
theorem k_un {r : V → Hp → VK → Prop} (h : ta σ H fun x H1 => r x H1 Q) : tUn r ta σ H Q := h
theorem k_cb {r : List V → Hp → VK → Prop} (h : tl σ H fun vs H1 => r vs H1 Q) : tCB r tl σ H Q := h
theorem k_nil {R : List V → Hp → Prop} (h : R [] H) : tNil σ H R := h
theorem k_cons {R : List V → Hp → Prop} (h : ta σ H fun x H1 => tl σ H1 fun xs H2 => R (x :: xs) H2) : tCons ta tl σ H R := h
theorem k_call {sp : Sp} {dvs : List V} {E : XK} (h : tl σ H fun vs H1 => sp (vs ++ dvs) H1 Q E) : tCall sp dvs E tl σ H Q := h
theorem k_callN {n m : Nat} {sp : Sp} {gV : List V → List V → List V} {E : XK} {tk : TA} (h : tl σ H fun vs H1 => tk σ H1 fun zs H2 => vs.length = n ∧ zs.length = m ∧ sp (gV vs zs) H2 Q E) : tCallN n m sp gV E tl tk σ H Q := h
theorem k_tup (h : tl σ H fun xs H1 => xs.length ≤ sizeLine ∧ ∀ p, H1 p = none → Q (.ref p) (upd H1 p (.tup xs))) : tTup tl σ H Q := h
theorem k_lst (h : tl σ H fun xs H1 => xs.length ≤ sizeLine ∧ ∀ p, H1 p = none → Q (.ref p) (upd H1 p (.lst xs))) : tLst tl σ H Q := h
theorem k_new {P : Prop} (h1 : xs.length ≤ sizeLine) (h : P) : xs.length ≤ sizeLine ∧ P := ⟨h1, h⟩
theorem k_test {R : Bool → Hp → Prop} (h : te σ H fun x H' => ∃ k, x = .bl k ∧ R k H') : tTest te σ H R := h
theorem k_B {R : Bool → Hp → Prop} (h : te σ H fun x H' => ∃ k, x = .bl k ∧ R k H') : tB te σ H R := h
theorem k_bl {R : Bool → Prop} (h : R b) : ∃ k, V.bl b = .bl k ∧ R k := ⟨b, rfl, h⟩
theorem k_and {R : Bool → Hp → Prop} (h : tt σ H fun c H1 => if c = true then tu σ H1 R else R false H1) : tAnd tt tu σ H R := h
theorem k_or {R : Bool → Hp → Prop} (h : tt σ H fun c H1 => if c = true then R true H1 else tu σ H1 R) : tOr tt tu σ H R := h
theorem k_not {R : Bool → Hp → Prop} (h : tt σ H fun c H1 => R (!c) H1) : tNot tt σ H R := h
theorem k_andV (h : ta σ H fun x H1 => ∃ c, x = .bl c ∧ if c = true then tb σ H1 Q else Q (.bl false) H1) : tAndV ta tb σ H Q := h
theorem k_orV (h : ta σ H fun x H1 => ∃ c, x = .bl c ∧ if c = true then Q (.bl true) H1 else tb σ H1 Q) : tOrV ta tb σ H Q := h
theorem k_notV (h : ta σ H fun x H1 => ∃ c, x = .bl c ∧ Q (.bl (!c)) H1) : tNotV ta σ H Q := h
theorem k_ifE (h : tt σ H fun c H1 => if c = true then ta σ H1 Q else tb σ H1 Q) : tIf tt ta tb σ H Q := h
theorem k_yes {R : Bool → Hp → Prop} (h : R true H) : tYes σ H R := h
theorem k_chain {r r' : R2} (h : ta σ H fun x H1 => tb σ H1 fun y H2 => r x y H2 fun z H3 => ∃ k, z = .bl k ∧ (if k = true then tc σ H3 fun w' H4 => r' y w' H4 Q else Q (.bl false) H3)) : tChain r r' ta tb tc σ H Q := h
theorem k_dget (h : td σ H fun x H1 => ty σ H1 fun y H2 => ∃ a v, x = .ref a ∧ DGet H2 a y (some v) ∧ Q v H2) : tDGet td ty σ H Q := h
theorem k_dput (h : tv σ H fun v H1 => td σ H1 fun x H2 => ty σ H2 fun y H3 => ∃ a H4, x = .ref a ∧ DPut H3 a y v H4 ∧ D.nx σ H4) : sDPut td ty tv D σ H := h
theorem k_din (h : ty σ H fun y H1 => td σ H1 fun x H2 => ∃ a o, x = .ref a ∧ DGet H2 a y o ∧ Q (.bl o.isSome) H2) : tDIn ty td σ H Q := h
theorem k_dnotin (h : ty σ H fun y H1 => td σ H1 fun x H2 => ∃ a o, x = .ref a ∧ DGet H2 a y o ∧ Q (.bl (!o.isSome)) H2) : tDNotIn ty td σ H Q := h
theorem k_getS {kvs : List (Key × V)} {R : V → Prop} {k : Str} (h1 : H a = some (.dK kvs)) (h2 : valV kvs (.inr k) = some v) (h : R v) : ∃ b w, V.ref a = .ref b ∧ DGet H b (.str k) (some w) ∧ R w :=
  ⟨a, v, rfl, .inl ⟨kvs, .inr k, .inl h1, rfl, h2.symm⟩, h⟩
theorem k_putS {kvs : List (Key × V)} {R : Hp → Prop} {k : Str} (h1 : H a = some (.dK kvs)) (h2 : kvs.length < sizeLine) (h : R (upd H a (.dK (putK kvs (.inr k) v)))) : ∃ b H4, V.ref a = .ref b ∧ DPut H b (.str k) v H4 ∧ R H4 :=
  ⟨a, _, rfl, .inl ⟨kvs, .inr k, h1, rfl, h2, rfl⟩, h⟩
theorem k_addI (q : Q (.int (i + j)) H) : rAddU K (.int i) (.int j) H Q := .inl ⟨i, j, rfl, rfl, q⟩
theorem k_addS {x y : Str} (h : x.length + y.length ≤ sizeLine) (q : Q (.str (x ++ y)) H) : rAddU K (.str x) (.str y) H Q := .inr (.inl ⟨x, y, rfl, rfl, h, q⟩)
theorem k_addL (h1 : H a = some (.lst xs)) (h2 : H l = some (.lst ys)) (h3 : xs.length + ys.length ≤ sizeLine) (q : ∀ p, H p = none → Q (.ref p) (upd H p (.lst (xs ++ ys)))) : rAddU K (.ref a) (.ref l) H Q := .inr (.inr (.inl ⟨a, l, xs, ys, rfl, rfl, h1, h2, h3, q⟩))
theorem k_addT (h1 : SqT K H a xs) (h2 : SqT K H l ys) (h3 : xs.length + ys.length ≤ sizeLine) (q1 : xs = [] → Q (.ref l) H) (q2 : xs ≠ [] → ys = [] → Q (.ref a) H) (q : ∀ p, H p = none → Q (.ref p) (upd H p (.tup (xs ++ ys)))) : rAddU K (.ref a) (.ref l) H Q :=
  .inr (.inr (.inr ⟨a, l, xs, ys, rfl, rfl, h1, h2, h3, q1, q2, fun _ _ => q⟩))
theorem k_sub (q : Q (.int (i - j)) H) : rI0 (fun i j => .int (i - j)) (.int i) (.int j) H Q := ⟨i, j, rfl, rfl, q⟩
theorem k_mulR (h : -(2 ^ 64) < j ∧ j < 2 ^ 64) (q : Q (.int (i * j)) H) : rI CMul (fun i j => .int (i * j)) (.int i) (.int j) H Q := ⟨i, j, rfl, rfl, .inr h, q⟩
theorem k_mulL (h : -(2 ^ 64) < i ∧ i < 2 ^ 64) (q : Q (.int (i * j)) H) : rI CMul (fun i j => .int (i * j)) (.int i) (.int j) H Q := ⟨i, j, rfl, rfl, .inl h, q⟩
theorem k_mod (h : 0 < j) (q : Q (.int (i % j)) H) : rI (fun _ j => 0 < j) (fun i j => .int (i % j)) (.int i) (.int j) H Q := ⟨i, j, rfl, rfl, h, q⟩
theorem k_fdiv (h : 0 < j) (h2 : j < 2 ^ 200) (q : Q (.int (i / j)) H) : rI CDivW (fun i j => .int (i / j)) (.int i) (.int j) H Q := ⟨i, j, rfl, rfl, wide_div h (b := 200) (by omega) (by decide) (by decide), q⟩
theorem k_neg (q : Q (.int (-i)) H) : rU (fun i => .int (-i)) (.int i) H Q := ⟨i, rfl, q⟩
theorem k_lt (q : Q (.bl (decide (i < j))) H) : rI0 (fun i j => .bl (decide (i < j))) (.int i) (.int j) H Q := ⟨i, j, rfl, rfl, q⟩
theorem k_le (q : Q (.bl (decide (i ≤ j))) H) : rI0 (fun i j => .bl (decide (i ≤ j))) (.int i) (.int j) H Q := ⟨i, j, rfl, rfl, q⟩
theorem k_gt (q : Q (.bl (decide (j < i))) H) : rI0 (fun i j => .bl (decide (j < i))) (.int i) (.int j) H Q := ⟨i, j, rfl, rfl, q⟩
theorem k_ge (q : Q (.bl (decide (j ≤ i))) H) : rI0 (fun i j => .bl (decide (j ≤ i))) (.int i) (.int j) H Q := ⟨i, j, rfl, rfl, q⟩
theorem dec_eqI : decide (V.int i = V.int j) = decide (i = j) := by
  by_cases h : i = j
  · subst h; simp
  · rw [decide_eq_false h]; exact decide_eq_false fun e => h (V.int.inj e)
theorem dec_eqS {x y : Str} : decide (V.str x = V.str y) = decide (x = y) := by
  by_cases h : x = y
  · subst h; simp
  · rw [decide_eq_false h]; exact decide_eq_false fun e => h (V.str.inj e)
theorem k_eqI (q : Q (.bl (decide (i = j))) H) : rEqU K (.int i) (.int j) H Q := .inl ⟨rfl, by rw [dec_eqI]; exact q⟩
theorem k_neI (q : Q (.bl (!decide (i = j))) H) : rNeU K (.int i) (.int j) H Q := .inl ⟨rfl, by rw [dec_eqI]; exact q⟩
theorem k_eqS {x y : Str} (q : Q (.bl (decide (x = y))) H) : rEqU K (.str x) (.str y) H Q := .inl ⟨rfl, by rw [dec_eqS]; exact q⟩
theorem k_neS {x y : Str} (q : Q (.bl (!decide (x = y))) H) : rNeU K (.str x) (.str y) H Q := .inl ⟨rfl, by rw [dec_eqS]; exact q⟩
theorem k_eqB (q : Q (.bl (decide (b = c))) H) : rEqU K (.bl b) (.bl c) H Q := .inl ⟨rfl, by
  have e : decide (V.bl b = V.bl c) = decide (b = c) := by cases b <;> cases c <;> decide
  rw [e]; exact q⟩
theorem k_neB (q : Q (.bl (!decide (b = c))) H) : rNeU K (.bl b) (.bl c) H Q := .inl ⟨rfl, by
  have e : decide (V.bl b = V.bl c) = decide (b = c) := by cases b <;> cases c <;> decide
  rw [e]; exact q⟩
theorem k_isN (q : Q (.bl (decide (x = .non))) H) : rIsU x .non H Q := .inl ⟨rfl, q⟩
theorem k_isnotN (q : Q (.bl (!decide (x = .non))) H) : rIsNotU x .non H Q := .inl ⟨rfl, q⟩
theorem k_lenL (h : SqL K H a xs) (q : Q (.int xs.length) H) : rLenU K [.ref a] H Q := .inl ⟨a, xs, rfl, .inl h, q⟩
theorem k_lenT (h : SqT K H a xs) (q : Q (.int xs.length) H) : rLenU K [.ref a] H Q := .inl ⟨a, xs, rfl, .inr h, q⟩
theorem k_lenS {w : Str} (h : w.length ≤ sizeLine) (q : Q (.int w.length) H) : rLenU K [.str w] H Q := .inr (.inl ⟨w, rfl, h, q⟩)
theorem k_ixL (h : SqL K H a xs) (h2 : atI xs i = some v) (q : Q v H) : rIx K (.ref a) (.int i) H Q := .inl ⟨a, xs, i, v, rfl, rfl, h, h2, q⟩
theorem k_ixT (h : SqT K H a xs) (h2 : atI xs i = some v) (q : Q v H) : rIx K (.ref a) (.int i) H Q := .inr (.inl ⟨a, xs, i, v, rfl, rfl, h, h2, q⟩)
theorem k_ixS {w : Str} {c : Nat} (h : w.length ≤ sizeLine) (h2 : atI w.cps.toList i = some c) (q : Q (.str ⟨#[c]⟩) H) : rIx K (.str w) (.int i) H Q := .inr (.inr ⟨w, i, c, rfl, rfl, h, h2, q⟩)
theorem k_bm {T : String} {r : V → List V → Hp → VK → Prop} (h : ta σ H fun x H1 => tyV K T x H1 ∧ tl σ H1 fun xs H2 => r x xs H2 Q) : tBM K T r ta tl σ H Q := h
theorem k_bm0 {T : String} {r : V → List V → Hp → VK → Prop} (h : ta σ H fun x H1 => tyV K T x H1 ∧ r x [] H1 Q) : tBM0 K T r ta σ H Q := h
theorem k_tyL {P : Prop} (h : SqL K H a xs) (q : P) : tyV K "list" (.ref a) H ∧ P := ⟨.inl ⟨rfl, _, h⟩, q⟩
theorem k_app (h : H a = some (.lst xs)) (hl : xs.length < sizeLine) (q : Q .non (upd H a (.lst (xs ++ [x])))) : rAppend (.ref a) [x] H Q := ⟨a, xs, x, rfl, rfl, h, hl, q⟩
theorem k_sl {r : V → Option Int → Option Int → Hp → VK → Prop} {tlo thi : TO} (h : te σ H fun x H1 => tlo σ H1 fun l H2 => thi σ H2 fun u H3 => r x l u H3 Q) : tSl r te tlo thi σ H Q := h
theorem k_nop {R : Option Int → Hp → Prop} (h : R none H) : tNoPart σ H R := h
theorem k_part {R : Option Int → Hp → Prop} (h : te σ H fun x H1 => ∃ i, x = .int i ∧ R (some i) H1) : tPart te σ H R := h
theorem k_partI {R : Int → Prop} (h : R i) : ∃ k, V.int i = .int k ∧ R k := ⟨i, rfl, h⟩
theorem k_slL {lo hi : Option Int} (h : SqL K H a xs) (q : ∀ p, H p = none → Q (.ref p) (upd H p (.lst (cutV xs lo hi)))) : rSlU K (.ref a) lo hi H Q := .inl ⟨a, xs, rfl, h, q⟩
theorem k_list (h : SqL K H a xs) (q : ∀ p, H p = none → Q (.ref p) (upd H p (.lst xs))) : rListU K [V.ref a] H Q := ⟨a, xs, rfl, .inl h, q⟩
theorem k_for {wi : TI} {g : TG} {tb : TS} (h : wi σ H fun J H1 => ∃ W : Nat → Nat → L2.St → Hp → Prop, (∃ m, W 0 m σ H1) ∧ ∀ i m σ H, W i m σ H → (J.stop i H ∧ D.nx σ H) ∨ (J.go i H ∧ ∃ N : L2.St → Hp → Prop, (∀ σ' H', N σ' H' → ∃ m', m' < m ∧ W (i + 1) m' σ' H') ∧ ∀ x H', J.yld i H x H' → g x σ H' fun σ2 H2 => tb { D with nx := N, ct := N, bk := D.nx } σ2 H2)) : tFor wi g tb D σ H := h
theorem k_itL {R : It → Hp → Prop} (h : te σ H fun x H1 => ∃ a, x = .ref a ∧ (∃ xs, SqL K H1 a xs) ∧ R (Itl K a) H1) : iList K te σ H R := h
theorem k_itl {R : Addr → Prop} (h1 : SqL K H a xs) (h : R a) : ∃ b, V.ref a = .ref b ∧ (∃ xs, SqL K H b xs) ∧ R b := ⟨a, rfl, ⟨xs, h1⟩, h⟩
theorem k_itT {R : It → Hp → Prop} (h : te σ H fun x H1 => ∃ a, x = .ref a ∧ (∃ xs, SqT K H1 a xs) ∧ R (Itt K a) H1) : iTup K te σ H R := h
theorem k_itR1 {R : It → Hp → Prop} (h : tl σ H fun vs H1 => ∃ j : Int, vs = [.int j] ∧ -(2 ^ 62) ≤ j ∧ j < 2 ^ 62 ∧ R (Itr 0 j.toNat) H1) : iRng1 tl σ H R := h
theorem k_itr1 {R : Int → Prop} (h1 : -(2 ^ 62) ≤ j ∧ j < 2 ^ 62) (h : R j) : ∃ k : Int, [V.int j] = [.int k] ∧ -(2 ^ 62) ≤ k ∧ k < 2 ^ 62 ∧ R k := ⟨j, rfl, h1.1, h1.2, h⟩
theorem k_itR2 {R : It → Hp → Prop} (h : tl σ H fun vs H1 => ∃ i j : Int, vs = [.int i, .int j] ∧ (-(2 ^ 62) ≤ i ∧ i < 2 ^ 62 ∧ -(2 ^ 62) ≤ j ∧ j < 2 ^ 62) ∧ R (Itr i (j - i).toNat) H1) : iRng2 tl σ H R := h
end
theorem k_ite {b : Bool} {A B : Prop} (h1 : b = true → A) (h2 : b = false → B) : if b = true then A else B := by
  cases b with
  | true => rw [if_pos rfl]; exact h1 rfl
  | false => rw [if_neg Bool.false_ne_true]; exact h2 rfl
theorem k_itd {p A B : Prop} [Decidable p] (h1 : p → A) (h2 : ¬ p → B) : if decide p = true then A else B := k_ite (fun h => h1 (of_decide_eq_true h)) fun h => h2 (of_decide_eq_false h)
theorem k_itn {p A B : Prop} [Decidable p] (h1 : ¬ p → A) (h2 : p → B) : if (!decide p) = true then A else B := k_ite (fun h => h1 (of_decide_eq_false (by simpa using h))) fun h => h2 (of_decide_eq_true (by simpa using h))
theorem k_pos {p A B : Prop} [Decidable p] (hp : p) (h1 : A) : if decide p = true then A else B := k_itd (fun _ => h1) fun h => absurd hp h
theorem k_neg' {p A B : Prop} [Decidable p] (hp : ¬ p) (h1 : B) : if decide p = true then A else B := k_itd (fun h => absurd h hp) fun _ => h1
theorem k_npos {p A B : Prop} [Decidable p] (hp : ¬ p) (h1 : A) : if (!decide p) = true then A else B := k_itn (fun _ => h1) fun h => absurd h hp
theorem k_nneg {p A B : Prop} [Decidable p] (hp : p) (h1 : B) : if (!decide p) = true then A else B := k_itn (fun h => absurd hp h) fun _ => h1
theorem k_tt {A B : Prop} (h : A) : if true = true then A else B := by rw [if_pos rfl]; exact h
theorem k_ff {A B : Prop} (h : B) : if false = true then A else B := by rw [if_neg Bool.false_ne_true]; exact h
theorem up_new {H : Hp} {a p : Addr} {o u : HO} (hp : H p = none) (h : H a = some o) : upd H p u a = some o := same_new hp _ _ h
theorem up_ne {H : Hp} {a p : Addr} {o u : HO} (n : a ≠ p) (h : H a = some o) : upd H p u a = some o := by rw [upd_ne n]; exact h
theorem Keep.at {d a : Addr} {H H' : Hp} {o : HO} (k : Keep d H H') (n : a ≠ d) (h : H a = some o) : H' a = some o := k a o n h
end Ls
namespace Ls
theorem hu1 {n : Nat} (h : n + 66 < PySem.cLine) : n + 1 < PySem.cLine := by omega
end Ls
namespace Ls
open PySem PySem.Spec PyProof.Rows L2
theorem k_body {t : TS} {D : Ends} {s0 s1 : L2.St} {H : Hp} (e : s0 = s1) (h : t D s1 H) : t D s0 H := e ▸ h
end Ls
namespace Ls
open PySem PySem.Spec PyProof.Rows L2
/-- a statement, then the rest, the ways joined between: M what holds there -/
def tCut (t u : TS) : TS := fun D σ H => ∃ M : L2.St → Hp → Prop, t { D with nx := M } σ H ∧ ∀ σ' H', M σ' H' → u D σ' H'
theorem k_cut {t u : TS} {D : Ends} {σ : L2.St} {H : Hp} (M : L2.St → Hp → Prop) (h1 : t { D with nx := M } σ H) (h2 : ∀ σ' H', M σ' H' → u D σ' H') : tCut t u D σ H := ⟨M, h1, h2⟩
end Ls
namespace Ls
open PySem PySem.Spec PyProof.Rows L2
theorem pss_cut {X : Cx} {st : Stmt} {rest : List Stmt} {t u : TS} (h1 : PS X st t) (h2 : PSs X rest u) : PSs X (st :: rest) (tCut t u) := by
  refine ⟨fun pins s σ H D I h => ?_⟩
  obtain ⟨M, hm, hu⟩ := h
  refine wpAny_execs_cons (thn (h1.run pins s σ H { D with nx := M } I hm) fun f s1 q => ?_)
  cases f with
  | next =>
    obtain ⟨σ', H', I', q⟩ := q
    exact h2.run pins s1 σ' H' D I' (hu σ' H' q)
  | ret v => exact q
  | brk => exact q
  | cont => exact q
theorem k_powL {H : Hp} {Q : VK} {i j v : Int} (h1 : 0 ≤ j ∧ j ≤ 1000000) (h3 : i.natAbs < 2 ^ 64) (e : i ^ j.toNat = v) (q : Q (.int v) H) : rI CPow (fun i j => .int (i ^ j.toNat)) (.int i) (.int j) H Q := ⟨i, j, rfl, rfl, ⟨h1.1, h1.2, h3⟩, by
  show Q (.int (i ^ j.toNat)) H
  rw [e]
  exact q⟩
end Ls
namespace Ls
open PySem PySem.Spec PyProof.Rows L2
theorem pe_ty {X : Cx} {x : Str} {pos : Pos} (T : String) (hg : Gl X x) (hm : X.mg x = none) (hv : bootBuiltins x = some (.type T)) (hn : x ≠ "__name__" := by decide) (hd : (x == ("__debug__" : Str)) = false := by decide) : PE X (.Name x pos) (tC (.ty T)) := pe_bltn (v := .ty T) hg hm hv rfl hn hd
end Ls
namespace Ls
open PySem PySem.Spec PyProof.Rows L2
theorem pe_gc {X : Cx} {x : Str} {pos : Pos} {v : V} (hg : Gl X x) (h : ∃ u, X.mg x = some u ∧ RelV v u) (hd : (x == ("__debug__" : Str)) = false := by decide) : PE X (.Name x pos) (tC v) := by
  obtain ⟨u, h1, h2⟩ := h
  exact pe_glob hg h1 h2 hd
end Ls
namespace Ls
theorem k_nt {A B : Prop} (h : B) : if (!true) = true then A else B := by rw [if_neg (by decide)]; exact h
theorem k_nf {A B : Prop} (h : A) : if (!false) = true then A else B := by rw [if_pos (by decide)]; exact h
end Ls
namespace Ls
open PySem PySem.Spec PyProof.Rows L2
section
variable {H : Hp} {Q : VK} {D : Ends} {te : TE} {v x : V} {s : L2.St} {R : L2.St → Hp → Prop} {o0 o1 o2 o3 o4 o5 o6 o7 o8 o9 o10 o11 o12 o13 o14 o15 o16 o17 o18 o19 o20 o21 o22 o23 o24 o25 o26 o27 o28 o29 o30 o31 o32 o33 o34 o35 o36 o37 o38 o39 o40 o41 o42 o43 : Option V}
theorem k_v0 (q : Q v H) : tVar 0 (some v :: s) H Q := ⟨v, rfl, q⟩
theorem k_s0 (q : te (o0 :: s) H fun x H1 => D.nx (some x :: s) H1) : tAsg te (gName 0) D (o0 :: s) H := q
theorem k_g0 (q : R (some x :: s) H) : gName 0 x (o0 :: s) H R := q
theorem k_v1 (q : Q v H) : tVar 1 (o0 :: some v :: s) H Q := ⟨v, rfl, q⟩
theorem k_s1 (q : te (o0 :: o1 :: s) H fun x H1 => D.nx (o0 :: some x :: s) H1) : tAsg te (gName 1) D (o0 :: o1 :: s) H := q
theorem k_g1 (q : R (o0 :: some x :: s) H) : gName 1 x (o0 :: o1 :: s) H R := q
theorem k_v2 (q : Q v H) : tVar 2 (o0 :: o1 :: some v :: s) H Q := ⟨v, rfl, q⟩
theorem k_s2 (q : te (o0 :: o1 :: o2 :: s) H fun x H1 => D.nx (o0 :: o1 :: some x :: s) H1) : tAsg te (gName 2) D (o0 :: o1 :: o2 :: s) H := q
theorem k_g2 (q : R (o0 :: o1 :: some x :: s) H) : gName 2 x (o0 :: o1 :: o2 :: s) H R := q
theorem k_v3 (q : Q v H) : tVar 3 (o0 :: o1 :: o2 :: some v :: s) H Q := ⟨v, rfl, q⟩
theorem k_s3 (q : te (o0 :: o1 :: o2 :: o3 :: s) H fun x H1 => D.nx (o0 :: o1 :: o2 :: some x :: s) H1) : tAsg te (gName 3) D (o0 :: o1 :: o2 :: o3 :: s) H := q
theorem k_g3 (q : R (o0 :: o1 :: o2 :: some x :: s) H) : gName 3 x (o0 :: o1 :: o2 :: o3 :: s) H R := q
theorem k_v4 (q : Q v H) : tVar 4 (o0 :: o1 :: o2 :: o3 :: some v :: s) H Q := ⟨v, rfl, q⟩
theorem k_s4 (q : te (o0 :: o1 :: o2 :: o3 :: o4 :: s) H fun x H1 => D.nx (o0 :: o1 :: o2 :: o3 :: some x :: s) H1) : tAsg te (gName 4) D (o0 :: o1 :: o2 :: o3 :: o4 :: s) H := q
theorem k_g4 (q : R (o0 :: o1 :: o2 :: o3 :: some x :: s) H) : gName 4 x (o0 :: o1 :: o2 :: o3 :: o4 :: s) H R := q
theorem k_v5 (q : Q v H) : tVar 5 (o0 :: o1 :: o2 :: o3 :: o4 :: some v :: s) H Q := ⟨v, rfl, q⟩
theorem k_s5 (q : te (o0 :: o1 :: o2 :: o3 :: o4 :: o5 :: s) H fun x H1 => D.nx (o0 :: o1 :: o2 :: o3 :: o4 :: some x :: s) H1) : tAsg te (gName 5) D (o0 :: o1 :: o2 :: o3 :: o4 :: o5 :: s) H := q
theorem k_g5 (q : R (o0 :: o1 :: o2 :: o3 :: o4 :: some x :: s) H) : gName 5 x (o0 :: o1 :: o2 :: o3 :: o4 :: o5 :: s) H R := q
theorem k_v6 (q : Q v H) : tVar 6 (o0 :: o1 :: o2 :: o3 :: o4 :: o5 :: some v :: s) H Q := ⟨v, rfl, q⟩
theorem k_s6 (q : te (o0 :: o1 :: o2 :: o3 :: o4 :: o5 :: o6 :: s) H fun x H1 => D.nx (o0 :: o1 :: o2 :: o3 :: o4 :: o5 :: some x :: s) H1) : tAsg te (gName 6) D (o0 :: o1 :: o2 :: o3 :: o4 :: o5 :: o6 :: s) H := q
theorem k_g6 (q : R (o0 :: o1 :: o2 :: o3 :: o4 :: o5 :: some x :: s) H) : gName 6 x (o0 :: o1 :: o2 :: o3 :: o4 :: o5 :: o6 :: s) H R := q
theorem k_v7 (q : Q v H) : tVar 7 (o0 :: o1 :: o2 :: o3 :: o4 :: o5 :: o6 :: some v :: s) H Q := ⟨v, rfl, q⟩
theorem k_s7 (q : te (o0 :: o1 :: o2 :: o3 :: o4 :: o5 :: o6 :: o7 :: s) H fun x H1 => D.nx (o0 :: o1 :: o2 :: o3 :: o4 :: o5 :: o6 :: some x :: s) H1) : tAsg te (gName 7) D (o0 :: o1 :: o2 :: o3 :: o4 :: o5 :: o6 :: o7 :: s) H := q
theorem k_g7 (q : R (o0 :: o1 :: o2 :: o3 :: o4 :: o5 :: o6 :: some x :: s) H) : gName 7 x (o0 :: o1 :: o2 :: o3 :: o4 :: o5 :: o6 :: o7 :: s) H R := q
theorem k_v8 (q : Q v H) : tVar 8 (o0 :: o1 :: o2 :: o3 :: o4 :: o5 :: o6 :: o7 :: some v :: s) H Q := ⟨v, rfl, q⟩
theorem k_s8 (q : te (o0 :: o1 :: o2 :: o3 :: o4 :: o5 :: o6 :: o7 :: o8 :: s) H fun x H1 => D.nx (o0 :: o1 :: o2 :: o3 :: o4 :: o5 :: o6 :: o7 :: some x :: s) H1) : tAsg te (gName 8) D (o0 :: o1 :: o2 :: o3 :: o4 :: o5 :: o6 :: o7 :: o8 :: s) H := q
theorem k_g8 (q : R (o0 :: o1 :: o2 :: o3 :: o4 :: o5 :: o6 :: o7 :: some x :: s) H) : gName 8 x (o0 :: o1 :: o2 :: o3 :: o4 :: o5 :: o6 :: o7 :: o8 :: s) H R := q
theorem k_v9 (q : Q v H) : tVar 9 (o0 :: o1 :: o2 :: o3 :: o4 :: o5 :: o6 :: o7 :: o8 :: some v :: s) H Q := ⟨v, rfl, q⟩
theorem k_s9 (q : te (o0 :: o1 :: o2 :: o3 :: o4 :: o5 :: o6 :: o7 :: o8 :: o9 :: s) H fun x H1 => D.nx (o0 :: o1 :: o2 :: o3 :: o4 :: o5 :: o6 :: o7 :: o8 :: some x :: s) H1) : tAsg te (gName 9) D (o0 :: o1 :: o2 :: o3 :: o4 :: o5 :: o6 :: o7 :: o8 :: o9 :: s) H := q
theorem k_g9 (q : R (o0 :: o1 :: o2 :: o3 :: o4 :: o5 :: o6 :: o7 :: o8 :: some x :: s) H) : gName 9 x (o0 :: o1 :: o2 :: o3 :: o4 :: o5 :: o6 :: o7 :: o8 :: o9 :: s) H R := q
theorem k_v10 (q : Q v H) : tVar 10 (o0 :: o1 :: o2 :: o3 :: o4 :: o5 :: o6 :: o7 :: o8 :: o9 :: some v :: s) H Q := ⟨v, rfl, q⟩
theorem k_s10 (q : te (o0 :: o1 :: o2 :: o3 :: o4 :: o5 :: o6 :: o7 :: o8 :: o9 :: o10 :: s) H fun x H1 => D.nx (o0 :: o1 :: o2 :: o3 :: o4 :: o5 :: o6 :: o7 :: o8 :: o9 :: some x :: s) H1) : tAsg te (gName 10) D (o0 :: o1 :: o2 :: o3 :: o4 :: o5 :: o6 :: o7 :: o8 :: o9 :: o10 :: s) H := q
theorem k_g10 (q : R (o0 :: o1 :: o2 :: o3 :: o4 :: o5 :: o6 :: o7 :: o8 :: o9 :: some x :: s) H) : gName 10 x (o0 :: o1 :: o2 :: o3 :: o4 :: o5 :: o6 :: o7 :: o8 :: o9 :: o10 :: s) H R := q
theorem k_v11 (q : Q v H) : tVar 11 (o0 :: o1 :: o2 :: o3 :: o4 :: o5 :: o6 :: o7 :: o8 :: o9 :: o10 :: some v :: s) H Q := ⟨v, rfl, q⟩
theorem k_s11 (q : te (o0 :: o1 :: o2 :: o3 :: o4 :: o5 :: o6 :: o7 :: o8 :: o9 :: o10 :: o11 :: s) H fun x H1 => D.nx (o0 :: o1 :: o2 :: o3 :: o4 :: o5 :: o6 :: o7 :: o8 :: o9 :: o10 :: some x :: s) H1) : tAsg te (gName 11) D (o0 :: o1 :: o2 :: o3 :: o4 :: o5 :: o6 :: o7 :: o8 :: o9 :: o10 :: o11 :: s) H := q
theorem k_g11 (q : R (o0 :: o1 :: o2 :: o3 :: o4 :: o5 :: o6 :: o7 :: o8 :: o9 :: o10 :: some x :: s) H) : gName 11 x (o0 :: o1 :: o2 :: o3 :: o4 :: o5 :: o6 :: o7 :: o8 :: o9 :: o10 :: o11 :: s) H R := q
theorem k_v12 (q : Q v H) : tVar 12 (o0 :: o1 :: o2 :: o3 :: o4 :: o5 :: o6 :: o7 :: o8 :: o9 :: o10 :: o11 :: some v :: s) H Q := ⟨v, rfl, q⟩
theorem k_s12 (q : te (o0 :: o1 :: o2 :: o3 :: o4 :: o5 :: o6 :: o7 :: o8 :: o9 :: o10 :: o11 :: o12 :: s) H fun x H1 => D.nx (o0 :: o1 :: o2 :: o3 :: o4 :: o5 :: o6 :: o7 :: o8 :: o9 :: o10 :: o11 :: some x :: s) H1) : tAsg te (gName 12) D (o0 :: o1 :: o2 :: o3 :: o4 :: o5 :: o6 :: o7 :: o8 :: o9 :: o10 :: o11 :: o12 :: s) H := q
theorem k_g12 (q : R (o0 :: o1 :: o2 :: o3 :: o4 :: o5 :: o6 :: o7 :: o8 :: o9 :: o10 :: o11 :: some x :: s) H) : gName 12 x (o0 :: o1 :: o2 :: o3 :: o4 :: o5 :: o6 :: o7 :: o8 :: o9 :: o10 :: o11 :: o12 :: s) H R := q
theorem k_v13 (q : Q v H) : tVar 13 (o0 :: o1 :: o2 :: o3 :: o4 :: o5 :: o6 :: o7 :: o8 :: o9 :: o10 :: o11 :: o12 :: some v :: s) H Q := ⟨v, rfl, q⟩
theorem k_s13 (q : te (o0 :: o1 :: o2 :: o3 :: o4 :: o5 :: o6 :: o7 :: o8 :: o9 :: o10 :: o11 :: o12 :: o13 :: s) H fun x H1 => D.nx (o0 :: o1 :: o2 :: o3 :: o4 :: o5 :: o6 :: o7 :: o8 :: o9 :: o10 :: o11 :: o12 :: some x :: s) H1) : tAsg te (gName 13) D (o0 :: o1 :: o2 :: o3 :: o4 :: o5 :: o6 :: o7 :: o8 :: o9 :: o10 :: o11 :: o12 :: o13 :: s) H := q
theorem k_g13 (q : R (o0 :: o1 :: o2 :: o3 :: o4 :: o5 :: o6 :: o7 :: o8 :: o9 :: o10 :: o11 :: o12 :: some x :: s) H) : gName 13 x (o0 :: o1 :: o2 :: o3 :: o4 :: o5 :: o6 :: o7 :: o8 :: o9 :: o10 :: o11 :: o12 :: o13 :: s) H R := q
theorem k_v14 (q : Q v H) : tVar 14 (o0 :: o1 :: o2 :: o3 :: o4 :: o5 :: o6 :: o7 :: o8 :: o9 :: o10 :: o11 :: o12 :: o13 :: some v :: s) H Q := ⟨v, rfl, q⟩
theorem k_s14 (q : te (o0 :: o1 :: o2 :: o3 :: o4 :: o5 :: o6 :: o7 :: o8 :: o9 :: o10 :: o11 :: o12 :: o13 :: o14 :: s) H fun x H1 => D.nx (o0 :: o1 :: o2 :: o3 :: o4 :: o5 :: o6 :: o7 :: o8 :: o9 :: o10 :: o11 :: o12 :: o13 :: some x :: s) H1) : tAsg te (gName 14) D (o0 :: o1 :: o2 :: o3 :: o4 :: o5 :: o6 :: o7 :: o8 :: o9 :: o10 :: o11 :: o12 :: o13 :: o14 :: s) H := q
theorem k_g14 (q : R (o0 :: o1 :: o2 :: o3 :: o4 :: o5 :: o6 :: o7 :: o8 :: o9 :: o10 :: o11 :: o12 :: o13 :: some x :: s) H) : gName 14 x (o0 :: o1 :: o2 :: o3 :: o4 :: o5 :: o6 :: o7 :: o8 :: o9 :: o10 :: o11 :: o12 :: o13 :: o14 :: s) H R := q
theorem k_v15 (q : Q v H) : tVar 15 (o0 :: o1 :: o2 :: o3 :: o4 :: o5 :: o6 :: o7 :: o8 :: o9 :: o10 :: o11 :: o12 :: o13 :: o14 :: some v :: s) H Q := ⟨v, rfl, q⟩
theorem k_s15 (q : te (o0 :: o1 :: o2 :: o3 :: o4 :: o5 :: o6 :: o7 :: o8 :: o9 :: o10 :: o11 :: o12 :: o13 :: o14 :: o15 :: s) H fun x H1 => D.nx (o0 :: o1 :: o2 :: o3 :: o4 :: o5 :: o6 :: o7 :: o8 :: o9 :: o10 :: o11 :: o12 :: o13 :: o14 :: some x :: s) H1) : tAsg te (gName 15) D (o0 :: o1 :: o2 :: o3 :: o4 :: o5 :: o6 :: o7 :: o8 :: o9 :: o10 :: o11 :: o12 :: o13 :: o14 :: o15 :: s) H := q
theorem k_g15 (q : R (o0 :: o1 :: o2 :: o3 :: o4 :: o5 :: o6 :: o7 :: o8 :: o9 :: o10 :: o11 :: o12 :: o13 :: o14 :: some x :: s) H) : gName 15 x (o0 :: o1 :: o2 :: o3 :: o4 :: o5 :: o6 :: o7 :: o8 :: o9 :: o10 :: o11 :: o12 :: o13 :: o14 :: o15 :: s) H R := q
theorem k_v16 (q : Q v H) : tVar 16 (o0 :: o1 :: o2 :: o3 :: o4 :: o5 :: o6 :: o7 :: o8 :: o9 :: o10 :: o11 :: o12 :: o13 :: o14 :: o15 :: some v :: s) H Q := ⟨v, rfl, q⟩
theorem k_s16 (q : te (o0 :: o1 :: o2 :: o3 :: o4 :: o5 :: o6 :: o7 :: o8 :: o9 :: o10 :: o11 :: o12 :: o13 :: o14 :: o15 :: o16 :: s) H fun x H1 => D.nx (o0 :: o1 :: o2 :: o3 :: o4 :: o5 :: o6 :: o7 :: o8 :: o9 :: o10 :: o11 :: o12 :: o13 :: o14 :: o15 :: some x :: s) H1) : tAsg te (gName 16) D (o0 :: o1 :: o2 :: o3 :: o4 :: o5 :: o6 :: o7 :: o8 :: o9 :: o10 :: o11 :: o12 :: o13 :: o14 :: o15 :: o16 :: s) H := q
theorem k_g16 (q : R (o0 :: o1 :: o2 :: o3 :: o4 :: o5 :: o6 :: o7 :: o8 :: o9 :: o10 :: o11 :: o12 :: o13 :: o14 :: o15 :: some x :: s) H) : gName 16 x (o0 :: o1 :: o2 :: o3 :: o4 :: o5 :: o6 :: o7 :: o8 :: o9 :: o10 :: o11 :: o12 :: o13 :: o14 :: o15 :: o16 :: s) H R := q
theorem k_v17 (q : Q v H) : tVar 17 (o0 :: o1 :: o2 :: o3 :: o4 :: o5 :: o6 :: o7 :: o8 :: o9 :: o10 :: o11 :: o12 :: o13 :: o14 :: o15 :: o16 :: some v :: s) H Q := ⟨v, rfl, q⟩
theorem k_s17 (q : te (o0 :: o1 :: o2 :: o3 :: o4 :: o5 :: o6 :: o7 :: o8 :: o9 :: o10 :: o11 :: o12 :: o13 :: o14 :: o15 :: o16 :: o17 :: s) H fun x H1 => D.nx (o0 :: o1 :: o2 :: o3 :: o4 :: o5 :: o6 :: o7 :: o8 :: o9 :: o10 :: o11 :: o12 :: o13 :: o14 :: o15 :: o16 :: some x :: s) H1) : tAsg te (gName 17) D (o0 :: o1 :: o2 :: o3 :: o4 :: o5 :: o6 :: o7 :: o8 :: o9 :: o10 :: o11 :: o12 :: o13 :: o14 :: o15 :: o16 :: o17 :: s) H := q
theorem k_g17 (q : R (o0 :: o1 :: o2 :: o3 :: o4 :: o5 :: o6 :: o7 :: o8 :: o9 :: o10 :: o11 :: o12 :: o13 :: o14 :: o15 :: o16 :: some x :: s) H) : gName 17 x (o0 :: o1 :: o2 :: o3 :: o4 :: o5 :: o6 :: o7 :: o8 :: o9 :: o10 :: o11 :: o12 :: o13 :: o14 :: o15 :: o16 :: o17 :: s) H R := q
theorem k_v18 (q : Q v H) : tVar 18 (o0 :: o1 :: o2 :: o3 :: o4 :: o5 :: o6 :: o7 :: o8 :: o9 :: o10 :: o11 :: o12 :: o13 :: o14 :: o15 :: o16 :: o17 :: some v :: s) H Q := ⟨v, rfl, q⟩
theorem k_s18 (q : te (o0 :: o1 :: o2 :: o3 :: o4 :: o5 :: o6 :: o7 :: o8 :: o9 :: o10 :: o11 :: o12 :: o13 :: o14 :: o15 :: o16 :: o17 :: o18 :: s) H fun x H1 => D.nx (o0 :: o1 :: o2 :: o3 :: o4 :: o5 :: o6 :: o7 :: o8 :: o9 :: o10 :: o11 :: o12 :: o13 :: o14 :: o15 :: o16 :: o17 :: some x :: s) H1) : tAsg te (gName 18) D (o0 :: o1 :: o2 :: o3 :: o4 :: o5 :: o6 :: o7 :: o8 :: o9 :: o10 :: o11 :: o12 :: o13 :: o14 :: o15 :: o16 :: o17 :: o18 :: s) H := q
theorem k_g18 (q : R (o0 :: o1 :: o2 :: o3 :: o4 :: o5 :: o6 :: o7 :: o8 :: o9 :: o10 :: o11 :: o12 :: o13 :: o14 :: o15 :: o16 :: o17 :: some x :: s) H) : gName 18 x (o0 :: o1 :: o2 :: o3 :: o4 :: o5 :: o6 :: o7 :: o8 :: o9 :: o10 :: o11 :: o12 :: o13 :: o14 :: o15 :: o16 :: o17 :: o18 :: s) H R := q
theorem k_v19 (q : Q v H) : tVar 19 (o0 :: o1 :: o2 :: o3 :: o4 :: o5 :: o6 :: o7 :: o8 :: o9 :: o10 :: o11 :: o12 :: o13 :: o14 :: o15 :: o16 :: o17 :: o18 :: some v :: s) H Q := ⟨v, rfl, q⟩
theorem k_s19 (q : te (o0 :: o1 :: o2 :: o3 :: o4 :: o5 :: o6 :: o7 :: o8 :: o9 :: o10 :: o11 :: o12 :: o13 :: o14 :: o15 :: o16 :: o17 :: o18 :: o19 :: s) H fun x H1 => D.nx (o0 :: o1 :: o2 :: o3 :: o4 :: o5 :: o6 :: o7 :: o8 :: o9 :: o10 :: o11 :: o12 :: o13 :: o14 :: o15 :: o16 :: o17 :: o18 :: some x :: s) H1) : tAsg te (gName 19) D (o0 :: o1 :: o2 :: o3 :: o4 :: o5 :: o6 :: o7 :: o8 :: o9 :: o10 :: o11 :: o12 :: o13 :: o14 :: o15 :: o16 :: o17 :: o18 :: o19 :: s) H := q
theorem k_g19 (q : R (o0 :: o1 :: o2 :: o3 :: o4 :: o5 :: o6 :: o7 :: o8 :: o9 :: o10 :: o11 :: o12 :: o13 :: o14 :: o15 :: o16 :: o17 :: o18 :: some x :: s) H) : gName 19 x (o0 :: o1 :: o2 :: o3 :: o4 :: o5 :: o6 :: o7 :: o8 :: o9 :: o10 :: o11 :: o12 :: o13 :: o14 :: o15 :: o16 :: o17 :: o18 :: o19 :: s) H R := q
theorem k_v20 (q : Q v H) : tVar 20 (o0 :: o1 :: o2 :: o3 :: o4 :: o5 :: o6 :: o7 :: o8 :: o9 :: o10 :: o11 :: o12 :: o13 :: o14 :: o15 :: o16 :: o17 :: o18 :: o19 :: some v :: s) H Q := ⟨v, rfl, q⟩
theorem k_s20 (q : te (o0 :: o1 :: o2 :: o3 :: o4 :: o5 :: o6 :: o7 :: o8 :: o9 :: o10 :: o11 :: o12 :: o13 :: o14 :: o15 :: o16 :: o17 :: o18 :: o19 :: o20 :: s) H fun x H1 => D.nx (o0 :: o1 :: o2 :: o3 :: o4 :: o5 :: o6 :: o7 :: o8 :: o9 :: o10 :: o11 :: o12 :: o13 :: o14 :: o15 :: o16 :: o17 :: o18 :: o19 :: some x :: s) H1) : tAsg te (gName 20) D (o0 :: o1 :: o2 :: o3 :: o4 :: o5 :: o6 :: o7 :: o8 :: o9 :: o10 :: o11 :: o12 :: o13 :: o14 :: o15 :: o16 :: o17 :: o18 :: o19 :: o20 :: s) H := q
theorem k_g20 (q : R (o0 :: o1 :: o2 :: o3 :: o4 :: o5 :: o6 :: o7 :: o8 :: o9 :: o10 :: o11 :: o12 :: o13 :: o14 :: o15 :: o16 :: o17 :: o18 :: o19 :: some x :: s) H) : gName 20 x (o0 :: o1 :: o2 :: o3 :: o4 :: o5 :: o6 :: o7 :: o8 :: o9 :: o10 :: o11 :: o12 :: o13 :: o14 :: o15 :: o16 :: o17 :: o18 :: o19 :: o20 :: s) H R := q
theorem k_v21 (q : Q v H) : tVar 21 (o0 :: o1 :: o2 :: o3 :: o4 :: o5 :: o6 :: o7 :: o8 :: o9 :: o10 :: o11 :: o12 :: o13 :: o14 :: o15 :: o16 :: o17 :: o18 :: o19 :: o20 :: some v :: s) H Q := ⟨v, rfl, q⟩
theorem k_s21 (q : te (o0 :: o1 :: o2 :: o3 :: o4 :: o5 :: o6 :: o7 :: o8 :: o9 :: o10 :: o11 :: o12 :: o13 :: o14 :: o15 :: o16 :: o17 :: o18 :: o19 :: o20 :: o21 :: s) H fun x H1 => D.nx (o0 :: o1 :: o2 :: o3 :: o4 :: o5 :: o6 :: o7 :: o8 :: o9 :: o10 :: o11 :: o12 :: o13 :: o14 :: o15 :: o16 :: o17 :: o18 :: o19 :: o20 :: some x :: s) H1) : tAsg te (gName 21) D (o0 :: o1 :: o2 :: o3 :: o4 :: o5 :: o6 :: o7 :: o8 :: o9 :: o10 :: o11 :: o12 :: o13 :: o14 :: o15 :: o16 :: o17 :: o18 :: o19 :: o20 :: o21 :: s) H := q
theorem k_g21 (q : R (o0 :: o1 :: o2 :: o3 :: o4 :: o5 :: o6 :: o7 :: o8 :: o9 :: o10 :: o11 :: o12 :: o13 :: o14 :: o15 :: o16 :: o17 :: o18 :: o19 :: o20 :: some x :: s) H) : gName 21 x (o0 :: o1 :: o2 :: o3 :: o4 :: o5 :: o6 :: o7 :: o8 :: o9 :: o10 :: o11 :: o12 :: o13 :: o14 :: o15 :: o16 :: o17 :: o18 :: o19 :: o20 :: o21 :: s) H R := q
theorem k_v22 (q : Q v H) : tVar 22 (o0 :: o1 :: o2 :: o3 :: o4 :: o5 :: o6 :: o7 :: o8 :: o9 :: o10 :: o11 :: o12 :: o13 :: o14 :: o15 :: o16 :: o17 :: o18 :: o19 :: o20 :: o21 :: some v :: s) H Q := ⟨v, rfl, q⟩
theorem k_s22 (q : te (o0 :: o1 :: o2 :: o3 :: o4 :: o5 :: o6 :: o7 :: o8 :: o9 :: o10 :: o11 :: o12 :: o13 :: o14 :: o15 :: o16 :: o17 :: o18 :: o19 :: o20 :: o21 :: o22 :: s) H fun x H1 => D.nx (o0 :: o1 :: o2 :: o3 :: o4 :: o5 :: o6 :: o7 :: o8 :: o9 :: o10 :: o11 :: o12 :: o13 :: o14 :: o15 :: o16 :: o17 :: o18 :: o19 :: o20 :: o21 :: some x :: s) H1) : tAsg te (gName 22) D (o0 :: o1 :: o2 :: o3 :: o4 :: o5 :: o6 :: o7 :: o8 :: o9 :: o10 :: o11 :: o12 :: o13 :: o14 :: o15 :: o16 :: o17 :: o18 :: o19 :: o20 :: o21 :: o22 :: s) H := q
theorem k_g22 (q : R (o0 :: o1 :: o2 :: o3 :: o4 :: o5 :: o6 :: o7 :: o8 :: o9 :: o10 :: o11 :: o12 :: o13 :: o14 :: o15 :: o16 :: o17 :: o18 :: o19 :: o20 :: o21 :: some x :: s) H) : gName 22 x (o0 :: o1 :: o2 :: o3 :: o4 :: o5 :: o6 :: o7 :: o8 :: o9 :: o10 :: o11 :: o12 :: o13 :: o14 :: o15 :: o16 :: o17 :: o18 :: o19 :: o20 :: o21 :: o22 :: s) H R := q
theorem k_v23 (q : Q v H) : tVar 23 (o0 :: o1 :: o2 :: o3 :: o4 :: o5 :: o6 :: o7 :: o8 :: o9 :: o10 :: o11 :: o12 :: o13 :: o14 :: o15 :: o16 :: o17 :: o18 :: o19 :: o20 :: o21 :: o22 :: some v :: s) H Q := ⟨v, rfl, q⟩
theorem k_s23 (q : te (o0 :: o1 :: o2 :: o3 :: o4 :: o5 :: o6 :: o7 :: o8 :: o9 :: o10 :: o11 :: o12 :: o13 :: o14 :: o15 :: o16 :: o17 :: o18 :: o19 :: o20 :: o21 :: o22 :: o23 :: s) H fun x H1 => D.nx (o0 :: o1 :: o2 :: o3 :: o4 :: o5 :: o6 :: o7 :: o8 :: o9 :: o10 :: o11 :: o12 :: o13 :: o14 :: o15 :: o16 :: o17 :: o18 :: o19 :: o20 :: o21 :: o22 :: some x :: s) H1) : tAsg te (gName 23) D (o0 :: o1 :: o2 :: o3 :: o4 :: o5 :: o6 :: o7 :: o8 :: o9 :: o10 :: o11 :: o12 :: o13 :: o14 :: o15 :: o16 :: o17 :: o18 :: o19 :: o20 :: o21 :: o22 :: o23 :: s) H := q
theorem k_g23 (q : R (o0 :: o1 :: o2 :: o3 :: o4 :: o5 :: o6 :: o7 :: o8 :: o9 :: o10 :: o11 :: o12 :: o13 :: o14 :: o15 :: o16 :: o17 :: o18 :: o19 :: o20 :: o21 :: o22 :: some x :: s) H) : gName 23 x (o0 :: o1 :: o2 :: o3 :: o4 :: o5 :: o6 :: o7 :: o8 :: o9 :: o10 :: o11 :: o12 :: o13 :: o14 :: o15 :: o16 :: o17 :: o18 :: o19 :: o20 :: o21 :: o22 :: o23 :: s) H R := q
theorem k_v24 (q : Q v H) : tVar 24 (o0 :: o1 :: o2 :: o3 :: o4 :: o5 :: o6 :: o7 :: o8 :: o9 :: o10 :: o11 :: o12 :: o13 :: o14 :: o15 :: o16 :: o17 :: o18 :: o19 :: o20 :: o21 :: o22 :: o23 :: some v :: s) H Q := ⟨v, rfl, q⟩
theorem k_s24 (q : te (o0 :: o1 :: o2 :: o3 :: o4 :: o5 :: o6 :: o7 :: o8 :: o9 :: o10 :: o11 :: o12 :: o13 :: o14 :: o15 :: o16 :: o17 :: o18 :: o19 :: o20 :: o21 :: o22 :: o23 :: o24 :: s) H fun x H1 => D.nx (o0 :: o1 :: o2 :: o3 :: o4 :: o5 :: o6 :: o7 :: o8 :: o9 :: o10 :: o11 :: o12 :: o13 :: o14 :: o15 :: o16 :: o17 :: o18 :: o19 :: o20 :: o21 :: o22 :: o23 :: some x :: s) H1) : tAsg te (gName 24) D (o0 :: o1 :: o2 :: o3 :: o4 :: o5 :: o6 :: o7 :: o8 :: o9 :: o10 :: o11 :: o12 :: o13 :: o14 :: o15 :: o16 :: o17 :: o18 :: o19 :: o20 :: o21 :: o22 :: o23 :: o24 :: s) H := q
theorem k_g24 (q : R (o0 :: o1 :: o2 :: o3 :: o4 :: o5 :: o6 :: o7 :: o8 :: o9 :: o10 :: o11 :: o12 :: o13 :: o14 :: o15 :: o16 :: o17 :: o18 :: o19 :: o20 :: o21 :: o22 :: o23 :: some x :: s) H) : gName 24 x (o0 :: o1 :: o2 :: o3 :: o4 :: o5 :: o6 :: o7 :: o8 :: o9 :: o10 :: o11 :: o12 :: o13 :: o14 :: o15 :: o16 :: o17 :: o18 :: o19 :: o20 :: o21 :: o22 :: o23 :: o24 :: s) H R := q
theorem k_v25 (q : Q v H) : tVar 25 (o0 :: o1 :: o2 :: o3 :: o4 :: o5 :: o6 :: o7 :: o8 :: o9 :: o10 :: o11 :: o12 :: o13 :: o14 :: o15 :: o16 :: o17 :: o18 :: o19 :: o20 :: o21 :: o22 :: o23 :: o24 :: some v :: s) H Q := ⟨v, rfl, q⟩
theorem k_s25 (q : te (o0 :: o1 :: o2 :: o3 :: o4 :: o5 :: o6 :: o7 :: o8 :: o9 :: o10 :: o11 :: o12 :: o13 :: o14 :: o15 :: o16 :: o17 :: o18 :: o19 :: o20 :: o21 :: o22 :: o23 :: o24 :: o25 :: s) H fun x H1 => D.nx (o0 :: o1 :: o2 :: o3 :: o4 :: o5 :: o6 :: o7 :: o8 :: o9 :: o10 :: o11 :: o12 :: o13 :: o14 :: o15 :: o16 :: o17 :: o18 :: o19 :: o20 :: o21 :: o22 :: o23 :: o24 :: some x :: s) H1) : tAsg te (gName 25) D (o0 :: o1 :: o2 :: o3 :: o4 :: o5 :: o6 :: o7 :: o8 :: o9 :: o10 :: o11 :: o12 :: o13 :: o14 :: o15 :: o16 :: o17 :: o18 :: o19 :: o20 :: o21 :: o22 :: o23 :: o24 :: o25 :: s) H := q
theorem k_g25 (q : R (o0 :: o1 :: o2 :: o3 :: o4 :: o5 :: o6 :: o7 :: o8 :: o9 :: o10 :: o11 :: o12 :: o13 :: o14 :: o15 :: o16 :: o17 :: o18 :: o19 :: o20 :: o21 :: o22 :: o23 :: o24 :: some x :: s) H) : gName 25 x (o0 :: o1 :: o2 :: o3 :: o4 :: o5 :: o6 :: o7 :: o8 :: o9 :: o10 :: o11 :: o12 :: o13 :: o14 :: o15 :: o16 :: o17 :: o18 :: o19 :: o20 :: o21 :: o22 :: o23 :: o24 :: o25 :: s) H R := q
theorem k_v26 (q : Q v H) : tVar 26 (o0 :: o1 :: o2 :: o3 :: o4 :: o5 :: o6 :: o7 :: o8 :: o9 :: o10 :: o11 :: o12 :: o13 :: o14 :: o15 :: o16 :: o17 :: o18 :: o19 :: o20 :: o21 :: o22 :: o23 :: o24 :: o25 :: some v :: s) H Q := ⟨v, rfl, q⟩
theorem k_s26 (q : te (o0 :: o1 :: o2 :: o3 :: o4 :: o5 :: o6 :: o7 :: o8 :: o9 :: o10 :: o11 :: o12 :: o13 :: o14 :: o15 :: o16 :: o17 :: o18 :: o19 :: o20 :: o21 :: o22 :: o23 :: o24 :: o25 :: o26 :: s) H fun x H1 => D.nx (o0 :: o1 :: o2 :: o3 :: o4 :: o5 :: o6 :: o7 :: o8 :: o9 :: o10 :: o11 :: o12 :: o13 :: o14 :: o15 :: o16 :: o17 :: o18 :: o19 :: o20 :: o21 :: o22 :: o23 :: o24 :: o25 :: some x :: s) H1) : tAsg te (gName 26) D (o0 :: o1 :: o2 :: o3 :: o4 :: o5 :: o6 :: o7 :: o8 :: o9 :: o10 :: o11 :: o12 :: o13 :: o14 :: o15 :: o16 :: o17 :: o18 :: o19 :: o20 :: o21 :: o22 :: o23 :: o24 :: o25 :: o26 :: s) H := q
theorem k_g26 (q : R (o0 :: o1 :: o2 :: o3 :: o4 :: o5 :: o6 :: o7 :: o8 :: o9 :: o10 :: o11 :: o12 :: o13 :: o14 :: o15 :: o16 :: o17 :: o18 :: o19 :: o20 :: o21 :: o22 :: o23 :: o24 :: o25 :: some x :: s) H) : gName 26 x (o0 :: o1 :: o2 :: o3 :: o4 :: o5 :: o6 :: o7 :: o8 :: o9 :: o10 :: o11 :: o12 :: o13 :: o14 :: o15 :: o16 :: o17 :: o18 :: o19 :: o20 :: o21 :: o22 :: o23 :: o24 :: o25 :: o26 :: s) H R := q
theorem k_v27 (q : Q v H) : tVar 27 (o0 :: o1 :: o2 :: o3 :: o4 :: o5 :: o6 :: o7 :: o8 :: o9 :: o10 :: o11 :: o12 :: o13 :: o14 :: o15 :: o16 :: o17 :: o18 :: o19 :: o20 :: o21 :: o22 :: o23 :: o24 :: o25 :: o26 :: some v :: s) H Q := ⟨v, rfl, q⟩
theorem k_s27 (q : te (o0 :: o1 :: o2 :: o3 :: o4 :: o5 :: o6 :: o7 :: o8 :: o9 :: o10 :: o11 :: o12 :: o13 :: o14 :: o15 :: o16 :: o17 :: o18 :: o19 :: o20 :: o21 :: o22 :: o23 :: o24 :: o25 :: o26 :: o27 :: s) H fun x H1 => D.nx (o0 :: o1 :: o2 :: o3 :: o4 :: o5 :: o6 :: o7 :: o8 :: o9 :: o10 :: o11 :: o12 :: o13 :: o14 :: o15 :: o16 :: o17 :: o18 :: o19 :: o20 :: o21 :: o22 :: o23 :: o24 :: o25 :: o26 :: some x :: s) H1) : tAsg te (gName 27) D (o0 :: o1 :: o2 :: o3 :: o4 :: o5 :: o6 :: o7 :: o8 :: o9 :: o10 :: o11 :: o12 :: o13 :: o14 :: o15 :: o16 :: o17 :: o18 :: o19 :: o20 :: o21 :: o22 :: o23 :: o24 :: o25 :: o26 :: o27 :: s) H := q
theorem k_g27 (q : R (o0 :: o1 :: o2 :: o3 :: o4 :: o5 :: o6 :: o7 :: o8 :: o9 :: o10 :: o11 :: o12 :: o13 :: o14 :: o15 :: o16 :: o17 :: o18 :: o19 :: o20 :: o21 :: o22 :: o23 :: o24 :: o25 :: o26 :: some x :: s) H) : gName 27 x (o0 :: o1 :: o2 :: o3 :: o4 :: o5 :: o6 :: o7 :: o8 :: o9 :: o10 :: o11 :: o12 :: o13 :: o14 :: o15 :: o16 :: o17 :: o18 :: o19 :: o20 :: o21 :: o22 :: o23 :: o24 :: o25 :: o26 :: o27 :: s) H R := q
theorem k_v28 (q : Q v H) : tVar 28 (o0 :: o1 :: o2 :: o3 :: o4 :: o5 :: o6 :: o7 :: o8 :: o9 :: o10 :: o11 :: o12 :: o13 :: o14 :: o15 :: o16 :: o17 :: o18 :: o19 :: o20 :: o21 :: o22 :: o23 :: o24 :: o25 :: o26 :: o27 :: some v :: s) H Q := ⟨v, rfl, q⟩
theorem k_s28 (q : te (o0 :: o1 :: o2 :: o3 :: o4 :: o5 :: o6 :: o7 :: o8 :: o9 :: o10 :: o11 :: o12 :: o13 :: o14 :: o15 :: o16 :: o17 :: o18 :: o19 :: o20 :: o21 :: o22 :: o23 :: o24 :: o25 :: o26 :: o27 :: o28 :: s) H fun x H1 => D.nx (o0 :: o1 :: o2 :: o3 :: o4 :: o5 :: o6 :: o7 :: o8 :: o9 :: o10 :: o11 :: o12 :: o13 :: o14 :: o15 :: o16 :: o17 :: o18 :: o19 :: o20 :: o21 :: o22 :: o23 :: o24 :: o25 :: o26 :: o27 :: some x :: s) H1) : tAsg te (gName 28) D (o0 :: o1 :: o2 :: o3 :: o4 :: o5 :: o6 :: o7 :: o8 :: o9 :: o10 :: o11 :: o12 :: o13 :: o14 :: o15 :: o16 :: o17 :: o18 :: o19 :: o20 :: o21 :: o22 :: o23 :: o24 :: o25 :: o26 :: o27 :: o28 :: s) H := q
theorem k_g28 (q : R (o0 :: o1 :: o2 :: o3 :: o4 :: o5 :: o6 :: o7 :: o8 :: o9 :: o10 :: o11 :: o12 :: o13 :: o14 :: o15 :: o16 :: o17 :: o18 :: o19 :: o20 :: o21 :: o22 :: o23 :: o24 :: o25 :: o26 :: o27 :: some x :: s) H) : gName 28 x (o0 :: o1 :: o2 :: o3 :: o4 :: o5 :: o6 :: o7 :: o8 :: o9 :: o10 :: o11 :: o12 :: o13 :: o14 :: o15 :: o16 :: o17 :: o18 :: o19 :: o20 :: o21 :: o22 :: o23 :: o24 :: o25 :: o26 :: o27 :: o28 :: s) H R := q
theorem k_v29 (q : Q v H) : tVar 29 (o0 :: o1 :: o2 :: o3 :: o4 :: o5 :: o6 :: o7 :: o8 :: o9 :: o10 :: o11 :: o12 :: o13 :: o14 :: o15 :: o16 :: o17 :: o18 :: o19 :: o20 :: o21 :: o22 :: o23 :: o24 :: o25 :: o26 :: o27 :: o28 :: some v :: s) H Q := ⟨v, rfl, q⟩
theorem k_s29 (q : te (o0 :: o1 :: o2 :: o3 :: o4 :: o5 :: o6 :: o7 :: o8 :: o9 :: o10 :: o11 :: o12 :: o13 :: o14 :: o15 :: o16 :: o17 :: o18 :: o19 :: o20 :: o21 :: o22 :: o23 :: o24 :: o25 :: o26 :: o27 :: o28 :: o29 :: s) H fun x H1 => D.nx (o0 :: o1 :: o2 :: o3 :: o4 :: o5 :: o6 :: o7 :: o8 :: o9 :: o10 :: o11 :: o12 :: o13 :: o14 :: o15 :: o16 :: o17 :: o18 :: o19 :: o20 :: o21 :: o22 :: o23 :: o24 :: o25 :: o26 :: o27 :: o28 :: some x :: s) H1) : tAsg te (gName 29) D (o0 :: o1 :: o2 :: o3 :: o4 :: o5 :: o6 :: o7 :: o8 :: o9 :: o10 :: o11 :: o12 :: o13 :: o14 :: o15 :: o16 :: o17 :: o18 :: o19 :: o20 :: o21 :: o22 :: o23 :: o24 :: o25 :: o26 :: o27 :: o28 :: o29 :: s) H := q
theorem k_g29 (q : R (o0 :: o1 :: o2 :: o3 :: o4 :: o5 :: o6 :: o7 :: o8 :: o9 :: o10 :: o11 :: o12 :: o13 :: o14 :: o15 :: o16 :: o17 :: o18 :: o19 :: o20 :: o21 :: o22 :: o23 :: o24 :: o25 :: o26 :: o27 :: o28 :: some x :: s) H) : gName 29 x (o0 :: o1 :: o2 :: o3 :: o4 :: o5 :: o6 :: o7 :: o8 :: o9 :: o10 :: o11 :: o12 :: o13 :: o14 :: o15 :: o16 :: o17 :: o18 :: o19 :: o20 :: o21 :: o22 :: o23 :: o24 :: o25 :: o26 :: o27 :: o28 :: o29 :: s) H R := q
theorem k_v30 (q : Q v H) : tVar 30 (o0 :: o1 :: o2 :: o3 :: o4 :: o5 :: o6 :: o7 :: o8 :: o9 :: o10 :: o11 :: o12 :: o13 :: o14 :: o15 :: o16 :: o17 :: o18 :: o19 :: o20 :: o21 :: o22 :: o23 :: o24 :: o25 :: o26 :: o27 :: o28 :: o29 :: some v :: s) H Q := ⟨v, rfl, q⟩
theorem k_s30 (q : te (o0 :: o1 :: o2 :: o3 :: o4 :: o5 :: o6 :: o7 :: o8 :: o9 :: o10 :: o11 :: o12 :: o13 :: o14 :: o15 :: o16 :: o17 :: o18 :: o19 :: o20 :: o21 :: o22 :: o23 :: o24 :: o25 :: o26 :: o27 :: o28 :: o29 :: o30 :: s) H fun x H1 => D.nx (o0 :: o1 :: o2 :: o3 :: o4 :: o5 :: o6 :: o7 :: o8 :: o9 :: o10 :: o11 :: o12 :: o13 :: o14 :: o15 :: o16 :: o17 :: o18 :: o19 :: o20 :: o21 :: o22 :: o23 :: o24 :: o25 :: o26 :: o27 :: o28 :: o29 :: some x :: s) H1) : tAsg te (gName 30) D (o0 :: o1 :: o2 :: o3 :: o4 :: o5 :: o6 :: o7 :: o8 :: o9 :: o10 :: o11 :: o12 :: o13 :: o14 :: o15 :: o16 :: o17 :: o18 :: o19 :: o20 :: o21 :: o22 :: o23 :: o24 :: o25 :: o26 :: o27 :: o28 :: o29 :: o30 :: s) H := q
theorem k_g30 (q : R (o0 :: o1 :: o2 :: o3 :: o4 :: o5 :: o6 :: o7 :: o8 :: o9 :: o10 :: o11 :: o12 :: o13 :: o14 :: o15 :: o16 :: o17 :: o18 :: o19 :: o20 :: o21 :: o22 :: o23 :: o24 :: o25 :: o26 :: o27 :: o28 :: o29 :: some x :: s) H) : gName 30 x (o0 :: o1 :: o2 :: o3 :: o4 :: o5 :: o6 :: o7 :: o8 :: o9 :: o10 :: o11 :: o12 :: o13 :: o14 :: o15 :: o16 :: o17 :: o18 :: o19 :: o20 :: o21 :: o22 :: o23 :: o24 :: o25 :: o26 :: o27 :: o28 :: o29 :: o30 :: s) H R := q
theorem k_v31 (q : Q v H) : tVar 31 (o0 :: o1 :: o2 :: o3 :: o4 :: o5 :: o6 :: o7 :: o8 :: o9 :: o10 :: o11 :: o12 :: o13 :: o14 :: o15 :: o16 :: o17 :: o18 :: o19 :: o20 :: o21 :: o22 :: o23 :: o24 :: o25 :: o26 :: o27 :: o28 :: o29 :: o30 :: some v :: s) H Q := ⟨v, rfl, q⟩
theorem k_s31 (q : te (o0 :: o1 :: o2 :: o3 :: o4 :: o5 :: o6 :: o7 :: o8 :: o9 :: o10 :: o11 :: o12 :: o13 :: o14 :: o15 :: o16 :: o17 :: o18 :: o19 :: o20 :: o21 :: o22 :: o23 :: o24 :: o25 :: o26 :: o27 :: o28 :: o29 :: o30 :: o31 :: s) H fun x H1 => D.nx (o0 :: o1 :: o2 :: o3 :: o4 :: o5 :: o6 :: o7 :: o8 :: o9 :: o10 :: o11 :: o12 :: o13 :: o14 :: o15 :: o16 :: o17 :: o18 :: o19 :: o20 :: o21 :: o22 :: o23 :: o24 :: o25 :: o26 :: o27 :: o28 :: o29 :: o30 :: some x :: s) H1) : tAsg te (gName 31) D (o0 :: o1 :: o2 :: o3 :: o4 :: o5 :: o6 :: o7 :: o8 :: o9 :: o10 :: o11 :: o12 :: o13 :: o14 :: o15 :: o16 :: o17 :: o18 :: o19 :: o20 :: o21 :: o22 :: o23 :: o24 :: o25 :: o26 :: o27 :: o28 :: o29 :: o30 :: o31 :: s) H := q
theorem k_g31 (q : R (o0 :: o1 :: o2 :: o3 :: o4 :: o5 :: o6 :: o7 :: o8 :: o9 :: o10 :: o11 :: o12 :: o13 :: o14 :: o15 :: o16 :: o17 :: o18 :: o19 :: o20 :: o21 :: o22 :: o23 :: o24 :: o25 :: o26 :: o27 :: o28 :: o29 :: o30 :: some x :: s) H) : gName 31 x (o0 :: o1 :: o2 :: o3 :: o4 :: o5 :: o6 :: o7 :: o8 :: o9 :: o10 :: o11 :: o12 :: o13 :: o14 :: o15 :: o16 :: o17 :: o18 :: o19 :: o20 :: o21 :: o22 :: o23 :: o24 :: o25 :: o26 :: o27 :: o28 :: o29 :: o30 :: o31 :: s) H R := q
theorem k_v32 (q : Q v H) : tVar 32 (o0 :: o1 :: o2 :: o3 :: o4 :: o5 :: o6 :: o7 :: o8 :: o9 :: o10 :: o11 :: o12 :: o13 :: o14 :: o15 :: o16 :: o17 :: o18 :: o19 :: o20 :: o21 :: o22 :: o23 :: o24 :: o25 :: o26 :: o27 :: o28 :: o29 :: o30 :: o31 :: some v :: s) H Q := ⟨v, rfl, q⟩
theorem k_s32 (q : te (o0 :: o1 :: o2 :: o3 :: o4 :: o5 :: o6 :: o7 :: o8 :: o9 :: o10 :: o11 :: o12 :: o13 :: o14 :: o15 :: o16 :: o17 :: o18 :: o19 :: o20 :: o21 :: o22 :: o23 :: o24 :: o25 :: o26 :: o27 :: o28 :: o29 :: o30 :: o31 :: o32 :: s) H fun x H1 => D.nx (o0 :: o1 :: o2 :: o3 :: o4 :: o5 :: o6 :: o7 :: o8 :: o9 :: o10 :: o11 :: o12 :: o13 :: o14 :: o15 :: o16 :: o17 :: o18 :: o19 :: o20 :: o21 :: o22 :: o23 :: o24 :: o25 :: o26 :: o27 :: o28 :: o29 :: o30 :: o31 :: some x :: s) H1) : tAsg te (gName 32) D (o0 :: o1 :: o2 :: o3 :: o4 :: o5 :: o6 :: o7 :: o8 :: o9 :: o10 :: o11 :: o12 :: o13 :: o14 :: o15 :: o16 :: o17 :: o18 :: o19 :: o20 :: o21 :: o22 :: o23 :: o24 :: o25 :: o26 :: o27 :: o28 :: o29 :: o30 :: o31 :: o32 :: s) H := q
theorem k_g32 (q : R (o0 :: o1 :: o2 :: o3 :: o4 :: o5 :: o6 :: o7 :: o8 :: o9 :: o10 :: o11 :: o12 :: o13 :: o14 :: o15 :: o16 :: o17 :: o18 :: o19 :: o20 :: o21 :: o22 :: o23 :: o24 :: o25 :: o26 :: o27 :: o28 :: o29 :: o30 :: o31 :: some x :: s) H) : gName 32 x (o0 :: o1 :: o2 :: o3 :: o4 :: o5 :: o6 :: o7 :: o8 :: o9 :: o10 :: o11 :: o12 :: o13 :: o14 :: o15 :: o16 :: o17 :: o18 :: o19 :: o20 :: o21 :: o22 :: o23 :: o24 :: o25 :: o26 :: o27 :: o28 :: o29 :: o30 :: o31 :: o32 :: s) H R := q
theorem k_v33 (q : Q v H) : tVar 33 (o0 :: o1 :: o2 :: o3 :: o4 :: o5 :: o6 :: o7 :: o8 :: o9 :: o10 :: o11 :: o12 :: o13 :: o14 :: o15 :: o16 :: o17 :: o18 :: o19 :: o20 :: o21 :: o22 :: o23 :: o24 :: o25 :: o26 :: o27 :: o28 :: o29 :: o30 :: o31 :: o32 :: some v :: s) H Q := ⟨v, rfl, q⟩
theorem k_s33 (q : te (o0 :: o1 :: o2 :: o3 :: o4 :: o5 :: o6 :: o7 :: o8 :: o9 :: o10 :: o11 :: o12 :: o13 :: o14 :: o15 :: o16 :: o17 :: o18 :: o19 :: o20 :: o21 :: o22 :: o23 :: o24 :: o25 :: o26 :: o27 :: o28 :: o29 :: o30 :: o31 :: o32 :: o33 :: s) H fun x H1 => D.nx (o0 :: o1 :: o2 :: o3 :: o4 :: o5 :: o6 :: o7 :: o8 :: o9 :: o10 :: o11 :: o12 :: o13 :: o14 :: o15 :: o16 :: o17 :: o18 :: o19 :: o20 :: o21 :: o22 :: o23 :: o24 :: o25 :: o26 :: o27 :: o28 :: o29 :: o30 :: o31 :: o32 :: some x :: s) H1) : tAsg te (gName 33) D (o0 :: o1 :: o2 :: o3 :: o4 :: o5 :: o6 :: o7 :: o8 :: o9 :: o10 :: o11 :: o12 :: o13 :: o14 :: o15 :: o16 :: o17 :: o18 :: o19 :: o20 :: o21 :: o22 :: o23 :: o24 :: o25 :: o26 :: o27 :: o28 :: o29 :: o30 :: o31 :: o32 :: o33 :: s) H := q
theorem k_g33 (q : R (o0 :: o1 :: o2 :: o3 :: o4 :: o5 :: o6 :: o7 :: o8 :: o9 :: o10 :: o11 :: o12 :: o13 :: o14 :: o15 :: o16 :: o17 :: o18 :: o19 :: o20 :: o21 :: o22 :: o23 :: o24 :: o25 :: o26 :: o27 :: o28 :: o29 :: o30 :: o31 :: o32 :: some x :: s) H) : gName 33 x (o0 :: o1 :: o2 :: o3 :: o4 :: o5 :: o6 :: o7 :: o8 :: o9 :: o10 :: o11 :: o12 :: o13 :: o14 :: o15 :: o16 :: o17 :: o18 :: o19 :: o20 :: o21 :: o22 :: o23 :: o24 :: o25 :: o26 :: o27 :: o28 :: o29 :: o30 :: o31 :: o32 :: o33 :: s) H R := q
theorem k_v34 (q : Q v H) : tVar 34 (o0 :: o1 :: o2 :: o3 :: o4 :: o5 :: o6 :: o7 :: o8 :: o9 :: o10 :: o11 :: o12 :: o13 :: o14 :: o15 :: o16 :: o17 :: o18 :: o19 :: o20 :: o21 :: o22 :: o23 :: o24 :: o25 :: o26 :: o27 :: o28 :: o29 :: o30 :: o31 :: o32 :: o33 :: some v :: s) H Q := ⟨v, rfl, q⟩
theorem k_s34 (q : te (o0 :: o1 :: o2 :: o3 :: o4 :: o5 :: o6 :: o7 :: o8 :: o9 :: o10 :: o11 :: o12 :: o13 :: o14 :: o15 :: o16 :: o17 :: o18 :: o19 :: o20 :: o21 :: o22 :: o23 :: o24 :: o25 :: o26 :: o27 :: o28 :: o29 :: o30 :: o31 :: o32 :: o33 :: o34 :: s) H fun x H1 => D.nx (o0 :: o1 :: o2 :: o3 :: o4 :: o5 :: o6 :: o7 :: o8 :: o9 :: o10 :: o11 :: o12 :: o13 :: o14 :: o15 :: o16 :: o17 :: o18 :: o19 :: o20 :: o21 :: o22 :: o23 :: o24 :: o25 :: o26 :: o27 :: o28 :: o29 :: o30 :: o31 :: o32 :: o33 :: some x :: s) H1) : tAsg te (gName 34) D (o0 :: o1 :: o2 :: o3 :: o4 :: o5 :: o6 :: o7 :: o8 :: o9 :: o10 :: o11 :: o12 :: o13 :: o14 :: o15 :: o16 :: o17 :: o18 :: o19 :: o20 :: o21 :: o22 :: o23 :: o24 :: o25 :: o26 :: o27 :: o28 :: o29 :: o30 :: o31 :: o32 :: o33 :: o34 :: s) H := q
theorem k_g34 (q : R (o0 :: o1 :: o2 :: o3 :: o4 :: o5 :: o6 :: o7 :: o8 :: o9 :: o10 :: o11 :: o12 :: o13 :: o14 :: o15 :: o16 :: o17 :: o18 :: o19 :: o20 :: o21 :: o22 :: o23 :: o24 :: o25 :: o26 :: o27 :: o28 :: o29 :: o30 :: o31 :: o32 :: o33 :: some x :: s) H) : gName 34 x (o0 :: o1 :: o2 :: o3 :: o4 :: o5 :: o6 :: o7 :: o8 :: o9 :: o10 :: o11 :: o12 :: o13 :: o14 :: o15 :: o16 :: o17 :: o18 :: o19 :: o20 :: o21 :: o22 :: o23 :: o24 :: o25 :: o26 :: o27 :: o28 :: o29 :: o30 :: o31 :: o32 :: o33 :: o34 :: s) H R := q
theorem k_v35 (q : Q v H) : tVar 35 (o0 :: o1 :: o2 :: o3 :: o4 :: o5 :: o6 :: o7 :: o8 :: o9 :: o10 :: o11 :: o12 :: o13 :: o14 :: o15 :: o16 :: o17 :: o18 :: o19 :: o20 :: o21 :: o22 :: o23 :: o24 :: o25 :: o26 :: o27 :: o28 :: o29 :: o30 :: o31 :: o32 :: o33 :: o34 :: some v :: s) H Q := ⟨v, rfl, q⟩
theorem k_s35 (q : te (o0 :: o1 :: o2 :: o3 :: o4 :: o5 :: o6 :: o7 :: o8 :: o9 :: o10 :: o11 :: o12 :: o13 :: o14 :: o15 :: o16 :: o17 :: o18 :: o19 :: o20 :: o21 :: o22 :: o23 :: o24 :: o25 :: o26 :: o27 :: o28 :: o29 :: o30 :: o31 :: o32 :: o33 :: o34 :: o35 :: s) H fun x H1 => D.nx (o0 :: o1 :: o2 :: o3 :: o4 :: o5 :: o6 :: o7 :: o8 :: o9 :: o10 :: o11 :: o12 :: o13 :: o14 :: o15 :: o16 :: o17 :: o18 :: o19 :: o20 :: o21 :: o22 :: o23 :: o24 :: o25 :: o26 :: o27 :: o28 :: o29 :: o30 :: o31 :: o32 :: o33 :: o34 :: some x :: s) H1) : tAsg te (gName 35) D (o0 :: o1 :: o2 :: o3 :: o4 :: o5 :: o6 :: o7 :: o8 :: o9 :: o10 :: o11 :: o12 :: o13 :: o14 :: o15 :: o16 :: o17 :: o18 :: o19 :: o20 :: o21 :: o22 :: o23 :: o24 :: o25 :: o26 :: o27 :: o28 :: o29 :: o30 :: o31 :: o32 :: o33 :: o34 :: o35 :: s) H := q
theorem k_g35 (q : R (o0 :: o1 :: o2 :: o3 :: o4 :: o5 :: o6 :: o7 :: o8 :: o9 :: o10 :: o11 :: o12 :: o13 :: o14 :: o15 :: o16 :: o17 :: o18 :: o19 :: o20 :: o21 :: o22 :: o23 :: o24 :: o25 :: o26 :: o27 :: o28 :: o29 :: o30 :: o31 :: o32 :: o33 :: o34 :: some x :: s) H) : gName 35 x (o0 :: o1 :: o2 :: o3 :: o4 :: o5 :: o6 :: o7 :: o8 :: o9 :: o10 :: o11 :: o12 :: o13 :: o14 :: o15 :: o16 :: o17 :: o18 :: o19 :: o20 :: o21 :: o22 :: o23 :: o24 :: o25 :: o26 :: o27 :: o28 :: o29 :: o30 :: o31 :: o32 :: o33 :: o34 :: o35 :: s) H R := q
theorem k_v36 (q : Q v H) : tVar 36 (o0 :: o1 :: o2 :: o3 :: o4 :: o5 :: o6 :: o7 :: o8 :: o9 :: o10 :: o11 :: o12 :: o13 :: o14 :: o15 :: o16 :: o17 :: o18 :: o19 :: o20 :: o21 :: o22 :: o23 :: o24 :: o25 :: o26 :: o27 :: o28 :: o29 :: o30 :: o31 :: o32 :: o33 :: o34 :: o35 :: some v :: s) H Q := ⟨v, rfl, q⟩
theorem k_s36 (q : te (o0 :: o1 :: o2 :: o3 :: o4 :: o5 :: o6 :: o7 :: o8 :: o9 :: o10 :: o11 :: o12 :: o13 :: o14 :: o15 :: o16 :: o17 :: o18 :: o19 :: o20 :: o21 :: o22 :: o23 :: o24 :: o25 :: o26 :: o27 :: o28 :: o29 :: o30 :: o31 :: o32 :: o33 :: o34 :: o35 :: o36 :: s) H fun x H1 => D.nx (o0 :: o1 :: o2 :: o3 :: o4 :: o5 :: o6 :: o7 :: o8 :: o9 :: o10 :: o11 :: o12 :: o13 :: o14 :: o15 :: o16 :: o17 :: o18 :: o19 :: o20 :: o21 :: o22 :: o23 :: o24 :: o25 :: o26 :: o27 :: o28 :: o29 :: o30 :: o31 :: o32 :: o33 :: o34 :: o35 :: some x :: s) H1) : tAsg te (gName 36) D (o0 :: o1 :: o2 :: o3 :: o4 :: o5 :: o6 :: o7 :: o8 :: o9 :: o10 :: o11 :: o12 :: o13 :: o14 :: o15 :: o16 :: o17 :: o18 :: o19 :: o20 :: o21 :: o22 :: o23 :: o24 :: o25 :: o26 :: o27 :: o28 :: o29 :: o30 :: o31 :: o32 :: o33 :: o34 :: o35 :: o36 :: s) H := q
theorem k_g36 (q : R (o0 :: o1 :: o2 :: o3 :: o4 :: o5 :: o6 :: o7 :: o8 :: o9 :: o10 :: o11 :: o12 :: o13 :: o14 :: o15 :: o16 :: o17 :: o18 :: o19 :: o20 :: o21 :: o22 :: o23 :: o24 :: o25 :: o26 :: o27 :: o28 :: o29 :: o30 :: o31 :: o32 :: o33 :: o34 :: o35 :: some x :: s) H) : gName 36 x (o0 :: o1 :: o2 :: o3 :: o4 :: o5 :: o6 :: o7 :: o8 :: o9 :: o10 :: o11 :: o12 :: o13 :: o14 :: o15 :: o16 :: o17 :: o18 :: o19 :: o20 :: o21 :: o22 :: o23 :: o24 :: o25 :: o26 :: o27 :: o28 :: o29 :: o30 :: o31 :: o32 :: o33 :: o34 :: o35 :: o36 :: s) H R := q
theorem k_v37 (q : Q v H) : tVar 37 (o0 :: o1 :: o2 :: o3 :: o4 :: o5 :: o6 :: o7 :: o8 :: o9 :: o10 :: o11 :: o12 :: o13 :: o14 :: o15 :: o16 :: o17 :: o18 :: o19 :: o20 :: o21 :: o22 :: o23 :: o24 :: o25 :: o26 :: o27 :: o28 :: o29 :: o30 :: o31 :: o32 :: o33 :: o34 :: o35 :: o36 :: some v :: s) H Q := ⟨v, rfl, q⟩
theorem k_s37 (q : te (o0 :: o1 :: o2 :: o3 :: o4 :: o5 :: o6 :: o7 :: o8 :: o9 :: o10 :: o11 :: o12 :: o13 :: o14 :: o15 :: o16 :: o17 :: o18 :: o19 :: o20 :: o21 :: o22 :: o23 :: o24 :: o25 :: o26 :: o27 :: o28 :: o29 :: o30 :: o31 :: o32 :: o33 :: o34 :: o35 :: o36 :: o37 :: s) H fun x H1 => D.nx (o0 :: o1 :: o2 :: o3 :: o4 :: o5 :: o6 :: o7 :: o8 :: o9 :: o10 :: o11 :: o12 :: o13 :: o14 :: o15 :: o16 :: o17 :: o18 :: o19 :: o20 :: o21 :: o22 :: o23 :: o24 :: o25 :: o26 :: o27 :: o28 :: o29 :: o30 :: o31 :: o32 :: o33 :: o34 :: o35 :: o36 :: some x :: s) H1) : tAsg te (gName 37) D (o0 :: o1 :: o2 :: o3 :: o4 :: o5 :: o6 :: o7 :: o8 :: o9 :: o10 :: o11 :: o12 :: o13 :: o14 :: o15 :: o16 :: o17 :: o18 :: o19 :: o20 :: o21 :: o22 :: o23 :: o24 :: o25 :: o26 :: o27 :: o28 :: o29 :: o30 :: o31 :: o32 :: o33 :: o34 :: o35 :: o36 :: o37 :: s) H := q
theorem k_g37 (q : R (o0 :: o1 :: o2 :: o3 :: o4 :: o5 :: o6 :: o7 :: o8 :: o9 :: o10 :: o11 :: o12 :: o13 :: o14 :: o15 :: o16 :: o17 :: o18 :: o19 :: o20 :: o21 :: o22 :: o23 :: o24 :: o25 :: o26 :: o27 :: o28 :: o29 :: o30 :: o31 :: o32 :: o33 :: o34 :: o35 :: o36 :: some x :: s) H) : gName 37 x (o0 :: o1 :: o2 :: o3 :: o4 :: o5 :: o6 :: o7 :: o8 :: o9 :: o10 :: o11 :: o12 :: o13 :: o14 :: o15 :: o16 :: o17 :: o18 :: o19 :: o20 :: o21 :: o22 :: o23 :: o24 :: o25 :: o26 :: o27 :: o28 :: o29 :: o30 :: o31 :: o32 :: o33 :: o34 :: o35 :: o36 :: o37 :: s) H R := q
theorem k_v38 (q : Q v H) : tVar 38 (o0 :: o1 :: o2 :: o3 :: o4 :: o5 :: o6 :: o7 :: o8 :: o9 :: o10 :: o11 :: o12 :: o13 :: o14 :: o15 :: o16 :: o17 :: o18 :: o19 :: o20 :: o21 :: o22 :: o23 :: o24 :: o25 :: o26 :: o27 :: o28 :: o29 :: o30 :: o31 :: o32 :: o33 :: o34 :: o35 :: o36 :: o37 :: some v :: s) H Q := ⟨v, rfl, q⟩
theorem k_s38 (q : te (o0 :: o1 :: o2 :: o3 :: o4 :: o5 :: o6 :: o7 :: o8 :: o9 :: o10 :: o11 :: o12 :: o13 :: o14 :: o15 :: o16 :: o17 :: o18 :: o19 :: o20 :: o21 :: o22 :: o23 :: o24 :: o25 :: o26 :: o27 :: o28 :: o29 :: o30 :: o31 :: o32 :: o33 :: o34 :: o35 :: o36 :: o37 :: o38 :: s) H fun x H1 => D.nx (o0 :: o1 :: o2 :: o3 :: o4 :: o5 :: o6 :: o7 :: o8 :: o9 :: o10 :: o11 :: o12 :: o13 :: o14 :: o15 :: o16 :: o17 :: o18 :: o19 :: o20 :: o21 :: o22 :: o23 :: o24 :: o25 :: o26 :: o27 :: o28 :: o29 :: o30 :: o31 :: o32 :: o33 :: o34 :: o35 :: o36 :: o37 :: some x :: s) H1) : tAsg te (gName 38) D (o0 :: o1 :: o2 :: o3 :: o4 :: o5 :: o6 :: o7 :: o8 :: o9 :: o10 :: o11 :: o12 :: o13 :: o14 :: o15 :: o16 :: o17 :: o18 :: o19 :: o20 :: o21 :: o22 :: o23 :: o24 :: o25 :: o26 :: o27 :: o28 :: o29 :: o30 :: o31 :: o32 :: o33 :: o34 :: o35 :: o36 :: o37 :: o38 :: s) H := q
theorem k_g38 (q : R (o0 :: o1 :: o2 :: o3 :: o4 :: o5 :: o6 :: o7 :: o8 :: o9 :: o10 :: o11 :: o12 :: o13 :: o14 :: o15 :: o16 :: o17 :: o18 :: o19 :: o20 :: o21 :: o22 :: o23 :: o24 :: o25 :: o26 :: o27 :: o28 :: o29 :: o30 :: o31 :: o32 :: o33 :: o34 :: o35 :: o36 :: o37 :: some x :: s) H) : gName 38 x (o0 :: o1 :: o2 :: o3 :: o4 :: o5 :: o6 :: o7 :: o8 :: o9 :: o10 :: o11 :: o12 :: o13 :: o14 :: o15 :: o16 :: o17 :: o18 :: o19 :: o20 :: o21 :: o22 :: o23 :: o24 :: o25 :: o26 :: o27 :: o28 :: o29 :: o30 :: o31 :: o32 :: o33 :: o34 :: o35 :: o36 :: o37 :: o38 :: s) H R := q
theorem k_v39 (q : Q v H) : tVar 39 (o0 :: o1 :: o2 :: o3 :: o4 :: o5 :: o6 :: o7 :: o8 :: o9 :: o10 :: o11 :: o12 :: o13 :: o14 :: o15 :: o16 :: o17 :: o18 :: o19 :: o20 :: o21 :: o22 :: o23 :: o24 :: o25 :: o26 :: o27 :: o28 :: o29 :: o30 :: o31 :: o32 :: o33 :: o34 :: o35 :: o36 :: o37 :: o38 :: some v :: s) H Q := ⟨v, rfl, q⟩
theorem k_s39 (q : te (o0 :: o1 :: o2 :: o3 :: o4 :: o5 :: o6 :: o7 :: o8 :: o9 :: o10 :: o11 :: o12 :: o13 :: o14 :: o15 :: o16 :: o17 :: o18 :: o19 :: o20 :: o21 :: o22 :: o23 :: o24 :: o25 :: o26 :: o27 :: o28 :: o29 :: o30 :: o31 :: o32 :: o33 :: o34 :: o35 :: o36 :: o37 :: o38 :: o39 :: s) H fun x H1 => D.nx (o0 :: o1 :: o2 :: o3 :: o4 :: o5 :: o6 :: o7 :: o8 :: o9 :: o10 :: o11 :: o12 :: o13 :: o14 :: o15 :: o16 :: o17 :: o18 :: o19 :: o20 :: o21 :: o22 :: o23 :: o24 :: o25 :: o26 :: o27 :: o28 :: o29 :: o30 :: o31 :: o32 :: o33 :: o34 :: o35 :: o36 :: o37 :: o38 :: some x :: s) H1) : tAsg te (gName 39) D (o0 :: o1 :: o2 :: o3 :: o4 :: o5 :: o6 :: o7 :: o8 :: o9 :: o10 :: o11 :: o12 :: o13 :: o14 :: o15 :: o16 :: o17 :: o18 :: o19 :: o20 :: o21 :: o22 :: o23 :: o24 :: o25 :: o26 :: o27 :: o28 :: o29 :: o30 :: o31 :: o32 :: o33 :: o34 :: o35 :: o36 :: o37 :: o38 :: o39 :: s) H := q
theorem k_g39 (q : R (o0 :: o1 :: o2 :: o3 :: o4 :: o5 :: o6 :: o7 :: o8 :: o9 :: o10 :: o11 :: o12 :: o13 :: o14 :: o15 :: o16 :: o17 :: o18 :: o19 :: o20 :: o21 :: o22 :: o23 :: o24 :: o25 :: o26 :: o27 :: o28 :: o29 :: o30 :: o31 :: o32 :: o33 :: o34 :: o35 :: o36 :: o37 :: o38 :: some x :: s) H) : gName 39 x (o0 :: o1 :: o2 :: o3 :: o4 :: o5 :: o6 :: o7 :: o8 :: o9 :: o10 :: o11 :: o12 :: o13 :: o14 :: o15 :: o16 :: o17 :: o18 :: o19 :: o20 :: o21 :: o22 :: o23 :: o24 :: o25 :: o26 :: o27 :: o28 :: o29 :: o30 :: o31 :: o32 :: o33 :: o34 :: o35 :: o36 :: o37 :: o38 :: o39 :: s) H R := q
theorem k_v40 (q : Q v H) : tVar 40 (o0 :: o1 :: o2 :: o3 :: o4 :: o5 :: o6 :: o7 :: o8 :: o9 :: o10 :: o11 :: o12 :: o13 :: o14 :: o15 :: o16 :: o17 :: o18 :: o19 :: o20 :: o21 :: o22 :: o23 :: o24 :: o25 :: o26 :: o27 :: o28 :: o29 :: o30 :: o31 :: o32 :: o33 :: o34 :: o35 :: o36 :: o37 :: o38 :: o39 :: some v :: s) H Q := ⟨v, rfl, q⟩
theorem k_s40 (q : te (o0 :: o1 :: o2 :: o3 :: o4 :: o5 :: o6 :: o7 :: o8 :: o9 :: o10 :: o11 :: o12 :: o13 :: o14 :: o15 :: o16 :: o17 :: o18 :: o19 :: o20 :: o21 :: o22 :: o23 :: o24 :: o25 :: o26 :: o27 :: o28 :: o29 :: o30 :: o31 :: o32 :: o33 :: o34 :: o35 :: o36 :: o37 :: o38 :: o39 :: o40 :: s) H fun x H1 => D.nx (o0 :: o1 :: o2 :: o3 :: o4 :: o5 :: o6 :: o7 :: o8 :: o9 :: o10 :: o11 :: o12 :: o13 :: o14 :: o15 :: o16 :: o17 :: o18 :: o19 :: o20 :: o21 :: o22 :: o23 :: o24 :: o25 :: o26 :: o27 :: o28 :: o29 :: o30 :: o31 :: o32 :: o33 :: o34 :: o35 :: o36 :: o37 :: o38 :: o39 :: some x :: s) H1) : tAsg te (gName 40) D (o0 :: o1 :: o2 :: o3 :: o4 :: o5 :: o6 :: o7 :: o8 :: o9 :: o10 :: o11 :: o12 :: o13 :: o14 :: o15 :: o16 :: o17 :: o18 :: o19 :: o20 :: o21 :: o22 :: o23 :: o24 :: o25 :: o26 :: o27 :: o28 :: o29 :: o30 :: o31 :: o32 :: o33 :: o34 :: o35 :: o36 :: o37 :: o38 :: o39 :: o40 :: s) H := q
theorem k_g40 (q : R (o0 :: o1 :: o2 :: o3 :: o4 :: o5 :: o6 :: o7 :: o8 :: o9 :: o10 :: o11 :: o12 :: o13 :: o14 :: o15 :: o16 :: o17 :: o18 :: o19 :: o20 :: o21 :: o22 :: o23 :: o24 :: o25 :: o26 :: o27 :: o28 :: o29 :: o30 :: o31 :: o32 :: o33 :: o34 :: o35 :: o36 :: o37 :: o38 :: o39 :: some x :: s) H) : gName 40 x (o0 :: o1 :: o2 :: o3 :: o4 :: o5 :: o6 :: o7 :: o8 :: o9 :: o10 :: o11 :: o12 :: o13 :: o14 :: o15 :: o16 :: o17 :: o18 :: o19 :: o20 :: o21 :: o22 :: o23 :: o24 :: o25 :: o26 :: o27 :: o28 :: o29 :: o30 :: o31 :: o32 :: o33 :: o34 :: o35 :: o36 :: o37 :: o38 :: o39 :: o40 :: s) H R := q
theorem k_v41 (q : Q v H) : tVar 41 (o0 :: o1 :: o2 :: o3 :: o4 :: o5 :: o6 :: o7 :: o8 :: o9 :: o10 :: o11 :: o12 :: o13 :: o14 :: o15 :: o16 :: o17 :: o18 :: o19 :: o20 :: o21 :: o22 :: o23 :: o24 :: o25 :: o26 :: o27 :: o28 :: o29 :: o30 :: o31 :: o32 :: o33 :: o34 :: o35 :: o36 :: o37 :: o38 :: o39 :: o40 :: some v :: s) H Q := ⟨v, rfl, q⟩
theorem k_s41 (q : te (o0 :: o1 :: o2 :: o3 :: o4 :: o5 :: o6 :: o7 :: o8 :: o9 :: o10 :: o11 :: o12 :: o13 :: o14 :: o15 :: o16 :: o17 :: o18 :: o19 :: o20 :: o21 :: o22 :: o23 :: o24 :: o25 :: o26 :: o27 :: o28 :: o29 :: o30 :: o31 :: o32 :: o33 :: o34 :: o35 :: o36 :: o37 :: o38 :: o39 :: o40 :: o41 :: s) H fun x H1 => D.nx (o0 :: o1 :: o2 :: o3 :: o4 :: o5 :: o6 :: o7 :: o8 :: o9 :: o10 :: o11 :: o12 :: o13 :: o14 :: o15 :: o16 :: o17 :: o18 :: o19 :: o20 :: o21 :: o22 :: o23 :: o24 :: o25 :: o26 :: o27 :: o28 :: o29 :: o30 :: o31 :: o32 :: o33 :: o34 :: o35 :: o36 :: o37 :: o38 :: o39 :: o40 :: some x :: s) H1) : tAsg te (gName 41) D (o0 :: o1 :: o2 :: o3 :: o4 :: o5 :: o6 :: o7 :: o8 :: o9 :: o10 :: o11 :: o12 :: o13 :: o14 :: o15 :: o16 :: o17 :: o18 :: o19 :: o20 :: o21 :: o22 :: o23 :: o24 :: o25 :: o26 :: o27 :: o28 :: o29 :: o30 :: o31 :: o32 :: o33 :: o34 :: o35 :: o36 :: o37 :: o38 :: o39 :: o40 :: o41 :: s) H := q
theorem k_g41 (q : R (o0 :: o1 :: o2 :: o3 :: o4 :: o5 :: o6 :: o7 :: o8 :: o9 :: o10 :: o11 :: o12 :: o13 :: o14 :: o15 :: o16 :: o17 :: o18 :: o19 :: o20 :: o21 :: o22 :: o23 :: o24 :: o25 :: o26 :: o27 :: o28 :: o29 :: o30 :: o31 :: o32 :: o33 :: o34 :: o35 :: o36 :: o37 :: o38 :: o39 :: o40 :: some x :: s) H) : gName 41 x (o0 :: o1 :: o2 :: o3 :: o4 :: o5 :: o6 :: o7 :: o8 :: o9 :: o10 :: o11 :: o12 :: o13 :: o14 :: o15 :: o16 :: o17 :: o18 :: o19 :: o20 :: o21 :: o22 :: o23 :: o24 :: o25 :: o26 :: o27 :: o28 :: o29 :: o30 :: o31 :: o32 :: o33 :: o34 :: o35 :: o36 :: o37 :: o38 :: o39 :: o40 :: o41 :: s) H R := q
theorem k_v42 (q : Q v H) : tVar 42 (o0 :: o1 :: o2 :: o3 :: o4 :: o5 :: o6 :: o7 :: o8 :: o9 :: o10 :: o11 :: o12 :: o13 :: o14 :: o15 :: o16 :: o17 :: o18 :: o19 :: o20 :: o21 :: o22 :: o23 :: o24 :: o25 :: o26 :: o27 :: o28 :: o29 :: o30 :: o31 :: o32 :: o33 :: o34 :: o35 :: o36 :: o37 :: o38 :: o39 :: o40 :: o41 :: some v :: s) H Q := ⟨v, rfl, q⟩
theorem k_s42 (q : te (o0 :: o1 :: o2 :: o3 :: o4 :: o5 :: o6 :: o7 :: o8 :: o9 :: o10 :: o11 :: o12 :: o13 :: o14 :: o15 :: o16 :: o17 :: o18 :: o19 :: o20 :: o21 :: o22 :: o23 :: o24 :: o25 :: o26 :: o27 :: o28 :: o29 :: o30 :: o31 :: o32 :: o33 :: o34 :: o35 :: o36 :: o37 :: o38 :: o39 :: o40 :: o41 :: o42 :: s) H fun x H1 => D.nx (o0 :: o1 :: o2 :: o3 :: o4 :: o5 :: o6 :: o7 :: o8 :: o9 :: o10 :: o11 :: o12 :: o13 :: o14 :: o15 :: o16 :: o17 :: o18 :: o19 :: o20 :: o21 :: o22 :: o23 :: o24 :: o25 :: o26 :: o27 :: o28 :: o29 :: o30 :: o31 :: o32 :: o33 :: o34 :: o35 :: o36 :: o37 :: o38 :: o39 :: o40 :: o41 :: some x :: s) H1) : tAsg te (gName 42) D (o0 :: o1 :: o2 :: o3 :: o4 :: o5 :: o6 :: o7 :: o8 :: o9 :: o10 :: o11 :: o12 :: o13 :: o14 :: o15 :: o16 :: o17 :: o18 :: o19 :: o20 :: o21 :: o22 :: o23 :: o24 :: o25 :: o26 :: o27 :: o28 :: o29 :: o30 :: o31 :: o32 :: o33 :: o34 :: o35 :: o36 :: o37 :: o38 :: o39 :: o40 :: o41 :: o42 :: s) H := q
theorem k_g42 (q : R (o0 :: o1 :: o2 :: o3 :: o4 :: o5 :: o6 :: o7 :: o8 :: o9 :: o10 :: o11 :: o12 :: o13 :: o14 :: o15 :: o16 :: o17 :: o18 :: o19 :: o20 :: o21 :: o22 :: o23 :: o24 :: o25 :: o26 :: o27 :: o28 :: o29 :: o30 :: o31 :: o32 :: o33 :: o34 :: o35 :: o36 :: o37 :: o38 :: o39 :: o40 :: o41 :: some x :: s) H) : gName 42 x (o0 :: o1 :: o2 :: o3 :: o4 :: o5 :: o6 :: o7 :: o8 :: o9 :: o10 :: o11 :: o12 :: o13 :: o14 :: o15 :: o16 :: o17 :: o18 :: o19 :: o20 :: o21 :: o22 :: o23 :: o24 :: o25 :: o26 :: o27 :: o28 :: o29 :: o30 :: o31 :: o32 :: o33 :: o34 :: o35 :: o36 :: o37 :: o38 :: o39 :: o40 :: o41 :: o42 :: s) H R := q
theorem k_v43 (q : Q v H) : tVar 43 (o0 :: o1 :: o2 :: o3 :: o4 :: o5 :: o6 :: o7 :: o8 :: o9 :: o10 :: o11 :: o12 :: o13 :: o14 :: o15 :: o16 :: o17 :: o18 :: o19 :: o20 :: o21 :: o22 :: o23 :: o24 :: o25 :: o26 :: o27 :: o28 :: o29 :: o30 :: o31 :: o32 :: o33 :: o34 :: o35 :: o36 :: o37 :: o38 :: o39 :: o40 :: o41 :: o42 :: some v :: s) H Q := ⟨v, rfl, q⟩
theorem k_s43 (q : te (o0 :: o1 :: o2 :: o3 :: o4 :: o5 :: o6 :: o7 :: o8 :: o9 :: o10 :: o11 :: o12 :: o13 :: o14 :: o15 :: o16 :: o17 :: o18 :: o19 :: o20 :: o21 :: o22 :: o23 :: o24 :: o25 :: o26 :: o27 :: o28 :: o29 :: o30 :: o31 :: o32 :: o33 :: o34 :: o35 :: o36 :: o37 :: o38 :: o39 :: o40 :: o41 :: o42 :: o43 :: s) H fun x H1 => D.nx (o0 :: o1 :: o2 :: o3 :: o4 :: o5 :: o6 :: o7 :: o8 :: o9 :: o10 :: o11 :: o12 :: o13 :: o14 :: o15 :: o16 :: o17 :: o18 :: o19 :: o20 :: o21 :: o22 :: o23 :: o24 :: o25 :: o26 :: o27 :: o28 :: o29 :: o30 :: o31 :: o32 :: o33 :: o34 :: o35 :: o36 :: o37 :: o38 :: o39 :: o40 :: o41 :: o42 :: some x :: s) H1) : tAsg te (gName 43) D (o0 :: o1 :: o2 :: o3 :: o4 :: o5 :: o6 :: o7 :: o8 :: o9 :: o10 :: o11 :: o12 :: o13 :: o14 :: o15 :: o16 :: o17 :: o18 :: o19 :: o20 :: o21 :: o22 :: o23 :: o24 :: o25 :: o26 :: o27 :: o28 :: o29 :: o30 :: o31 :: o32 :: o33 :: o34 :: o35 :: o36 :: o37 :: o38 :: o39 :: o40 :: o41 :: o42 :: o43 :: s) H := q
theorem k_g43 (q : R (o0 :: o1 :: o2 :: o3 :: o4 :: o5 :: o6 :: o7 :: o8 :: o9 :: o10 :: o11 :: o12 :: o13 :: o14 :: o15 :: o16 :: o17 :: o18 :: o19 :: o20 :: o21 :: o22 :: o23 :: o24 :: o25 :: o26 :: o27 :: o28 :: o29 :: o30 :: o31 :: o32 :: o33 :: o34 :: o35 :: o36 :: o37 :: o38 :: o39 :: o40 :: o41 :: o42 :: some x :: s) H) : gName 43 x (o0 :: o1 :: o2 :: o3 :: o4 :: o5 :: o6 :: o7 :: o8 :: o9 :: o10 :: o11 :: o12 :: o13 :: o14 :: o15 :: o16 :: o17 :: o18 :: o19 :: o20 :: o21 :: o22 :: o23 :: o24 :: o25 :: o26 :: o27 :: o28 :: o29 :: o30 :: o31 :: o32 :: o33 :: o34 :: o35 :: o36 :: o37 :: o38 :: o39 :: o40 :: o41 :: o42 :: o43 :: s) H R := q
end
end Ls
namespace Ls
open PySem PySem.Spec PyProof.Rows L2
def dd (c : Addr) (n r s : Int) : List (Key × V) := [(.inr ("cells" : Str), .ref c), (.inr ("at" : Str), .int n), (.inr ("rest" : Str), .int r), (.inr ("seed" : Str), .int s)]
theorem kne {a b : Str} (h : ¬ a = b) : ¬ (Sum.inr a : Key) = Sum.inr b := fun e => h (Sum.inr.inj e)
theorem n_ca : ¬ ("cells" : Str) = "at" := by decide +kernel
theorem n_cr : ¬ ("cells" : Str) = "rest" := by decide +kernel
theorem n_cs : ¬ ("cells" : Str) = "seed" := by decide +kernel
theorem n_ar : ¬ ("at" : Str) = "rest" := by decide +kernel
theorem n_as : ¬ ("at" : Str) = "seed" := by decide +kernel
theorem n_rs : ¬ ("rest" : Str) = "seed" := by decide +kernel
section
variable {c : Addr} {n r s m : Int}
theorem dd_cells : valV (dd c n r s) (.inr ("cells" : Str)) = some (.ref c) := valV_pos rfl
theorem dd_at : valV (dd c n r s) (.inr ("at" : Str)) = some (.int n) := (valV_neg (kne n_ca)).trans (valV_pos rfl)
theorem dd_rest : valV (dd c n r s) (.inr ("rest" : Str)) = some (.int r) := (valV_neg (kne n_cr)).trans ((valV_neg (kne n_ar)).trans (valV_pos rfl))
theorem dd_seed : valV (dd c n r s) (.inr ("seed" : Str)) = some (.int s) := (valV_neg (kne n_cs)).trans ((valV_neg (kne n_as)).trans ((valV_neg (kne n_rs)).trans (valV_pos rfl)))
theorem dd_len : (dd c n r s).length < sizeLine := by show 4 < sizeLine; decide
theorem put_of {kvs : List (Key × V)} {k : Key} {v w : V} (h : valV kvs k = some w) : putK kvs k v = kvs.map (fun kv => if kv.1 = k then (kv.1, v) else kv) := by
  unfold putK
  rw [valV_any, h]
  rfl
theorem dd_put_at : putK (dd c n r s) (.inr ("at" : Str)) (.int m) = dd c m r s := by
  rw [put_of dd_at]
  simp only [dd, List.map_cons, List.map_nil, if_neg (kne n_ca), if_neg (kne (fun e => n_ar e.symm)), if_neg (kne (fun e => n_as e.symm)), if_true]
theorem dd_put_rest : putK (dd c n r s) (.inr ("rest" : Str)) (.int m) = dd c n m s := by
  rw [put_of dd_rest]
  simp only [dd, List.map_cons, List.map_nil, if_neg (kne n_cr), if_neg (kne n_ar), if_neg (kne (fun e => n_rs e.symm)), if_true]
theorem dd_put_seed : putK (dd c n r s) (.inr ("seed" : Str)) (.int m) = dd c n r m := by
  rw [put_of dd_seed]
  simp only [dd, List.map_cons, List.map_nil, if_neg (kne n_cs), if_neg (kne n_as), if_neg (kne n_rs), if_true]
end
/-- the draws' dict: any state of it -/
def Draw (K : PySem.W.Frag) (H : Hp) (d c : Addr) : Prop := ∃ (n r s : Int) (ns : List Int), H d = some (.dK (dd c n r s)) ∧ H c = some (.lst (ns.map V.int)) ∧ 0 ≤ n ∧ 0 ≤ r ∧ 0 ≤ s ∧ s < 2305843009213693951
theorem Draw.keeps {K : PySem.W.Frag} {H H' : Hp} {d c : Addr} (h : Draw K H d c) (k : Same H H') : Draw K H' d c := by
  obtain ⟨n, r, s, ns, h1, h2, h3⟩ := h
  exact ⟨n, r, s, ns, k _ _ h1, k _ _ h2, h3⟩
theorem Draw.is {K : PySem.W.Frag} {H : Hp} {d c : Addr} (h : Draw K H d c) : ∃ kvs, H d = some (.dK kvs) := by
  obtain ⟨n, r, s, ns, h1, _⟩ := h
  exact ⟨_, h1⟩
theorem Draw.ne {K : PySem.W.Frag} {H : Hp} {d c a : Addr} {o : HO} (h : Draw K H d c) (e : H a = some o) (n : ∀ kvs, o ≠ .dK kvs) : a ≠ d := by
  obtain ⟨kvs, h1⟩ := h.is
  exact ne_of e h1 (n kvs)
theorem Draw.free {K : PySem.W.Frag} {H : Hp} {d c p : Addr} (h : Draw K H d c) (e : H p = none) : p ≠ d := by
  obtain ⟨kvs, h1⟩ := h.is
  exact fun z => by
    rw [z, h1] at e
    cases e
theorem Draw.tp {K : PySem.W.Frag} {H H' : Hp} {d c : Addr} (h : Draw K H d c) (k : Keep d H H') : Tp K H H' := by
  obtain ⟨kvs, h1⟩ := h.is
  exact keep_tp k h1 rfl
theorem Draw.sql {K : PySem.W.Frag} {H H' : Hp} {d c a : Addr} {xs : List V} (h : Draw K H d c) (k : Keep d H H') (q : SqL K H a xs) : SqL K H' a xs := by
  obtain ⟨kvs, h1⟩ := h.is
  exact sql_keep k h1 q
/-- a write to a list that the draws do not hold -/
theorem Draw.new {K : PySem.W.Frag} {H : Hp} {d c p : Addr} {o : HO} (h : Draw K H d c) (e : H p = none) : Draw K (upd H p o) d c := h.keeps (same_new e)
def spBegin (K : PySem.W.Frag) : Sp := fun vs H Q _ => ∃ (a : Addr) (ns : List Int), vs = [.ref a] ∧ SqL K H a (ns.map V.int) ∧ ns.length ≤ 63 ∧ ∀ d c H', H d = none → H c = none → Same H H' → Draw K H' d c → Q (.ref d) H'
def spPick (K : PySem.W.Frag) : Sp := fun vs H Q _ => ∃ (d c : Addr) (many : Int), vs = [.ref d, .int many] ∧ Draw K H d c ∧ 0 < many ∧ many < 2 ^ 200 ∧ ∀ r H', Keep d H H' → Draw K H' d c → 0 ≤ r → r < many → Q (.int r) H'
theorem use_pick {K : PySem.W.Frag} {d c : Addr} {many : Int} {H : Hp} {Q : VK} {E : XK} (hD : Draw K H d c) (h1 : 0 < many) (h2 : many < 2 ^ 200) (q : ∀ r H', Keep d H H' → Draw K H' d c → 0 ≤ r → r < many → Q (.int r) H') : spPick K ([.ref d, .int many] ++ []) H Q E := ⟨d, c, many, rfl, hD, h1, h2, q⟩
end Ls
namespace Ls
open PySem PySem.Spec PyProof.Rows L2
/-- data of at most this depth, its lists not too long -/
def OkD : Nat → PyData → Prop
  | _, .none => True
  | _, .bool _ => True
  | _, .int _ => True
  | _, .str x => PyData.strOk x = true
  | n + 1, .list xs => xs.length ≤ 100000 ∧ ∀ d ∈ xs, OkD n d
  | n + 1, .tuple xs => xs.length ≤ 100000 ∧ ∀ d ∈ xs, OkD n d
  | _, _ => False
theorem lay_all : ∀ {xs : List PyData}, (∀ d ∈ xs, d.canLay0 = true) → PyData.canLayAll0 xs = true
  | [], _ => by simp only [PyData.canLayAll0]
  | d :: r, h => by
    simp only [PyData.canLayAll0, Bool.and_eq_true]
    exact ⟨h d List.mem_cons_self, lay_all fun e he => h e (List.mem_cons_of_mem _ he)⟩
theorem depth_all {n : Nat} : ∀ {xs : List PyData}, (∀ d ∈ xs, d.depth ≤ n) → PyData.depthAll xs ≤ n
  | [], _ => by simp only [PyData.depthAll]; omega
  | d :: r, h => by
    simp only [PyData.depthAll]
    have h1 := h d List.mem_cons_self
    have h2 := depth_all fun e he => h e (List.mem_cons_of_mem _ he)
    omega
theorem OkD.lay : ∀ {n : Nat} {d : PyData}, OkD n d → d.canLay0 = true ∧ d.depth ≤ n
  | _, .none, _ => by simp only [PyData.canLay0, PyData.depth]; exact ⟨trivial, Nat.zero_le _⟩
  | _, .bool _, _ => by simp only [PyData.canLay0, PyData.depth]; exact ⟨trivial, Nat.zero_le _⟩
  | _, .int _, _ => by simp only [PyData.canLay0, PyData.depth]; exact ⟨trivial, Nat.zero_le _⟩
  | n, .str x, h => by
    cases n <;> exact ⟨by simp only [PyData.canLay0]; exact h, by simp only [PyData.depth]; omega⟩
  | n + 1, .list xs, h => by
    have ih : ∀ d ∈ xs, d.canLay0 = true ∧ d.depth ≤ n := fun d hd => OkD.lay (h.2 d hd)
    simp only [PyData.canLay0, PyData.depth]
    exact ⟨lay_all fun d hd => (ih d hd).1, Nat.succ_le_succ (depth_all fun d hd => (ih d hd).2)⟩
  | n + 1, .tuple xs, h => by
    have ih : ∀ d ∈ xs, d.canLay0 = true ∧ d.depth ≤ n := fun d hd => OkD.lay (h.2 d hd)
    simp only [PyData.canLay0, PyData.depth]
    exact ⟨lay_all fun d hd => (ih d hd).1, Nat.succ_le_succ (depth_all fun d hd => (ih d hd).2)⟩
  | 0, .list _, h => (show False from h).elim
  | 0, .tuple _, h => (show False from h).elim
  | n, .dict _, h => by
    cases n <;> exact (show False from h).elim
theorem OkD.shaped {n : Nat} {d : PyData} (h : OkD n d) (hn : n ≤ 64) : SeqAt.shaped d = true := by
  obtain ⟨h1, h2⟩ := h.lay
  show (d.canLay0 && decide (d.depth ≤ 64)) = true
  rw [h1, decide_eq_true (Nat.le_trans h2 hn)]
  rfl
theorem OkD.mono : ∀ {n m : Nat} {d : PyData}, n ≤ m → OkD n d → OkD m d
  | n, m, .none, _, _ => by cases m <;> trivial
  | n, m, .bool _, _, _ => by cases m <;> trivial
  | n, m, .int _, _, _ => by cases m <;> trivial
  | n, m, .str x, _, h => by cases n <;> cases m <;> exact h
  | n + 1, m + 1, .list xs, hl, h => ⟨h.1, fun d hd => OkD.mono (Nat.le_of_succ_le_succ hl) (h.2 d hd)⟩
  | n + 1, m + 1, .tuple xs, hl, h => ⟨h.1, fun d hd => OkD.mono (Nat.le_of_succ_le_succ hl) (h.2 d hd)⟩
  | 0, _, .list _, _, h => (show False from h).elim
  | 0, _, .tuple _, _, h => (show False from h).elim
  | n + 1, 0, .list _, hl, _ => absurd hl (by omega)
  | n + 1, 0, .tuple _, hl, _ => absurd hl (by omega)
  | n, m, .dict _, _, h => by cases n <;> exact (show False from h).elim
theorem kt_bool_bool : kitB "bool" "bool" = some true := by decide +kernel
theorem kt_int_bool : kitB "int" "bool" = some false := by decide +kernel
theorem kt_int_int : kitB "int" "int" = some true := by decide +kernel
theorem kt_int_str : kitB "int" "str" = some false := by decide +kernel
theorem kt_int_tuple : kitB "int" "tuple" = some false := by decide +kernel
theorem kt_str_bool : kitB "str" "bool" = some false := by decide +kernel
theorem kt_str_int : kitB "str" "int" = some false := by decide +kernel
theorem kt_str_str : kitB "str" "str" = some true := by decide +kernel
theorem kt_str_tuple : kitB "str" "tuple" = some false := by decide +kernel
theorem kt_list_bool : kitB "list" "bool" = some false := by decide +kernel
theorem kt_list_int : kitB "list" "int" = some false := by decide +kernel
theorem kt_list_str : kitB "list" "str" = some false := by decide +kernel
theorem kt_list_list : kitB "list" "list" = some true := by decide +kernel
theorem kt_list_tuple : kitB "list" "tuple" = some false := by decide +kernel
theorem kt_tuple_bool : kitB "tuple" "bool" = some false := by decide +kernel
theorem kt_tuple_int : kitB "tuple" "int" = some false := by decide +kernel
theorem kt_tuple_str : kitB "tuple" "str" = some false := by decide +kernel
theorem kt_tuple_list : kitB "tuple" "list" = some false := by decide +kernel
theorem kt_tuple_tuple : kitB "tuple" "tuple" = some true := by decide +kernel
/-- a datum's type -/
def tyn : PyData → String
  | .none => "NoneType"
  | .bool _ => "bool"
  | .int _ => "int"
  | .str _ => "str"
  | .list _ => "list"
  | .tuple _ => "tuple"
  | .dict _ => "dict"
section
variable {K : PySem.W.Frag} {H H' : Hp} {Q : VK} {x : V} {d : PyData} {b : Bool}
theorem sql_ty {a : Addr} {xs : List V} (h : SqL K H a xs) : TyX K H (.ref a) (.type "list") := by
  rcases h with (h | ⟨o, h⟩) | ⟨o, its, n, h1, h2, _⟩
  · exact .base (.lst h)
  · exact .base (.frz h)
  · exact .kList h1 h2
theorem sqt_ty {a : Addr} {xs : List V} (h : SqT K H a xs) : TyX K H (.ref a) (.type "tuple") := by
  rcases h with (h | ⟨o, h⟩) | ⟨o, its, n, h1, h2, _⟩
  · exact .base (.tup h)
  · exact .fTuple h
  · exact .kTuple h1 h2
theorem dp_ty (h : Dp K H x d) : TyX K H x (.type (tyn d)) := by
  cases h with
  | non => exact .base .non
  | bl b => exact .base (.bl b)
  | int i => exact .base (.int i)
  | str x => exact .base (.str x)
  | lst h _ => exact sql_ty h
  | tup h _ => exact sqt_ty h
theorem k_isi {T U : String} (h : Dp K H x d) (e0 : tyn d = U) (e : kitB U T = some b) (q : Q (.bl b) H) : rIsi K [x, .ty T] H Q := ⟨x, .ty T, _, _, b, rfl, .ty T, dp_ty h, kit_ty (by rw [e0]; exact e), q⟩
theorem k_isi2 {T U W : String} {b1 b2 b : Bool} {tp : Addr} (h : Dp K H x d) (ht : H tp = some (.tup [.ty T, .ty U])) (e0 : tyn d = W) (e1 : kitB W T = some b1) (e2 : kitB W U = some b2) (eb : (b1 || b2) = b) (q : Q (.bl b) H) : rIsiT K [x, .ref tp] H Q :=
  ⟨x, tp, _, _, [.type T, .type U], b1 || b2, rfl, ht, .cons (.ty T) (.cons (.ty U) .nil), dp_ty h, by
    subst e0
    refine kitAny_cons (kit_ty e1) (fun h1 => ?_) fun h1 => by rw [h1]; rfl
    rw [h1, Bool.false_or]
    refine kitAny_cons (kit_ty e2) (fun h2 => by rw [h2]; rfl) fun h2 => h2, by rw [eb]; exact q⟩
theorem k_all {a : Addr} {bs : List Bool} (h : SqL K H a (bs.map V.bl)) (q : Q (.bl (bs.all id)) H) : rAll K [.ref a] H Q := ⟨a, bs, rfl, h, q⟩
theorem k_lc {wi : TI} {g : TG} {tt : TT} {te : TE} {vs : List Nat} {σ : L2.St} (h : wi σ H fun J H1 => ∀ D, H1 D = none → ∃ W : Nat → Nat → Hp → Prop, (∃ m, W 0 m (upd H1 D (.lst []))) ∧ ∀ i m H, W i m H →
  (J.stop i H ∧ Q (.ref D) H) ∨ (J.go i H ∧ ∃ Nx : Hp → Prop, (∀ H', Nx H' → ∃ m', m' < m ∧ W (i + 1) m' H') ∧ ∀ x H', J.yld i H x H' → g x (wipe σ vs) H' fun σ2 H2 => wipe σ2 vs = wipe σ vs ∧ tt σ2 H2 fun b H3 =>
    if b = true then te σ2 H3 fun y H4 => ∃ acc, H4 D = some (.lst acc) ∧ acc.length < sizeLine ∧ Nx (upd H4 D (.lst (acc ++ [y]))) else Nx H3)) : tLc wi g tt te vs σ H Q := h
theorem k_lenE {a : Addr} {xs : List V} (h : SqL K H a xs ∨ SqT K H a xs) (q : Q (.int xs.length) H) : rLenU K [.ref a] H Q := .inl ⟨a, xs, rfl, h, q⟩
theorem k_ixE {a : Addr} {xs : List V} {v : V} {i : Int} (h : SqL K H a xs ∨ SqT K H a xs) (h2 : atI xs i = some v) (q : Q v H) : rIx K (.ref a) (.int i) H Q := by
  rcases h with h | h
  · exact k_ixL h h2 q
  · exact k_ixT h h2 q
theorem seq_same {a : Addr} {xs : List V} (e : Same H H') (h : SqL K H a xs ∨ SqT K H a xs) : SqL K H' a xs ∨ SqT K H' a xs := by
  rcases h with h | h
  · exact .inl (e.seq h)
  · exact .inr (sqt_same e h)
theorem dp_same (e : Same H H') : ∀ {x : V} {d : PyData}, Dp K H x d → Dp K H' x d := by
  intro x d h
  induction h using Dp.rec (motive_2 := fun vs ds _ => DpAll K H' vs ds) with
  | non => exact .non
  | bl b => exact .bl b
  | int i => exact .int i
  | str x => exact .str x
  | lst h _ ih => exact .lst (e.seq h) ih
  | tup h _ ih => exact .tup (sqt_same e h) ih
  | nil => exact .nil
  | cons _ _ h1 h2 => exact .cons h1 h2
theorem DpAll.length' : ∀ {vs : List V} {ds : List PyData}, DpAll K H vs ds → vs.length = ds.length
  | _, _, .nil => rfl
  | _, _, .cons _ hs => congrArg Nat.succ (DpAll.length' hs)
theorem DpAll.getD' : ∀ {vs : List V} {ds : List PyData} {i : Nat} {d : PyData}, DpAll K H vs ds → ds[i]? = some d → ∃ v, vs[i]? = some v ∧ Dp K H v d
  | _, _, i, _, .nil, e => by simp at e
  | _, _, 0, _, .cons a _, e => by
    simp at e
    subst e
    exact ⟨_, rfl, a⟩
  | _, _, i + 1, d, .cons _ b, e => by
    obtain ⟨v, h1, h2⟩ := DpAll.getD' (i := i) (d := d) b (by simpa using e)
    exact ⟨v, by simpa using h1, h2⟩
end
def spSame (K : PySem.W.Frag) (n : Nat) : Sp := fun vs H Q _ => ∃ (x y : V) (d : PyData), vs = [x, y] ∧ Dp K H x d ∧ Dp K H y d ∧ OkD n d ∧ ∀ H', Same H H' → Q (.bl true) H'
theorem use_same {K : PySem.W.Frag} {n : Nat} {x y : V} {d : PyData} {H : Hp} {Q : VK} {E : XK} (h1 : Dp K H x d) (h2 : Dp K H y d) (h3 : OkD n d) (q : ∀ H', Same H H' → Q (.bl true) H') : spSame K n ([x, y] ++ []) H Q E := ⟨x, y, d, rfl, h1, h2, h3, q⟩
end Ls
namespace Ls
open PySem PySem.Spec PyProof.Rows L2
section
variable {σ : L2.St} {H : Hp} {Q : VK} {tk tv : TE} {r : List (TE × TE)}
theorem k_disp {trs : List (TE × TE)} (q : ∀ p, H p = none → tPairs trs σ (upd H p (.dK [])) fun ps H2 => H2 p = some (.dK []) ∧ ∃ kvs : List (Key × V), ps = kvs.map (fun kv => (kV kv.1, kv.2)) ∧ kvs.length ≤ 15 ∧ Q (.ref p) (upd H2 p (.dK (mergeK [] kvs)))) : tDisp trs σ H Q := q
theorem k_prs {R : List (V × V) → Hp → Prop} (h : tk σ H fun x H1 => tv σ H1 fun y H2 => tPairs r σ H2 fun ps H3 => R ((x, y) :: ps) H3) : tPairs ((tk, tv) :: r) σ H R := h
theorem k_prn {R : List (V × V) → Hp → Prop} (h : R [] H) : tPairs [] σ H R := h
theorem cut_to {xs : List V} {i : Int} (h : 0 ≤ i) : cutV xs none (some i) = xs.take i.toNat := by
  obtain ⟨k, rfl⟩ := Int.eq_ofNat_of_zero_le h
  show (xs.drop 0).take (HT.sIx xs.length xs.length (some (k : Int)) - 0) = _
  rw [HT.sIx_nat, List.drop_zero, Nat.sub_zero, Int.toNat_natCast]
  by_cases hk : k ≤ xs.length
  · rw [Nat.min_eq_left hk]
  · rw [Nat.min_eq_right (by omega), List.take_of_length_le (Nat.le_refl _), List.take_of_length_le (by omega)]
theorem cut_all {xs : List V} {i : Int} (h : (xs.length : Int) ≤ i) : cutV xs none (some i) = xs := by
  rw [cut_to (by omega), List.take_of_length_le (by omega)]
theorem put_none {kvs : List (Key × V)} {k : Key} {v : V} (h : valV kvs k = none) : putK kvs k v = kvs ++ [(k, v)] := by
  unfold putK
  rw [valV_any, h]
  rfl
theorem dd_merge {c : Addr} {n r s : Int} : mergeK [] (dd c n r s) = dd c n r s := by
  show putK (putK (putK (putK ([] : List (Key × V)) (Sum.inr ("cells" : Str) : Key) (V.ref c)) (Sum.inr ("at" : Str) : Key) (V.int n)) (Sum.inr ("rest" : Str) : Key) (V.int r)) (Sum.inr ("seed" : Str) : Key) (V.int s) = _
  rw [put_none (kvs := []) rfl]
  rw [put_none (kvs := [] ++ _) ((valV_neg (kne n_ca)).trans rfl)]
  rw [put_none (kvs := [] ++ _ ++ _) ((valV_neg (kne n_cr)).trans ((valV_neg (kne n_ar)).trans rfl))]
  rw [put_none (kvs := [] ++ _ ++ _ ++ _) ((valV_neg (kne n_cs)).trans ((valV_neg (kne n_as)).trans ((valV_neg (kne n_rs)).trans rfl)))]
  rfl
end
/-- some element of a list -/
def spOf (K : PySem.W.Frag) : Sp := fun vs H Q _ => ∃ (d c l : Addr) (xs : List V), vs = [.ref d, .ref l] ∧ Draw K H d c ∧ SqL K H l xs ∧ 0 < xs.length ∧ xs.length < 2 ^ 100 ∧ ∀ x H', Keep d H H' → Draw K H' d c → x ∈ xs → Q x H'
theorem use_of {K : PySem.W.Frag} {d c l : Addr} {xs : List V} {H : Hp} {Q : VK} {E : XK} (hD : Draw K H d c) (h : SqL K H l xs) (h1 : 0 < xs.length) (h2 : xs.length < 2 ^ 100) (q : ∀ x H', Keep d H H' → Draw K H' d c → x ∈ xs → Q x H') : spOf K ([.ref d, .ref l] ++ []) H Q E := ⟨d, c, l, xs, rfl, hD, h, h1, h2, q⟩
end Ls
namespace Lm
abbrev Tie := Int × Int × Int
structure S where
  row : Int → Int
  way : Int → Option Tie
  last : Option Int
end Lm
namespace Lm
/-- the tie that pushed a place, when there is one -/
def wy (w : Int → Option Tie) (v : Int) : Tie := (w v).getD (0, 0, 0)
def nx (w : Int → Option Tie) (v : Int) : Int := (wy w v).2.1
def go (w : Int → Option Tie) : Nat → Int → Int
  | 0, v => v
  | k + 1, v => nx w (go w k v)
end Lm
namespace Ls
open PySem PySem.Spec PyProof.Rows L2
abbrev Tie := Lm.Tie
def tieD (t : Tie) : PyData := .tuple [.int t.1, .int t.2.1, .int t.2.2]
/-- a list of ties -/
def TieL (K : PySem.W.Frag) (H : Hp) (vs : List V) (ts : List Tie) : Prop := ImAll K H vs (ts.map tieD)
theorem TieL.mono {K : PySem.W.Frag} {H H' : Hp} {vs : List V} {ts : List Tie} (t : Tp K H H') (h : TieL K H vs ts) : TieL K H' vs ts := ImAll.mono t h
theorem TieL.len {K : PySem.W.Frag} {H : Hp} {vs : List V} {ts : List Tie} (h : TieL K H vs ts) : vs.length = ts.length := by
  have := ImAll.length h
  rwa [List.length_map] at this
theorem TieL.snoc {K : PySem.W.Frag} {H : Hp} {vs : List V} {ts : List Tie} {p : Addr} {a b c : Int} (h : TieL K H vs ts) (hp : SqT K H p [.int a, .int b, .int c]) : TieL K H (vs ++ [.ref p]) (ts ++ [(a, b, c)]) := by
  unfold TieL
  rw [List.map_append]
  exact ImAll.snoc h (.tup hp (.cons (.int a) (.cons (.int b) (.cons (.int c) .nil))))
theorem TieL.app {K : PySem.W.Frag} {H : Hp} {vs us : List V} {ts ss : List Tie} (h : TieL K H vs ts) (h2 : TieL K H us ss) : TieL K H (vs ++ us) (ts ++ ss) := by
  unfold TieL
  rw [List.map_append]
  exact ImAll.app h h2
theorem tie_of {K : PySem.W.Frag} {H : Hp} {v : V} {t : Tie} (h : Im K H v (tieD t)) : ∃ a, v = .ref a ∧ SqT K H a [.int t.1, .int t.2.1, .int t.2.2] := by
  obtain ⟨a, xs, rfl, h1, h2⟩ := im_tup h
  refine ⟨a, rfl, ?_⟩
  cases h2 with
  | cons a1 r1 =>
    cases r1 with
    | cons a2 r2 =>
      cases r2 with
      | cons a3 r3 =>
        cases r3
        cases im_int a1
        cases im_int a2
        cases im_int a3
        exact h1
theorem TieL.get {K : PySem.W.Frag} {H : Hp} {vs : List V} {ts : List Tie} {i : Nat} {v : V} (h : TieL K H vs ts) (e : vs[i]? = some v) : ∃ t a, ts[i]? = some t ∧ v = .ref a ∧ SqT K H a [.int t.1, .int t.2.1, .int t.2.2] := by
  obtain ⟨d, h1, h2⟩ := ImAll.get h e
  rw [List.getElem?_map] at h1
  obtain ⟨t, ht, rfl⟩ := Option.map_eq_some_iff.mp h1
  obtain ⟨a, rfl, h3⟩ := tie_of h2
  exact ⟨t, a, ht, rfl, h3⟩
theorem TieL.take {K : PySem.W.Frag} {H : Hp} {vs : List V} {ts : List Tie} (n : Nat) (h : TieL K H vs ts) : TieL K H (vs.take n) (ts.take n) := by
  unfold TieL
  rw [List.map_take]
  exact ImAll.take n h
theorem TieL.drop {K : PySem.W.Frag} {H : Hp} {vs : List V} {ts : List Tie} (n : Nat) (h : TieL K H vs ts) : TieL K H (vs.drop n) (ts.drop n) := by
  unfold TieL
  rw [List.map_drop]
  exact ImAll.drop n h
end Ls
namespace Ls
open PySem PySem.Spec PyProof.Rows L2
/-- all but the objects at d and e stays -/
def Keep2 (d e : Addr) (H H' : Hp) : Prop := ∀ b o, b ≠ d → b ≠ e → H b = some o → H' b = some o
theorem Keep2.refl {d e : Addr} {H : Hp} : Keep2 d e H H := fun _ _ _ _ h => h
theorem Keep2.trans {d e : Addr} {H H1 H2 : Hp} (a : Keep2 d e H H1) (b : Keep2 d e H1 H2) : Keep2 d e H H2 := fun c o n m h => b c o n m (a c o n m h)
theorem Keep2.same {d e : Addr} {H H' : Hp} (k : Same H H') : Keep2 d e H H' := fun b o _ _ h => k b o h
theorem Keep2.tp {K : PySem.W.Frag} {d e : Addr} {H H' : Hp} {o u : HO} (k : Keep2 d e H H') (h1 : H d = some o) (n1 : NoT o = true) (h2 : H e = some u) (n2 : NoT u = true) : Tp K H H' := fun a xs q => by
  have ne : ∀ z, NoT z = false → H a = some z → a ≠ d := fun z hz e y => by
    rw [y, h1] at e
    cases e
    rw [n1] at hz
    cases hz
  have ne2 : ∀ z, NoT z = false → H a = some z → a ≠ e := fun z hz f y => by
    rw [y, h2] at f
    cases f
    rw [n2] at hz
    cases hz
  rcases q with (q | ⟨z, q⟩) | q
  · exact .inl (.inl (k _ _ (ne _ rfl q) (ne2 _ rfl q) q))
  · exact .inl (.inr ⟨z, k _ _ (ne _ rfl q) (ne2 _ rfl q) q⟩)
  · exact .inr q
theorem Keep2.free {d e p : Addr} {H H' : Hp} {o u : HO} (k : Keep2 d e H H') (hd : H' d = some o) (he : H' e = some u) (h : H' p = none) : H p = none := by
  cases q : H p with
  | none => rfl
  | some z =>
    by_cases a : p = d
    · rw [a, hd] at h; cases h
    · by_cases b : p = e
      · rw [b, he] at h; cases h
      · rw [k p z a b q] at h; cases h
theorem k_dc {wi : TI} {g : TG} {tt : TT} {tk tv : TE} {vs : List Nat} {σ : L2.St} {H : Hp} {Q : VK} (h : wi σ H fun J H1 => ∀ D, H1 D = none → ∃ W : Nat → Nat → Hp → Prop, (∃ m, W 0 m (upd H1 D (.dK []))) ∧ ∀ i m H, W i m H →
  (J.stop i H ∧ Q (.ref D) H) ∨ (J.go i H ∧ ∃ Nx : Hp → Prop, (∀ H', Nx H' → ∃ m', m' < m ∧ W (i + 1) m' H') ∧ ∀ x H', J.yld i H x H' → g x (wipe σ vs) H' fun σ2 H2 => wipe σ2 vs = wipe σ vs ∧ tt σ2 H2 fun b H3 =>
    if b = true then tk σ2 H3 fun y H4 => tv σ2 H4 fun z H5 => ∃ kvs k, y = kV k ∧ H5 D = some (.dK kvs) ∧ kvs.length < sizeLine ∧ Nx (upd H5 D (.dK (putK kvs k z))) else Nx H3)) : tDc wi g tt tk tv vs σ H Q := h
/-- the ties that pushed places, in a dict -/
def WayK (K : PySem.W.Frag) (H : Hp) (kvs : List (Key × V)) (w : Int → Option Tie) : Prop := ∀ p, (w p = none → valV kvs (.inl p) = none) ∧ ∀ t, w p = some t → ∃ a, valV kvs (.inl p) = some (.ref a) ∧ SqT K H a [.int t.1, .int t.2.1, .int t.2.2]
theorem WayK.mono {K : PySem.W.Frag} {H H' : Hp} {kvs : List (Key × V)} {w : Int → Option Tie} (h : WayK K H kvs w) (t : Tp K H H') : WayK K H' kvs w := fun p => ⟨(h p).1, fun u hu => by
  obtain ⟨a, h1, h2⟩ := (h p).2 u hu
  exact ⟨a, h1, t _ _ h2⟩⟩
/-- nothing pushed yet -/
def s0 : Lm.S := ⟨fun _ => 0, fun _ => none, none⟩
end Ls
namespace Ls
open PySem PySem.Spec PyProof.Rows L2
end Ls
namespace Ls
open PySem PySem.Spec PyProof.Rows L2
/-- an object that is no tuple -/
def Nt : HO → Bool
  | .tup _ => false
  | .frz _ _ => false
  | .ext _ => false
  | _ => true
/-- .. nor a table: what may be frozen -/
def Fr : HO → Bool
  | .tbl _ => false
  | o => Nt o
theorem fr_nt {o : HO} (h : Fr o = true) : Nt o = true := by
  cases o <;> first | exact h | rfl
/-- tuples stay, and what is told of from outside -/
def Tq (K : PySem.W.Frag) (H H' : Hp) : Prop := Tp K H H' ∧ ∀ a f, H a = some (.ext f) → H' a = some (.ext f)
theorem Tq.refl {K : PySem.W.Frag} {H : Hp} : Tq K H H := ⟨Tp.refl, fun _ _ h => h⟩
theorem Tq.same {K : PySem.W.Frag} {H H' : Hp} (e : Same H H') : Tq K H H' := ⟨Tp.same e, fun _ _ h => e _ _ h⟩
theorem Tq.new {K : PySem.W.Frag} {H : Hp} {p : Addr} {o : HO} (h : H p = none) : Tq K H (upd H p o) := Tq.same (same_new h)
theorem nt_tp {K : PySem.W.Frag} {H H' : Hp} (h : ∀ a o, H a = some o → Nt o = false → H' a = some o) : Tq K H H' := ⟨fun a xs q => by
  rcases q with (q | ⟨u, q⟩) | q
  · exact .inl (.inl (h _ _ q rfl))
  · exact .inl (.inr ⟨u, h _ _ q rfl⟩)
  · exact .inr q, fun a f e => h a _ e rfl⟩
theorem tp_upd {K : PySem.W.Frag} {H : Hp} {a : Addr} {o u : HO} (h : H a = some o) (n : Nt o = true) : Tq K H (upd H a u) := nt_tp fun b x e nb => by
  have : b ≠ a := fun z => by
    rw [z, h] at e
    cases e
    rw [n] at nb
    cases nb
  rw [upd_ne this]
  exact e
/-- what is frozen: it stands, and never changes -/
abbrev Fz := Addr → HO → Prop
structure As (K : PySem.W.Frag) where
  ok : Fz → (Addr → Prop) → Hp → Prop
  st : ∀ {W : Fz} {s : Addr → Prop} {H H' : Hp}, ok W s H → (∀ a, s a → H' a = H a) → Tq K H H' → ok W s H'
  al : ∀ {W : Fz} {s : Addr → Prop} {H : Hp}, ok W s H → ∀ a, s a → ∃ o, H a = some o ∧ Nt o = true
  mo : ∀ {W W' : Fz} {s : Addr → Prop} {H : Hp}, ok W s H → (∀ a o, W a o → W' a o) → ok W' s H
section
variable {K : PySem.W.Frag} {A B C : As K} {L L' M : List (As K)} {s t r : Addr → Prop} {H H' : Hp} {W W' : Fz}
def Hld (W : Fz) : List (As K) → (Addr → Prop) → Hp → Prop
  | [], s, _ => ∀ a, ¬ s a
  | A :: L, s, H => ∃ s1 s2, (∀ a, s1 a → s2 a → False) ∧ (∀ a, s a ↔ s1 a ∨ s2 a) ∧ A.ok W s1 H ∧ Hld W L s2 H
theorem Hld.st : ∀ {L : List (As K)} {s : Addr → Prop}, Hld W L s H → (∀ a, s a → H' a = H a) → Tq K H H' → Hld W L s H'
  | [], _, h, _, _ => h
  | _ :: _, _, ⟨s1, s2, d, u, h1, h2⟩, e, t => ⟨s1, s2, d, u, As.st _ h1 (fun a z => e a ((u a).mpr (.inl z))) t, Hld.st h2 (fun a z => e a ((u a).mpr (.inr z))) t⟩
theorem Hld.al : ∀ {L : List (As K)} {s : Addr → Prop}, Hld W L s H → ∀ a, s a → ∃ o, H a = some o ∧ Nt o = true
  | [], _, h, a, z => (h a z).elim
  | _ :: _, _, ⟨s1, s2, d, u, h1, h2⟩, a, z => ((u a).mp z).elim (As.al _ h1 a) (Hld.al h2 a)
theorem Hld.mo (k : ∀ a o, W a o → W' a o) : ∀ {L : List (As K)} {s : Addr → Prop}, Hld W L s H → Hld W' L s H
  | [], _, h => h
  | _ :: _, _, ⟨s1, s2, d, u, h1, h2⟩ => ⟨s1, s2, d, u, As.mo _ h1 k, Hld.mo k h2⟩
theorem Hld.cg (h : Hld W L s H) (e : ∀ a, s a ↔ t a) : Hld W L t H := by
  have : s = t := funext fun a => propext (e a)
  exact this ▸ h
theorem Hld.swap (h : Hld W (A :: B :: L) s H) : Hld W (B :: A :: L) s H := by
  obtain ⟨s1, s2, d, u, h1, t1, t2, d2, u2, h2, h3⟩ := h
  refine ⟨t1, fun a => s1 a ∨ t2 a, fun a x y => ?_, fun a => ?_, h2, s1, t2, fun a x y => d a x ((u2 a).mpr (.inr y)), fun a => Iff.rfl, h1, h3⟩
  · rcases y with y | y
    · exact d a y ((u2 a).mpr (.inl x))
    · exact d2 a x y
  · rw [u a, u2 a]
    constructor
    · rintro (x | x | x)
      · exact .inr (.inl x)
      · exact .inl x
      · exact .inr (.inr x)
    · rintro (x | x | x)
      · exact .inr (.inl x)
      · exact .inl x
      · exact .inr (.inr x)
/-- the frozen ones stand apart from what is owned -/
def FzOk (W : Fz) (s : Addr → Prop) (H : Hp) : Prop := ∀ a o, W a o → H a = some o ∧ Fr o = true ∧ ¬ s a
/-- the assertions of a list hold, each of addresses of its own -/
def Sep (L : List (As K)) (H : Hp) : Prop := ∃ W s, FzOk W s H ∧ Hld W L s H
theorem Hld.perm (p : L.Perm L') : ∀ {s : Addr → Prop}, Hld W L s H → Hld W L' s H := by
  induction p with
  | nil => exact id
  | cons x _ ih =>
    rintro s ⟨s1, s2, d, u, h1, h2⟩
    exact ⟨s1, s2, d, u, h1, ih h2⟩
  | swap x y l => exact fun h => h.swap
  | trans _ _ a b => exact fun h => b (a h)
theorem Sep.perm (h : Sep L H) (p : L.Perm L') : Sep L' H := by
  obtain ⟨W, s, f, h⟩ := h
  exact ⟨W, s, f, h.perm p⟩
theorem FzOk.less (f : FzOk W s H) (k : ∀ a, t a → s a) : FzOk W t H := fun a o h => ⟨(f a o h).1, (f a o h).2.1, fun z => (f a o h).2.2 (k a z)⟩
theorem Sep.tail (h : Sep (A :: L) H) : Sep L H := by
  obtain ⟨W, s, f, s1, s2, d, u, h1, h2⟩ := h
  exact ⟨W, s2, f.less fun a z => (u a).mpr (.inr z), h2⟩
theorem Sep.nil : Sep ([] : List (As K)) H := ⟨fun _ _ => False, fun _ => False, fun _ _ z => z.elim, fun _ z => z⟩
theorem Sep.same (h : Sep L H) (e : Same H H') : Sep L H' := by
  obtain ⟨W, s, f, h⟩ := h
  refine ⟨W, s, fun a o z => ⟨e _ _ (f a o z).1, (f a o z).2⟩, h.st (fun a z => ?_) (Tq.same e)⟩
  obtain ⟨o, ho, _⟩ := h.al a z
  rw [e _ _ ho, ho]
/-- the first one, and what it takes to put another in its place -/
theorem Sep.hd (h : Sep (A :: L) H) : ∃ (W : Fz) (s r : Addr → Prop), A.ok W s H ∧ (∀ a, s a → r a → False) ∧ (∀ a, r a → ∃ o, H a = some o ∧ Nt o = true) ∧
    ∀ {B : As K} {s' : Addr → Prop} {H' : Hp}, B.ok W s' H' → (∀ a, s' a → r a → False) → (∀ a, r a → H' a = H a) → Tq K H H' → Sep (B :: L) H' := by
  obtain ⟨W, s, f, s1, s2, d, u, h1, h2⟩ := h
  refine ⟨W, s1, fun a => s2 a ∨ ∃ o, W a o, h1, fun a x y => ?_, fun a y => ?_, fun {B s' H'} hB dj e t => ⟨W, fun a => s' a ∨ s2 a, fun a o z => ⟨?_, (f a o z).2.1, fun y => ?_⟩, s', s2, fun a x y => dj a x (.inl y), fun a => Iff.rfl, hB, h2.st (fun a z => e a (.inl z)) t⟩⟩
  · rcases y with y | ⟨o, y⟩
    · exact d a x y
    · exact (f a o y).2.2 ((u a).mpr (.inl x))
  · rcases y with y | ⟨o, y⟩
    · exact h2.al a y
    · exact ⟨o, (f a o y).1, fr_nt (f a o y).2.1⟩
  · rw [e a (.inr ⟨o, z⟩)]
    exact (f a o z).1
  · rcases y with y | y
    · exact dj a y (.inr ⟨o, z⟩)
    · exact (f a o z).2.2 ((u a).mpr (.inr y))
inductive Rep : List (As K) → As K → As K → List (As K) → Prop
  | here {A B : As K} {L} : Rep (A :: L) A B (B :: L)
  | there {A B C : As K} {L M} : Rep L A B M → Rep (C :: L) A B (C :: M)
inductive Rem : List (As K) → As K → List (As K) → Prop
  | here {A : As K} {L} : Rem (A :: L) A L
  | there {A C : As K} {L M} : Rem L A M → Rem (C :: L) A (C :: M)
theorem Rem.perm (r : Rem L A M) : L.Perm (A :: M) := by
  induction r with
  | here => exact .refl _
  | there _ ih => exact (List.Perm.cons _ ih).trans (.swap _ _ _)
theorem Rep.rem (r : Rep L A B M) : ∃ N, L.Perm (A :: N) ∧ M.Perm (B :: N) := by
  induction r with
  | here => exact ⟨_, .refl _, .refl _⟩
  | there _ ih =>
    obtain ⟨N, h1, h2⟩ := ih
    exact ⟨_, (List.Perm.cons _ h1).trans (.swap _ _ _), (List.Perm.cons _ h2).trans (.swap _ _ _)⟩
theorem Rem.of_mem : A ∈ L → ∃ M, Rem L A M := by
  intro h
  induction L with
  | nil => cases h
  | cons C L ih =>
    by_cases e : A = C
    · subst e
      exact ⟨_, .here⟩
    · obtain ⟨M, hM⟩ := ih (by
        rcases List.mem_cons.mp h with z | z
        · exact (e z).elim
        · exact z)
      exact ⟨_, .there hM⟩
theorem Sep.rem (h : Sep L H) (r : Rem L A M) : Sep (A :: M) H := h.perm r.perm
/-- a call that changes the first one and lets the rest stand -/
theorem Sep.rep (r : Rep L A B M) : ∃ N, (∀ H, Sep L H → Sep (A :: N) H) ∧ (∀ H, Sep (B :: N) H → Sep M H) := by
  obtain ⟨N, h1, h2⟩ := r.rem
  exact ⟨N, fun H h => h.perm h1, fun H h => h.perm h2.symm⟩
/-- one of them, and how all stand again behind a change of it -/
theorem Sep.at (h : Sep L H) (m : A ∈ L) : ∃ (W : Fz) (s r : Addr → Prop), A.ok W s H ∧ (∀ a, s a → r a → False) ∧ (∀ a, r a → ∃ o, H a = some o ∧ Nt o = true) ∧
    ∀ {s' : Addr → Prop} {H' : Hp}, A.ok W s' H' → (∀ a, s' a → r a → False) → (∀ a, r a → H' a = H a) → Tq K H H' → Sep L H' := by
  obtain ⟨M, hM⟩ := Rem.of_mem m
  obtain ⟨W, s, r, h1, h2, h3, h4⟩ := (h.rem hM).hd
  exact ⟨W, s, r, h1, h2, h3, fun a b c d => (h4 a b c d).perm hM.perm.symm⟩
theorem Sep.the (h : Sep L H) (m : A ∈ L) : ∃ W s, A.ok W s H ∧ FzOk W (fun _ => False) H := by
  obtain ⟨M, hM⟩ := Rem.of_mem m
  obtain ⟨W, s, f, s1, s2, d, u, h1, h2⟩ := h.rem hM
  exact ⟨W, s1, h1, f.less fun _ z => z.elim⟩
end
section
variable {K : PySem.W.Frag}
/-- a fact that stays, of the frozen ones and the heap -/
def persW (P : Fz → Hp → Prop) (h : ∀ W H H', Tq K H H' → P W H → P W H') (k : ∀ (W W' : Fz) H, (∀ a o, W a o → W' a o) → P W H → P W' H) : As K := ⟨fun W s H => (∀ a, ¬ s a) ∧ P W H, fun ⟨a, b⟩ _ t => ⟨a, h _ _ _ t b⟩, fun ⟨a, _⟩ b z => (a b z).elim, fun ⟨a, b⟩ e => ⟨a, k _ _ _ e b⟩⟩
/-- a fact that stays -/
def pers (P : Hp → Prop) (h : ∀ H H', Tq K H H' → P H → P H') : As K := persW (fun _ => P) (fun _ => h) fun _ _ _ _ b => b
def im (v : V) (d : PyData) : As K := pers (fun H => Im K H v d) fun _ _ t h => h.mono t.1
def ims (vs : List V) (ds : List PyData) : As K := pers (fun H => ImAll K H vs ds) fun _ _ t h => h.mono t.1
def tu (a : Addr) (xs : List V) : As K := pers (fun H => SqT K H a xs) fun _ _ t h => t.1 _ _ h
def pr (P : Prop) : As K := pers (fun _ => P) fun _ _ _ h => h
/-- an object that never changes any more -/
def fzn (a : Addr) (o : HO) : As K := persW (fun W _ => W a o) (fun _ _ _ _ h => h) fun _ _ _ e h => e _ _ h
/-- an object of one's own -/
def ob (a : Addr) (o : HO) : As K := ⟨fun _ s H => (∀ b, s b ↔ b = a) ∧ H a = some o ∧ Nt o = true, fun ⟨e, h, n⟩ k _ => ⟨e, (k a ((e a).mpr rfl)).trans h, n⟩, fun ⟨e, h, n⟩ b z => by
  obtain rfl := (e b).mp z
  exact ⟨o, h, n⟩, fun h _ => h⟩
/-- there is an x .. -/
def ex {α : Type} (f : α → As K) : As K := ⟨fun W s H => ∃ x, (f x).ok W s H, fun ⟨x, h⟩ e t => ⟨x, (f x).st h e t⟩, fun ⟨x, h⟩ => (f x).al h, fun ⟨x, h⟩ e => ⟨x, (f x).mo h e⟩⟩
/-- all of a list as one -/
def all (L : List (As K)) : As K := ⟨fun W => Hld W L, fun h e t => Hld.st h e t, fun h => Hld.al h, fun h e => Hld.mo e h⟩
variable {A B : As K} {L L' M : List (As K)} {H H' : Hp} {a p : Addr} {o u : HO} {v : V} {d : PyData} {vs xs : List V} {ds : List PyData} {W : Fz}
theorem Sep.pers_iff {P : Hp → Prop} {h : ∀ H H', Tq K H H' → P H → P H'} : Sep (pers P h :: L) H ↔ P H ∧ Sep L H := by
  constructor
  · intro z
    refine ⟨?_, z.tail⟩
    obtain ⟨W, s, ⟨_, h1⟩, _⟩ := z.the List.mem_cons_self
    exact h1
  · rintro ⟨p, W, s, f, q⟩
    exact ⟨W, s, f, fun _ => False, s, fun _ z => z.elim, fun a => ⟨.inr, fun z => z.elim False.elim id⟩, ⟨fun _ z => z, p⟩, q⟩
theorem Sep.im_iff : Sep (im v d :: L) H ↔ Im K H v d ∧ Sep L H := Sep.pers_iff
theorem Sep.tu_iff : Sep (tu a xs :: L) H ↔ SqT K H a xs ∧ Sep L H := Sep.pers_iff
theorem Sep.pr_iff {P : Prop} : Sep (pr P :: L) H ↔ P ∧ Sep L H := Sep.pers_iff
theorem Hld.app : ∀ {L L' : List (As K)} {s : Addr → Prop}, Hld W (L ++ L') s H ↔ ∃ s1 s2, (∀ a, s1 a → s2 a → False) ∧ (∀ a, s a ↔ s1 a ∨ s2 a) ∧ Hld W L s1 H ∧ Hld W L' s2 H
  | [], L', s => by
    constructor
    · intro h
      exact ⟨fun _ => False, s, fun _ z => z.elim, fun a => ⟨.inr, fun z => z.elim False.elim id⟩, fun _ z => z, h⟩
    · rintro ⟨s1, s2, d, u, h1, h2⟩
      exact h2.cg fun a => ⟨fun z => (u a).mpr (.inr z), fun z => ((u a).mp z).elim (fun y => (h1 a y).elim) id⟩
  | A :: L, L', s => by
    constructor
    · rintro ⟨s1, s2, d, u, h1, h2⟩
      obtain ⟨t1, t2, d', u', h3, h4⟩ := Hld.app.mp h2
      refine ⟨fun a => s1 a ∨ t1 a, t2, fun a x y => ?_, fun a => ?_, ⟨s1, t1, fun a x y => d a x ((u' a).mpr (.inl y)), fun a => Iff.rfl, h1, h3⟩, h4⟩
      · rcases x with x | x
        · exact d a x ((u' a).mpr (.inr y))
        · exact d' a x y
      · rw [u a, u' a, or_assoc]
    · rintro ⟨s1, s2, d, u, ⟨t1, t2, d', u', h1, h3⟩, h2⟩
      refine ⟨t1, fun a => t2 a ∨ s2 a, fun a x y => ?_, fun a => ?_, h1, Hld.app.mpr ⟨t2, s2, fun a x y => d a ((u' a).mpr (.inr x)) y, fun a => Iff.rfl, h3, h2⟩⟩
      · rcases y with y | y
        · exact d' a x y
        · exact d a ((u' a).mpr (.inl x)) y
      · rw [u a, u' a, or_assoc]
theorem Sep.all_iff : Sep (all L :: L') H ↔ Sep (L ++ L') H := by
  constructor
  · rintro ⟨W, s, f, s1, s2, d, u, h1, h2⟩
    exact ⟨W, s, f, Hld.app.mpr ⟨s1, s2, d, u, h1, h2⟩⟩
  · rintro ⟨W, s, f, h⟩
    obtain ⟨s1, s2, d, u, h1, h2⟩ := Hld.app.mp h
    exact ⟨W, s, f, s1, s2, d, u, h1, h2⟩
theorem Sep.obm (h : Sep L H) (m : ob a o ∈ L) : H a = some o := by
  obtain ⟨W, s, ⟨_, h1, _⟩, _⟩ := h.the m
  exact h1
theorem Sep.imm (h : Sep L H) (m : im v d ∈ L) : Im K H v d := by
  obtain ⟨W, s, ⟨_, h1⟩, _⟩ := h.the m
  exact h1
theorem Sep.imsm (h : Sep L H) (m : ims vs ds ∈ L) : ImAll K H vs ds := by
  obtain ⟨W, s, ⟨_, h1⟩, _⟩ := h.the m
  exact h1
theorem Sep.tum (h : Sep L H) (m : tu a xs ∈ L) : SqT K H a xs := by
  obtain ⟨W, s, ⟨_, h1⟩, _⟩ := h.the m
  exact h1
theorem Sep.set (h : Sep (ob a o :: L) H) (n : Nt u = true) : Sep (ob a u :: L) (upd H a u) := by
  obtain ⟨W, s, r, ⟨e, h1, n1⟩, d, _, k⟩ := h.hd
  refine k (s' := s) ⟨e, upd_same, n⟩ d (fun b z => upd_ne fun y => d b ((e b).mpr y) z) (tp_upd h1 n1)
theorem Sep.setR (h : Sep L H) (r : Rep L (ob a o) (ob a u) M) (n : Nt u = true) : Sep M (upd H a u) := by
  obtain ⟨N, h1, h2⟩ := Sep.rep r
  exact h2 _ ((h1 _ h).set n)
theorem Sep.new (h : Sep L H) (hp : H p = none) (n : Nt o = true) : Sep (ob p o :: L) (upd H p o) := by
  obtain ⟨W, s, f, h⟩ := h
  have ne : ∀ b, s b → b ≠ p := fun b z y => by
    obtain ⟨x, hx, _⟩ := h.al b z
    rw [y, hp] at hx
    cases hx
  have nw : ∀ b x, W b x → b ≠ p := fun b x z y => by
    have := (f b x z).1
    rw [y, hp] at this
    cases this
  exact ⟨W, fun b => b = p ∨ s b, fun b x z => ⟨by rw [upd_ne (nw b x z)]; exact (f b x z).1, (f b x z).2.1, fun y => y.elim (nw b x z) (f b x z).2.2⟩, fun b => b = p, s, fun b x y => ne b y x, fun b => Iff.rfl, ⟨fun b => Iff.rfl, upd_same, n⟩, h.st (fun b z => upd_ne (ne b z)) (Tq.new hp)⟩
theorem Sep.newT (h : Sep L H) (hp : H p = none) : Sep (tu p xs :: L) (upd H p (.tup xs)) := Sep.tu_iff.mpr ⟨sqt_of upd_same, h.same (same_new hp)⟩
end
/-- what may be told as often as one likes -/
class Dup {K : PySem.W.Frag} (A : As K) : Prop where
  no : ∀ {W : Fz} {s : Addr → Prop} {H : Hp}, A.ok W s H → ∀ a, ¬ s a
instance {K : PySem.W.Frag} {P : Fz → Hp → Prop} {h k} : Dup (persW (K := K) P h k) := ⟨fun z => z.1⟩
instance {K : PySem.W.Frag} {v d} : Dup (im (K := K) v d) := ⟨fun z => z.1⟩
instance {K : PySem.W.Frag} {v d} : Dup (ims (K := K) v d) := ⟨fun z => z.1⟩
instance {K : PySem.W.Frag} {v d} : Dup (tu (K := K) v d) := ⟨fun z => z.1⟩
instance {K : PySem.W.Frag} {P} : Dup (pr (K := K) P) := ⟨fun z => z.1⟩
instance {K : PySem.W.Frag} {a o} : Dup (fzn (K := K) a o) := ⟨fun z => z.1⟩
instance {K : PySem.W.Frag} {α : Type} {f : α → As K} [h : ∀ x, Dup (f x)] : Dup (ex f) := ⟨fun ⟨x, z⟩ => (h x).no z⟩
end Ls
open PySem PySem.Spec PyProof.Rows L2
namespace Ls
end Ls
open Ls
namespace Ls
open PySem PySem.Spec PyProof.Rows L2
def stepV (xs : List V) (k : Int) : List V := (sliceRange 0 (xs.length : Int) k).filterMap (xs[·]?)
def tStepL (K : PySem.W.Frag) (te : TE) (k : Int) : TE := fun σ H Q => te σ H fun x H1 => ∃ a xs, x = .ref a ∧ SqL K H1 a xs ∧ ∀ p, H1 p = none → Q (.ref p) (upd H1 p (.lst (stepV xs k)))
section
variable {K : PySem.W.Frag} {σ : L2.St} {H : Hp} {Q : VK} {te : TE} {k : Int}
theorem k_step (h : te σ H fun x H1 => ∃ a xs, x = .ref a ∧ SqL K H1 a xs ∧ ∀ p, H1 p = none → Q (.ref p) (upd H1 p (.lst (stepV xs k)))) : tStepL K te k σ H Q := h
theorem k_lenset (h : te σ H fun x H1 => ∃ (l : Addr) (ns : List Int), x = V.ref l ∧ SqL K H1 l (ns.map V.int) ∧ ns.Nodup ∧ ns.length ≤ 4000 ∧ Q (.int ns.length) H1) : RZ.tLenSetI K te σ H Q := h
end
def tJ (te : TE) : TE := fun σ H Q => ∃ M : VK, te σ H M ∧ ∀ v H', M v H' → Q v H'
theorem pe_join {X : Cx} {e : Expr} {te : TE} (h : PE X e te) : PE X e (tJ te) := by
  refine ⟨fun pins s σ H Q I ⟨M, hm, k⟩ => ?_⟩
  exact thn (h.run pins s σ H M I hm) fun v s1 ⟨x, H1, I1, r1, q1⟩ => ⟨x, H1, I1, r1, k _ _ q1⟩
theorem k_join {te : TE} {σ : L2.St} {H : Hp} {Q : VK} (M : VK) (h : te σ H M) (k : ∀ v H', M v H' → Q v H') : tJ te σ H Q := ⟨M, h, k⟩
theorem k_nojoin {te : TE} {σ : L2.St} {H : Hp} {Q : VK} (h : te σ H Q) : tJ te σ H Q := ⟨Q, h, fun _ _ h => h⟩
end Ls
namespace Ls
open PySem PySem.Spec PyProof.Rows L2
def tCFn (C : Addr) (sp : Sp) (E : XK) (ta : TE) (t : TA) : TE := fun σ H Q => ta σ H fun x H1 => x = .ref C ∧ t σ H1 fun vs H2 => sp (vs ++ []) H2 Q E
theorem pe_cfn {X : Cx} {CX : CXT} {k : Nat} {C f : Addr} {mc : Value} {fd : FuncData} {ps : List Str} {sp : Sp} {E : XK} {o e : Expr} {es : List Expr} {m : Str} {pos apos : Pos} {ta : TE} {t : TA} {pl : Sem Bool}
    (he : PE X o ta) (r : ClX.CRead X.K C mc) (c : ClX.CVal X.K C mc m (.ref f) (.ref f)) (kp : PySem.W.keepIn X.K (.ref f) = true) (F : FnOk X.prog X.w X.K X.mg X.base CX k f fd ps sp) (hr : Room k X.A) (hb : Binds X.K fd ps []) (hx : Passes CX X E) (ha : PA X (e :: es) t)
    (hst : starEach (e :: es) X.env = (false, eval e X.env) :: starEach es X.env := by rfl) (hpl : (backTo pos (starEach es X.env)).any (·.1) = false := by rfl)
    (ht : eval (.Call (.Attribute o m apos) (e :: es) [] pos) X.env = (do
      let ov ← eval o X.env
      standAt apos.atName
      let (f, first) ← holding [ov] (getMethod ov m pl)
      callWith pos f first (backTo pos (starEach (e :: es) X.env)) (backToKw pos (keywordEach [] X.env))) := by rfl) :
    PE X (.Call (.Attribute o m apos) (e :: es) [] pos) (tCFn C sp E ta t) := by
  refine ⟨fun pins s σ H Q I h => PySem.W.methodCall_KW (pl := pl) (thn (he.run pins s σ H _ I h) fun u s1 ⟨x, H1, I1, rx, ex, q⟩ => ?_) ht⟩
  subst ex
  obtain rfl : u = Value.ref C := rx
  refine PySem.W.method_cls I1.kIn r.ga (ClX.getcval_ok I1 r c fun s2 I2 => ?_)
  exact PySem.W.callWith_K (h₀ := X.base) I2.ok.mod.kin kp (thn (ha.run pos pins s2 σ H1 _ I2 q) fun us s3 ⟨vs, H2, I3, rv, q2⟩ => ⟨I3.kIn, run_fn F hr hb .nil hx I3 rv q2⟩) hst hpl
def tXfA (K : PySem.W.Frag) (a : Addr) (cls : Value) (d : Option Addr) (f : Str) (te : TE) : TE := fun σ H Q => ∃ C : Addr, XfC K C ∧ PySem.W.findIn K (.ref C) f = some none ∧ tXf a cls d C f te σ H Q
theorem pe_xfA {X : Cx} {a : Addr} {oe : Obj} {cls : Value} {d : Option Addr} {pn : List (Addr × Obj)} {e : Expr} {te : TE} {pos : Pos} {n : Str} (K : PySem.W.Frag) (hK : X.K = K) (hz : Zc cls d oe) (hf : ∃ vs, oe.data = .fields vs) (he : PE (X.suite a ((a, oe) :: pn)) e te)
    (hb : attributeBase e n X.env (eval e X.env) = eval e X.env := by rfl) : PE (X.suite a ((a, oe) :: pn)) (.Attribute e n pos) (tXfA K a cls d n te) := by
  subst hK
  exact ⟨fun pins s σ H Q I ⟨C, T, no, h⟩ => (pe_xf (C := C) T no hz hf he hb).run pins s σ H Q I h⟩
def gone (D : Ends) (i : Nat) : Ends := { nx := fun σ' H' => D.nx (σ'.set i none) H', rt := D.rt, bk := fun σ' H' => D.bk (σ'.set i none) H', ct := fun σ' H' => D.ct (σ'.set i none) H' }
abbrev Cla := Value × Nat × (Addr → Value → Option Addr → TS)
/-- what the clauses wish of an exception of the body -/
def wCl (K : PySem.W.Frag) (Wout : WX) (D : Ends) : List Cla → WX
  | [] => Wout
  | k :: r => fun cls d σ H => ∃ b, PySem.W.exmOne K cls k.1 = some b ∧ (b = true → ∀ a, H a = none → k.2.2 a cls d (gone D k.2.1) (σ.set k.2.1 (some (.ref a))) H) ∧ (b = false → wCl K Wout D r cls d σ H)
inductive ClOk (X : Cx) : List ExceptHandler → List Cla → Prop
  | nil : ClOk X [] []
  | cons {x n : Str} {c : Value} {i : Nat} {ts : Addr → Value → Option Addr → TS} {b0 : Stmt} {su : List Stmt} {np po : Pos} {hds : List ExceptHandler} {l : List Cla} (hc : Names X x c) (hi : X.N[i]? = some n) (hln : X.env.kindOf n = some .local)
      (hsu : ∀ (a : Addr) (oe : Obj) (cls : Value) (d : Option Addr) (pn : List (Addr × Obj)), Zc cls d oe → (∃ vs, oe.data = .fields vs) → PSs (X.suite a ((a, oe) :: pn)) (b0 :: su) (ts a cls d)) (r : ClOk X hds l) :
      ClOk X (.ExceptHandler (some (.Name x np)) (some n) (b0 :: su) po :: hds) ((c, i, ts) :: l)
theorem ps_try_cl {X : Cx} {body : List Stmt} {h0 : ExceptHandler} {hds : List ExceptHandler} {l : List Cla} {pos : Pos} {tb : WX → TS} {Wout : WX} (hst : X.stack = X.env :: X.outer) (hfl : X.env.frame = some X.env.locals) (hN : X.N.Nodup) (tk : Takes X Wout)
    (hb : ∀ (W : WX) (pn : List (Addr × Obj)) (xe : Value → Shared → Prop), Takes (X.tr pn xe) W → PassesOwn (model X.prog X.w) X.A X.env xe → PSs (X.tr pn xe) body (tb W)) (hh : ClOk X (h0 :: hds) l) :
    PS X (.Try body (h0 :: hds) [] [] pos) (fun D σ H => tb (wCl X.K Wout D l) D σ H) := by
  refine ⟨fun pins s σ H D I h => ?_⟩
  have OK := I.ok
  have FR : X.A.frames = some (X.env :: X.outer) := OK.frames.trans (congrArg some hst)
  let caught : Value → Shared → Prop := fun e u => wpAny (model X.prog X.w) X.A (noteFrame e X.env) (fun _ u2 => wpAny (model X.prog X.w) X.A (setFlight e none) (fun _ u3 => wpAny (model X.prog X.w) X.A (handleBy e X.env (h0 :: hds)) (SP X pins D) X.xe u3) X.xe u2) X.xe u
  refine wpAny_Try_except (wpAny_mono ((hb (wCl X.K Wout D l) (X.pn ++ pins) caught (fun u t y => ?_) PassesOwn.looking).run [] s σ H D (I.toTry _) h) (fun fl t y => ?_) fun e t z => z)
  · obtain ⟨a, B, t0, pins2, σ2, H2, cls, d, rfl, J2, nb, up, sk, na, os, ag, wish⟩ := y
    have J : Inv X pins σ2 H2 t0 := J2.ofTry OK
    have SK : Sky B (X.env :: X.outer) a (Zc cls d) X.env.locals t.heap := hst ▸ sk
    show wpAny (model X.prog X.w) X.A (noteFrame (.ref a) X.env) _ _ _
    refine Sky.land Zc.steady FR hfl SK fun g la ug => ?_
    have Jg : Inv X pins σ2 H2 { t with heap := g } := J.landed nb la.1 (up.trans ug) os ag
    obtain ⟨og, vg, eg, zg, dg⟩ := la.there
    have out : a ∉ frs (X.env :: X.outer) := fun m => by
      obtain ⟨_, o2, e2, n2⟩ := la.2.2.1.mem m
      rw [eg] at e2
      cases e2
      exact n2 _ dg
    have nLoc : a ≠ X.env.locals := fun z => out (List.mem_filterMap.mpr ⟨X.env, List.mem_cons_self, by rw [hfl, z]⟩)
    have nFs : a ∉ X.fs := fun m => by
      obtain ⟨e2, m2, q2⟩ := List.mem_filterMap.mp m
      exact out (List.mem_filterMap.mpr ⟨e2, List.mem_cons_of_mem _ m2, q2⟩)
    have Sg := Jg.suite eg dg na nLoc nFs
    have all : ∀ {hs2 : List ExceptHandler} {l2 : List Cla}, ClOk X hs2 l2 → wCl X.K Wout D l2 cls d σ2 H2 → wpAny (model X.prog X.w) X.A (handleBy (.ref a) X.env hs2) (SP X pins D) X.xe { t with heap := g } := by
      intro hs2 l2 ok2
      induction ok2 with
      | nil =>
        intro wish2
        obtain ⟨k1, k2, k3, o3, v3, T, oT, t3, e3, z3, d3, i3, r3⟩ := id la
        refine wpAny_handleBy_nil ?_
        unfold PySem.passOn
        refine wpAny_bind (wpAny_field e3 d3 i3 ?_)
        rw [if_neg (by simp : ¬ ((Value.ref T == Value.none) = true))]
        have last : wpAny (model X.prog X.w) X.A (setFlight (.ref a) X.env.frame) (fun _ u => wpAny (model X.prog X.w) X.A (throw (.ref a) : Sem Flow) (SP X pins D) X.xe u) X.xe { t with heap := g } := by
          rw [hfl]
          exact HandSPX.setFlight_upZ la fun g2 hg2 ug2 => wpAny_throw (tk _ _ ⟨a, B, t0, pins, σ2, H2, cls, d, rfl, J, nb, (up.trans ug).trans ug2, .inr (.inr (by rw [hst]; exact hg2)), na, os, ag, wish2⟩)
        first | exact wpAny_bind (wpAny_pure (wpAny_bind last)) | exact wpAny_bind last
      | @cons x n c i ts b0 su np po hds2 l3 hc hi hln hsu r ih =>
        rintro ⟨b, eb, yes, no⟩
        have lt : PySem.W.Looks (model X.prog X.w) g (typeOf (.ref a)) cls := fun A Q E u k q => wpAny_typeOf_ref (k _ _ eg) (zg.1.symm ▸ q)
        have lm := PySem.W.exm_one (M := model X.prog X.w) Jg.kIn lt eb
        have named : ∀ {Q : Value → Shared → Prop} {E : Value → Shared → Prop}, Q c { t with heap := g } → wpAny (model X.prog X.w) (X.A.mark (some (.ref a))) (eval (.Name x np) X.env) Q E { t with heap := g } := by
          intro Q E q
          obtain ⟨hg, hd, hm | ⟨hm, hv, hnn⟩⟩ := hc
          · exact ld_glob (X := X.suite a ((a, og) :: (X.pn ++ pins))) Sg hg hm q hd
          · exact ld_blt (X := X.suite a ((a, og) :: (X.pn ++ pins))) Sg hg hm hv q hnn hd
        refine wpAny_handleBy_cons (codeAny_handlers_test (named (lm.here ?_))) (by intro q; cases q)
        cases b with
        | false => exact ih (no rfl)
        | true =>
          refine codeAny_handlers_suite_as (HandSPX.lands_againZ la fun g2 la2 ug2 => ?_)
          have Jh : Inv X pins σ2 H2 { t with heap := g2 } := J.landed nb la2.1 ((up.trans ug).trans ug2) os ag
          obtain ⟨o4, v4, e4, z4, d4⟩ := la2.there
          have Sh := Jh.suite e4 d4 na nLoc nFs
          refine store_ok (X := X.suite a ((a, o4) :: (X.pn ++ pins))) (v := .ref a) Sh hN hi (.inl hln) rfl (fun u5 S5 => ?_) (.inr hln)
          refine wpAny_mono ((hsu a o4 cls d (X.pn ++ pins) z4 ⟨_, d4⟩).run [] u5 _ H2 _ S5 (yes rfl a na)) (fun fl6 u6 y6 => ?_) fun _ _ z => False.elim z
          have off : ∀ {σ6 : L2.St} {H6 : Hp} {R : Shared → Prop}, Inv (X.suite a ((a, o4) :: (X.pn ++ pins))) [] σ6 H6 u6 → (∀ u7, Inv X pins (σ6.set i none) H6 u7 → R u7) → wpAny (model X.prog X.w) X.A (do bindName X.env n .none; unbindBehindTheSuite X.env n po) (fun _ u7 => R u7) X.xe u6 :=
            fun S6 hq => gone_ok (S6.unsuite OK) hN hi hln hq
          cases fl6 with
          | ret u8 =>
            obtain ⟨v8, σ8, H8, S8, r8, q8⟩ := y6
            exact off S8 fun u7 J7 => ⟨_, _, _, J7, r8, q8⟩
          | next =>
            obtain ⟨σ8, H8, S8, q8⟩ := y6
            exact off S8 fun u7 J7 => ⟨_, _, J7, q8⟩
          | brk =>
            obtain ⟨σ8, H8, S8, q8⟩ := y6
            exact off S8 fun u7 J7 => ⟨_, _, J7, q8⟩
          | cont =>
            obtain ⟨σ8, H8, S8, q8⟩ := y6
            exact off S8 fun u7 J7 => ⟨_, _, J7, q8⟩
    exact all hh wish
  · cases fl with
    | ret u8 =>
      obtain ⟨v8, σ8, H8, J8, r8, q8⟩ := y
      exact ⟨v8, σ8, H8, J8.ofTry OK, r8, q8⟩
    | next =>
      obtain ⟨σ8, H8, J8, q8⟩ := y
      exact wpAny_execs_nil ⟨σ8, H8, J8.ofTry OK, q8⟩
    | brk =>
      obtain ⟨σ8, H8, J8, q8⟩ := y
      exact ⟨σ8, H8, J8.ofTry OK, q8⟩
    | cont =>
      obtain ⟨σ8, H8, J8, q8⟩ := y
      exact ⟨σ8, H8, J8.ofTry OK, q8⟩
end Ls
namespace Ls
open PySem PySem.Spec PyProof.Rows L2
theorem pmk_oex0 {X : Cx} {CX : CXT} {x : Str} {C fI : Addr} {k : Nat} {fd : FuncData} {ps : List Str} {sp : Sp} {ds : List Value} {dvs : List V} {p pos : Pos} (T : OexC X.K C) (iC : PySem.W.findIn X.K (.ref C) "__init__" = some (some (.ref fI))) (tI : PySem.W.typeIn X.K (.ref fI) = some (.type "function"))
    (Fi : FnOk X.prog X.w X.K X.mg X.base CX k fI fd ps sp) (hr : Room (k + 1) X.A) (hb : Binds X.K fd ps ds) (hd : Vals dvs ds) (hx : Passes CX X (fun _ _ _ => False)) (hg : Gl X x) (hm : X.mg x = some (.ref C)) (hdb : (x == ("__debug__" : Str)) = false := by decide) :
    PMk X (.Call (.Name x p) [] [] pos) (tMkO C sp dvs tNil) := by
  intro pins s σ H Q I h
  obtain ⟨_, _, _, _, bm, _, _, _, _, _, _, _, _, _, _, cl, rb⟩ := T.cls
  refine wpAny_Call_Name_kw (ld_glob I hg hm (PySem.W.callWith_K0 I.kIn T.kC ?_) hdb)
  show wpAny _ _ (call (.ref C) []) _ _ _
  obtain ⟨h0, g0, d0, k0, o0⟩ := s
  obtain ⟨_, made⟩ := h
  have up : h0.objs.size ≤ h0.objs.size + 1 := Nat.le_succ _
  have free : H (h0.objs.size + 1) = none := I.hok.fresh up
  have it := made (h0.objs.size + 1) free
  have keep : ∀ b o, h0.get? b = some o → ((h0.push (PySem.W.kdv_tup [])).push (PySem.HandSPX.excO C h0.objs.size)).get? b = some o := fun b o e => Heap.get?_push_of_some _ (Heap.get?_push_of_some _ e)
  have at1 : ((h0.push (PySem.W.kdv_tup [])).push (PySem.HandSPX.excO C h0.objs.size)).get? (h0.objs.size + 1) = some (PySem.HandSPX.excO C h0.objs.size) := by heap_get
  have J : Inv X pins σ (upd H (h0.objs.size + 1) (exo (h0.objs.size + 1) C none)) ⟨((h0.push (PySem.W.kdv_tup [])).push (PySem.HandSPX.excO C h0.objs.size)), g0, d0, k0, o0⟩ :=
    I.laid (a := h0.objs.size + 1) (o := exo (h0.objs.size + 1) C none) (h' := ((h0.push (PySem.W.kdv_tup [])).push (PySem.HandSPX.excO C h0.objs.size))) (t' := k0) keep up (exo_ok at1)
  have vals : Vals (V.ref (h0.objs.size + 1) :: ([] ++ dvs)) (Value.ref (h0.objs.size + 1) :: ds) := .cons rfl hd
  have len : ([Value.ref (h0.objs.size + 1)] ++ ds).length = ps.length := vals.length.symm.trans (Fi.len _ _ _ _ it)
  refine wpAny_call (PySem.HandSPX.call_own F.excBase_ValueError (fun Y => PySem.HandSPX.refsVE_contains Y bm rb) (I.kIn _ _ cl) (PySem.W.looks_findIn I.kIn iC) (fun self => PySem.W.bind_fn I.kIn self tI) (Nat.zero_le _)
    (codeAny_mono (Fi.run _ X.stack _ _ ⟨[Value.ref (h0.objs.size + 1)], []⟩ (Value.ref (h0.objs.size + 1) :: ds) _ _ (fun _ _ _ => False) (hr.make C [] []) (J.env0.make C [] []) (hb _ [Value.ref (h0.objs.size + 1)] J.kIn len) vals it) fun r s' z => ?_))
  cases r with
  | error e => exact hx pins σ _ _ e s' J z
  | ok fl =>
    cases fl with
    | next => exact z.elim
    | brk => exact z.elim
    | cont => exact z.elim
    | ret u =>
      obtain ⟨v, H2, os2, bare2, un2, ok2, rv, ev, d, fs, ea, ed, fr, q⟩ := z
      subst ev
      obtain ⟨h2, g2, d2, k2, o2⟩ := s'
      exact ⟨rv, mk_end (raises_own T.exC T.tyC) I up keep un2 ok2 os2 bare2 ea ed fr q⟩
end Ls
namespace Ls
open PySem PySem.Spec PyProof.Rows L2
def eqO (a b : Option (Option Value)) : Bool := decide (a = b)
def oexC (K : PySem.W.Frag) (C : Addr) : Bool := match K.lookup C with
  | some ⟨.type "type", _, .cls cd, sl⟩ => (match cd.mro, sl.toList with
    | .ref D :: bm, [_, _, _, _, some (.builtin n), _] => decide (D = C) && (decide (n = "ValueError.__new__") && (cd.hasDict && (!cd.hasDel && PySem.HandSPX.refsVE bm)))
    | _, _ => false)
  | _ => false
def oexB (K : PySem.W.Frag) (C : Addr) : Bool := oexC K C && (eqO (PySem.W.findIn K (.ref C) "__setattr__") (some (some (.builtin "object.__setattr__"))) && (decide (PySem.W.subIn K (.ref C) (.type "BaseException") = some true) && (decide (PySem.W.typeIn K (.ref C) = some (.type "type")) && PySem.W.keepIn K (.ref C))))
theorem ba2 {a b : Bool} (h : (a && b) = true) : a = true ∧ b = true := Bool.and_eq_true_iff.mp h
theorem oexB_ok {K : PySem.W.Frag} {C : Addr} (h : oexB K C = true) : OexC K C := by
  obtain ⟨h1, h⟩ := ba2 h
  obtain ⟨h2, h⟩ := ba2 h
  obtain ⟨h3, h⟩ := ba2 h
  obtain ⟨h4, h5⟩ := ba2 h
  refine ⟨?_, of_decide_eq_true h2, of_decide_eq_true h3, of_decide_eq_true h4, h5⟩
  unfold oexC at h1
  split at h1
  · rename_i dd cd sl ho
    split at h1
    · rename_i D bm k0 k1 k2 k3 n k5 hm hs
      obtain ⟨a1, h1⟩ := ba2 h1
      obtain ⟨a2, h1⟩ := ba2 h1
      obtain ⟨a3, h1⟩ := ba2 h1
      obtain ⟨a4, a5⟩ := ba2 h1
      obtain rfl := of_decide_eq_true a1
      obtain rfl := of_decide_eq_true a2
      obtain ⟨nm, bs, mro, ns, qn, hd, sn, sub, ab, col, del⟩ := cd
      dsimp only at hm a3 a4
      subst hm a3
      have a4 : del = false := by simpa using a4
      subst a4
      obtain ⟨sl⟩ := sl
      dsimp only at hs
      subst hs
      exact ⟨nm, qn, ns, bs, bm, sn, sub, ab, col, dd, k0, k1, k2, k3, k5, ho, a5⟩
    · cases h1
  · cases h1
/-- C.__init__ is the def at ma K C "__init__" -/
def iniB (K : PySem.W.Frag) (C : Addr) : Bool := eqO (PySem.W.findIn K (.ref C) "__init__") (some (some (.ref (He.ma K C "__init__")))) && decide (PySem.W.typeIn K (.ref (He.ma K C "__init__")) = some (.type "function"))
theorem iniB_ok {K : PySem.W.Frag} {C : Addr} (h : iniB K C = true) : PySem.W.findIn K (.ref C) "__init__" = some (some (.ref (He.ma K C "__init__"))) ∧ PySem.W.typeIn K (.ref (He.ma K C "__init__")) = some (.type "function") := by
  obtain ⟨h1, h2⟩ := ba2 h
  exact ⟨of_decide_eq_true h1, of_decide_eq_true h2⟩
/-- C.__init__ read by the class -/
def crdB (K : PySem.W.Frag) (C : Addr) : Bool := PySem.W.readsIn K C (.type "type") && eqO (PySem.W.specialIn K (.ref C) "__getattribute__") (some (some (.builtin "type.__getattribute__")))
theorem crdB_ok {K : PySem.W.Frag} {C : Addr} (h : crdB K C = true) : ClX.CRead K C (.type "type") := by
  obtain ⟨h1, h2⟩ := ba2 h
  exact ⟨h1, of_decide_eq_true h2⟩
def cviB (K : PySem.W.Frag) (C : Addr) : Bool := (match PySem.W.findCls K (.ref C) (.type "type") "__init__" with
  | some (.val (.ref f)) => decide (f = He.ma K C "__init__")
  | _ => false)
theorem cviB_ok {K : PySem.W.Frag} {C : Addr} (h : cviB K C = true) : ClX.CVal K C (.type "type") "__init__" (.ref (He.ma K C "__init__")) (.ref (He.ma K C "__init__")) := by
  refine ⟨?_, rfl⟩
  unfold cviB at h
  split at h
  · rename_i f hf
    rw [of_decide_eq_true h] at hf
    exact hf
  · cases h
def veiB (K : PySem.W.Frag) : Bool := (match PySem.W.findCls K (.type "ValueError") (.type "type") "__init__" with
  | some (.val (.builtin n)) => decide (n = "ValueError.__init__")
  | _ => false)
theorem veiB_ok {K : PySem.W.Frag} (h : veiB K = true) : PySem.W.findCls K (.type "ValueError") (.type "type") "__init__" = some (.val (.builtin "ValueError.__init__")) := by
  unfold veiB at h
  split at h
  · rename_i n hn
    rw [of_decide_eq_true h] at hn
    exact hn
  · cases h
def noFB (K : PySem.W.Frag) (C : Addr) (f : Str) : Bool := eqO (PySem.W.findIn K (.ref C) f) (some none)
theorem noFB_ok {K : PySem.W.Frag} {C : Addr} {f : Str} (h : noFB K C f = true) : PySem.W.findIn K (.ref C) f = some none := of_decide_eq_true h
def exmB (K : PySem.W.Frag) (C D : Addr) (b : Bool) : Bool := decide (PySem.W.exmOne K (.ref C) (.ref D) = some b)
theorem exmB_ok {K : PySem.W.Frag} {C D : Addr} {b : Bool} (h : exmB K C D b = true) : PySem.W.exmOne K (.ref C) (.ref D) = some b := of_decide_eq_true h
end Ls
namespace Ls
open PySem PySem.Spec PyProof.Rows L2
/-- C.__init__(self): the word w -/
def spInit0 (K : PySem.W.Frag) (w : Str) : Sp := fun vs H Q _ => ∃ (a C : Addr), vs = [.ref a] ∧ OexC K C ∧ PySem.W.findIn K (.ref C) "word" = some none ∧ H a = some (exo a C none) ∧ ∀ dx, H dx = none → dx ≠ a → Q .non (upd (upd H dx (exd dx [("word", .str w)])) a (exo a C (some dx)))
/-- the base's __init__(self, word) -/
def spInit1 (K : PySem.W.Frag) : Sp := fun vs H Q _ => ∃ (a C : Addr) (w : Str), vs = [.ref a, .str w] ∧ OexC K C ∧ PySem.W.findIn K (.ref C) "word" = some none ∧ H a = some (exo a C none) ∧ ∀ dx, H dx = none → dx ≠ a → Q .non (upd (upd H dx (exd dx [("word", .str w)])) a (exo a C (some dx)))
section
variable {K : PySem.W.Frag} {σ : L2.St} {H : Hp} {D : Ends} {C : Addr} {w : Str}
theorem k_vei {Q : VK} {ta : TA} (h : ta σ H fun vs H1 => ∃ (a C : Addr) (ws : List V), vs = .ref a :: ws ∧ ws.length ≤ 1000 ∧ OexC K C ∧ H1 a = some (exo a C none) ∧ Q .non H1) : tVeI K ta σ H Q := h
theorem k_ost {f : Str} {to te : TE} (h : te σ H fun y H1 => to σ H1 fun x H2 => ∃ a C : Addr, x = .ref a ∧ OexC K C ∧ PySem.W.findIn K (.ref C) f = some none ∧
  ((H2 a = some (exo a C none) ∧ ∀ dx, H2 dx = none → dx ≠ a → D.nx σ (upd (upd H2 dx (exd dx [(f, y)])) a (exo a C (some dx)))) ∨
    ∃ (dx : Addr) (fs : List (Str × V)), H2 a = some (exo a C (some dx)) ∧ H2 dx = some (exd dx fs) ∧ fs.length ≤ 900 ∧ D.nx σ (upd H2 dx (exd dx ((f, y) :: fs))))) : tOst K f to te D σ H := h
theorem k_cfn {Q : VK} {sp : Sp} {E : XK} {ta : TE} {t : TA} (h : ta σ H fun x H1 => x = .ref C ∧ t σ H1 fun vs H2 => sp (vs ++ []) H2 Q E) : tCFn C sp E ta t σ H Q := h
/-- raise C() -/
theorem k_raise {Q : XK} (T : OexC K C) (no : PySem.W.findIn K (.ref C) "word" = some none) (q : ∀ d H', H d = none → Same H H' → H' d = some (.xd [("word", .str w)]) → Q (.ref C) (some d) H') : tMkO C (spInit0 K w) [] tNil σ H Q := by
  refine ⟨Nat.zero_le _, fun a ha => ⟨a, C, rfl, T, no, upd_same, fun dx hdx na => ⟨rfl, dx, [("word", .str w)], upd_same, ?_, ?_, ?_⟩⟩⟩
  · rw [upd_ne na]
    exact upd_same
  · rw [upd_ne na] at hdx
    exact hdx
  · have hd : H dx = none := by
      rw [upd_ne na] at hdx
      exact hdx
    refine q dx _ hd (fun b o hb => ?_) upd_same
    have b1 : b ≠ dx := ne_of_none hb hd
    have b2 : b ≠ a := ne_of_none hb ha
    rw [upd_ne b1, del_ne b2, upd_ne b2, upd_ne b1, upd_ne b2]
    exact hb
end
end Ls
namespace Ls
open PySem PySem.Spec PyProof.Rows L2 LamX
section
variable {X : Cx} {pins : List (Addr × Obj)} {σ : L2.St} {H : Hp} {s : Shared}
theorem pe_actZ {CXg : CXT} {Eg : XK} {Ng : List Str} {qg : Str} {sg : Scope} {g f c' : Addr} {cdg pm ctv : Value} {params : Arguments} {body : Expr} {scope : Scope} {k i : Nat} {a : Str} {pn : List (Addr × Obj)} {xe : Value → Shared → Prop} {W : WX} {tb : XK → TE} {p1 p2 : Pos}
    (I : Inv X pins σ H s) (L : LamS X.env.scope scope) (of : s.heap.get? f = some (PySem.W.kla_obj "<lambda>" (X.env.qual ++ "<lambda>") params body scope (cloFrom X.env.cells scope.names []) pm c' ctv)) (hfn : H f = none) (hfr : f ∉ frs X.stack)
    (bind0 : bindArgs (PySem.W.kla_fn "<lambda>" (X.env.qual ++ "<lambda>") params body scope (cloFrom X.env.cells scope.names []) pm (.ref c') ctv) ⟨[], []⟩ = pure [])
    (tk : Takes ((cxOf CXg X.prog X.w X.K X.mg X.base Ng qg sg g cdg X.A X.stack s H Eg).tr pn xe) W) (hr : Room (k + 1) (X.A.deeper (envOfC qg sg s.heap.objs.size g cdg)))
    (bodyP : ∀ (E : XK) (A : Around) (outer : List Env) (s : Shared) (H : Hp), Room k (A.deeper (lamEnv X scope s.heap.objs.size f c')) → PE (lamCx X A outer s H E scope f c') body (tb E))
    (hN : Ng[i]? = some a) (hv : Vis sg a) (hd : (a == ("__debug__" : Str)) = false := by decide) (hcd : (a == ("__classdict__" : Str)) = false := by decide) :
    PE ((cxOf CXg X.prog X.w X.K X.mg X.base Ng qg sg g cdg X.A X.stack s H Eg).tr pn xe) (.Call (.Name a p1) [] [] p2)
      (fun σZ HZ Q => σZ[i]? = some (some (.ref f)) ∧ HZ c' = some (CodeO c' (X.env.qual ++ "<lambda>")) ∧ tb (fun cls d H' => W cls d σZ H') σ HZ Q) := by
  refine ⟨fun pZ sZ σZ HZ Q IZ ⟨z1, z2, z3⟩ => ?_⟩
  refine wpAny_Call_Name_kw (thn ((pe_var (pos := p1) (i := i) hN hv hd hcd).run pZ sZ σZ HZ (fun v H1 => v = .ref f ∧ H1 = HZ) IZ ⟨.ref f, z1, rfl, rfl⟩) fun u s1 ⟨v, H1, I1, r1, e1, e2⟩ => ?_)
  subst e1
  rw [e2] at I1
  obtain rfl : u = Value.ref f := r1
  have of1 : s1.heap.get? f = some (PySem.W.kla_obj "<lambda>" (X.env.qual ++ "<lambda>") params body scope (cloFrom X.env.cells scope.names []) pm c' ctv) := I1.base.keep f _ of hfn hfr (fun z => nomatch (show f ∈ ([] : List Addr) from z))
  obtain ⟨⟨oc, vs, t, c1, c2, c3⟩, _, _⟩ := I1.hok c' _ z2
  have run : codeAny (model X.prog X.w) (X.A.deeper (envOfC qg sg s.heap.objs.size g cdg)) (.call (.ref f) ⟨[], []⟩) (CR (L2.CX X.prog X.w) (envOfC qg sg s.heap.objs.size g cdg :: X.stack) X.prog X.w HZ s1 Q (WE W σZ)) s1 := by
    refine PySem.W.kla_callFunE hr.depth of1 rfl L.co L.gen rfl ⟨c', oc, vs, t, rfl, c1, c2, c3⟩ (bind0 ▸ wpAny_pure (wpAny_newFunctionEnv (fun y hy => (L.own y hy).2) (fun y hy => absurd hy (by simp)) (fun h2 n2 b2 => ⟨I1.nolimit.fresh _ b2, ?_⟩) L.kind))
    have keep2 : ∀ b o, s1.heap.get? b = some o → h2.get? b = some o := fun b o e => b2.extBut b o (Nat.ne_of_lt (Heap.lt_size e)) (Heap.get?_push_of_some _ e)
    have J := lam_start2 (E := WE W σZ) (f := f) (c' := c') (tk := s1.toks + ([] : List (Str × Value)).length) I L I1.env0 hr.hd I1.base n2 keep2
    refine PySem.W.kla_codeExpr (wpAny_mono ((bodyP (WE W σZ) _ _ s1 HZ (hr.deeper _)).run [] _ _ HZ Q J z3) (fun v s' hq => ?_) fun e s' hq => hq)
    obtain ⟨w', H', J', rv, q⟩ := hq
    exact ⟨w', H', J'.os, J'.bare, J'.base, J'.hok, rv, q⟩
  refine PySem.W.callWith_F0 ⟨_, _, _, _, of1⟩ (wpAny_call (codeAny_mono run fun r s' hq => ?_))
  cases r with
  | error e => exact tk e s' (XE.of_call I1 (fun _ _ _ h => h) hq)
  | ok fl =>
    cases fl with
    | ret u => exact I1.after hq
    | next => exact False.elim hq
    | brk => exact False.elim hq
    | cont => exact False.elim hq
end
/-- the def that calls what it got -/
def GivesZ (X : Cx) (Ng : List Str) (x : Str) (sg : Scope) (g : Addr) (cdg : Value) (bg : List Stmt) (a : Str) (q : Str) (TT : (XK → Hp → VK → Prop) → Hp → VK → Prop) : Prop :=
  ∀ (f c' : Addr) (s : Shared) (H : Hp) (Q : VK) (tl : XK → Hp → VK → Prop),
    (∀ (W : WX) (pn : List (Addr × Obj)) (xe : Value → Shared → Prop) (p1 p2 : Pos), Takes ((cxOf C8.CX0 X.prog X.w X.K X.mg X.base Ng x sg g cdg X.A X.stack s H C8.E0).tr pn xe) W →
      PE ((cxOf C8.CX0 X.prog X.w X.K X.mg X.base Ng x sg g cdg X.A X.stack s H C8.E0).tr pn xe) (.Call (.Name a p1) [] [] p2) (fun σZ HZ Q => σZ[0]? = some (some (.ref f)) ∧ HZ c' = some (CodeO c' q) ∧ tl (fun cls d H' => W cls d σZ H') HZ Q)) →
    H c' = some (CodeO c' q) → TT tl H Q →
    ∃ t, PSs (cxOf C8.CX0 X.prog X.w X.K X.mg X.base Ng x sg g cdg X.A X.stack s H C8.E0).nox bg t ∧ t { nx := fun _ H' => Q .non H', rt := Q } (L2.start Ng [.ref f]) H
section
variable {X : Cx}
theorem pe_lamZ {T : List (Addr × Str)} {TT : (XK → Hp → VK → Prop) → Hp → VK → Prop} {x a : Str} {g c P : Addr} {k : Nat} {pg : Arguments} {bg : List Stmt} {sg : Scope} {dV kV doc pm cdv ct oc : Value} {an od : Option Addr} {osl : Array (Option Value)} {Ng : List Str}
    {params : Arguments} {body : Expr} {scope : Scope} {t : XK → TE} {p lpos pos : Pos} (hg : Gl X x) (hm : X.mg x = some (.ref g)) (hk : PySem.W.keepIn X.K (.ref g) = true)
    (lk : X.K.lookup g = some ⟨oc, od, .func (PySem.W.fnOf x x pg bg sg dV kV doc pm an cdv ct), osl⟩) (hcg : PySem.W.codeIn X.K cdv x = true) (hb : L2.Binds X.K (PySem.W.fnOf x x pg bg sg dV kV doc pm an cdv ct) [a] []) (Sg : FnScope Ng [a] sg) (hNg : Ng[0]? = some a) (hva : Vis sg a)
    (give : GivesZ X Ng x sg g cdv bg a (X.env.qual ++ "<lambda>") TT)
    (TB : TabB X.base X.mg c P) (hcode : X.env.code = .ref c) (hmT : (P, X.env.qual ++ "<lambda>") ∈ T) (hu : ∀ p ∈ T, p.1 = P → p.2 = X.env.qual ++ "<lambda>") (hr : Room (k + 2) X.A) (L : LamS X.env.scope scope) (hdef : defaultsOf params X.env = ([], []))
    (bind0 : ∀ (q : Str) (cl : List (Str × Addr)) (pm cv ctv : Value), bindArgs (PySem.W.kla_fn "<lambda>" q params body scope cl pm cv ctv) ⟨[], []⟩ = pure [])
    (bodyP : ∀ (A : Around) (outer : List Env) (s : Shared) (H : Hp) (E : XK) (f c' : Addr), Room k (A.deeper (lamEnv X scope s.heap.objs.size f c')) → PE (lamCx X A outer s H E scope f c') body (t E))
    (hdb : (x == ("__debug__" : Str)) = false := by decide) (hd : (a == ("__debug__" : Str)) = false := by decide) (hcd : (a == ("__classdict__" : Str)) = false := by decide) :
    PE X (.Call (.Name x p) [.Lambda params body scope lpos] [] pos) (tLam T TT t) := by
  refine ⟨fun pins s σ H Q I ⟨hT, h⟩ => wpAny_Call_Name_kw (ld_glob I hg hm ?_ hdb)⟩
  refine PySem.W.callWith_K (h₀ := X.base) I.ok.mod.kin hk ?_ (by rfl) (by rfl)
  show wpAny _ _ (spliced ((false, eval (.Lambda params body scope lpos) X.env) :: backTo pos (starEach [] X.env))) _ _ s
  refine Calls.spliced_cons (lam_make2 I TB hcode hmT hu hT hdef (L.has I.ok) fun f c' pm' ctv H1 s' I1 eN T1 hf hfn hfr hco => Calls.spliced_nil ⟨I1.kIn, ?_⟩)
  have run : codeAny (model X.prog X.w) X.A (.call (.ref g) ⟨[.ref f], []⟩) (CR C8.CX0 X.stack X.prog X.w H1 s' Q C8.E0) s' := by
    refine run_ofS (N := Ng) (ps := [a]) (us := [.ref f]) (vs := [.ref f]) lk hcg Sg hr I1.env0 (hb s' [.ref f] I1.kIn rfl) (.cons rfl .nil) rfl fun hr' => ?_
    obtain ⟨t', ht', hq'⟩ := give f c' s' H1 Q (fun E H' Q' => t E σ H' Q') (fun W pn xe p1 p2 tk => pe_actZ (i := 0) I1 L hf hfn hfr (bind0 _ _ _ _ _) tk hr' (fun E A outer s H hr2 => bodyP A outer s H E f c' hr2) hNg hva hd hcd) hco (h H1 eN T1)
    exact ⟨t', ht'.nox, hq'⟩
  refine wpAny_call (codeAny_mono run fun r s2 hq => ?_)
  cases r with
  | error e => exact (show False from hq).elim
  | ok fl =>
    cases fl with
    | ret u => exact I1.after hq
    | next => exact False.elim hq
    | brk => exact False.elim hq
    | cont => exact False.elim hq
end
end Ls
namespace Ls
open PySem PySem.Spec PyProof.Rows L2
end Ls
namespace Ls
open PySem PySem.Spec PyProof.Rows L2
def fn1 {α : Type} (n : Nat) (k : Nat → α) : α := match n with
  | 0 => k 0
  | m + 1 => k (m + 1)
theorem fn1_eq {α : Type} (n : Nat) (k : Nat → α) : fn1 n k = k n := by
  cases n <;> rfl
def seenZ (m a : Nat) : Bool := Nat.beq (Nat.land (Nat.shiftRight m a) 1) 1
def addZ {α : Type} : List Addr → List Addr → Nat → (List Addr → Nat → α) → α
  | [], fr, m, k => k fr m
  | a :: as, fr, m, k => fn1 a fun a => match seenZ m a with
    | true => addZ as fr m k
    | false => fn1 (Nat.lor m (Nat.shiftLeft 1 a)) fun m => addZ as (a :: fr) m k
theorem addZ_k {α : Type} : ∀ (as fr : List Addr) (m : Nat) (k : List Addr → Nat → α), addZ as fr m k = k (addZ as fr m fun f _ => f) (addZ as fr m fun _ m => m)
  | [], fr, m, k => rfl
  | a :: as, fr, m, k => by
    simp only [addZ, fn1_eq]
    cases seenZ m a with
    | true => exact addZ_k as fr m k
    | false => exact addZ_k as (a :: fr) _ k
def goZ (g : Addr → Option Obj) : List Addr → List Addr
  | [] => []
  | a :: as => (match g a with
    | some o => He.refsD o
    | none => []) ++ goZ g as
def onZ : List Addr → List Addr → List Addr
  | [], l => l
  | a :: as, l => onZ as (a :: l)
def asZ {α : Type} (g : Addr → Option Obj) : Nat → List Addr → List Addr → Nat → (List Addr → α) → α
  | 0, _, acc, _, k => k (onZ acc [])
  | n + 1, fr, acc, m, k => addZ (goZ g fr) [] m fun fr2 m2 => asZ g n fr2 (onZ fr2 acc) m2 k
theorem asZ_k {α : Type} (g : Addr → Option Obj) : ∀ (n : Nat) (fr acc : List Addr) (m : Nat) (k : List Addr → α), asZ g n fr acc m k = k (asZ g n fr acc m id)
  | 0, fr, acc, m, k => rfl
  | n + 1, fr, acc, m, k => by
    simp only [asZ]
    rw [addZ_k, asZ_k, addZ_k (k := fun fr2 m2 => asZ g n fr2 (onZ fr2 acc) m2 id)]
def frK {α : Type} (g : Addr → Option Obj) : List Addr → (PySem.W.Frag → α) → α
  | [], k => k []
  | a :: l, k => match g a with
    | some o => (match He.emptyTab o with
      | true => frK g l k
      | false => fn1 a fun a => frK g l fun K => k ((a, o) :: K))
    | none => frK g l k
theorem frK_eq {α : Type} (g : Addr → Option Obj) : ∀ (l : List Addr) (k : PySem.W.Frag → α), frK g l k = k (He.frT g l)
  | [], k => rfl
  | a :: l, k => by
    unfold frK He.frT He.frG
    rw [List.filterMap_cons]
    cases e : g a with
    | none => exact frK_eq g l k
    | some o =>
      simp only [fn1_eq]
      cases e2 : He.emptyTab o with
      | true =>
        rw [show (Option.map (fun o => (a, o)) (some o)) = some (a, o) from rfl]
        simp only
        rw [List.filter_cons_of_neg (by rw [e2]; decide)]
        exact frK_eq g l k
      | false =>
        rw [show (Option.map (fun o => (a, o)) (some o)) = some (a, o) from rfl]
        simp only
        rw [List.filter_cons_of_pos (by rw [e2]; rfl)]
        exact frK_eq g l _
def wK {α : Type} (n : Nat) (g : Addr → Option Obj) (k : PySem.W.Frag → α) : α := asZ g n [mainGlobals] [mainGlobals] (Nat.shiftLeft 1 mainGlobals) fun as => frK g (cStatics :: as) k
def KZ (n : Nat) (g : Addr → Option Obj) : PySem.W.Frag := He.frT g (cStatics :: asZ g n [mainGlobals] [mainGlobals] (Nat.shiftLeft 1 mainGlobals) id)
theorem wK_eq {α : Type} (n : Nat) (g : Addr → Option Obj) (k : PySem.W.Frag → α) : wK n g k = k (KZ n g) := by
  unfold wK KZ
  rw [asZ_k, frK_eq]
section
variable (n : Nat) (fa : List He.Fa) (fn : List He.DefD) (ts : List He.Tab) (tf : List He.Defn) (eb : PySem.W.Frag → Bool)
def obsZ (g : Addr → Option Obj) : He.AlX := wK n g fun K => (He.obsT fa fn ts K, eb K && He.tabsB g tf K)
theorem obsZ_is (g : Addr → Option Obj) : obsZ n fa fn ts tf eb g = (He.obsT fa fn ts (KZ n g), eb (KZ n g) && He.tabsB g tf (KZ n g)) := wK_eq n g _
theorem saysZ {w : World} {h : Heap} (e : obsZ n fa fn ts tf eb h.get? = He.valX fn ts w) : He.SaysX fa fn ts tf eb w h (KZ n h.get?) := by
  rw [obsZ_is] at e
  have eT := congrArg (fun q : He.AlX => q.1) e
  have eB : (eb (KZ n h.get?) && He.tabsB h.get? tf (KZ n h.get?)) = true := congrArg (fun q : He.AlX => q.2) e
  have e1 := (Bool.and_eq_true_iff.mp eB).1
  have e2 := (Bool.and_eq_true_iff.mp eB).2
  have each : ∀ d ∈ tf, PySem.W.codeHdIn (KZ n h.get?) (He.cT (KZ n h.get?) d).1 (He.cT (KZ n h.get?) d).2 = true ∧ ∃ u, h.get? (He.cT (KZ n h.get?) d).2 = some u ∧ He.emptyTab u = true := by
    intro d hd
    have z := List.all_eq_true.mp e2 d hd
    have z1 := (Bool.and_eq_true_iff.mp z).1
    have z2 := (Bool.and_eq_true_iff.mp z).2
    refine ⟨z1, ?_⟩
    split at z2
    · rename_i u hu
      exact ⟨u, hu, z2⟩
    · cases z2
  refine ⟨eT, e1, fun d hd => (each d hd).1, fun d hd => ?_, fun d hd => ?_⟩
  · obtain ⟨_, u, hu, ue⟩ := each d hd
    exact He.frT_none hu ue
  · obtain ⟨_, u, hu, ue⟩ := each d hd
    rw [hu, He.emptyTab_eq ue]
def hookZ : PySem.W.Hook where
  α := He.AlX
  obs := fun s => obsZ n fa fn ts tf eb s.heap.get?
  val := fun w => He.valX fn ts w
  says := fun w h => ∃ K : PySem.W.Frag, K.In h ∧ He.SaysX fa fn ts tf eb w h K
  of := fun _ _ e => ⟨KZ n _, He.frT_in, saysZ n fa fn ts tf eb e⟩
  keeps := fun _ _ _ ⟨K, hK, y⟩ k => ⟨K, PySem.W.Frag.In.keeps hK k, ⟨y.t, y.more, y.hd, y.out, fun d hd => k _ _ (y.empty d hd)⟩⟩
theorem obsZ_eq {g : Addr → Option Obj} {s : Shared} (h : ∀ a, g a = s.heap.get? a) : obsZ n fa fn ts tf eb g = (hookZ n fa fn ts tf eb).obs s := by
  obtain rfl : g = s.heap.get? := funext h
  rfl
end
end Ls
namespace Lh
open PySem PySem.Spec PyProof.Rows L2 Ls Lw LamX
def d_law : He.DefD := ⟨("law", none), "law", "law", defArgs s_law, defBody s_law, defScope s_law, [], []⟩
def d__law_begin : He.DefD := ⟨("_law_begin", none), "_law_begin", "_law_begin", defArgs s__law_begin, defBody s__law_begin, defScope s__law_begin, [], []⟩
def d__law_tree : He.DefD := ⟨("_law_tree", none), "_law_tree", "_law_tree", defArgs s__law_tree, defBody s__law_tree, defScope s__law_tree, [], []⟩
def d__law_test_text : He.DefD := ⟨("_law_test_text", none), "_law_test_text", "_law_test_text", defArgs s__law_test_text, defBody s__law_test_text, defScope s__law_test_text, [], []⟩
def d__law_read : He.DefD := ⟨("_law_read", none), "_law_read", "_law_read", defArgs s__law_read, defBody s__law_read, defScope s__law_read, [], []⟩
def d__law_ask : He.DefD := ⟨("_law_ask", none), "_law_ask", "_law_ask", defArgs s__law_ask, defBody s__law_ask, defScope s__law_ask, [], []⟩
def d__law_words : He.DefD := ⟨("_law_words", none), "_law_words", "_law_words", defArgs s__law_words, defBody s__law_words, defScope s__law_words, [], []⟩
def d__law_pick : He.DefD := ⟨("_law_pick", none), "_law_pick", "_law_pick", defArgs s__law_pick, defBody s__law_pick, defScope s__law_pick, [], []⟩
def d__law_bent_text : He.DefD := ⟨("_law_bent_text", none), "_law_bent_text", "_law_bent_text", defArgs s__law_bent_text, defBody s__law_bent_text, defScope s__law_bent_text, [], []⟩
def d__law_same : He.DefD := ⟨("_law_same", none), "_law_same", "_law_same", defArgs s__law_same, defBody s__law_same, defScope s__law_same, [], []⟩
def d__law_test_ok : He.DefD := ⟨("_law_test_ok", none), "_law_test_ok", "_law_test_ok", defArgs s__law_test_ok, defBody s__law_test_ok, defScope s__law_test_ok, [], []⟩
def d_read_test : He.DefD := ⟨("read_test", none), "read_test", "read_test", defArgs s_read_test, defBody s_read_test, defScope s_read_test, [], []⟩
def d_test_text : He.DefD := ⟨("test_text", none), "test_text", "test_text", defArgs s_test_text, defBody s_test_text, defScope s_test_text, [], []⟩
def d__law_leaf : He.DefD := ⟨("_law_leaf", none), "_law_leaf", "_law_leaf", defArgs s__law_leaf, defBody s__law_leaf, defScope s__law_leaf, [], []⟩
def d__law_read_field : He.DefD := ⟨("_law_read_field", none), "_law_read_field", "_law_read_field", defArgs s__law_read_field, defBody s__law_read_field, defScope s__law_read_field, [], []⟩
def d__law_halves : He.DefD := ⟨("_law_halves", none), "_law_halves", "_law_halves", defArgs s__law_halves, defBody s__law_halves, defScope s__law_halves, [], []⟩
def d__law_word : He.DefD := ⟨("_law_word", none), "_law_word", "_law_word", defArgs s__law_word, defBody s__law_word, defScope s__law_word, [], []⟩
def d__law_of : He.DefD := ⟨("_law_of", none), "_law_of", "_law_of", defArgs s__law_of, defBody s__law_of, defScope s__law_of, [], []⟩
def d__law_shape_ok : He.DefD := ⟨("_law_shape_ok", none), "_law_shape_ok", "_law_shape_ok", defArgs s__law_shape_ok, defBody s__law_shape_ok, defScope s__law_shape_ok, [], []⟩
def d__law_deep : He.DefD := ⟨("_law_deep", none), "_law_deep", "_law_deep", defArgs s__law_deep, defBody s__law_deep, defScope s__law_deep, [], []⟩
def d__law_parts : He.DefD := ⟨("_law_parts", none), "_law_parts", "_law_parts", defArgs s__law_parts, defBody s__law_parts, defScope s__law_parts, [], []⟩
def d_test_in : He.DefD := ⟨("test_in", none), "test_in", "test_in", defArgs s_test_in, defBody s_test_in, defScope s_test_in, [], []⟩
def d_is_test : He.DefD := ⟨("is_test", none), "is_test", "is_test", defArgs s_is_test, defBody s_is_test, defScope s_is_test, [], []⟩
def d_look_test : He.DefD := ⟨("look_test", none), "look_test", "look_test", defArgs s_look_test, defBody s_look_test, defScope s_look_test, [], []⟩
def d_text_of : He.DefD := ⟨("text_of", none), "text_of", "text_of", defArgs s_text_of, defBody s_text_of, defScope s_text_of, [], []⟩
def d__law_number : He.DefD := ⟨("_law_number", none), "_law_number", "_law_number", defArgs s__law_number, defBody s__law_number, defScope s__law_number, [], []⟩
def d__law_number_in : He.DefD := ⟨("_law_number_in", none), "_law_number_in", "_law_number_in", defArgs s__law_number_in, defBody s__law_number_in, defScope s__law_number_in, [], []⟩
def d__law_leaf_ok : He.DefD := ⟨("_law_leaf_ok", none), "_law_leaf_ok", "_law_leaf_ok", defArgs s__law_leaf_ok, defBody s__law_leaf_ok, defScope s__law_leaf_ok, [], []⟩
def d_leaf_in : He.DefD := ⟨("leaf_in", none), "leaf_in", "leaf_in", defArgs s_leaf_in, defBody s_leaf_in, defScope s_leaf_in, [], []⟩
def d_parted_at : He.DefD := ⟨("parted_at", none), "parted_at", "parted_at", defArgs s_parted_at, defBody s_parted_at, defScope s_parted_at, [], []⟩
def d_parts_of : He.DefD := ⟨("parts_of", none), "parts_of", "parts_of", defArgs s_parts_of, defBody s_parts_of, defScope s_parts_of, [], []⟩
def d__law_is_name : He.DefD := ⟨("_law_is_name", none), "_law_is_name", "_law_is_name", defArgs s__law_is_name, defBody s__law_is_name, defScope s__law_is_name, [], []⟩
def d_number_in : He.DefD := ⟨("number_in", none), "number_in", "number_in", defArgs s_number_in, defBody s_number_in, defScope s_number_in, [.int 6], []⟩
def d_is_leaf : He.DefD := ⟨("is_leaf", none), "is_leaf", "is_leaf", defArgs s_is_leaf, defBody s_is_leaf, defScope s_is_leaf, [], []⟩
def d_is_name : He.DefD := ⟨("is_name", none), "is_name", "is_name", defArgs s_is_name, defBody s_is_name, defScope s_is_name, [], []⟩
def d_ScribeError___init__ : He.DefD := ⟨("ScribeError", some "__init__"), "__init__", "ScribeError.__init__", defArgs s_ScribeError___init__, defBody s_ScribeError___init__, defScope s_ScribeError___init__, [], []⟩
def d_BadTest___init__ : He.DefD := ⟨("BadTest", some "__init__"), "__init__", "BadTest.__init__", defArgs s_BadTest___init__, defBody s_BadTest___init__, defScope s_BadTest___init__, [], []⟩
def fn : List He.DefD := [d_law, d__law_begin, d__law_tree, d__law_test_text, d__law_read, d__law_ask, d__law_words, d__law_pick, d__law_bent_text, d__law_same, d__law_test_ok, d_read_test, d_test_text, d__law_leaf, d__law_read_field, d__law_halves, d__law_word, d__law_of, d__law_shape_ok, d__law_deep, d__law_parts, d_test_in, d_is_test, d_look_test, d_text_of, d__law_number, d__law_number_in, d__law_leaf_ok, d_leaf_in, d_parted_at, d_parts_of, d__law_is_name, d_number_in, d_is_leaf, d_is_name, d_ScribeError___init__, d_BadTest___init__]
def fa : List He.Fa := [.glo "law", .glo "_law_begin", .glo "_law_tree", .glo "_law_test_text", .glo "_law_read", .glo "_law_ask", .glo "_law_words", .glo "_law_pick", .glo "_law_bent_text", .glo "_law_same", .glo "_law_test_ok", .glo "read_test", .glo "test_text", .glo "_law_leaf", .glo "_law_read_field", .glo "_law_halves", .glo "_law_word", .glo "_law_of", .glo "_law_shape_ok", .glo "_law_deep", .glo "_law_parts", .glo "test_in", .glo "is_test", .glo "look_test", .glo "text_of", .glo "_law_number", .glo "_law_number_in", .glo "_law_leaf_ok", .glo "leaf_in", .glo "parted_at", .glo "parts_of", .glo "_law_is_name", .glo "number_in", .glo "is_leaf", .glo "is_name", .free "range", .free "list", .free "str", .free "tuple", .free "len", .free "isinstance", .free "bool", .free "int", .free "all", .free "max", .free "sum", .free "enumerate", .free "ValueError", .int "DEEPEST" 5, .glo "WITHIN", .int "MOST_PARTS" 15, .glo "SIGNS", .int "MOST_FIGURES" 6, .str "FIGURES" "0123456789", .int "LIMIT" 999999, .int "LONGEST" 8, .str "LETTERS" "abcdefghijklmnopqrstuvwxyz", .glo "ScribeError", .glo "BadTest", .glo "BadValue", .glo "Missing"]
def tbs : List He.Tab := [(fun K => He.ga K "WITHIN", ["not", "and", "or"]), (fun K => He.ga K "SIGNS", ["<", "="])]
def exl (K : PySem.W.Frag) : List Bool := [crdB K (He.ga K "ScribeError"), cviB K (He.ga K "ScribeError"), oexB K (He.ga K "BadTest"), iniB K (He.ga K "BadTest"), iniB K (He.ga K "BadTest"), noFB K (He.ga K "BadTest") "word", xfB K (He.ga K "BadTest"), exmB K (He.ga K "BadTest") (He.ga K "BadValue") false, exmB K (He.ga K "BadTest") (He.ga K "ScribeError") true, exmB K (He.ga K "BadTest") (He.ga K "Missing") false, veiB K, He.valsB K (He.ga K "WITHIN") [("not", .int 1), ("and", .int 2), ("or", .int 2)], He.valsB K (He.ga K "SIGNS") [("<", .str "less"), ("=", .str "same")]]
def exB (K : PySem.W.Frag) : Bool := (exl K).all id
theorem exB_ok {K : PySem.W.Frag} (h : exB K = true) {i : Nat} {b : Bool} (e : (exl K)[i]? = some b) : b = true := List.all_eq_true.mp h b (List.mem_of_getElem? e)
def tfs : List He.Defn := [("law", none)]
abbrev R : PySem.W.OpenRow := PySem.W.OpenLaw.row PySem.Challenge.rw_lanescribe_k05_texts_read_as_tests
abbrev hk : PySem.W.Hook := hookZ 5 fa fn tbs tfs exB
def ob (s : PySem.W.SharedT) : He.AlX := obsZ 5 fa fn tbs tfs exB (HandSHeadRun.getT s)
theorem ob_eq (s : PySem.W.SharedT) : ob s = hk.obs s.abs := obsZ_eq 5 fa fn tbs tfs exB (HandSHeadRun.getT_eq s)
def loose0 : List PySem.Str := ["__name__", "ScribeError", "Missing", "BadTest", "BadValue", "LIMIT", "LONGEST", "LETTERS", "is_name", "MOST_PARTS", "DEEPEST", "WITHIN", "SIGNS", "FIGURES", "MOST_FIGURES", "is_leaf", "parts_of", "is_test", "look_test", "text_of"]
def loose1 : List PySem.Str := ["test_text", "number_in", "parted_at", "leaf_in", "test_in", "read_test", "_law_begin", "_law_pick", "_law_of", "_law_same", "_law_word", "_law_words", "_law_is_name", "_law_ask", "_law_number", "_law_leaf", "_law_tree", "_law_parts", "_law_deep", "_law_leaf_ok"]
def loose2 : List PySem.Str := ["_law_shape_ok", "_law_test_ok", "_law_test_text", "_law_number_in", "_law_halves", "_law_read_field", "_law_read", "_law_bent_text"]
def loose : List PySem.Str := loose0 ++ loose1 ++ loose2
theorem runF (w : World) : HandSHeadRun.RunEq R (PySem.W.view R.prog [51]) hk ob 20000 loose (w.withFollow "special-get-raises" false) := by
  intro os
  kernel_rfl
theorem runT (w : World) : HandSHeadRun.RunEq R (PySem.W.view R.prog [51]) hk ob 20000 loose (w.withFollow "special-get-raises" true) := by
  intro os
  kernel_rfl
theorem runB (b : Bool) (w : World) : HandSHeadRun.RunEq R (PySem.W.view R.prog [51]) hk ob 20000 loose (w.withFollow "special-get-raises" b) := by
  cases b
  · exact runF w
  · exact runT w
theorem run (w : World) : HandSHeadRun.RunEq R (PySem.W.view R.prog [51]) hk ob 20000 loose w := by
  have z := runB (w.params.followText "special-get-raises") w
  rwa [World.withFollow_self] at z
end Lh
namespace Ls
open PySem PySem.Spec PyProof.Rows L2
section
variable {K : PySem.W.Frag}
/-- a list of data that never change, one's own -/
def ld (a : Addr) (ds : List PyData) : As K := ⟨fun _ s H => (∀ b, s b ↔ b = a) ∧ ∃ xs, H a = some (.lst xs) ∧ ImAll K H xs ds, fun ⟨e, xs, h, g⟩ k t => ⟨e, xs, (k a ((e a).mpr rfl)).trans h, g.mono t.1⟩, fun ⟨e, xs, h, _⟩ b z => by
  obtain rfl := (e b).mp z
  exact ⟨_, h, rfl⟩, fun h _ => h⟩
/-- a value's data, by what stands -/
inductive Dat (L : List (As K)) : V → PyData → Prop
  | non : Dat L .non .none
  | bl (b : Bool) : Dat L (.bl b) (.bool b)
  | int (i : Int) : Dat L (.int i) (.int i)
  | str (x : Str) : Dat L (.str x) (.str x)
  | im {v : V} {d : PyData} : im v d ∈ L → Dat L v d
inductive DatAll (L : List (As K)) : List V → List PyData → Prop
  | nil : DatAll L [] []
  | cons {v : V} {d : PyData} {vs : List V} {ds : List PyData} : Dat L v d → DatAll L vs ds → DatAll L (v :: vs) (d :: ds)
  | ims {vs : List V} {ds : List PyData} : Ls.ims vs ds ∈ L → DatAll L vs ds
/-- .. lists too -/
inductive Dl (L : List (As K)) : V → PyData → Prop
  | dat {v : V} {d : PyData} : Dat L v d → Dl L v d
  | ld {a : Addr} {ds : List PyData} : ld a ds ∈ L → Dl L (.ref a) (.list ds)
variable {A B : As K} {L L' M N : List (As K)} {H H' : Hp} {a p l : Addr} {o u : HO} {v x y : V} {d e : PyData} {vs xs ys : List V} {ds es : List PyData} {Q : VK} {σ : L2.St} {i j : Int}
theorem Dat.is (h : Sep L H) (t : Dat L v d) : Im K H v d := by
  cases t with
  | non => exact .non
  | bl b => exact .bl b
  | int i => exact .int i
  | str x => exact .str x
  | im m => exact h.imm m
theorem DatAll.is (h : Sep L H) : ∀ {vs : List V} {ds : List PyData}, DatAll L vs ds → ImAll K H vs ds
  | _, _, .nil => .nil
  | _, _, .cons a b => .cons (a.is h) (b.is h)
  | _, _, .ims m => h.imsm m
theorem Sep.ldm (h : Sep L H) (m : ld a ds ∈ L) : ∃ xs, H a = some (.lst xs) ∧ ImAll K H xs ds := by
  obtain ⟨W, s, ⟨_, h1⟩, _⟩ := h.the m
  exact h1
theorem Dl.is (h : Sep L H) (t : Dl L v d) : Dp K H v d := by
  cases t with
  | dat t => exact (t.is h).dp
  | ld m =>
    obtain ⟨xs, h1, h2⟩ := h.ldm m
    exact .lst (sql_of h1) h2.dp
theorem Sep.newD (h : Sep L H) (hp : H p = none) (t : DatAll L xs ds) : Sep (ld p ds :: L) (upd H p (.lst xs)) := by
  obtain ⟨W, s, f, s1, s2, d, u, ⟨e1, e2, _⟩, h2⟩ := h.new (o := .lst xs) hp rfl
  exact ⟨W, s, f, s1, s2, d, u, ⟨e1, xs, e2, (t.is h).mono (Tp.new hp)⟩, h2⟩
theorem Sep.newI (h : Sep L H) (hp : H p = none) (t : DatAll L xs ds) : Sep (im (.ref p) (.tuple ds) :: L) (upd H p (.tup xs)) :=
  Sep.im_iff.mpr ⟨.tup (sqt_of upd_same) ((t.is h).mono (Tp.new hp)), h.same (same_new hp)⟩
theorem Sep.setD (h : Sep (ld a ds :: L) H) (t : ImAll K H xs es) : Sep (ld a es :: L) (upd H a (.lst xs)) := by
  obtain ⟨W, s, r, ⟨e, ys, h1, h2⟩, d, _, k⟩ := h.hd
  have tp : Tq K H (upd H a (.lst xs)) := tp_upd h1 rfl
  exact k (s' := s) ⟨e, xs, upd_same, t.mono tp.1⟩ d (fun b z => upd_ne fun y => d b ((e b).mpr y) z) tp
theorem Sep.setDR (h : Sep L H) (r : Rep L (ld a ds) (ld a es) M) (t : ImAll K H xs es) : Sep M (upd H a (.lst xs)) := by
  obtain ⟨N, h1, h2⟩ := Sep.rep r
  exact h2 _ ((h1 _ h).setD t)
theorem Rep.mem (r : Rep L A B M) : A ∈ L := by
  induction r with
  | here => exact List.mem_cons_self
  | there _ ih => exact List.mem_cons_of_mem _ ih
def Sub (N L : List (As K)) : Prop := ∀ (W : Fz) (s : Addr → Prop) (H : Hp), FzOk W s H → Hld W N s H → ∃ s' : Addr → Prop, (∀ a, s' a → s a) ∧ Hld W L s' H
theorem Sub.ok (s : Sub N L) (h : Sep N H) : Sep L H := by
  obtain ⟨W, q, f, h⟩ := h
  obtain ⟨q', e, z⟩ := s W q H f h
  exact ⟨W, q', f.less e, z⟩
theorem Sub.refl : Sub L L := fun W s _ _ h => ⟨s, fun _ z => z, h⟩
theorem Sub.drop (z : Sub N L) : Sub (A :: N) L := fun W s H f ⟨s1, s2, d, u, _, h⟩ => by
  obtain ⟨q, e, k⟩ := z W s2 H (f.less fun a y => (u a).mpr (.inr y)) h
  exact ⟨q, fun a y => (u a).mpr (.inr (e a y)), k⟩
theorem Sub.nil : Sub N ([] : List (As K)) := fun _ _ _ _ _ => ⟨fun _ => False, fun _ z => z.elim, fun _ z => z⟩
theorem Sub.cons (z : Sub N L) : Sub (A :: N) (A :: L) := fun W s H f ⟨s1, s2, d, u, h1, h⟩ => by
  obtain ⟨q, e, k⟩ := z W s2 H (f.less fun a y => (u a).mpr (.inr y)) h
  exact ⟨fun a => s1 a ∨ q a, fun a y => (u a).mpr (y.imp id (e a)), s1, q, fun a x y => d a x (e a y), fun a => Iff.rfl, h1, k⟩
theorem Sub.trans (z : Sub N M) (y : Sub M L) : Sub N L := fun W s H f h => by
  obtain ⟨q, e, k⟩ := z W s H f h
  obtain ⟨q2, e2, k2⟩ := y W q H (f.less e) k
  exact ⟨q2, fun a w => e a (e2 a w), k2⟩
theorem Sub.perm (p : N.Perm M) : Sub N M := fun W s H _ h => ⟨s, fun _ z => z, h.perm p⟩
theorem Sub.rem (r : Rem N A M) (z : Sub M L) : Sub N (A :: L) := (Sub.perm r.perm).trans z.cons
/-- told once more -/
theorem Sub.dup [i : Dup A] (m : A ∈ N) (z : Sub N L) : Sub N (A :: L) := fun W s H f h => by
  obtain ⟨M, hM⟩ := Rem.of_mem m
  obtain ⟨s1, s2, d, u, h1, h2⟩ := h.perm hM.perm
  obtain ⟨q, e, k⟩ := z W s H f h
  exact ⟨q, e, s1, q, fun a x _ => (i.no h1 a x).elim, fun a => ⟨.inr, fun y => y.elim (fun x => (i.no h1 a x).elim) id⟩, h1, k⟩
theorem Sub.all : Sub (Ls.all L :: M) N ↔ Sub (L ++ M) N := by
  constructor
  · intro z W s H f h
    obtain ⟨s1, s2, d, u, h1, h2⟩ := Hld.app.mp h
    exact z W s H f ⟨s1, s2, d, u, h1, h2⟩
  · intro z W s H f h
    obtain ⟨s1, s2, d, u, h1, h2⟩ := h
    exact z W s H f (Hld.app.mpr ⟨s1, s2, d, u, h1, h2⟩)
def Gv : PyData → (V → List (As K) → Prop) → Prop
  | .none, q => q .non []
  | .bool b, q => q (.bl b) []
  | .int i, q => q (.int i) []
  | .str x, q => q (.str x) []
  | .tuple ds, q => ∀ a, q (.ref a) [im (.ref a) (.tuple ds)]
  | d, q => ∀ v, q v [im v d]
def GvAll : List PyData → (List V → List (As K) → Prop) → Prop
  | [], q => q [] []
  | d :: ds, q => Gv d fun v M => GvAll ds fun vs N => q (v :: vs) (M ++ N)
theorem Gv.go {R : V → Prop} (m : Im K H v d) (h : Sep L H) (g : Gv (K := K) d fun v M => Sep (M ++ L) H → R v) : R v := by
  cases m with
  | non => exact g h
  | bl b => exact g h
  | int i => exact g h
  | str x => exact g h
  | tup h1 h2 => exact g _ (Sep.im_iff.mpr ⟨.tup h1 h2, h⟩)
theorem Gv.mono {q q' : V → List (As K) → Prop} (g : Gv d q) (k : ∀ v M, q v M → q' v M) : Gv d q' := by
  cases d <;> first | exact k _ _ g | exact fun v => k _ _ (g v)
theorem GvAll.go : ∀ {L : List (As K)} {ds : List PyData} {vs : List V} {q : List V → List (As K) → Prop}, ImAll K H vs ds → Sep L H → GvAll ds q → ∃ M, q vs M ∧ Sep (M ++ L) H
  | L, [], _, q, .nil, h, g => ⟨[], g, h⟩
  | L, d :: ds, _, q, .cons (v := v) a b, h, g => by
    have g' : Gv (K := K) d fun v M => GvAll ds fun vs N => q (v :: vs) (M ++ N) := g
    refine Gv.go (R := fun v => ∃ M, q (v :: _) M ∧ Sep (M ++ L) H) a h (g'.mono fun v M g2 hM => ?_)
    obtain ⟨N, h3, h4⟩ := GvAll.go (L := M ++ L) b hM g2
    refine ⟨M ++ N, h3, h4.perm ?_⟩
    rw [← List.append_assoc]
    exact List.perm_append_comm.append_right L
theorem k_gtupS {n : Nat} {tg : TGs} {R : L2.St → Hp → Prop} (h : Sep L H) (m : im (.ref a) (.tuple ds) ∈ L) (hn : ds.length = n) (q : GvAll (K := K) ds fun vs M => Sep (M ++ L) H → tg vs σ H R) : gTup K n tg (.ref a) σ H R := by
  obtain ⟨a', xs, e, h1, h2⟩ := im_tup (h.imm m)
  cases e
  obtain ⟨M, h3, h4⟩ := q.go h2 h
  exact k_gtup h1 (h2.length.trans hn) (h3 h4)
theorem k_gtupO {n : Nat} {tg : TGs} {R : L2.St → Hp → Prop} (h : Sep L H) (m : tu a xs ∈ L) (hn : xs.length = n) (q : tg xs σ H R) : gTup K n tg (.ref a) σ H R := k_gtup (h.tum m) hn q
theorem atI_all : ∀ {vs : List V} {ds : List PyData} {i : Int}, ImAll K H vs ds → atI ds i = some d → ∃ v, atI vs i = some v ∧ Im K H v d := fun {vs ds i} h e => by
  unfold atI at e ⊢
  rw [h.length]
  cases q : ixN ds.length i with
  | none =>
    rw [q] at e
    cases e
  | some j =>
    rw [q] at e
    exact h.getD e
theorem k_ixS' (h : Sep L H) (m : im (.ref a) (.tuple ds) ∈ L) (e : atI ds i = some d) (q : Gv (K := K) d fun v M => Sep (M ++ L) H → Q v H) : rIx K (.ref a) (.int i) H Q := by
  obtain ⟨a', xs, e', h1, h2⟩ := im_tup (h.imm m)
  cases e'
  obtain ⟨v, hv, hd⟩ := atI_all h2 e
  exact k_ixT h1 hv (Gv.go hd h q)
end
end Ls
namespace Ls
open PySem PySem.Spec PyProof.Rows L2
section
variable {K : PySem.W.Frag} {A B : As K} {L L' M N : List (As K)} {H H' : Hp} {a p l : Addr} {o u : HO} {v x y : V} {d e : PyData} {vs xs ys : List V} {ds es : List PyData} {Q : VK} {σ : L2.St} {i j : Int} {n : Nat} {b : Bool}
theorem k_lenD (h : Sep L H) (m : ld a ds ∈ L) (q : Q (.int ds.length) H) : rLenU K [.ref a] H Q := by
  obtain ⟨xs, h1, h2⟩ := h.ldm m
  exact k_lenL (sql_of h1) (by rw [h2.length]; exact q)
theorem k_lenO (h : Sep L H) (m : ob a (.lst xs) ∈ L) (q : Q (.int xs.length) H) : rLenU K [.ref a] H Q := k_lenL (sql_of (h.obm m)) q
theorem k_lenI (h : Sep L H) (m : im (.ref a) (.tuple ds) ∈ L) (q : Q (.int ds.length) H) : rLenU K [.ref a] H Q := by
  obtain ⟨a', xs, e, h1, h2⟩ := im_tup (h.imm m)
  cases e
  exact k_lenT h1 (by rw [h2.length]; exact q)
theorem k_lenK (h : Sep L H) {kvs : List (Key × V)} (m : ob a (.dK kvs) ∈ L) (q : Q (.int kvs.length) H) : rLenU K [.ref a] H Q := .inr (.inr ⟨a, kvs, rfl, h.obm m, q⟩)
theorem k_ixD (h : Sep L H) (m : ld a ds ∈ L) (e : atI ds i = some d) (q : Gv (K := K) d fun v M => Sep (M ++ L) H → Q v H) : rIx K (.ref a) (.int i) H Q := by
  obtain ⟨xs, h1, h2⟩ := h.ldm m
  obtain ⟨v, hv, hd⟩ := atI_all h2 e
  exact k_ixL (sql_of h1) hv (Gv.go hd h q)
theorem k_ixO (h : Sep L H) (m : ob a (.lst xs) ∈ L) (e : atI xs i = some v) (q : Q v H) : rIx K (.ref a) (.int i) H Q := k_ixL (sql_of (h.obm m)) e q
theorem k_ixTu (h : Sep L H) (m : tu a xs ∈ L) (e : atI xs i = some v) (q : Q v H) : rIx K (.ref a) (.int i) H Q := k_ixT (h.tum m) e q
theorem k_tyD {P : Prop} (h : Sep L H) (m : ld a ds ∈ L) (q : P) : tyV K "list" (.ref a) H ∧ P := by
  obtain ⟨xs, h1, h2⟩ := h.ldm m
  exact k_tyL (sql_of h1) q
theorem k_tyO {P : Prop} (h : Sep L H) (m : ob a (.lst xs) ∈ L) (q : P) : tyV K "list" (.ref a) H ∧ P := k_tyL (sql_of (h.obm m)) q
theorem k_appD (h : Sep L H) (r : Rep L (ld a ds) (ld a (ds ++ [d])) M) (t : Dat L x d) (hl : ds.length < sizeLine) (q : ∀ H', Sep M H' → Q .non H') : rAppend (.ref a) [x] H Q := by
  obtain ⟨xs, h1, h2⟩ := h.ldm r.mem
  exact k_app h1 (by rw [h2.length]; exact hl) (q _ (h.setDR r (h2.snoc (t.is h))))
theorem k_appO (h : Sep L H) (r : Rep L (ob a (.lst xs)) (ob a (.lst (xs ++ [x]))) M) (hl : xs.length < sizeLine) (q : ∀ H', Sep M H' → Q .non H') : rAppend (.ref a) [x] H Q :=
  k_app (h.obm r.mem) hl (q _ (h.setR r rfl))
structure Wk (J : It) (L : List (As K)) (n : Nat) (Y : Nat → (V → List (As K) → Prop) → Prop) : Prop where
  go : ∀ i H, i < n → Sep L H → J.go i H
  yl : ∀ i H x H' (R : V → Hp → Prop), i < n → Sep L H → J.yld i H x H' → Y i (fun v M => ∀ H2, Sep (M ++ L) H2 → R v H2) → R x H'
  st : ∀ H, Sep L H → J.stop n H
theorem wk_ld (m : ld a ds ∈ L) : Wk (Itl K a) L ds.length fun i q => ∀ d, ds[i]? = some d → Gv d q where
  go := fun i H hi h => by
    obtain ⟨xs, h1, h2⟩ := h.ldm m
    have hx : i < xs.length := by rw [h2.length]; exact hi
    exact ⟨xs, xs[i], sql_of h1, List.getElem?_eq_getElem hx⟩
  yl := fun i H x H' R hi h ⟨e, y⟩ q => by
    subst e
    obtain ⟨xs, h1, h2⟩ := h.ldm m
    obtain ⟨d, hd, hm⟩ := h2.get (y xs (sql_of h1))
    exact Gv.go hm h ((q d hd).mono fun v M g hM => g _ hM)
  st := fun H h => by
    obtain ⟨xs, h1, h2⟩ := h.ldm m
    exact ⟨xs, sql_of h1, by rw [h2.length]; exact Nat.le_refl _⟩
theorem Wk.mono {J : It} {Y Y' : Nat → (V → List (As K) → Prop) → Prop} (w : Wk J L n Y) (k : ∀ i q, i < n → Y' i q → Y i q) : Wk J L n Y' := ⟨w.go, fun i H x H' R hi h y q => w.yl i H x H' R hi h y (k i _ hi q), w.st⟩
theorem wk_ldm {α : Type} {zs : List α} {f : α → PyData} (m : ld a (zs.map f) ∈ L) : Wk (Itl K a) L zs.length fun i q => ∀ z, zs[i]? = some z → Gv (f z) q := by
  have w := wk_ld m
  rw [List.length_map] at w
  refine w.mono fun i q hi k d hd => ?_
  rw [List.getElem?_map] at hd
  obtain ⟨z, hz, rfl⟩ := Option.map_eq_some_iff.mp hd
  exact k z hz
theorem wk_im (m : im (.ref a) (.tuple ds) ∈ L) : Wk (Itt K a) L ds.length fun i q => ∀ d, ds[i]? = some d → Gv d q where
  go := fun i H hi h => by
    obtain ⟨a', xs, e, h1, h2⟩ := im_tup (h.imm m)
    cases e
    have hx : i < xs.length := by rw [h2.length]; exact hi
    exact ⟨xs, xs[i], h1, List.getElem?_eq_getElem hx⟩
  yl := fun i H x H' R hi h ⟨e, y⟩ q => by
    subst e
    obtain ⟨a', xs, e, h1, h2⟩ := im_tup (h.imm m)
    cases e
    obtain ⟨d, hd, hm⟩ := h2.get (y xs h1)
    exact Gv.go hm h ((q d hd).mono fun v M g hM => g _ hM)
  st := fun H h => by
    obtain ⟨a', xs, e, h1, h2⟩ := im_tup (h.imm m)
    cases e
    exact ⟨xs, h1, by rw [h2.length]; exact Nat.le_refl _⟩
theorem wk_imm {α : Type} {zs : List α} {f : α → PyData} (m : im (.ref a) (.tuple (zs.map f)) ∈ L) : Wk (Itt K a) L zs.length fun i q => ∀ z, zs[i]? = some z → Gv (f z) q := by
  have w := wk_im m
  rw [List.length_map] at w
  refine w.mono fun i q hi k d hd => ?_
  rw [List.getElem?_map] at hd
  obtain ⟨z, hz, rfl⟩ := Option.map_eq_some_iff.mp hd
  exact k z hz
theorem wk_rng {lo : Int} : Wk (Itr lo n) L n fun i q => q (.int (lo + i)) [] where
  go := fun i H hi h => hi
  yl := fun i H x H' R hi h ⟨e, y⟩ q => by
    subst e y
    exact q _ h
  st := fun H h => Nat.le_refl _
def Nx (Iv : Nat → L2.St → List (As K) → Prop) (i : Nat) : L2.St → Hp → Prop := fun σ H => ∃ L, Iv i σ L ∧ Sep L H
theorem for_wk {J : It} {Y : Nat → (V → List (As K) → Prop) → Prop} {g : TG} {tb : TS} {D : Ends} (Iv : Nat → L2.St → List (As K) → Prop) (hw : ∀ i σ L, Iv i σ L → Wk J L n Y) (h : Sep L H) (h0 : Iv 0 σ L)
    (hs : ∀ i σ L, i < n → Iv i σ L → Y i fun v M => ∀ H, Sep (M ++ L) H → g v σ H fun σ2 H2 => tb { D with nx := Nx Iv (i + 1), ct := Nx Iv (i + 1), bk := D.nx } σ2 H2) (hd : ∀ σ L H, Iv n σ L → Sep L H → D.nx σ H) :
    ∃ W : Nat → Nat → L2.St → Hp → Prop, (∃ m, W 0 m σ H) ∧ ∀ i m σ H, W i m σ H →
      (J.stop i H ∧ D.nx σ H) ∨ (J.go i H ∧ ∃ N : L2.St → Hp → Prop, (∀ σ' H', N σ' H' → ∃ m', m' < m ∧ W (i + 1) m' σ' H') ∧ ∀ x H', J.yld i H x H' → g x σ H' fun σ2 H2 => tb { D with nx := N, ct := N, bk := D.nx } σ2 H2) := by
  refine ⟨fun i m σ H => m = n - i ∧ i ≤ n ∧ Nx Iv i σ H, ⟨n, by simp, Nat.zero_le _, L, h0, h⟩, ?_⟩
  rintro i m σ H ⟨rfl, hi, L, iv, h⟩
  by_cases hlt : i < n
  · refine .inr ⟨(hw i σ L iv).go i H hlt h, Nx Iv (i + 1), fun σ' H' p => ⟨n - (i + 1), by omega, rfl, hlt, p⟩, fun x H' y => ?_⟩
    exact (hw i σ L iv).yl i H x H' (fun v H2 => g v σ H2 fun σ2 H2 => tb { D with nx := Nx Iv (i + 1), ct := Nx Iv (i + 1), bk := D.nx } σ2 H2) hlt h y (hs i σ L hlt iv)
  · have e : i = n := by omega
    subst e
    exact .inl ⟨(hw i σ L iv).st H h, hd σ L H iv h⟩
def Lx (D : Addr) (Iv : Nat → List PyData → List (As K) → Prop) (i : Nat) : Hp → Prop := fun H => ∃ acc L, Iv i acc L ∧ Sep (ld D acc :: L) H
theorem lc_wk {J : It} {Y : Nat → (V → List (As K) → Prop) → Prop} {g : TG} {tt : TT} {te : TE} {ws : List Nat} {D : Addr} {Qd : Hp → Prop} (Iv : Nat → List PyData → List (As K) → Prop) (hw : ∀ i acc L, Iv i acc L → Wk J (ld D acc :: L) n Y) (h : Sep (ld D [] :: L) H) (h0 : Iv 0 [] L)
    (hs : ∀ i acc L, i < n → Iv i acc L → Y i fun v M => ∀ H, Sep (M ++ ld D acc :: L) H → g v (wipe σ ws) H fun σ2 H2 => wipe σ2 ws = wipe σ ws ∧ tt σ2 H2 fun b H3 =>
      if b = true then te σ2 H3 fun y H4 => ∃ zs, H4 D = some (.lst zs) ∧ zs.length < sizeLine ∧ Lx D Iv (i + 1) (upd H4 D (.lst (zs ++ [y]))) else Lx D Iv (i + 1) H3)
    (hd : ∀ acc L H, Iv n acc L → Sep (ld D acc :: L) H → Qd H) :
    ∃ W : Nat → Nat → Hp → Prop, (∃ m, W 0 m H) ∧ ∀ i m H, W i m H →
      (J.stop i H ∧ Qd H) ∨ (J.go i H ∧ ∃ Nx : Hp → Prop, (∀ H', Nx H' → ∃ m', m' < m ∧ W (i + 1) m' H') ∧ ∀ x H', J.yld i H x H' → g x (wipe σ ws) H' fun σ2 H2 => wipe σ2 ws = wipe σ ws ∧ tt σ2 H2 fun b H3 =>
        if b = true then te σ2 H3 fun y H4 => ∃ acc, H4 D = some (.lst acc) ∧ acc.length < sizeLine ∧ Nx (upd H4 D (.lst (acc ++ [y]))) else Nx H3) := by
  refine ⟨fun i m H => m = n - i ∧ i ≤ n ∧ Lx D Iv i H, ⟨n, by simp, Nat.zero_le _, [], L, h0, h⟩, ?_⟩
  rintro i m H ⟨rfl, hi, acc, L, iv, h⟩
  by_cases hlt : i < n
  · refine .inr ⟨(hw i acc L iv).go i H hlt h, Lx D Iv (i + 1), fun H' p => ⟨n - (i + 1), by omega, rfl, hlt, p⟩, fun x H' y => ?_⟩
    exact (hw i acc L iv).yl i H x H' (fun v H2 => g v (wipe σ ws) H2 fun σ2 H2 => wipe σ2 ws = wipe σ ws ∧ tt σ2 H2 fun b H3 =>
        if b = true then te σ2 H3 fun y H4 => ∃ zs, H4 D = some (.lst zs) ∧ zs.length < sizeLine ∧ Lx D Iv (i + 1) (upd H4 D (.lst (zs ++ [y]))) else Lx D Iv (i + 1) H3) hlt h y (hs i acc L hlt iv)
  · have e : i = n := by omega
    subst e
    exact .inl ⟨(hw i acc L iv).st H h, hd acc L H iv h⟩
/-- a turn's end: the element is kept -/
theorem lc_keep {D : Addr} {Iv : Nat → List PyData → List (As K) → Prop} {i : Nat} {acc : List PyData} (h : Sep N H) (t : Dat N y d) (s : Sub N (ld D acc :: L)) (hl : acc.length < sizeLine) (iv : Iv i (acc ++ [d]) L) : ∃ zs, H D = some (.lst zs) ∧ zs.length < sizeLine ∧ Lx D Iv i (upd H D (.lst (zs ++ [y]))) := by
  have g := s.ok h
  obtain ⟨zs, h1, h2⟩ := g.ldm List.mem_cons_self
  exact ⟨zs, h1, by rw [h2.length]; exact hl, _, _, iv, g.setD (h2.snoc (t.is h))⟩
theorem lc_skip {D : Addr} {Iv : Nat → List PyData → List (As K) → Prop} {i : Nat} {acc : List PyData} (h : Sep N H) (s : Sub N (ld D acc :: L)) (iv : Iv i acc L) : Lx D Iv i H := ⟨_, _, iv, s.ok h⟩
/-- [r z for z in ..], what stands beside unchanged -/
def Fl {α : Type} (zs : List α) (r : α → List PyData) (L : List (As K)) : Nat → List PyData → List (As K) → Prop := fun i acc L' => L' = L ∧ acc = (zs.take i).flatMap r
theorem flat_len {α : Type} (r : α → List PyData) (hr : ∀ z, (r z).length ≤ 1) : ∀ zs : List α, (zs.flatMap r).length ≤ zs.length
  | [] => Nat.le_refl _
  | z :: zs => by
    have := flat_len r hr zs
    have := hr z
    rw [List.flatMap_cons, List.length_append, List.length_cons]
    omega
theorem lc_flat {α : Type} {J : It} {zs : List α} {Z : α → (V → List (As K) → Prop) → Prop} {g : TG} {tt : TT} {te : TE} {ws : List Nat} {D : Addr} {Qd : Hp → Prop} (r : α → List PyData)
    (h : Sep (ld D [] :: L) H) (hw : ∀ acc, Wk J (ld D acc :: L) zs.length fun i q => ∀ z, zs[i]? = some z → Z z q)
    (hs : ∀ i z acc, zs[i]? = some z → (∀ d, r z = [d] → Fl zs r L (i + 1) (acc ++ [d]) L) → (r z = [] → Fl zs r L (i + 1) acc L) → acc.length ≤ i → Z z fun v M => ∀ H, Sep (M ++ ld D acc :: L) H → g v (wipe σ ws) H fun σ2 H2 => wipe σ2 ws = wipe σ ws ∧ tt σ2 H2 fun b H3 =>
      if b = true then te σ2 H3 fun y H4 => ∃ xs, H4 D = some (.lst xs) ∧ xs.length < sizeLine ∧ Lx D (Fl zs r L) (i + 1) (upd H4 D (.lst (xs ++ [y]))) else Lx D (Fl zs r L) (i + 1) H3)
    (hd : ∀ H, Sep (ld D (zs.flatMap r) :: L) H → Qd H) (hr : ∀ z, (r z).length ≤ 1 := by intro _; first | exact Nat.le_refl _ | (split <;> decide)) :
    ∃ W : Nat → Nat → Hp → Prop, (∃ m, W 0 m H) ∧ ∀ i m H, W i m H →
      (J.stop i H ∧ Qd H) ∨ (J.go i H ∧ ∃ Nx : Hp → Prop, (∀ H', Nx H' → ∃ m', m' < m ∧ W (i + 1) m' H') ∧ ∀ x H', J.yld i H x H' → g x (wipe σ ws) H' fun σ2 H2 => wipe σ2 ws = wipe σ ws ∧ tt σ2 H2 fun b H3 =>
        if b = true then te σ2 H3 fun y H4 => ∃ acc, H4 D = some (.lst acc) ∧ acc.length < sizeLine ∧ Nx (upd H4 D (.lst (acc ++ [y]))) else Nx H3) := by
  refine lc_wk (n := zs.length) (Y := fun i q => ∀ z, zs[i]? = some z → Z z q) (Fl zs r L) (fun i acc L' e => e.1 ▸ hw acc) h ⟨rfl, rfl⟩ (fun i acc L' hi e z hz => ?_) (fun acc L' H e h => ?_)
  · obtain ⟨rfl, rfl⟩ := e
    have e1 : zs.take (i + 1) = zs.take i ++ [z] := by rw [List.take_add_one, hz]; rfl
    refine hs i z _ hz (fun d hd => ⟨rfl, ?_⟩) (fun hd => ⟨rfl, ?_⟩) ?_
    · rw [e1, List.flatMap_append, List.flatMap_cons, hd]; rfl
    · rw [e1, List.flatMap_append, List.flatMap_cons, hd, List.flatMap_nil, List.append_nil, List.append_nil]
    · have := flat_len r hr (zs.take i)
      rw [List.length_take] at this
      omega
  · obtain ⟨rfl, rfl⟩ := e
    rw [List.take_length] at h
    exact hd H h
theorem flat_map {α : Type} (f : α → PyData) : ∀ zs : List α, zs.flatMap (fun z => [f z]) = zs.map f
  | [] => rfl
  | z :: zs => by rw [List.flatMap_cons, List.map_cons, flat_map f zs]; rfl
theorem flat_filter {α : Type} (p : α → Bool) (f : α → PyData) : ∀ zs : List α, zs.flatMap (fun z => if p z = true then [f z] else []) = (zs.filter p).map f
  | [] => rfl
  | z :: zs => by
    rw [List.flatMap_cons, flat_filter p f zs]
    cases e : p z with
    | true => rw [if_pos rfl, List.filter_cons_of_pos e, List.map_cons]; rfl
    | false => rw [if_neg Bool.false_ne_true, List.filter_cons_of_neg (by rw [e]; exact Bool.false_ne_true)]; rfl
theorem wk_range {lo : Int} : Wk (Itr lo n) L (List.range n).length fun i q => ∀ z, (List.range n)[i]? = some z → (fun z q => q (V.int (lo + (z : Nat))) ([] : List (As K))) z q := by
  have w := wk_rng (K := K) (L := L) (n := n) (lo := lo)
  rw [List.length_range]
  refine w.mono fun i q hi k => k i ?_
  rw [List.getElem?_range hi]
theorem ims_bl {bs : List Bool} (h : ImAll K H xs (bs.map PyData.bool)) : xs = bs.map V.bl := by
  induction bs generalizing xs with
  | nil => cases h; rfl
  | cons b bs ih =>
    cases h with
    | cons a r => cases im_bl a; rw [ih r]; rfl
theorem ims_int {ns : List Int} (h : ImAll K H xs (ns.map PyData.int)) : xs = ns.map V.int := by
  induction ns generalizing xs with
  | nil => cases h; rfl
  | cons b bs ih =>
    cases h with
    | cons a r => cases im_int a; rw [ih r]; rfl
theorem ims_str {ns : List Str} (h : ImAll K H xs (ns.map PyData.str)) : xs = ns.map V.str := by
  induction ns generalizing xs with
  | nil => cases h; rfl
  | cons b bs ih =>
    cases h with
    | cons a r => cases im_str a; rw [ih r]; rfl
theorem Sep.sqi {ns : List Int} (h : Sep L H) (m : ld a (ns.map PyData.int) ∈ L) : SqL K H a (ns.map V.int) := by
  obtain ⟨xs, h1, h2⟩ := h.ldm m
  cases ims_int h2
  exact sql_of h1
theorem k_allS {α : Type} {zs : List α} {f : α → Bool} (h : Sep L H) (m : ld a (zs.map fun z => PyData.bool (f z)) ∈ L) (q : Q (.bl (zs.all f)) H) : rAll K [.ref a] H Q := by
  obtain ⟨xs, h1, h2⟩ := h.ldm m
  have e : (zs.map fun z => PyData.bool (f z)) = (zs.map f).map PyData.bool := by rw [List.map_map]; rfl
  rw [e] at h2
  cases ims_bl h2
  refine k_all (sql_of h1) ?_
  have e2 : ((zs.map f).all id) = zs.all f := by rw [List.all_map]; rfl
  rw [e2]
  exact q
end
end Ls
namespace Ls
open PySem PySem.Spec PyProof.Rows L2
section
variable {K : PySem.W.Frag} {A B : As K} {L L' M N : List (As K)} {H H' : Hp} {a p l d c : Addr} {o u : HO} {v x y : V} {e : PyData} {vs xs ys : List V} {ds es : List PyData} {Q : VK} {E : XK} {σ : L2.St} {i j : Int} {n : Nat} {b : Bool}
/-- the draws' dict, whatever its state -/
def dr (d : Addr) : As K := ⟨fun _ s H => ∃ c, (∀ b, s b ↔ b = d ∨ b = c) ∧ Draw K H d c, fun ⟨c, e, n, r, s, ns, h1, h2, h3⟩ k _ => ⟨c, e, n, r, s, ns, (k d ((e d).mpr (.inl rfl))).trans h1, (k c ((e c).mpr (.inr rfl))).trans h2, h3⟩, fun ⟨c, e, n, r, s, ns, h1, h2, h3⟩ b z => by
  rcases (e b).mp z with rfl | rfl
  · exact ⟨_, h1, rfl⟩
  · exact ⟨_, h2, rfl⟩, fun h _ => h⟩
theorem Sep.draw (h : Sep L H) (m : dr d ∈ L) : ∃ c, Draw K H d c ∧ ∀ H', Keep d H H' → Draw K H' d c → Sep L H' := by
  obtain ⟨W, s, r, ⟨c, e, D⟩, dj, al, k⟩ := h.at m
  refine ⟨c, D, fun H' kp D' => k ⟨c, e, D'⟩ dj (fun a z => ?_) ⟨D.tp kp, fun a f e2 => kp a _ (D.ne e2 (by intro kvs z; cases z)) e2⟩⟩
  obtain ⟨o, ho, _⟩ := al a z
  rw [ho]
  exact kp a o (fun y => dj a ((e a).mpr (.inl y)) z) ho
theorem Sep.drawNew (h : Sep L H) (hd : H d = none) (hc : H c = none) (s : Same H H') (D : Draw K H' d c) : Sep (dr d :: L) H' := by
  obtain ⟨W, q0, f, z0⟩ := h
  have free : ∀ b, H b = none → ¬ q0 b := fun b hb y => by
    obtain ⟨o, ho, _⟩ := z0.al b y
    rw [hb] at ho
    cases ho
  have fw : ∀ b o, W b o → H b ≠ none := fun b o y e => by
    rw [(f b o y).1] at e
    cases e
  refine ⟨W, fun b => (b = d ∨ b = c) ∨ q0 b, fun b o y => ⟨s _ _ (f b o y).1, (f b o y).2.1, fun z => ?_⟩, fun b => b = d ∨ b = c, q0, fun b x y => ?_, fun b => Iff.rfl, ⟨c, fun b => Iff.rfl, D⟩, z0.st (fun a y => ?_) (Tq.same s)⟩
  · rcases z with (rfl | rfl) | z
    · exact fw _ _ y hd
    · exact fw _ _ y hc
    · exact (f b o y).2.2 z
  · rcases x with rfl | rfl
    · exact free _ hd y
    · exact free _ hc y
  · obtain ⟨o, ho, _⟩ := z0.al a y
    rw [s _ _ ho, ho]
theorem use_pickS {many : Int} (h : Sep L H) (m : dr d ∈ L) (h1 : 0 < many) (h2 : many < 2 ^ 200) (q : ∀ r H', Sep L H' → 0 ≤ r → r < many → Q (.int r) H') : spPick K ([.ref d, .int many] ++ []) H Q E := by
  obtain ⟨c, D, k⟩ := h.draw m
  exact use_pick D h1 h2 fun r H' k1 D1 r0 r1 => q r H' (k H' k1 D1) r0 r1
theorem use_beginS {ns : List Int} (h : Sep L H) (hs : SqL K H a (ns.map V.int)) (hl : ns.length ≤ 63) (q : ∀ d H', Sep (dr d :: L) H' → Q (.ref d) H') : spBegin K ([.ref a] ++ []) H Q E :=
  ⟨a, ns, rfl, hs, hl, fun d c H' hd hc s D => q d H' (h.drawNew hd hc s D)⟩
theorem use_ofD (h : Sep L H) (m : dr d ∈ L) (m2 : ld l ds ∈ L) (h1 : 0 < ds.length) (h2 : ds.length < 2 ^ 100) (q : ∀ e x H', e ∈ ds → Sep (im x e :: L) H' → Q x H') : spOf K ([.ref d, .ref l] ++ []) H Q E := by
  obtain ⟨xs, g1, g2⟩ := h.ldm m2
  have hl := g2.length
  obtain ⟨c, D, k⟩ := h.draw m
  refine use_of D (sql_of g1) (by omega) (by omega) fun x H' k1 D1 hx => ?_
  obtain ⟨i, hi⟩ := List.getElem?_of_mem hx
  obtain ⟨e, he, hm⟩ := g2.get hi
  exact q e x H' (List.mem_of_getElem? he) (Sep.im_iff.mpr ⟨hm.mono (D.tp k1), k H' k1 D1⟩)
def isI : PyData → Bool
  | .int _ => true
  | _ => false
def isS : PyData → Bool
  | .str _ => true
  | _ => false
theorem use_ofI (h : Sep L H) (m : dr d ∈ L) (m2 : ld l ds ∈ L) (hi : ds.all isI = true) (h1 : 0 < ds.length) (h2 : ds.length < 2 ^ 100) (q : ∀ n H', PyData.int n ∈ ds → Sep L H' → Q (.int n) H') : spOf K ([.ref d, .ref l] ++ []) H Q E := by
  refine use_ofD h m m2 h1 h2 fun e x H' he h' => ?_
  obtain ⟨a, h'⟩ := Sep.im_iff.mp h'
  have z := List.all_eq_true.mp hi e he
  cases e with
  | int n => cases im_int a; exact q n H' he h'.tail
  | _ => cases z
theorem use_ofS (h : Sep L H) (m : dr d ∈ L) (m2 : ld l ds ∈ L) (hi : ds.all isS = true) (h1 : 0 < ds.length) (h2 : ds.length < 2 ^ 100) (q : ∀ n H', PyData.str n ∈ ds → Sep L H' → Q (.str n) H') : spOf K ([.ref d, .ref l] ++ []) H Q E := by
  refine use_ofD h m m2 h1 h2 fun e x H' he h' => ?_
  obtain ⟨a, h'⟩ := Sep.im_iff.mp h'
  have z := List.all_eq_true.mp hi e he
  cases e with
  | str n => cases im_str a; exact q n H' he h'.tail
  | _ => cases z
theorem al_I (h : Sep L H) (hp : H p = none) (e : upd H p (.tup xs) = H') (t : DatAll L xs ds) : Sep (im (.ref p) (.tuple ds) :: L) H' := e ▸ h.newI hp t
theorem al_T (h : Sep L H) (hp : H p = none) (e : upd H p (.tup xs) = H') : Sep (tu p xs :: L) H' := e ▸ h.newT hp
theorem al_L (h : Sep L H) (hp : H p = none) (e : upd H p (.lst xs) = H') (t : DatAll L xs ds) : Sep (ld p ds :: L) H' := e ▸ h.newD hp t
theorem al_O (h : Sep L H) (hp : H p = none) (e : upd H p o = H') (n : Nt o = true) : Sep (ob p o :: L) H' := e ▸ h.new hp n
theorem k_cutS {t u : TS} {D : Ends} (Iv : L2.St → List (As K) → Prop) (h1 : t { D with nx := fun σ H => ∃ L, Iv σ L ∧ Sep L H } σ H) (h2 : ∀ σ' L H', Iv σ' L → Sep L H' → u D σ' H') : tCut t u D σ H :=
  k_cut (fun σ H => ∃ L, Iv σ L ∧ Sep L H) h1 fun σ' H' ⟨L, iv, h⟩ => h2 σ' L H' iv h
theorem k_joinS {te : TE} (Iv : V → List (As K) → Prop) (h : te σ H fun v H => ∃ L, Iv v L ∧ Sep L H) (k : ∀ v L H', Iv v L → Sep L H' → Q v H') : tJ te σ H Q :=
  k_join (fun v H => ∃ L, Iv v L ∧ Sep L H) h fun v H' ⟨L, iv, h⟩ => k v L H' iv h
end
end Ls
namespace Ls
open PySem PySem.Spec PyProof.Rows L2
section
variable {K : PySem.W.Frag} {L : List (As K)} {H : Hp} {a : Addr} {xs : List V} {ds : List PyData} {R : Addr → Prop}
theorem k_itlD (h : Sep L H) (m : ld a ds ∈ L) (q : R a) : ∃ b, V.ref a = .ref b ∧ (∃ xs, SqL K H b xs) ∧ R b := by
  obtain ⟨xs, h1, _⟩ := h.ldm m
  exact ⟨a, rfl, ⟨xs, sql_of h1⟩, q⟩
theorem k_itlO (h : Sep L H) (m : ob a (.lst xs) ∈ L) (q : R a) : ∃ b, V.ref a = .ref b ∧ (∃ xs, SqL K H b xs) ∧ R b := ⟨a, rfl, ⟨xs, sql_of (h.obm m)⟩, q⟩
theorem k_ittI (h : Sep L H) (m : im (.ref a) (.tuple ds) ∈ L) (q : R a) : ∃ b, V.ref a = .ref b ∧ (∃ xs, SqT K H b xs) ∧ R b := by
  obtain ⟨a', xs, e, h1, h2⟩ := im_tup (h.imm m)
  cases e
  exact ⟨a, rfl, ⟨xs, h1⟩, q⟩
end
end Ls
namespace Ls
open PySem PySem.Spec PyProof.Rows L2
def gFld (K : PySem.W.Frag) (to : TE) (f : Str) : TG := fun v σ H R => to σ H fun x H2 => ∃ a C dx fs, x = .ref a ∧ H2 a = some (.ins C dx fs) ∧ Cls K C ∧ NoAttr K C f ∧ fs.length < 1000 ∧ R σ (upd H2 a (.ins C dx (putF f v fs)))
def tMethN (C : Addr) (m : Str) (n j : Nat) (sp : Sp) (gV : List V → List V → List V) (E : XK) (ta : TE) (t tk : TA) : TE := fun σ H Q => ta σ H fun x H1 => ∃ a dx fs, x = .ref a ∧ H1 a = some (.ins C dx fs) ∧ fs.lookup m = none ∧
  t σ H1 fun vs H2 => tk σ H2 fun zs H3 => vs.length + 1 = n ∧ zs.length = j ∧ sp (gV (.ref a :: vs) zs) H3 Q E
/-- the tuple at a, each item in a new pair -/
def IteT (K : PySem.W.Frag) (a : Addr) : It :=
  ⟨fun i H => ∃ (xs : List V) (x : V), SqT K H a xs ∧ xs[i]? = some x, fun i H v H' => ∃ T x, v = .ref T ∧ H T = none ∧ H' = upd H T (.tup [.int (i : Nat), x]) ∧ ∀ xs, SqT K H a xs → xs[i]? = some x, fun i H => ∃ xs : List V, SqT K H a xs ∧ xs.length ≤ i⟩
/-- a list's or a tuple's items, each in a new pair -/
def iEnumU (K : PySem.W.Frag) (ta : TA) : TI := fun σ H R => ta σ H fun vs H1 => ∃ a, vs = [.ref a] ∧ ((∃ xs, SqL K H1 a xs ∧ R (Ite K a) H1) ∨ ∃ xs, SqT K H1 a xs ∧ R (IteT K a) H1)
def tJoinU (K : PySem.W.Frag) (to te : TE) : TE := tM1 (fun x xs H Q => ∃ a p, ∃ ys : List Str, x = .str a ∧ xs = [.ref p] ∧ (SqL K H p (ys.map V.str) ∨ SqT K H p (ys.map V.str)) ∧ (ys.map (·.length)).sum + ys.length * a.length ≤ 16777216 ∧ Q (.str (Txt.join a ys)) H) to te
theorem pe_joinU {X : Cx} {o e : Expr} {to te : TE} {apos pos : Pos} (K : PySem.W.Frag) (hK : X.K = K) (ho : PE X o to) (he : PE X e te) (hs : starEach [e] X.env = [(false, eval e X.env)] := by rfl) (hb : attributeBase o "join" X.env (eval o X.env) = eval o X.env := by rfl) (hl : (apos.endLine == pos.line) = true := by rfl) :
    PE X (.Call (.Attribute o "join" apos) [e] [] pos) (tJoinU K to te) := by
  subst hK
  exact L2.pe_join ho he hs hb hl
end Ls
namespace Ls
open PySem PySem.Spec PyProof.Rows L2
section
variable {K : PySem.W.Frag} {A B : As K} {L L' M N : List (As K)} {H H' : Hp} {a p l dx C : Addr} {o u : HO} {v x y : V} {d e : PyData} {vs xs ys : List V} {ds es : List PyData} {Q : VK} {D : Ends} {σ : L2.St} {i j : Int} {n : Nat} {b : Bool} {fs gs : List (Str × V)} {f m : Str} {sp : Sp} {E : XK} {dvs : List V} {ta te tv : TE} {t tk : TA}
def inst (a C : Addr) (fs : List (Str × V)) : As K := ⟨fun _ s H => ∃ dx, (∀ b, s b ↔ b = a ∨ b = dx) ∧ H a = some (.ins C dx fs) ∧ H dx = some (.own a), fun ⟨dx, e, h1, h2⟩ k _ => ⟨dx, e, (k a ((e a).mpr (.inl rfl))).trans h1, (k dx ((e dx).mpr (.inr rfl))).trans h2⟩, fun ⟨dx, e, h1, h2⟩ b z => by
  rcases (e b).mp z with rfl | rfl
  · exact ⟨_, h1, rfl⟩
  · exact ⟨_, h2, rfl⟩, fun h _ => h⟩
theorem Sep.insm (h : Sep L H) (m : inst a C fs ∈ L) : ∃ dx, H a = some (.ins C dx fs) := by
  obtain ⟨W, s, ⟨dx, _, h1, _⟩, _⟩ := h.the m
  exact ⟨dx, h1⟩
theorem Sep.setI (h : Sep (inst a C fs :: L) H) (e : H a = some (.ins C dx fs)) : Sep (inst a C gs :: L) (upd H a (.ins C dx gs)) := by
  obtain ⟨W, s, r, ⟨dx', es, h1, h2⟩, dj, _, k⟩ := h.hd
  rw [e] at h1
  cases h1
  have ne : dx ≠ a := fun z => by
    rw [z, e] at h2
    cases h2
  exact k (s' := s) ⟨dx, es, upd_same, by rw [upd_ne ne]; exact h2⟩ dj (fun b z => upd_ne fun y => dj b ((es b).mpr (.inl y)) z) (tp_upd e rfl)
theorem Sep.setIR (h : Sep L H) (r : Rep L (inst a C fs) (inst a C gs) M) (e : H a = some (.ins C dx fs)) : Sep M (upd H a (.ins C dx gs)) := by
  obtain ⟨N, h1, h2⟩ := Sep.rep r
  exact h2 _ ((h1 _ h).setI e)
theorem Sep.newInst (h : Sep L H) (ha : H a = none) (hd : H dx = none) (ne : dx ≠ a) : Sep (inst a C fs :: L) (upd (upd H dx (.own a)) a (.ins C dx fs)) := by
  have h1 := h.new (o := .own a) hd rfl
  have ha' : upd H dx (.own a) a = none := by rw [upd_ne (Ne.symm ne)]; exact ha
  have h2 := h1.new (o := .ins C dx fs) ha' rfl
  obtain ⟨W, s, f, s1, s2, dj, un, ⟨e1, g1, _⟩, t1, t2, dj2, un2, ⟨e2, g2, _⟩, h3⟩ := h2
  refine ⟨W, s, f, fun b => s1 b ∨ t1 b, t2, fun b x y => ?_, fun b => ?_, ⟨dx, fun b => ?_, g1, g2⟩, h3⟩
  · rcases x with x | x
    · exact dj b x ((un2 b).mpr (.inr y))
    · exact dj2 b x y
  · rw [un b, un2 b, or_assoc]
  · show s1 b ∨ t1 b ↔ _
    rw [e1 b, e2 b]
theorem k_fldt {R : V → Prop} (h : ∃ dx, H a = some (.ins C dx fs)) (c : Cls K C) (n : NoAttr K C f) (e : fs.lookup f = some v) (q : R v) : ∃ a' C' dx fs v', V.ref a = .ref a' ∧ H a' = some (.ins C' dx fs) ∧ Cls K C' ∧ NoAttr K C' f ∧ fs.lookup f = some v' ∧ R v' := by
  obtain ⟨dx, h⟩ := h
  exact ⟨a, C, dx, fs, v, rfl, h, c, n, e, q⟩
theorem k_fld (h : ta σ H fun x H1 => ∃ a C dx fs v, x = .ref a ∧ H1 a = some (.ins C dx fs) ∧ Cls K C ∧ NoAttr K C f ∧ fs.lookup f = some v ∧ Q v H1) : tFld K ta f σ H Q := h
theorem k_fldS {R : V → Prop} (h : Sep L H) (m : inst a C fs ∈ L) (c : Cls K C) (n : NoAttr K C f) (e : fs.lookup f = some v) (q : R v) : ∃ a' C' dx fs v', V.ref a = .ref a' ∧ H a' = some (.ins C' dx fs) ∧ Cls K C' ∧ NoAttr K C' f ∧ fs.lookup f = some v' ∧ R v' := k_fldt (h.insm m) c n e q
theorem k_sfld (h : tv σ H fun y H1 => ta σ H1 fun x H2 => ∃ a C dx fs, x = .ref a ∧ H2 a = some (.ins C dx fs) ∧ Cls K C ∧ NoAttr K C f ∧ fs.length < 1000 ∧ D.nx σ (upd H2 a (.ins C dx (putF f y fs)))) : sFld K ta tv f D σ H := h
theorem k_gfld {R : L2.St → Hp → Prop} (h : ta σ H fun x H2 => ∃ a C dx fs, x = .ref a ∧ H2 a = some (.ins C dx fs) ∧ Cls K C ∧ NoAttr K C f ∧ fs.length < 1000 ∧ R σ (upd H2 a (.ins C dx (putF f v fs)))) : gFld K ta f v σ H R := h
theorem k_putS' {R : Hp → Prop} (h : Sep L H) (r : Rep L (inst a C fs) (inst a C gs) M) (c : Cls K C) (n : NoAttr K C f) (hl : fs.length < 1000) (e : putF f y fs = gs) (q : ∀ H', Sep M H' → R H') : ∃ a' C' dx fs, V.ref a = .ref a' ∧ H a' = some (.ins C' dx fs) ∧ Cls K C' ∧ NoAttr K C' f ∧ fs.length < 1000 ∧ R (upd H a' (.ins C' dx (putF f y fs))) := by
  obtain ⟨dx, h1⟩ := h.insm r.mem
  subst e
  exact ⟨a, C, dx, fs, rfl, h1, c, n, hl, q _ (h.setIR r h1)⟩
theorem k_sfldaug {rd : V → V → Hp → VK → Prop} (h : ta σ H fun x H1 => ∃ a C dx fs v, x = .ref a ∧ H1 a = some (.ins C dx fs) ∧ Cls K C ∧ NoAttr K C f ∧ fs.lookup f = some v ∧
  tv σ H1 fun y H2 => rd v y H2 fun z H3 => ∃ dx' fs', H3 a = some (.ins C dx' fs') ∧ fs'.length < 1000 ∧ D.nx σ (upd H3 a (.ins C dx' (putF f z fs')))) : sFldAug K ta tv rd f D σ H := h
theorem k_augS {R : Hp → Prop} (h : Sep L H) (r : Rep L (inst a C fs) (inst a C gs) M) (hl : fs.length < 1000) (e : putF f y fs = gs) (q : ∀ H', Sep M H' → R H') : ∃ dx' fs', H a = some (.ins C dx' fs') ∧ fs'.length < 1000 ∧ R (upd H a (.ins C dx' (putF f y fs'))) := by
  obtain ⟨dx, h1⟩ := h.insm r.mem
  subst e
  exact ⟨dx, fs, h1, hl, q _ (h.setIR r h1)⟩
theorem k_inadd {R : V → Hp → Prop} (q : R (.int (i + j)) H) : rAdd (.int i) (.int j) H R := ⟨i, j, rfl, rfl, q⟩
theorem k_insub {R : V → Hp → Prop} (q : R (.int (i - j)) H) : rSub (.int i) (.int j) H R := ⟨i, j, rfl, rfl, q⟩
theorem k_meth (h : ta σ H fun x H1 => ∃ a dx fs, x = .ref a ∧ H1 a = some (.ins C dx fs) ∧ fs.lookup m = none ∧ t σ H1 fun vs H2 => sp (x :: (vs ++ dvs)) H2 Q E) : tMeth C m sp dvs E ta t σ H Q := h
theorem k_methN {gV : List V → List V → List V} {jn : Nat} (h : ta σ H fun x H1 => ∃ a dx fs, x = .ref a ∧ H1 a = some (.ins C dx fs) ∧ fs.lookup m = none ∧
  t σ H1 fun vs H2 => tk σ H2 fun zs H3 => vs.length + 1 = n ∧ zs.length = jn ∧ sp (gV (.ref a :: vs) zs) H3 Q E) : tMethN C m n jn sp gV E ta t tk σ H Q := h
theorem k_recv {R : Addr → Prop} (h : ∃ dx fs, H a = some (.ins C dx fs) ∧ fs.lookup m = none) (q : R a) : ∃ a' dx fs, V.ref a = .ref a' ∧ H a' = some (.ins C dx fs) ∧ fs.lookup m = none ∧ R a' := by
  obtain ⟨dx, fs, h1, h2⟩ := h
  exact ⟨a, dx, fs, rfl, h1, h2, q⟩
theorem k_recvI {R : Addr → Prop} (h : Sep L H) (w : inst a C fs ∈ L) (e : fs.lookup m = none) (q : R a) : ∃ a' dx fs, V.ref a = .ref a' ∧ H a' = some (.ins C dx fs) ∧ fs.lookup m = none ∧ R a' := by
  obtain ⟨dx, h1⟩ := h.insm w
  exact k_recv ⟨dx, fs, h1, e⟩ q
theorem k_make (h : t σ H fun vs H1 => ∀ x dx, H1 x = none → H1 dx = none → dx ≠ x → sp (.ref x :: (vs ++ dvs)) (upd (upd H1 dx (.own x)) x (.ins C dx [])) (fun v H2 => v = .non ∧ Q (.ref x) H2) E) : tMake C sp dvs E t σ H Q := h
def Lets (L : List (As K)) (C : Addr) (w : Str) (E : XK) : Prop := ∀ d H', Sep (ob d (.xd [("word", .str w)]) :: L) H' → E (.ref C) (some d) H'
end
end Ls
namespace Ls
open PySem PySem.Spec PyProof.Rows L2
section
variable {K : PySem.W.Frag} {L : List (As K)} {H H' : Hp} {xs : List V} {ds : List PyData} {o : HO} {kvs : List (Key × V)}
def updT (H : Hp) (p : Addr) (xs : List V) : Hp := upd H p (.tup xs)
def updL (H : Hp) (p : Addr) (xs : List V) : Hp := upd H p (.lst xs)
def updK (H : Hp) (p : Addr) (kvs : List (Key × V)) : Hp := upd H p (.dK kvs)
theorem updT_eq (p : Addr) : upd H p (.tup xs) = updT H p xs := rfl
theorem updL_eq (p : Addr) : upd H p (.lst xs) = updL H p xs := rfl
theorem updK_eq (p : Addr) : upd H p (.dK kvs) = updK H p kvs := rfl
variable {p : Addr}
theorem ar_I (h : Sep L H) (hp : H p = none) (e : updT H p xs = H') (t : DatAll L xs ds) : Sep (im (.ref p) (.tuple ds) :: L) H' := al_I h hp e t
theorem ar_T (h : Sep L H) (hp : H p = none) (e : updT H p xs = H') : Sep (tu p xs :: L) H' := al_T h hp e
theorem ar_L (h : Sep L H) (hp : H p = none) (e : updL H p xs = H') (t : DatAll L xs ds) : Sep (ld p ds :: L) H' := al_L h hp e t
theorem ar_O (h : Sep L H) (hp : H p = none) (e : updL H p xs = H') : Sep (ob p (.lst xs) :: L) H' := al_O h hp e rfl
theorem ar_K (h : Sep L H) (hp : H p = none) (e : updK H p kvs = H') : Sep (ob p (.dK kvs) :: L) H' := al_O h hp e rfl
end
end Ls
namespace Ls
theorem andThen {a b : Prop} (h : a) (k : a → b) : b := k h
end Ls
namespace Ls
open PySem PySem.Spec PyProof.Rows L2
section
variable {X : Cx}
/-- the items of a list or a tuple -/
def iSeqU (K : PySem.W.Frag) (te : TE) : TI := fun σ H R => te σ H fun x H1 => ∃ a, x = .ref a ∧ (((∃ xs, SqL K H1 a xs) ∧ R (Itl K a) H1) ∨ ((∃ xs, SqT K H1 a xs) ∧ R (Itt K a) H1))
theorem pi_seqU {tg e : Expr} {te : TE} (K : PySem.W.Frag) (hK : X.K = K) (he : PE X e te) : PI X tg e (iSeqU K te) := by
  subst hK
  refine ⟨fun pins s σ H R I h => ?_⟩
  refine thn (he.run pins s σ H _ I h) fun v s1 ⟨x, H1, I1, r1, a, ex, q⟩ => ?_
  subst ex
  obtain rfl : v = Value.ref a := r1
  have fp : ∀ b ∈ [s1.heap.objs.size], FpOk X pins H1 b := fun b hb => by
    rw [List.mem_singleton.mp hb]
    exact I1.fpOk (Nat.le_refl _) (I1.hok.fresh (Nat.le_refl _))
  rcases q with ⟨⟨xs, hq⟩, q⟩ | ⟨⟨xs, hq⟩, q⟩
  · obtain ⟨its, rv, p, hz⟩ := I1.list hq
    refine wpAny_pyIter_list p.isList ?_
    exact ⟨s1.heap.objs.size, [s1.heap.objs.size], _, _, H1, rfl, I1.kept (t' := s1.toks) fun b o z => Heap.get?_push_of_some _ z, turn_list a _, ⟨_, Heap.get?_push_size _ rfl, rfl, rfl⟩, fp, q⟩
  · obtain ⟨its, rv, p, hz⟩ := I1.tuple hq
    refine wpAny_pyIter_tuple (show s1.heap.IsTuple a its.toArray from p) ?_
    exact ⟨s1.heap.objs.size, [s1.heap.objs.size], _, _, H1, rfl, I1.kept (t' := s1.toks) fun b o z => Heap.get?_push_of_some _ z, turn_tuple a _, ⟨_, Heap.get?_push_size _ rfl, rfl, rfl⟩, fp, q⟩
end
end Ls
namespace Ls
open PySem PySem.Spec PyProof.Rows L2
section
variable {K : PySem.W.Frag} {A B : As K} {L L' M N : List (As K)} {H H' : Hp} {a p l dx C : Addr} {o u : HO} {v x y : V} {d e : PyData} {vs xs ys : List V} {ds es : List PyData} {Q : VK} {D : Ends} {σ : L2.St} {i j : Int} {n : Nat} {b : Bool} {ta te tv to : TE} {t tk : TA}
theorem k_joinU (h : to σ H fun x H1 => (∃ a, x = .str a) ∧ te σ H1 fun y H2 => ∃ a p, ∃ ys : List Str, x = .str a ∧ [y] = [.ref p] ∧ (SqL K H2 p (ys.map V.str) ∨ SqT K H2 p (ys.map V.str)) ∧ (ys.map (·.length)).sum + ys.length * a.length ≤ 16777216 ∧ Q (.str (Txt.join a ys)) H2) : tJoinU K to te σ H Q := h
theorem k_strX {z : Str} {P : Prop} (h : P) : (∃ a, V.str z = .str a) ∧ P := ⟨⟨z, rfl⟩, h⟩
theorem k_glueS {z : Str} {zs : List Str} {R : Str → List Str → Prop} (h : Sep L H) (m : ld p (zs.map PyData.str) ∈ L) (hl : (zs.map (·.length)).sum + zs.length * z.length ≤ 16777216) (q : R z zs) : ∃ a p', ∃ ys : List Str, V.str z = .str a ∧ [V.ref p] = [.ref p'] ∧ (SqL K H p' (ys.map V.str) ∨ SqT K H p' (ys.map V.str)) ∧ (ys.map (·.length)).sum + ys.length * a.length ≤ 16777216 ∧ R a ys := by
  obtain ⟨xs, h1, h2⟩ := h.ldm m
  cases ims_str h2
  exact ⟨z, p, zs, rfl, rfl, .inl (sql_of h1), hl, q⟩
theorem k_iseq {te : TE} {R : It → Hp → Prop} (h : te σ H fun x H1 => ∃ a, x = .ref a ∧ (((∃ xs, SqL K H1 a xs) ∧ R (Itl K a) H1) ∨ ((∃ xs, SqT K H1 a xs) ∧ R (Itt K a) H1))) : iSeqU K te σ H R := h
theorem k_seqD {R R' : Addr → Prop} (h : Sep L H) (m : ld a ds ∈ L) (q : R a) : ∃ b, V.ref a = .ref b ∧ (((∃ xs, SqL K H b xs) ∧ R b) ∨ ((∃ xs, SqT K H b xs) ∧ R' b)) := by
  obtain ⟨xs, h1, _⟩ := h.ldm m
  exact ⟨a, rfl, .inl ⟨⟨xs, sql_of h1⟩, q⟩⟩
theorem k_seqO {R R' : Addr → Prop} (h : Sep L H) (m : ob a (.lst xs) ∈ L) (q : R a) : ∃ b, V.ref a = .ref b ∧ (((∃ xs, SqL K H b xs) ∧ R b) ∨ ((∃ xs, SqT K H b xs) ∧ R' b)) :=
  ⟨a, rfl, .inl ⟨⟨xs, sql_of (h.obm m)⟩, q⟩⟩
theorem k_seqI {R R' : Addr → Prop} (h : Sep L H) (m : im (.ref a) (.tuple ds) ∈ L) (q : R' a) : ∃ b, V.ref a = .ref b ∧ (((∃ xs, SqL K H b xs) ∧ R b) ∨ ((∃ xs, SqT K H b xs) ∧ R' b)) := by
  obtain ⟨a', xs, e, h1, h2⟩ := im_tup (h.imm m)
  cases e
  exact ⟨a, rfl, .inr ⟨⟨xs, h1⟩, q⟩⟩
theorem k_enum {R : It → Hp → Prop} (h : t σ H fun vs H1 => ∃ a, vs = [.ref a] ∧ ((∃ xs, SqL K H1 a xs ∧ R (Ite K a) H1) ∨ ∃ xs, SqT K H1 a xs ∧ R (IteT K a) H1)) : iEnumU K t σ H R := h
theorem k_enD {R R' : Addr → Prop} (h : Sep L H) (m : ld a ds ∈ L) (q : R a) : ∃ b, [V.ref a] = [.ref b] ∧ ((∃ xs, SqL K H b xs ∧ R b) ∨ ∃ xs, SqT K H b xs ∧ R' b) := by
  obtain ⟨xs, h1, _⟩ := h.ldm m
  exact ⟨a, rfl, .inl ⟨xs, sql_of h1, q⟩⟩
theorem k_enO {R R' : Addr → Prop} (h : Sep L H) (m : ob a (.lst xs) ∈ L) (q : R a) : ∃ b, [V.ref a] = [.ref b] ∧ ((∃ xs, SqL K H b xs ∧ R b) ∨ ∃ xs, SqT K H b xs ∧ R' b) := ⟨a, rfl, .inl ⟨xs, sql_of (h.obm m), q⟩⟩
theorem k_enI {R R' : Addr → Prop} (h : Sep L H) (m : im (.ref a) (.tuple ds) ∈ L) (q : R' a) : ∃ b, [V.ref a] = [.ref b] ∧ ((∃ xs, SqL K H b xs ∧ R b) ∨ ∃ xs, SqT K H b xs ∧ R' b) := by
  obtain ⟨a', xs, e, h1, h2⟩ := im_tup (h.imm m)
  cases e
  exact ⟨a, rfl, .inr ⟨xs, h1, q⟩⟩
theorem k_tupleS (h : Sep L H) (m : ld a ds ∈ L) (q : ∀ p H', Sep (im (.ref p) (.tuple ds) :: L) H' → Q (.ref p) H') : rTupleU K [.ref a] H Q := by
  obtain ⟨xs, h1, h2⟩ := h.ldm m
  refine ⟨a, xs, rfl, .inl ⟨sql_of h1, fun p hp => q p _ (Sep.im_iff.mpr ⟨?_, h.same (same_new hp)⟩)⟩⟩
  exact .tup (sqt_of upd_same) (h2.mono (Tp.new hp))
theorem k_listS (h : Sep L H) (m : ld a ds ∈ L) (q : ∀ p H', Sep (ld p ds :: L) H' → Q (.ref p) H') : rListU K [.ref a] H Q := by
  obtain ⟨xs, h1, h2⟩ := h.ldm m
  refine ⟨a, xs, rfl, .inl (sql_of h1), fun p hp => q p _ ?_⟩
  have z := (h.newD (p := p) (xs := []) (ds := []) hp .nil).setD (xs := xs) (es := ds) (h2.mono (Tp.new hp))
  have e : upd (upd H p (.lst [])) p (.lst xs) = upd H p (.lst xs) := by
    funext b
    by_cases hb : b = p
    · rw [hb, upd_same, upd_same]
    · rw [upd_ne hb, upd_ne hb, upd_ne hb]
  rw [e] at z
  exact z
theorem k_listO (h : Sep L H) (m : ob a (.lst xs) ∈ L) (q : ∀ p H', Sep (ob p (.lst xs) :: L) H' → Q (.ref p) H') : rListU K [.ref a] H Q := ⟨a, xs, rfl, .inl (sql_of (h.obm m)), fun p hp => q p _ (h.new hp rfl)⟩
theorem k_sumS {α : Type} {zs : List α} {f : α → Int} (h : Sep L H) (m : ld a (zs.map fun z => PyData.int (f z)) ∈ L) (q : Q (.int (zs.map f).sum) H) : rSum K [.ref a] H Q := by
  obtain ⟨xs, h1, h2⟩ := h.ldm m
  have e : (zs.map fun z => PyData.int (f z)) = (zs.map f).map PyData.int := by rw [List.map_map]; rfl
  rw [e] at h2
  cases ims_int h2
  exact ⟨_, _, rfl, sql_of h1, q⟩
end
end Ls
namespace Ls
open PySem PySem.Spec PyProof.Rows L2
section
variable {K : PySem.W.Frag} {A B : As K} {L L' M N : List (As K)} {H H' : Hp} {a p l : Addr} {v x y : V} {d e : PyData} {vs xs ys : List V} {ds es : List PyData} {Q : VK} {σ : L2.St} {i j : Int} {n : Nat}
theorem k_min2 (q : Q (.int (if j < i then j else i)) H) : rMinU K [.int i, .int j] H Q := .inl ⟨i, j, rfl, q⟩
theorem k_max2 (q : Q (.int (if j > i then j else i)) H) : rMaxU K [.int i, .int j] H Q := .inl ⟨i, j, rfl, q⟩
theorem k_addD (h : Sep L H) (m : ld a ds ∈ L) (m2 : ld l es ∈ L) (hl : ds.length + es.length ≤ sizeLine) (q : ∀ p H', Sep (ld p (ds ++ es) :: L) H' → Q (.ref p) H') : rAddU K (.ref a) (.ref l) H Q := by
  obtain ⟨xs, h1, h2⟩ := h.ldm m
  obtain ⟨ys, h3, h4⟩ := h.ldm m2
  refine k_addL h1 h3 (by rw [h2.length, h4.length]; exact hl) fun p hp => q p _ ?_
  have z := (h.newD (p := p) (xs := []) (ds := []) hp .nil).setD (xs := xs ++ ys) (es := ds ++ es) ((h2.app h4).mono (Tp.new hp))
  have e : upd (upd H p (.lst [])) p (.lst (xs ++ ys)) = upd H p (.lst (xs ++ ys)) := by
    funext b
    by_cases hb : b = p
    · rw [hb, upd_same, upd_same]
    · rw [upd_ne hb, upd_ne hb, upd_ne hb]
  rw [e] at z
  exact z
theorem mem_dec {α : Type} [DecidableEq α] (z w : α) (zs : List α) {b : Bool} (h : b = decide (w = z)) : (b || decide (z ∈ zs)) = decide (z ∈ w :: zs) := by
  subst h
  by_cases e : w = z
  · subst e
    rw [decide_eq_true rfl, Bool.true_or]
    exact (decide_eq_true List.mem_cons_self).symm
  · rw [decide_eq_false e, Bool.false_or]
    exact decide_eq_decide.mpr ⟨List.mem_cons_of_mem _, fun m => (List.mem_cons.mp m).resolve_left fun y => e y.symm⟩
theorem inV_str (z : Str) : ∀ zs : List Str, inV (.str z) (zs.map V.str) = decide (z ∈ zs)
  | [] => rfl
  | w :: zs => by
    have ih := inV_str z zs
    unfold inV at ih ⊢
    rw [List.map_cons, List.any_cons, ih]
    exact mem_dec _ _ _ (by rw [Bool.eq_iff_iff, decide_eq_true_eq]; exact beq_iff_eq)
theorem inV_int (z : Int) : ∀ zs : List Int, inV (.int z) (zs.map V.int) = decide (z ∈ zs)
  | [] => rfl
  | w :: zs => by
    have ih := inV_int z zs
    unfold inV at ih ⊢
    rw [List.map_cons, List.any_cons, ih]
    exact mem_dec _ _ _ (by rw [Bool.eq_iff_iff, decide_eq_true_eq]; exact beq_iff_eq)
theorem flat_strs (zs : List Str) : (zs.map V.str).all flatV = true := by
  rw [List.all_map, List.all_eq_true]
  intro z _
  rfl
theorem flat_ints (zs : List Int) : (zs.map V.int).all flatV = true := by
  rw [List.all_map, List.all_eq_true]
  intro z _
  rfl
theorem k_inS {z : Str} {zs : List Str} (h : Sep L H) (m : ld p (zs.map PyData.str) ∈ L) (q : Q (.bl (decide (z ∈ zs))) H) : rInU K (.str z) (.ref p) H Q := by
  obtain ⟨xs, h1, h2⟩ := h.ldm m
  cases ims_str h2
  exact .inl ⟨p, _, rfl, .inl (sql_of h1), rfl, flat_strs zs, by rw [if_neg (by decide), inV_str]; exact q⟩
theorem k_notinS {z : Str} {zs : List Str} (h : Sep L H) (m : ld p (zs.map PyData.str) ∈ L) (q : Q (.bl (!decide (z ∈ zs))) H) : rNotInU K (.str z) (.ref p) H Q := by
  obtain ⟨xs, h1, h2⟩ := h.ldm m
  cases ims_str h2
  exact .inl ⟨p, _, rfl, .inl (sql_of h1), rfl, flat_strs zs, by rw [if_pos rfl, inV_str]; exact q⟩
theorem k_inI {z : Int} {zs : List Int} (h : Sep L H) (m : ld p (zs.map PyData.int) ∈ L) (q : Q (.bl (decide (z ∈ zs))) H) : rInU K (.int z) (.ref p) H Q := by
  obtain ⟨xs, h1, h2⟩ := h.ldm m
  cases ims_int h2
  exact .inl ⟨p, _, rfl, .inl (sql_of h1), rfl, flat_ints zs, by rw [if_neg (by decide), inV_int]; exact q⟩
theorem k_notinI {z : Int} {zs : List Int} (h : Sep L H) (m : ld p (zs.map PyData.int) ∈ L) (q : Q (.bl (!decide (z ∈ zs))) H) : rNotInU K (.int z) (.ref p) H Q := by
  obtain ⟨xs, h1, h2⟩ := h.ldm m
  cases ims_int h2
  exact .inl ⟨p, _, rfl, .inl (sql_of h1), rfl, flat_ints zs, by rw [if_pos rfl, inV_int]; exact q⟩
end
end Ls
namespace Ls
open PySem PySem.Spec PyProof.Rows L2
def tChain3 (r r' r'' : R2) (ta tb tc td : TE) : TE := fun σ H Q => ta σ H fun x H1 => tb σ H1 fun y H2 => r x y H2 fun z H3 => ∃ k, z = .bl k ∧
  (if k = true then tc σ H3 fun v H4 => r' y v H4 fun z2 H5 => ∃ k2, z2 = .bl k2 ∧ (if k2 = true then td σ H5 fun w H6 => r'' v w H6 Q else Q (.bl false) H5) else Q (.bl false) H3)
theorem k_chain3 {r r' r'' : R2} {ta tb tc td : TE} {σ : L2.St} {H : Hp} {Q : VK} (h : ta σ H fun x H1 => tb σ H1 fun y H2 => r x y H2 fun z H3 => ∃ k, z = .bl k ∧
  (if k = true then tc σ H3 fun v H4 => r' y v H4 fun z2 H5 => ∃ k2, z2 = .bl k2 ∧ (if k2 = true then td σ H5 fun w H6 => r'' v w H6 Q else Q (.bl false) H5) else Q (.bl false) H3)) : tChain3 r r' r'' ta tb tc td σ H Q := h
end Ls
namespace Ls
open PySem PySem.Spec PyProof.Rows L2
section
variable {K : PySem.W.Frag} {A B : As K} {L L' M N : List (As K)} {H H' : Hp} {a p l dx C : Addr} {o u : HO} {v x y : V} {d e : PyData} {vs xs ys : List V} {ds es : List PyData} {Q : VK} {D : Ends} {σ : L2.St} {i j : Int} {n : Nat} {b : Bool} {ta te tv to : TE} {t tk : TA} {fs : List (Str × V)}
/-- an instance that never changes any more -/
def fzI (a C : Addr) (fs : List (Str × V)) : As K := persW (fun W _ => ∃ dx, W a (.ins C dx fs) ∧ W dx (.own a)) (fun _ _ _ _ h => h) fun _ _ _ e ⟨dx, h1, h2⟩ => ⟨dx, e _ _ h1, e _ _ h2⟩
instance : Dup (fzI (K := K) a C fs) := ⟨fun z => z.1⟩
theorem Sep.fzIm (h : Sep L H) (m : fzI a C fs ∈ L) : ∃ dx, H a = some (.ins C dx fs) := by
  obtain ⟨W, s, ⟨_, dx, h1, h2⟩, f⟩ := h.the m
  exact ⟨dx, (f _ _ h1).1⟩
theorem k_istr {R : It → Hp → Prop} (h : te σ H fun v H1 => ∃ x, v = .str x ∧ R (Its x) H1) : iStr te σ H R := h
theorem k_istX {z : Str} {R : Str → Prop} (h : R z) : ∃ x, V.str z = .str x ∧ R x := ⟨z, rfl, h⟩
theorem wk_str {z : Str} : Wk (Its z) L z.cps.toList.length fun i q => ∀ c, z.cps.toList[i]? = some c → (fun (c : Nat) q => q (V.str ⟨#[c]⟩) ([] : List (As K))) c q where
  go := fun i H hi h => by rw [Array.length_toList] at hi; exact hi
  yl := fun i H x H' R hi h ⟨e, c, hc, ev⟩ q => by
    subst e ev
    exact q c (by rw [Array.getElem?_toList]; exact hc) _ h
  st := fun H h => by rw [Array.length_toList]; exact Nat.le_refl _
theorem k_inSg {c : Nat} {z : Str} (q : Q (.bl (decide (c ∈ z.cps.toList))) H) : rInU K (.str ⟨#[c]⟩) (.str z) H Q := .inr (.inr ⟨c, z, rfl, rfl, q⟩)
def cutD (ds : List PyData) (lo hi : Option Int) : List PyData := (ds.drop (HT.sIx ds.length 0 lo)).take (HT.sIx ds.length ds.length hi - HT.sIx ds.length 0 lo)
theorem ImAll.cut (h : ImAll K H xs ds) (lo hi : Option Int) : ImAll K H (cutV xs lo hi) (cutD ds lo hi) := by
  unfold cutV cutD
  rw [h.length]
  exact (h.drop _).take _
theorem cutD_from {i : Int} (h : 0 ≤ i) : cutD ds (some i) none = ds.drop i.toNat := by
  obtain ⟨k, rfl⟩ := Int.eq_ofNat_of_zero_le h
  show (ds.drop (HT.sIx ds.length 0 (some (k : Int)))).take (ds.length - HT.sIx ds.length 0 (some (k : Int))) = _
  rw [HT.sIx_nat, Int.toNat_natCast]
  by_cases hk : k ≤ ds.length
  · rw [Nat.min_eq_left hk]
    exact List.take_of_length_le (by rw [List.length_drop]; omega)
  · rw [Nat.min_eq_right (by omega), List.drop_of_length_le (Nat.le_refl _), List.drop_of_length_le (by omega), List.take_nil]
theorem k_slI {lo hi : Option Int} (h : Sep L H) (m : im (.ref a) (.tuple ds) ∈ L) (q : ∀ p H', Sep (im (.ref p) (.tuple (cutD ds lo hi)) :: L) H' → Q (.ref p) H') : rSlU K (.ref a) lo hi H Q := by
  obtain ⟨a', xs, e, h1, h2⟩ := im_tup (h.imm m)
  cases e
  refine .inr (.inl ⟨a, xs, rfl, h1, fun w => ?_, fun _ p hp => ?_⟩)
  · refine q a H (Sep.im_iff.mpr ⟨?_, h⟩)
    have e : cutD ds lo hi = ds := by
      unfold cutD
      rw [← h2.length, w.1, w.2, List.drop_zero, Nat.sub_zero, h2.length, List.take_length]
    rw [e]
    exact h.imm m
  · exact q p _ (Sep.im_iff.mpr ⟨.tup (sqt_of upd_same) ((ImAll.cut h2 lo hi).mono (Tp.new hp)), h.same (same_new hp)⟩)
theorem k_slD {lo hi : Option Int} (h : Sep L H) (m : ld a ds ∈ L) (q : ∀ p H', Sep (ld p (cutD ds lo hi) :: L) H' → Q (.ref p) H') : rSlU K (.ref a) lo hi H Q := by
  obtain ⟨xs, h1, h2⟩ := h.ldm m
  refine k_slL (sql_of h1) fun p hp => q p _ ?_
  have z := (h.newD (p := p) (xs := []) (ds := []) hp .nil).setD (xs := cutV xs lo hi) (es := cutD ds lo hi) ((ImAll.cut h2 lo hi).mono (Tp.new hp))
  have e : upd (upd H p (.lst [])) p (.lst (cutV xs lo hi)) = upd H p (.lst (cutV xs lo hi)) := by
    funext b
    by_cases hb : b = p
    · rw [hb, upd_same, upd_same]
    · rw [upd_ne hb, upd_ne hb, upd_ne hb]
  rw [e] at z
  exact z
theorem k_slO {lo hi : Option Int} (h : Sep L H) (m : ob a (.lst xs) ∈ L) (q : ∀ p H', Sep (ob p (.lst (cutV xs lo hi)) :: L) H' → Q (.ref p) H') : rSlU K (.ref a) lo hi H Q := k_slL (sql_of (h.obm m)) fun p hp => q p _ (h.new hp rfl)
theorem k_fldF {R : V → Prop} {f : Str} (h : Sep L H) (m : fzI a C fs ∈ L) (c : Cls K C) (n : NoAttr K C f) (e : fs.lookup f = some v) (q : R v) : ∃ a' C' dx fs v', V.ref a = .ref a' ∧ H a' = some (.ins C' dx fs) ∧ Cls K C' ∧ NoAttr K C' f ∧ fs.lookup f = some v' ∧ R v' := k_fldt (h.fzIm m) c n e q
theorem k_recvF {R : Addr → Prop} {f : Str} (h : Sep L H) (w : fzI a C fs ∈ L) (e : fs.lookup f = none) (q : R a) : ∃ a' dx fs, V.ref a = .ref a' ∧ H a' = some (.ins C dx fs) ∧ fs.lookup f = none ∧ R a' := by
  obtain ⟨dx, h1⟩ := h.fzIm w
  exact k_recv ⟨dx, fs, h1, e⟩ q
theorem k_non {P : Prop} (h : P) : V.non = .non ∧ P := ⟨rfl, h⟩
end
end Ls
namespace Ls
open PySem PySem.Spec PyProof.Rows L2 C8
end Ls
namespace Ls
open PySem PySem.Spec PyProof.Rows L2
section
variable {K : PySem.W.Frag} {A B : As K} {L L' M N : List (As K)} {H H' : Hp} {a p l dx C : Addr} {o u : HO} {v x y w : V} {d e : PyData} {vs xs ys : List V} {ds es : List PyData} {Q : VK} {σ : L2.St} {i j n : Nat} {b : Bool}
instance : Dup (all ([] : List (As K))) := ⟨fun z a => z a⟩
instance [i : Dup A] [j : Dup (all L)] : Dup (all (A :: L)) := ⟨fun ⟨s1, s2, d, u, h1, h2⟩ a z => ((u a).mp z).elim (i.no h1 a) (j.no (A := all L) h2 a)⟩
/-- the parts of two lists, each by each -/
def al2 {α : Type} (f : V → α → As K) (vs : List V) (xs : List α) : As K := all (pr (vs.length = xs.length) :: List.zipWith f vs xs)
section
variable {α : Type} {f : V → α → As K} {zs ws : List α} {z : α}
theorem Sep.al2_iff : Sep (al2 f vs zs :: L) H ↔ vs.length = zs.length ∧ Sep (List.zipWith f vs zs ++ L) H := by
  unfold al2
  rw [Sep.all_iff, List.cons_append, Sep.pr_iff]
theorem zip_erase : ∀ {vs : List V} {zs : List α} {i : Nat}, vs[i]? = some v → zs[i]? = some z → (List.zipWith f vs zs).Perm (f v z :: List.zipWith f (vs.eraseIdx i) (zs.eraseIdx i))
  | v' :: vs, z' :: zs, 0, h1, h2 => by
    cases h1
    cases h2
    exact .refl _
  | v' :: vs, z' :: zs, i + 1, h1, h2 => (List.Perm.cons _ (zip_erase (i := i) h1 h2)).trans (.swap _ _ _)
theorem Sep.cls (h : Sep (f v z :: al2 f (vs.eraseIdx i) (zs.eraseIdx i) :: L) H) (h1 : vs[i]? = some v) (h2 : i < zs.length) : Sep (al2 f vs (zs.set i z) :: L) H := by
  have l1 := (List.getElem?_eq_some_iff.mp h1).1
  obtain ⟨e, g⟩ := Sep.al2_iff.mp (h.perm (.swap _ _ _))
  rw [List.length_eraseIdx_of_lt l1, List.length_eraseIdx_of_lt h2] at e
  refine Sep.al2_iff.mpr ⟨by rw [List.length_set]; omega, ?_⟩
  have p := zip_erase (f := f) h1 (List.getElem?_set_self (a := z) h2)
  rw [List.eraseIdx_set_eq] at p
  exact (g.perm List.perm_middle).perm (p.symm.append_right L)
theorem Sep.snoc (h : Sep (f v z :: al2 f vs zs :: L) H) : Sep (al2 f (vs ++ [v]) (zs ++ [z]) :: L) H := by
  obtain ⟨e, g⟩ := Sep.al2_iff.mp (h.perm (.swap _ _ _))
  refine Sep.al2_iff.mpr ⟨by rw [List.length_append, List.length_append, e]; rfl, ?_⟩
  rw [List.zipWith_append e]
  show Sep (List.zipWith f vs zs ++ [f v z] ++ L) H
  rw [List.append_assoc]
  exact g
instance [i : ∀ v z, Dup (f v z)] : Dup (al2 f vs zs) := by
  have : ∀ (vs : List V) (zs : List α), Dup (all (List.zipWith f vs zs)) := by
    intro vs
    induction vs with
    | nil => intro zs; exact inferInstanceAs (Dup (all []))
    | cons v vs ih =>
      intro zs
      cases zs with
      | nil => exact inferInstanceAs (Dup (all []))
      | cons z zs =>
        have := ih zs
        exact inferInstanceAs (Dup (all (f v z :: List.zipWith f vs zs)))
  have := this vs zs
  exact inferInstanceAs (Dup (all (pr _ :: List.zipWith f vs zs)))
end
end
end Ls
namespace Ls
open PySem PySem.Spec PyProof.Rows L2
end Ls
namespace Ls
open PySem PySem.Spec PyProof.Rows L2
def rEqZ (K : PySem.W.Frag) : R2 := fun x y H Q => rEqU K x y H Q ∨ ∃ a b xs, x = .ref a ∧ y = .ref b ∧ H a = some (.lst xs) ∧ H b = some (.lst []) ∧ Q (.bl (decide (xs = []))) H
def rNeZ (K : PySem.W.Frag) : R2 := fun x y H Q => rNeU K x y H Q ∨ ∃ a b xs, x = .ref a ∧ y = .ref b ∧ H a = some (.lst xs) ∧ H b = some (.lst []) ∧ Q (.bl (!decide (xs = []))) H
section
variable {X : Cx}
theorem op_eqZ (K : PySem.W.Frag) (hK : X.K = K) (hu : X.A.units + 66 < cLine) : OpR X (compareOp .Eq) (rEqZ K) := by
  subst hK
  refine OpR.or (op_eqU0 hu) ?_
  intro pins s σ H x y v u Q I rx ry h
  obtain ⟨a, b, xs, rfl, rfl, ha, hb, q⟩ := h
  by_cases e : xs = []
  · subst e
    refine op_eqD (by omega) pins s σ H (.ref a) (.ref b) v u Q I rx ry ⟨.list [], .list [], .lst (sql_of ha) .nil, .lst (sql_of hb) .nil, by decide, by decide, ?_⟩
    exact q
  · cases rx
    cases ry
    obtain ⟨its, n, r, e1, _⟩ := I.lst ha
    obtain ⟨its2, n2, r2, e2, _⟩ := I.lst hb
    rw [decide_eq_false e] at q
    have hl := r.length
    have hl2 := r2.length
    have hx : xs.length ≠ 0 := fun z => e (List.eq_nil_of_length_eq_zero z)
    refine SeqAt.RcAt.lists_lengths (A := X.A) (s := s) (items := its.toArray) (items2 := its2.toArray) ⟨_, e1, rfl, n, rfl⟩ ⟨_, e2, rfl, n2, rfl⟩ ?_ (by omega) X.prog X.w X.xe _ ⟨.bl false, H, I, rfl, q⟩
    rw [List.size_toArray, List.size_toArray, ← hl, ← hl2]
    simpa using hx
end
end Ls
namespace Ls
open PySem PySem.Spec PyProof.Rows L2
section
variable {K : PySem.W.Frag} {A B : As K} {L L' M N : List (As K)} {H H' : Hp} {a p l dx C : Addr} {o u : HO} {v x y w : V} {d e : PyData} {vs xs ys : List V} {ds es : List PyData} {Q : VK} {σ : L2.St} {i j n : Nat} {k : Int} {b : Bool}
theorem Sep.ldem (h : Sep L H) (m : ld p [] ∈ L) : H p = some (.lst []) := by
  obtain ⟨xs, h1, h2⟩ := h.ldm m
  cases h2
  exact h1
theorem k_eqzO (h : Sep L H) (m : ob a (.lst xs) ∈ L) (m2 : ld p [] ∈ L) (q : Q (.bl (decide (xs = []))) H) : rEqZ K (.ref a) (.ref p) H Q := .inr ⟨a, p, xs, rfl, rfl, h.obm m, h.ldem m2, q⟩
theorem k_nezO (h : Sep L H) (m : ob a (.lst xs) ∈ L) (m2 : ld p [] ∈ L) (q : Q (.bl (!decide (xs = []))) H) : rNeZ K (.ref a) (.ref p) H Q := .inr ⟨a, p, xs, rfl, rfl, h.obm m, h.ldem m2, q⟩
theorem imall_nil (h : ImAll K H xs ds) : decide (xs = []) = decide (ds = []) := by
  cases h <;> rfl
theorem k_eqzD (h : Sep L H) (m : ld a ds ∈ L) (m2 : ld p [] ∈ L) (q : Q (.bl (decide (ds = []))) H) : rEqZ K (.ref a) (.ref p) H Q := by
  obtain ⟨xs, h1, h2⟩ := h.ldm m
  exact .inr ⟨a, p, xs, rfl, rfl, h1, h.ldem m2, by rw [imall_nil h2]; exact q⟩
theorem k_nezD (h : Sep L H) (m : ld a ds ∈ L) (m2 : ld p [] ∈ L) (q : Q (.bl (!decide (ds = []))) H) : rNeZ K (.ref a) (.ref p) H Q := by
  obtain ⟨xs, h1, h2⟩ := h.ldm m
  exact .inr ⟨a, p, xs, rfl, rfl, h1, h.ldem m2, by rw [imall_nil h2]; exact q⟩
theorem k_popAtO (h : Sep L H) (r : Rep L (ob a (.lst xs)) (ob a (.lst (xs.eraseIdx i))) M) (e : xs[i]? = some v) (hb : i < 1000000) (q : ∀ H', Sep M H' → Q v H') : rPopAt (.ref a) [.int (i : Nat)] H Q := by
  have hi := (List.getElem?_eq_some_iff.mp e).1
  refine ⟨a, xs, (i : Nat), i, v, rfl, rfl, h.obm r.mem, by omega, by omega, ?_, e, q _ (h.setR r rfl)⟩
  have := (ixN_seq (n := xs.length) (i := (i : Int)) (j := i) ?_).1
  · exact this
  · unfold ixN
    rw [if_pos (by omega), if_pos (by omega)]
    rfl
theorem k_popO (h : Sep L H) (r : Rep L (ob a (.lst xs)) (ob a (.lst xs.dropLast)) M) (e : xs[xs.length - 1]? = some v) (q : ∀ H', Sep M H' → Q v H') : rPop (.ref a) [] H Q :=
  ⟨a, xs, v, rfl, rfl, h.obm r.mem, e, q _ (h.setR r rfl)⟩
theorem ImAll.dropLast (h : ImAll K H xs ds) : ImAll K H xs.dropLast ds.dropLast := by
  rw [List.dropLast_eq_take, List.dropLast_eq_take, h.length]
  exact h.take _
theorem k_extO (h : Sep L H) (r : Rep L (ob a (.lst xs)) (ob a (.lst (xs ++ ys))) M) (m : ob p (.lst ys) ∈ L) (hl : xs.length + ys.length ≤ sizeLine) (q : ∀ H', Sep M H' → Q .non H') : rExtend (.ref a) [.ref p] H Q :=
  ⟨a, p, xs, ys, rfl, rfl, h.obm r.mem, h.obm m, hl, q _ (h.setR r rfl)⟩
theorem k_setO {R : Hp → Prop} (h : Sep L H) (r : Rep L (ob a (.lst xs)) (ob a (.lst (xs.set j v))) M) (e : ixN xs.length k = some j) (q : ∀ H', Sep M H' → R H') : rSetL (.ref a) (.int k) v H R :=
  ⟨a, xs, k, j, rfl, rfl, h.obm r.mem, e, q _ (h.setR r rfl)⟩
theorem k_madeT {sp : Sp} {Qf : Addr → VK} {E : XK} (h : Sep L H) (q : ∀ x H', Sep (inst x C [] :: L) H' → sp (.ref x :: vs) H' (Qf x) E) : ∀ x dx, H x = none → H dx = none → dx ≠ x → sp (.ref x :: vs) (upd (upd H dx (.own x)) x (.ins C dx [])) (Qf x) E := fun x dx hx hd ne => q x _ (h.newInst hx hd ne)
theorem k_asg2 {te : TE} {g1 g2 : TG} {D : Ends} (h : te σ H fun x H1 => g1 x σ H1 fun σ1 H2 => g2 x σ1 H2 D.nx) : tAsg2 te g1 g2 D σ H := h
theorem k_putG {α β γ : Type} {g : α → β → Hp → γ → Prop} {z1 : α} {z2 : β} {z3 : γ} {f : Str} {fs gs : List (Str × V)} (h : Sep L H) (r : Rep L (inst a C fs) (inst a C gs) M) (c : Cls K C) (n : NoAttr K C f) (hl : fs.length < 1000) (e : putF f y fs = gs) (q : ∀ H', Sep M H' → g z1 z2 H' z3) : ∃ a' C' dx fs, V.ref a = .ref a' ∧ H a' = some (.ins C' dx fs) ∧ Cls K C' ∧ NoAttr K C' f ∧ fs.length < 1000 ∧ g z1 z2 (upd H a' (.ins C' dx (putF f y fs))) z3 := k_putS' (R := fun H => g z1 z2 H z3) h r c n hl e q
theorem k_fldA {R : Addr → Addr → V → Prop} {f : Str} {fs : List (Str × V)} (h : Sep L H) (m : inst a C fs ∈ L) (c : Cls K C) (n : NoAttr K C f) (e : fs.lookup f = some v) (q : R a C v) : ∃ a' C' dx fs v', V.ref a = .ref a' ∧ H a' = some (.ins C' dx fs) ∧ Cls K C' ∧ NoAttr K C' f ∧ fs.lookup f = some v' ∧ R a' C' v' := by
  obtain ⟨dx, h1⟩ := h.insm m
  exact ⟨a, C, dx, fs, v, rfl, h1, c, n, e, q⟩
theorem k_slTu {lo hi : Option Int} (h : Sep L H) (m : tu a xs ∈ L) (q : ∀ p H', Sep (tu p (cutV xs lo hi) :: L) H' → Q (.ref p) H') : rSlU K (.ref a) lo hi H Q := by
  have h1 := h.tum m
  refine .inr (.inl ⟨a, xs, rfl, h1, fun w => ?_, fun _ p hp => ?_⟩)
  · refine q a H (Sep.tu_iff.mpr ⟨?_, h⟩)
    have e : cutV xs lo hi = xs := by
      unfold cutV
      rw [w.1, w.2, List.drop_zero, Nat.sub_zero, List.take_length]
    rw [e]
    exact h1
  · exact q p _ (Sep.tu_iff.mpr ⟨sqt_of upd_same, h.same (same_new hp)⟩)
end
end Ls
namespace Ls
open PySem PySem.Spec PyProof.Rows L2
section
variable {K : PySem.W.Frag} {A B : As K} {L L' M N : List (As K)} {H H' : Hp} {a p l dx C : Addr} {v x y w : V} {vs us : List V} {Q : VK} {σ : L2.St} {i j n : Nat} {b : Bool} {α β : Type} {zs ws : List α} {J : It} {g : TG} {tt : TT} {te : TE} {wi : List Nat} {D : Addr} {Qd : Hp → Prop} {Y : Nat → (V → List (As K) → Prop) → Prop}
theorem k_aug {k : Nat} {te : TE} {ti : TIp} {D : Ends} (e : σ[k]? = some (some x)) (h : te σ H fun y H1 => ti x y H1 fun z H2 => D.nx (σ.set k (some z)) H2) : tAug k te ti D σ H := ⟨x, e, h⟩
theorem k_ipI {f : Int → Int → Int} {i j : Int} (q : Q (.int (f i j)) H) : ipI f (.int i) (.int j) H Q := ⟨i, j, rfl, rfl, q⟩
theorem k_makeK {gV : List V → List V → List V} {m : Nat} {sp : Sp} {E : XK} {t tk : TA} (h : t σ H fun vs H1 => tk σ H1 fun zs H2 => vs.length = n ∧ zs.length = m ∧ ∀ x dx, H2 x = none → H2 dx = none → dx ≠ x →
  sp (gV (.ref x :: vs) zs) (upd (upd H2 dx (.own x)) x (.ins C dx [])) (fun v H3 => v = .non ∧ Q (.ref x) H3) E) : tMakeK C n m sp gV E t tk σ H Q := h
theorem k_gsub {to ti : TE} {t : TSet} {R : L2.St → Hp → Prop} (h : to σ H fun o H1 => ti σ H1 fun i H2 => t o i v H2 fun H3 => R σ H3) : gSub to ti t v σ H R := h
end
end Ls
namespace Ls
open PySem PySem.Spec PyProof.Rows L2
end Ls
namespace Ls
open PySem PySem.Spec PyProof.Rows L2
abbrev Kp (fp : List Addr) (h h' : Heap) : Prop := ∀ c o, c ∉ fp → h.get? c = some o → h'.get? c = some o
section
variable {fp gp : List Addr} {h h1 h' : Heap} {a : Addr} {o : Obj}
theorem Kp.tr (x : Kp fp h h1) (y : Kp gp h1 h') : Kp (fp ++ gp) h h' := fun c u n e => y c u (fun z => n (List.mem_append_right _ z)) (x c u (fun z => n (List.mem_append_left _ z)) e)
theorem Kp.less (x : Kp fp h h') (s : ∀ b ∈ fp, b ∈ gp) : Kp gp h h' := fun c u n e => x c u (fun z => n (s c z)) e
end
end Ls
namespace Ls
open PySem PySem.Spec PyProof.Rows L2
end Ls
namespace Ls
open PySem PySem.Spec PyProof.Rows L2
end Ls
namespace Ls
open PySem PySem.Spec PyProof.Rows L2
section
variable {K : PySem.W.Frag} {L M : List (As K)} {H : Hp} {a : Addr} {kvs kws : List (Key × V)} {k : Str} {v w : V} {xs : List V} {ds es : List PyData} {i : Int} {j : Nat}
theorem k_getD {R : V → Prop} (h : Sep L H) (m : ob a (.dK kvs) ∈ L) (e : valV kvs (.inr k) = some v) (q : R v) : ∃ b w, V.ref a = .ref b ∧ DGet H b (.str k) (some w) ∧ R w := k_getS (h.obm m) e q
/-- a display's end: the dict that stood empty while its pairs were made -/
theorem Sep.disp {p : Addr} (kvs : List (Key × V)) (h : Sep L H) (r : Rep L (ob p (.dK [])) (ob p (.dK (mergeK [] kvs))) M) : Sep M (upd H p (.dK (mergeK [] kvs))) := h.setR r rfl
end
end Ls
namespace Ls
open PySem PySem.Spec PyProof.Rows L2
section
variable {K : PySem.W.Frag} {L : List (As K)} {H : Hp} {Q : VK} {a C : Addr} {sp : Sp} {E : XK} {fs : List (Str × V)} {σ : L2.St} {t te : TE} {ts : List TE} {acc z : Str} {i : Int} {n : Nat}
theorem k_js0 {R : Str → Hp → Prop} (q : R acc H) : tJs [] acc σ H R := q
theorem k_js {R : Str → Hp → Prop} (q : t σ H fun x H1 => ∃ y : Str, x = .str y ∧ (acc ++ y).length ≤ sizeLine ∧ tJs ts (acc ++ y) σ H1 R) : tJs (t :: ts) acc σ H R := q
theorem k_jst {R : Str → Prop} (h : (acc ++ z).length ≤ sizeLine) (q : R z) : ∃ y : Str, V.str z = .str y ∧ (acc ++ y).length ≤ sizeLine ∧ R y := ⟨z, rfl, h, q⟩
def rFmt (x : V) (H1 : Hp) (Q : VK) : Prop := (∃ y : Str, x = .str y ∧ y.length ≤ sizeLine ∧ Q (.str y) H1) ∨ ∃ i : Int, x = .int i ∧ i.natAbs.log2 < 1920 ∧ Q (.str (toString i)) H1
theorem k_fmt (h : te σ H fun x H1 => rFmt x H1 Q) : tFmt te σ H Q := h
theorem log_lt {n : Nat} (h : n < 10 ^ 100) : n.log2 < 1920 := by
  by_cases e : n = 0
  · subst e
    decide
  · rw [Nat.log2_lt e]
    exact Nat.lt_of_lt_of_le h (by decide)
theorem k_fmtI (h : i.natAbs < 10 ^ 100) (q : Q (.str (toString i)) H) : rFmt (.int i) H Q := .inr ⟨i, rfl, log_lt h, q⟩
theorem k_fmtS (h : z.length ≤ sizeLine) (q : Q (.str z) H) : rFmt (.str z) H Q := .inl ⟨z, rfl, h, q⟩
theorem num_len {k : Nat} (hk : 0 < k) (h : i.natAbs < 10 ^ k) : (Str.ofString (toString i)).length ≤ k + 1 := by
  have := int_text_length_le10 hk h
  rw [PySem.ofString_length]
  exact this
end
end Ls
namespace Ls
open PySem PySem.Spec PyProof.Rows L2 LamX
section
variable {K : PySem.W.Frag}
/-- the tables of T are one's own; what they tell bears its name -/
def tabsA (T : List (Addr × Str)) : As K := ⟨fun _ s H => (∀ a, s a ↔ ∃ p ∈ T, p.1 = a) ∧ Tabs T H, fun ⟨e, t⟩ k q => ⟨e, fun p hp => by
  obtain ⟨ps, h1, h2, h3⟩ := t p hp
  refine ⟨ps, (k p.1 ((e p.1).mpr ⟨p, hp, rfl⟩)).trans h1, h2, fun pos cv hc => ?_⟩
  obtain ⟨c, e1, e2⟩ := h3 pos cv hc
  exact ⟨c, e1, q.2 _ _ e2⟩⟩, fun ⟨e, t⟩ a z => by
  obtain ⟨p, hp, rfl⟩ := (e a).mp z
  obtain ⟨ps, h1, _⟩ := t p hp
  exact ⟨_, h1, rfl⟩, fun h _ => h⟩
/-- it owns no table -/
class NoTb (A : As K) : Prop where
  no : ∀ {W : Fz} {s : Addr → Prop} {H : Hp}, A.ok W s H → ∀ a, s a → ∀ ps, H a ≠ some (.tbl ps)
variable {A B : As K} {L L' M N : List (As K)} {H H' : Hp} {a p l d c C : Addr} {v x y : V} {e : PyData} {vs xs ys : List V} {ds es : List PyData} {T : List (Addr × Str)}
instance {P : Fz → Hp → Prop} {h k} : NoTb (persW (K := K) P h k) := ⟨fun z a q => (z.1 a q).elim⟩
instance {v d} : NoTb (im (K := K) v d) := ⟨fun z a q => (z.1 a q).elim⟩
instance {v d} : NoTb (ims (K := K) v d) := ⟨fun z a q => (z.1 a q).elim⟩
instance {v d} : NoTb (tu (K := K) v d) := ⟨fun z a q => (z.1 a q).elim⟩
instance {P} : NoTb (pr (K := K) P) := ⟨fun z a q => (z.1 a q).elim⟩
theorem notb_ob {o : HO} (n : ∀ ps, o ≠ .tbl ps) : NoTb (ob (K := K) a o) := ⟨fun ⟨e, h, _⟩ b q ps z => by
  obtain rfl := (e b).mp q
  rw [h] at z
  exact n ps (Option.some.inj z)⟩
instance {xs} : NoTb (ob (K := K) a (.lst xs)) := notb_ob fun ps z => by cases z
instance {kvs} : NoTb (ob (K := K) a (.dK kvs)) := notb_ob fun ps z => by cases z
instance {kvs} : NoTb (ob (K := K) a (.xd kvs)) := notb_ob fun ps z => by cases z
instance {ds} : NoTb (ld (K := K) a ds) := ⟨fun ⟨e, xs, h, _⟩ b q ps z => by
  obtain rfl := (e b).mp q
  rw [h] at z
  cases z⟩
instance {fs} : NoTb (inst (K := K) a C fs) := ⟨fun ⟨dx, e, h1, h2⟩ b q ps z => by
  rcases (e b).mp q with rfl | rfl
  · rw [h1] at z
    cases z
  · rw [h2] at z
    cases z⟩
instance : NoTb (dr (K := K) d) := ⟨fun ⟨c, e, n, r, s, ns, h1, h2, h3⟩ b q ps z => by
  rcases (e b).mp q with rfl | rfl
  · rw [h1] at z
    cases z
  · rw [h2] at z
    cases z⟩
instance {α : Type} {f : α → As K} [h : ∀ x, NoTb (f x)] : NoTb (ex f) := ⟨fun ⟨x, z⟩ => (h x).no z⟩
/-- none of them owns a table -/
class NoTbs (L : List (As K)) : Prop where
  no : ∀ {W : Fz} {s : Addr → Prop} {H : Hp}, Hld W L s H → ∀ a, s a → ∀ ps, H a ≠ some (.tbl ps)
instance : NoTbs ([] : List (As K)) := ⟨fun z a q => (z a q).elim⟩
instance [i : NoTb A] [j : NoTbs L] : NoTbs (A :: L) := ⟨fun ⟨s1, s2, d, u, h1, h2⟩ a z => ((u a).mp z).elim (i.no h1 a) (j.no h2 a)⟩
instance [i : NoTbs L] : NoTb (all L) := ⟨fun z => i.no z⟩
instance {α : Type} {f : V → α → As K} [i : ∀ v z, NoTb (f v z)] {zs : List α} : NoTb (al2 f vs zs) := by
  have : ∀ (vs : List V) (zs : List α), NoTbs (List.zipWith f vs zs) := by
    intro vs
    induction vs with
    | nil => intro zs; exact inferInstanceAs (NoTbs [])
    | cons v vs ih =>
      intro zs
      cases zs with
      | nil => exact inferInstanceAs (NoTbs [])
      | cons z zs =>
        have := ih zs
        exact inferInstanceAs (NoTbs (f v z :: List.zipWith f vs zs))
  have := this vs zs
  exact inferInstanceAs (NoTb (all (pr _ :: List.zipWith f vs zs)))
theorem Sep.tabs (h : Sep (tabsA T :: L) H) : Tabs T H := by
  obtain ⟨W, s, ⟨_, h1⟩, _⟩ := h.the List.mem_cons_self
  exact h1
theorem sqt_extN (e : ExtN H H') : Tp K H H' := fun a xs q => by
  rcases q with (q | ⟨z, q⟩) | q
  · exact .inl (.inl (e _ _ q (fun ps z => by cases z)))
  · exact .inl (.inr ⟨z, e _ _ q (fun ps z => by cases z)⟩)
  · exact .inr q
end
end Ls
namespace Ls
open PySem PySem.Spec PyProof.Rows L2 LamX
section
variable {K : PySem.W.Frag} {L M : List (As K)} {H H' H1 : Hp} {T : List (Addr × Str)} {σ : L2.St} {Q : VK}
/-- a lambda was made: the tables of T have grown, all else stands -/
theorem Sep.tabsN [i : NoTbs L] (h : Sep (tabsA T :: L) H) (e : ExtN H H1) (t : Tabs T H1) : Sep (tabsA T :: L) H1 := by
  obtain ⟨W, s, f, s1, s2, d, u, ⟨e1, t1⟩, h2⟩ := h
  have no := i.no h2
  refine ⟨W, s, fun a o z => ⟨e _ _ (f a o z).1 fun ps q => ?_, (f a o z).2⟩, s1, s2, d, u, ⟨e1, t⟩, h2.st (fun a z => ?_) ⟨sqt_extN e, fun a g z => e _ _ z fun ps q => by cases q⟩⟩
  · have := (f a o z).2.1
    rw [q] at this
    cases this
  · obtain ⟨o, ho, _⟩ := h2.al a z
    rw [ho]
    exact e _ _ ho fun ps q => no a z ps (by rw [ho, q])
theorem k_lamS {TT : (XK → Hp → VK → Prop) → Hp → VK → Prop} {t : XK → TE} [NoTbs M] (h : Sep L H) (r : Rem L (tabsA T) M) (q : ∀ H1, Sep (tabsA T :: M) H1 → TT (fun E H' Q' => t E σ H' Q') H1 Q) : tLam T TT t σ H Q :=
  ⟨(h.rem r).tabs, fun H1 e tb => q H1 ((h.rem r).tabsN e tb)⟩
/-- the law's start: the tables stand empty -/
theorem Sep.tabs0 (h : ∀ p ∈ T, H p.1 = some (.tbl #[])) : Sep [tabsA (K := K) T] H := by
  refine ⟨fun _ _ => False, fun a => ∃ p ∈ T, p.1 = a, fun a o z => z.elim, fun a => ∃ p ∈ T, p.1 = a, fun _ => False, fun a x y => y, fun a => ⟨.inl, fun z => z.elim id False.elim⟩, ⟨fun a => Iff.rfl, fun p hp => ?_⟩, fun a z => z⟩
  exact ⟨#[], h p hp, trivial, fun pos cv e => by cases e⟩
end
end Ls
namespace Ls
open PySem PySem.Spec PyProof.Rows L2 LamX
section
variable {K : PySem.W.Frag} {L M : List (As K)} {H H' H1 : Hp} {σ : L2.St} {d C : Addr} {o : HO} {w : Str} {E : XK}
theorem Sep.newAt (h : Sep L H) (hn : H d = none) (s : Same H H') (hd : H' d = some o) (n : Nt o = true) : Sep (ob d o :: L) H' := by
  obtain ⟨W, q, f, h⟩ := h
  have ne : ∀ b, q b → b ≠ d := fun b z y => by
    obtain ⟨x, hx, _⟩ := h.al b z
    rw [y, hn] at hx
    cases hx
  have nw : ∀ b x, W b x → b ≠ d := fun b x z y => by
    have := (f b x z).1
    rw [y, hn] at this
    cases this
  exact ⟨W, fun b => b = d ∨ q b, fun b x z => ⟨s _ _ (f b x z).1, (f b x z).2.1, fun y => y.elim (nw b x z) (f b x z).2.2⟩, fun b => b = d, q, fun b x y => ne b y x, fun b => Iff.rfl, ⟨fun b => Iff.rfl, hd, n⟩, h.st (fun b z => by
    obtain ⟨x, hx, _⟩ := h.al b z
    rw [s _ _ hx, hx]) (Tq.same s)⟩
/-- raise C(): what is let out -/
theorem raise_lets (T : OexC K C) (no : PySem.W.findIn K (.ref C) "word" = some none) (h : Sep L H) (q : Lets L C w E) : tMkO C (spInit0 K w) [] tNil σ H fun cls d H' => E cls d H' :=
  k_raise T no fun d H2 hn s hd => q d H2 (h.newAt hn s hd rfl)
theorem Lets.sub (q : Lets M C w E) (s : Sub L M) : Lets L C w E := fun d H' h => q d H' (Sub.ok (Sub.cons s) h)
end
end Ls
namespace Ls
open PySem PySem.Spec PyProof.Rows L2 LamX PySem.W
end Ls
namespace Ls
open PySem PySem.Spec PyProof.Rows L2 PySem.W
end Ls
namespace Ls
open PySem PySem.Spec PyProof.Rows L2
def tSortSet (K : PySem.W.Frag) (ta : TE) : TE := fun σ H Q => ta σ H fun x H1 => ∃ (l : Addr) (ns : List Int), x = .ref l ∧ SqL K H1 l (ns.map V.int) ∧ ns.length < 60 ∧ ∀ (ms : List Int) (p : Addr), ms.Pairwise (· < ·) → (∀ k : Int, k ∈ ms ↔ k ∈ ns) → H1 p = none → Q (.ref p) (upd H1 p (.lst (ms.map V.int)))
theorem k_sortset {K : PySem.W.Frag} {σ : L2.St} {H : Hp} {Q : VK} {ta : TE} (h : ta σ H fun x H1 => ∃ (l : Addr) (ns : List Int), x = .ref l ∧ SqL K H1 l (ns.map V.int) ∧ ns.length < 60 ∧ ∀ (ms : List Int) (p : Addr), ms.Pairwise (· < ·) → (∀ k : Int, k ∈ ms ↔ k ∈ ns) → H1 p = none → Q (.ref p) (upd H1 p (.lst (ms.map V.int)))) : tSortSet K ta σ H Q := h
theorem k_listrg {σ : L2.St} {H : Hp} {Q : VK} {te : L2.St → Hp → (Int → Int → Hp → Prop) → Prop} (h : te σ H fun a b H1 => RgOk a b ∧ ∀ q, H1 q = none → Q (.ref q) (upd H1 q (.lst (rgV a b)))) : tLstRg te σ H Q := h
theorem k_rg1 {σ : L2.St} {H : Hp} {ta : TE} {R : Int → Int → Hp → Prop} (h : ta σ H fun x H1 => ∃ n, x = .int n ∧ R 0 n H1) : tRg1 ta σ H R := h
end Ls
namespace Ls
open PySem PySem.Spec PyProof.Rows L2
end Ls
namespace Ls
open PySem PySem.Spec PyProof.Rows L2
theorem Walks.from {prog : Program} {w : World} {A : Around} {I : Addr} {fp wr : List Addr} {n : Nat} {P : Nat → Value → Prop} {St : Nat → Heap → Prop} (W : Walks prog w A I fp wr n P St) (k : Nat) (hk : k ≤ n) :
    Walks prog w A I fp wr (n - k) (fun i => P (k + i)) (fun i => St (k + i)) where
  sub := W.sub
  frame := fun i => W.frame (k + i)
  item := fun i s Q E hi st hQ => W.item (k + i) s Q E (by omega) st hQ
  done := fun s Q E st hQ => W.done s Q E (by
    have e : k + (n - k) = n := by omega
    rw [e] at st
    exact st) hQ
  self := fun i => W.self (k + i)
theorem vals_dropK : ∀ (k : Nat) {xs : List V} {us : List Value}, Vals xs us → Vals (xs.drop k) (us.drop k)
  | 0, _, _, r => r
  | k + 1, _, _, .nil => .nil
  | k + 1, _, _, .cons _ r => vals_dropK k r
theorem vals_takeK {v : V} {u : Value} (q : RelV v u) : ∀ (k : Nat) {xs : List V} {us : List Value}, Vals xs us → Vals (xs.take k ++ [v]) (us.take k ++ [u])
  | 0, _, _, _ => .cons q .nil
  | k + 1, _, _, .nil => .cons q .nil
  | k + 1, _, _, .cons z r => .cons z (vals_takeK q k r)
section
variable {prog : Program} {w : World} {A : Around} {E : Value → Shared → Prop} {s : Shared}
theorem unpack_star {t : Addr} {items : Array Value} {k : Nat} {Q : List Value → Shared → Prop} (hh : A.handled = none) (ht : IsTup s.heap t items) (hk : k ≤ items.size) (hz : items.size ≤ sizeLine)
    (hQ : ∀ (h' : Heap) (tk : Nat), (∀ b o, s.heap.get? b = some o → h'.get? b = some o) → Q (items.toList.take k ++ [.ref h'.objs.size]) { s with heap := h'.push { cls := .type "list", data := .seq (items.toList.drop k).toArray }, toks := tk }) :
    wpAny (model prog w) A (unpackItems (.ref t) (k + 1) (some k)) Q E s := by
  have hlt : t < s.heap.objs.size := by obtain ⟨o, ho, _⟩ := ht; exact Heap.lt_size ho
  have hne : t ≠ s.heap.objs.size := Nat.ne_of_lt hlt
  unfold unpackItems
  refine wpAny_bind ?_
  unfold notIterableAtAll
  refine wpAny_bind (wpAny_specialOf ht.typeIs slot_tuple_iter.lookup ?_)
  refine wpAny_pure ?_
  simp only [Bool.false_eq_true, if_false]
  refine wpAny_bind (wpAny_holding (iter_tuple ht ?_))
  refine wpAny_bind (wpAny_holding (draw_tuple hne k 0 _ _ ⟨_, Heap.get?_push_size _ rfl, rfl, rfl⟩ (ht.push _) (by omega) fun h₁ hit₁ hs₁ => ?_))
  rw [List.drop_zero, if_neg (by rw [List.length_take, Array.length_toList]; omega)]
  have ht₁ : IsTup h₁ t items := (ht.push _).extBut hs₁.extBut hne
  have hsz : s.heap.objs.size < h₁.objs.size := by
    obtain ⟨o, ho, _⟩ := hit₁
    exact Heap.lt_size ho
  refine wpAny_bind (wpAny_holding (wpAny_collect_iter (T := "tuple_iterator") (.inr (.inr (.inr rfl))) ((Walks.from (Walks.tuple (A := A.in1) (by simp [hh]) s.heap.objs.size t hne items) k hk).toS) (fun i s st => st.1.typeIs) ⟨by rw [Nat.zero_add] at hit₁; exact hit₁, ht₁⟩ (fun b hb => ?_) List.mem_cons_self (fun s' acc mv hac => ?_) (by omega)))
  · rcases List.mem_cons.mp hb with rfl | hb
    · exact hsz
    · rw [List.mem_singleton.mp hb]
      exact Nat.lt_trans hlt hsz
  have he : acc.toList = items.toList.drop k := by
    apply List.ext_getElem?
    intro j
    rw [List.getElem?_drop, Array.getElem?_toList, Array.getElem?_toList]
    by_cases hj : j < acc.size
    · have := hac.2 j acc[j] (Array.getElem?_eq_getElem hj)
      rw [Array.getElem?_eq_getElem hj]
      exact this.symm
    · rw [Array.getElem?_eq_none (by omega), Array.getElem?_eq_none (by have := hac.1; omega)]
  have e0 : k + 1 - 1 - k = 0 := by omega
  simp only [e0, Nat.not_lt_zero, if_false, Nat.sub_zero, List.take_length, List.drop_length, List.append_nil]
  obtain ⟨h', g', d', tk', os'⟩ := s'
  have eg : g' = s.gens := mv.gens
  have ed : d' = s.drawn := mv.drawn
  have eo : os' = s.os := mv.os
  subst eg ed eo
  refine wpAny_bind (wpAny_newObj_type (wpAny_pure ?_) ?_)
  · rw [he]
    exact hQ h' tk' fun b o hb => mv.heap b o (fun m => Nat.ne_of_lt (Heap.lt_size hb) (List.mem_singleton.mp m)) (hs₁.2 b (Nat.ne_of_lt (Heap.lt_size hb)) ▸ Heap.get?_push_of_some _ hb)
  · show (acc.toList.toArray).size ≤ sizeLine
    rw [he, List.size_toArray, List.length_drop, Array.length_toList]
    omega
end
def gTupS (K : PySem.W.Frag) (k : Nat) (t : TGs) : TG := fun v σ H Q => ∃ a xs, v = .ref a ∧ SqT K H a xs ∧ k ≤ xs.length ∧ xs.length ≤ 1000 ∧ ∀ q, H q = none → t (xs.take k ++ [.ref q]) σ (upd H q (.lst (xs.drop k))) Q
section
variable {X : Cx} {pos : Pos}
theorem pgs_star {e : Expr} {es : List Expr} {p : Pos} {t : TG} {u : TGs} (h1 : PG X e t) (h2 : PGs X es u)
    (hs : (assignEach (.Starred e p :: es) X.env).map (·.2) = assign e X.env :: (assignEach es X.env).map (·.2) := by rfl) : PGs X (.Starred e p :: es) (gCons t u) := by
  refine ⟨fun pins s σ H vs us Q I r h => ?_⟩
  obtain ⟨v, vr, e1, h⟩ := h
  subst e1
  cases r with
  | cons r rr =>
    rw [hs]
    refine assignInOrder_cons (thn (h1.run pins s σ H _ _ _ I r h) fun _ s1 ⟨σ1, H1, I1, q1⟩ => ?_)
    exact h2.run pins s1 σ1 H1 _ _ Q I1 rr q1
theorem pg_tupS {es : List Expr} {k : Nat} {t : TGs} {n : Nat} (K : PySem.W.Frag) (hK : X.K = K) (h : PGs X es t) (hc : X.calm = true := by rfl)
    (hn : (assignEach es X.env).length = n + 1 := by rfl) (hst : (assignEach es X.env).findIdx? (·.1) = some n := by rfl) : PG X (.Tuple es k pos) (gTupS K n t) := by
  subst hK
  refine ⟨fun pins s σ H v u Q I r hw => ?_⟩
  obtain ⟨a, xs, e1, hq, hl, hl2, hw⟩ := hw
  subst e1
  cases r
  obtain ⟨its, rv, ht, hz⟩ := I.tuple hq
  have hlen : its.toArray.size = xs.length := by rw [List.size_toArray, rv.length]
  rw [assign_Tuple]
  refine wpAny_bind (wpAny_standAt ?_)
  unfold unpack
  rw [hn, hst]
  refine wpAny_bind (wpAny_holding (unpack_star (I.ok.hd hc) ht (by omega) (by rw [hlen]; exact hz) fun h' tk hk => ?_))
  have I1 : Inv X pins σ H { s with heap := h', toks := tk } := I.kept hk
  have hf : H h'.objs.size = none := I1.hok.fresh (Nat.le_refl _)
  have I2 : Inv X pins σ (upd H h'.objs.size (.lst (xs.drop n))) { s with heap := h'.push { cls := .type "list", data := .seq (its.drop n).toArray }, toks := tk } :=
    I1.laid (t' := tk) (fun b u e => Heap.get?_push_of_some _ e) (Nat.le_refl _) ⟨by rw [List.length_drop]; omega, its.drop n, 0, vals_dropK n rv, Heap.get?_push_size _ rfl⟩
  exact h.run pins _ σ _ (xs.take n ++ [.ref h'.objs.size]) _ Q I2 (by
    rw [List.toList_toArray]
    exact vals_takeK (v := .ref h'.objs.size) rfl n rv) (hw _ hf)
end
end Ls
namespace Ls
open PySem PySem.Spec PyProof.Rows L2 LamX
section
variable {K : PySem.W.Frag} {L M : List (As K)} {H H' H1 : Hp} {T : List (Addr × Str)} {σ : L2.St} {Q : VK} {q : Str} {LO : Addr → Addr → HO} {f : Addr}
/-- a lambda stands at f -/
def lamA (q : Str) (LO : Addr → Addr → HO) (f : Addr) : As K := pers (fun H => ∃ (c' : Addr) (φ : Heap → Prop), LO f c' = .ext φ ∧ H f = some (.ext φ) ∧ H c' = some (CodeO c' q)) fun _ _ t ⟨c', φ, e, h1, h2⟩ => ⟨c', φ, e, t.2 _ _ h1, t.2 _ _ h2⟩
instance : NoTb (lamA (K := K) q LO f) := ⟨fun z a q => (z.1 a q).elim⟩
instance : Dup (lamA (K := K) q LO f) := ⟨fun z => z.1⟩
theorem Sep.pers {P : Hp → Prop} {h : ∀ H H', Tq K H H' → P H → P H'} (s : Sep L H) (p : P H) : Sep (pers P h :: L) H := by
  obtain ⟨W, q, f, z⟩ := s
  exact ⟨W, q, f, fun _ => False, q, fun a x => x.elim, fun a => ⟨.inr, fun x => x.elim False.elim id⟩, ⟨fun a x => x, p⟩, z⟩
end
end Ls
namespace Ls
open PySem PySem.Spec PyProof.Rows L2 LamX
end Ls
namespace Ls
open PySem PySem.Spec PyProof.Rows L2
end Ls
namespace Ls
open PySem PySem.Spec PyProof.Rows L2
section
variable {K : PySem.W.Frag} {L M : List (As K)} {H : Hp} {C : Addr} {f w : Str} {y : V} {E : XK}
/-- what is let out of a raise C(y) -/
def LetsA (L : List (As K)) (C : Addr) (f w : Str) (y : V) (E : XK) : Prop := ∀ d H', Ls.Sep (ob d (.xd [(f, y), ("word", .str w)]) :: L) H' → E (.ref C) (some d) H'
theorem LetsA.sub (q : LetsA M C f w y E) (s : Sub L M) : LetsA L C f w y E := fun d H' h => q d H' (Sub.ok (Sub.cons s) h)
end
end Ls
namespace Ls
open PySem PySem.Spec PyProof.Rows L2
theorem use_sameD {K : PySem.W.Frag} {L : List (As K)} {H : Hp} {x y : V} {d : PyData} {n : Nat} {Q : VK} {E : XK} (h : Ls.Sep L H) (a : Dl L x d) (b : Dl L y d) (o : OkD n d) (q : ∀ H', Ls.Sep L H' → Q (.bl true) H') : spSame K n [x, y] H Q E := ⟨x, y, d, rfl, a.is h, b.is h, o, fun H' s => q H' (h.same s)⟩
end Ls
namespace Ls
open PySem PySem.Spec PyProof.Rows L2
section
variable {K : PySem.W.Frag} {L M : List (As K)} {H : Hp} {a l : Addr} {ds es : List PyData} {Q : VK}
theorem k_slStr {z : Str} {lo hi : Option Int} (hz : z.length ≤ sizeLine) (q : Q (.str (cutS z lo hi)) H) : rSlU K (.str z) lo hi H Q := .inr (.inr ⟨z, rfl, hz, q⟩)
end
end Ls
namespace Ls
open PySem PySem.Spec PyProof.Rows L2
end Ls
namespace Ls
open PySem PySem.Spec PyProof.Rows L2
section
variable {K : PySem.W.Frag} {L M : List (As K)} {H : Hp} {a l : Addr} {xs : List V} {ds es : List PyData} {d : PyData} {σ : L2.St} {Q : VK} {i : Int}
/-- a list of data that never changes once made -/
def fzl (a : Addr) (ds : List PyData) : As K := persW (fun W H => ∃ xs, W a (.lst xs) ∧ ImAll K H xs ds) (fun _ _ _ t ⟨xs, h1, h2⟩ => ⟨xs, h1, h2.mono t.1⟩) fun _ _ _ e ⟨xs, h1, h2⟩ => ⟨xs, e _ _ h1, h2⟩
instance : Dup (fzl (K := K) a ds) := ⟨fun z => z.1⟩
def oV : Option Int → V
  | none => .non
  | some i => .int i
end
end Ls
namespace Ls
open PySem PySem.Spec PyProof.Rows L2
end Ls
namespace Ls
open PySem PySem.Spec PyProof.Rows L2
section
variable {K : PySem.W.Frag} {A : As K} {L M : List (As K)} {H H' : Hp} {a l p : Addr} {xs vs : List V} {ds es : List PyData} {d e : PyData} {v x y : V} {σ : L2.St} {Q : VK} {i : Int} {W W' : Fz} {s : Addr → Prop}
mutual
inductive Fm (K : PySem.W.Frag) (W : Fz) (H : Hp) : V → PyData → Prop
  | im {v : V} {d : PyData} : Im K H v d → Fm K W H v d
  | tup {a : Addr} {xs : List V} {ds : List PyData} : SqT K H a xs → FmAll K W H xs ds → Fm K W H (.ref a) (.tuple ds)
  | lst {a : Addr} {xs : List V} {ds : List PyData} : W a (.lst xs) → FmAll K W H xs ds → Fm K W H (.ref a) (.list ds)
inductive FmAll (K : PySem.W.Frag) (W : Fz) (H : Hp) : List V → List PyData → Prop
  | nil : FmAll K W H [] []
  | cons {v : V} {d : PyData} {vs : List V} {ds : List PyData} : Fm K W H v d → FmAll K W H vs ds → FmAll K W H (v :: vs) (d :: ds)
end
mutual
theorem Fm.mono (t : Tp K H H') (k : ∀ a o, W a o → W' a o) : ∀ {v : V} {d : PyData}, Fm K W H v d → Fm K W' H' v d
  | _, _, .im h => .im (h.mono t)
  | _, _, .tup h1 h2 => .tup (t _ _ h1) (FmAll.mono t k h2)
  | _, _, .lst h1 h2 => .lst (k _ _ h1) (FmAll.mono t k h2)
theorem FmAll.mono (t : Tp K H H') (k : ∀ a o, W a o → W' a o) : ∀ {vs : List V} {ds : List PyData}, FmAll K W H vs ds → FmAll K W' H' vs ds
  | _, _, .nil => .nil
  | _, _, .cons h1 h2 => .cons (Fm.mono t k h1) (FmAll.mono t k h2)
end
mutual
theorem Fm.dp (f : ∀ a o, W a o → H a = some o) : ∀ {v : V} {d : PyData}, Fm K W H v d → Dp K H v d
  | _, _, .im h => h.dp
  | _, _, .tup h1 h2 => .tup h1 (FmAll.dp f h2)
  | _, _, .lst h1 h2 => .lst (sql_of (f _ _ h1)) (FmAll.dp f h2)
theorem FmAll.dp (f : ∀ a o, W a o → H a = some o) : ∀ {vs : List V} {ds : List PyData}, FmAll K W H vs ds → DpAll K H vs ds
  | _, _, .nil => .nil
  | _, _, .cons h1 h2 => .cons (Fm.dp f h1) (FmAll.dp f h2)
end
theorem FmAll.length : ∀ {vs : List V} {ds : List PyData}, FmAll K W H vs ds → vs.length = ds.length
  | _, _, .nil => rfl
  | _, _, .cons _ h => congrArg (· + 1) h.length
theorem FmAll.app : ∀ {vs ws : List V} {ds es : List PyData}, FmAll K W H vs ds → FmAll K W H ws es → FmAll K W H (vs ++ ws) (ds ++ es)
  | _, _, _, _, .nil, h => h
  | _, _, _, _, .cons a b, h => .cons a (b.app h)
theorem FmAll.get : ∀ {vs : List V} {ds : List PyData} {i : Nat} {v : V} {d : PyData}, FmAll K W H vs ds → vs[i]? = some v → ds[i]? = some d → Fm K W H v d
  | _, _, 0, _, _, .cons a _, h1, h2 => by
    cases h1
    cases h2
    exact a
  | _, _, i + 1, _, _, .cons _ b, h1, h2 => b.get (i := i) h1 h2
  | _, _, i, _, _, .nil, h1, _ => by cases i <;> cases h1
def fd (v : V) (d : PyData) : As K := persW (fun W H => Fm K W H v d) (fun _ _ _ t h => h.mono t.1 fun _ _ z => z) fun _ _ _ e h => h.mono Tp.refl e
def fds (vs : List V) (ds : List PyData) : As K := persW (fun W H => FmAll K W H vs ds) (fun _ _ _ t h => h.mono t.1 fun _ _ z => z) fun _ _ _ e h => h.mono Tp.refl e
instance : Dup (fd (K := K) v d) := ⟨fun z => z.1⟩
instance : Dup (fds (K := K) vs ds) := ⟨fun z => z.1⟩
theorem Hld.mem : ∀ {L : List (As K)} {s : Addr → Prop}, Hld W L s H → A ∈ L → ∃ s', A.ok W s' H
  | B :: L, _, ⟨s1, s2, _, _, h1, h2⟩, m => by
    rcases List.mem_cons.mp m with rfl | m
    · exact ⟨s1, h1⟩
    · exact Hld.mem h2 m
theorem Sep.fdm (h : Sep L H) (m : Ls.fd v d ∈ L) : ∃ W, Fm K W H v d ∧ ∀ a o, W a o → H a = some o := by
  obtain ⟨W, s, ⟨_, h1⟩, f⟩ := h.the m
  exact ⟨W, h1, fun a o z => (f a o z).1⟩
theorem Sep.fdsm (h : Sep L H) (m : Ls.fds vs ds ∈ L) : ∃ W, FmAll K W H vs ds ∧ ∀ a o, W a o → H a = some o := by
  obtain ⟨W, s, ⟨_, h1⟩, f⟩ := h.the m
  exact ⟨W, h1, fun a o z => (f a o z).1⟩
theorem Sep.fdsLen (h : Sep L H) (m : Ls.fds vs ds ∈ L) : vs.length = ds.length := by
  obtain ⟨W, h1, _⟩ := h.fdsm m
  exact h1.length
/-- a value's data, lists too -/
inductive Df (L : List (As K)) : V → PyData → Prop
  | dat {v : V} {d : PyData} : Dat L v d → Df L v d
  | ld {a : Addr} {ds : List PyData} : ld a ds ∈ L → Df L (.ref a) (.list ds)
  | fd {v : V} {d : PyData} : fd v d ∈ L → Df L v d
  | ob {a : Addr} {vs : List V} {ds : List PyData} : Ls.ob a (.lst vs) ∈ L → fds vs ds ∈ L → Df L (.ref a) (.list ds)
theorem Df.is (h : Sep L H) (t : Df L v d) : Dp K H v d := by
  cases t with
  | dat t => exact (t.is h).dp
  | ld m => exact (Dl.ld m).is h
  | fd m =>
    obtain ⟨W, h1, f⟩ := h.fdm m
    exact h1.dp f
  | ob m n =>
    obtain ⟨W, h1, f⟩ := h.fdsm n
    exact .lst (sql_of (h.obm m)) (h1.dp f)
theorem fd_lst (h : Sep L H) (m : Ls.fd (.ref a) (.list ds) ∈ L) : ∃ xs, H a = some (.lst xs) ∧ Sep (Ls.fds xs ds :: L) H := by
  obtain ⟨W, s, f, h⟩ := h
  obtain ⟨_, _, h1⟩ := h.mem m
  cases h1 with
  | im z => cases z
  | lst h1 h2 =>
    refine ⟨_, (f _ _ h1).1, ?_⟩
    exact ⟨W, s, f, fun _ => False, s, fun _ z => z.elim, fun a => ⟨.inr, fun z => z.elim False.elim id⟩, ⟨fun _ z => z, h2⟩, h⟩
theorem k_lenF (h : Sep L H) (m : Ls.fd (.ref a) (.list ds) ∈ L) (q : Q (.int ds.length) H) : rLenU K [.ref a] H Q := by
  obtain ⟨xs, h1, h2⟩ := fd_lst h m
  have := h2.fdsLen List.mem_cons_self
  exact k_lenL (sql_of h1) (by rw [this]; exact q)
theorem k_tyF {P : Prop} (h : Sep L H) (m : Ls.fd (.ref a) (.list ds) ∈ L) (q : P) : tyV K "list" (.ref a) H ∧ P := by
  obtain ⟨xs, h1, _⟩ := fd_lst h m
  exact k_tyL (sql_of h1) q
end
end Ls
namespace Ls
open PySem PySem.Spec PyProof.Rows L2 LamX PySem.W
section
variable {K : PySem.W.Frag} {L M : List (As K)} {H H' : Hp} {a l p : Addr} {xs vs : List V} {ds es : List PyData} {d e : PyData} {v x y : V} {σ : L2.St} {Q : VK} {i : Int} {T : List (Addr × Str)}
theorem k_seqF {R R' : Addr → Prop} (h : Ls.Sep L H) (m : fd (.ref a) (.list ds) ∈ L) (q : R a) : ∃ b, V.ref a = .ref b ∧ (((∃ xs, SqL K H b xs) ∧ R b) ∨ ((∃ xs, SqT K H b xs) ∧ R' b)) := by
  obtain ⟨xs, h1, _⟩ := fd_lst h m
  exact ⟨a, rfl, .inl ⟨⟨xs, sql_of h1⟩, q⟩⟩
theorem k_extD (h : Ls.Sep L H) (r : Rep L (ld a ds) (ld a (ds ++ es)) M) (m : ld p es ∈ L) (hl : ds.length + es.length ≤ sizeLine) (q : ∀ H', Ls.Sep M H' → Q .non H') : rExtend (.ref a) [.ref p] H Q := by
  obtain ⟨xs, h1, h2⟩ := h.ldm r.mem
  obtain ⟨ys, h3, h4⟩ := h.ldm m
  exact ⟨a, p, xs, ys, rfl, rfl, h1, h3, by rw [h2.length, h4.length]; exact hl, q _ (h.setDR r (h2.app h4))⟩
theorem Sep.newImA (h : Ls.Sep L H) (hp : H p = none) (h2 : ImAll K H xs ds) : Ls.Sep (ld p ds :: L) (upd H p (.lst xs)) := by
  have z := (h.newD (p := p) (xs := []) (ds := []) hp .nil).setD (xs := xs) (es := ds) (h2.mono (Tp.new hp))
  have e : upd (upd H p (.lst [])) p (.lst xs) = upd H p (.lst xs) := by
    funext b
    by_cases hb : b = p
    · rw [hb, upd_same, upd_same]
    · rw [upd_ne hb, upd_ne hb, upd_ne hb]
  rw [e] at z
  exact z
end
end Ls
namespace Ls
open PySem PySem.Spec PyProof.Rows L2
end Ls
namespace Ls
open PySem PySem.Spec PyProof.Rows L2
end Ls
namespace Ls
open PySem PySem.Spec PyProof.Rows L2
/-- a promise of a def that calls itself: at nought none -/
def recSp (f : Nat → Sp) : Nat → Sp
  | 0 => fun _ _ _ _ => False
  | n + 1 => f n
structure TabK (K : PySem.W.Frag) (w : World) (d : Addr) (kvs : List (Str × V)) : Prop where
  kd : ∃ es n, KDict K w d es n
  yes : ∀ z v, kvs.lookup z = some v → ∃ u, PySem.W.nsIn K d z = some (some u) ∧ RelV v u
  no : ∀ z, kvs.lookup z = none → PySem.W.nsIn K d z = some none
def rInT (d : Addr) (kvs : List (Str × V)) : R2 := fun x y H Q => ∃ z, x = .str z ∧ y = .ref d ∧ Q (.bl (kvs.lookup z).isSome) H
def rNotInT (d : Addr) (kvs : List (Str × V)) : R2 := fun x y H Q => ∃ z, x = .str z ∧ y = .ref d ∧ Q (.bl (!(kvs.lookup z).isSome)) H
def rIxT (d : Addr) (kvs : List (Str × V)) : R2 := fun x y H Q => ∃ z v, x = .ref d ∧ y = .str z ∧ kvs.lookup z = some v ∧ Q v H
section
variable {X : Cx} {d : Addr} {kvs : List (Str × V)}
theorem op_notinT (T : TabK X.K X.w d kvs) : OpR X (compareOp .NotIn) (rNotInT d kvs) := by
  intro pins s σ H x y v u Q I rx ry h
  obtain ⟨z, rfl, rfl, q⟩ := h
  obtain ⟨es, n, D⟩ := T.kd
  cases e : kvs.lookup z with
  | none => exact op_notIn_kd D pins s σ H _ _ v u Q I rx ry ⟨z, none, rfl, rfl, T.no z e, by rw [e] at q; exact q⟩
  | some y =>
    obtain ⟨u0, h1, _⟩ := T.yes z y e
    exact op_notIn_kd D pins s σ H _ _ v u Q I rx ry ⟨z, some u0, rfl, rfl, h1, by rw [e] at q; exact q⟩
theorem ix_T (T : TabK X.K X.w d kvs) : IxR X (rIxT d kvs) := by
  intro value slice pins s σ H x y v u Q I rx ry h hs
  obtain ⟨z, r, rfl, rfl, e, q⟩ := h
  obtain ⟨es, n, D⟩ := T.kd
  obtain ⟨u0, h1, h2⟩ := T.yes z r e
  exact ix_kdict value slice pins s σ H _ _ v u Q I rx ry ⟨d, z, r, rfl, rfl, ⟨es, n, u0, D.at_, D.lit, h1, h2⟩, q⟩ hs
end
section
variable {d : Addr} {kvs : List (Str × V)} {z : Str} {H : Hp} {Q : VK} {v : V}
theorem k_inTb (q : Q (.bl (kvs.lookup z).isSome) H) : rInT d kvs (.str z) (.ref d) H Q := ⟨z, rfl, rfl, q⟩
theorem k_notinTb (q : Q (.bl (!(kvs.lookup z).isSome)) H) : rNotInT d kvs (.str z) (.ref d) H Q := ⟨z, rfl, rfl, q⟩
theorem k_ixTb (e : kvs.lookup z = some v) (q : Q v H) : rIxT d kvs (.ref d) (.str z) H Q := ⟨z, v, rfl, rfl, e, q⟩
end
section
open He
variable {fa : List Fa} {fn : List DefD} {ts : List Tab} {w : World} {K : PySem.W.Frag}
theorem tab_eq (c : SaysT fa fn ts w K) (i : Nat) {t : Tab} (h : ts[i]? = some t := by rfl) : dicW K (t.1 K) = some (keysIn w.params t.2) := by
  have e : ts.map (fun t => dicW K (t.1 K)) = ts.map fun t => some (keysIn w.params t.2) := congrArg (fun z : AlT => z.2) c
  have e2 : (ts.map fun t => dicW K (t.1 K))[i]? = (ts.map fun t => some (keysIn w.params t.2))[i]? := by rw [e]
  rw [List.getElem?_map, List.getElem?_map, h] at e2
  exact Option.some.inj e2
theorem dicW_lk {a : Addr} {r : List (Option (Str × Int))} (h : dicW K a = some r) : ∃ es n, K.lookup a = some ⟨.type "dict", none, .dict es n, #[]⟩ ∧ es.toList.map He.keyOf = r := by
  unfold dicW at h
  split at h
  · rename_i c es m sl hl
    split at h
    · rename_i hb
      obtain ⟨z1, z2⟩ := ba hb
      obtain ⟨z3, z4⟩ := ba z2
      have e1 : c = "dict" := of_decide_eq_true z1
      have e2 : sl = #[] := Array.isEmpty_iff.mp z3
      subst e1 e2
      exact ⟨es, m, hl, Option.some.inj h⟩
    · cases h
  · cases h
theorem find_no {z : Str} {P : Params} : ∀ {es : List DictEntry} {ks : List Str}, es.map He.keyOf = keysIn P ks → z ∉ ks → es.find? (·.key.isStr z) = none ∧ es.any (·.refKey) = false
  | [], _, _, _ => ⟨rfl, rfl⟩
  | e :: r, [], h, _ => by cases h
  | e :: r, k :: ks, h, hz => by
    have h1 : He.keyOf e :: r.map He.keyOf = some (k, PyData.keyHash P k) :: keysIn P ks := h
    injection h1 with h2 h3
    obtain ⟨i1, i2⟩ := find_no h3 (fun m => hz (List.mem_cons_of_mem _ m))
    unfold He.keyOf at h2
    split at h2
    · rename_i x t q
      have h4 := (Prod.mk.inj (Option.some.inj h2)).1
      have ne : x ≠ z := fun y => hz (by rw [← y, h4]; exact List.mem_cons_self)
      have f1 : e.key.isStr z = false := by
        rw [q]
        show decide (x = z) = false
        exact decide_eq_false ne
      have f2 : e.refKey = false := by
        unfold DictEntry.refKey
        rw [q]
      exact ⟨by rw [List.find?_cons, f1]; exact i1, by rw [List.any_cons, f2, i2]; rfl⟩
    · cases h2
theorem lookup_mem {z : Str} {v : V} : ∀ {kvs : List (Str × V)}, kvs.lookup z = some v → (z, v) ∈ kvs
  | [], h => by cases h
  | (k, x) :: r, h => by
    by_cases e : z = k
    · subst e
      rw [List.lookup_cons, beq_self_eq_true] at h
      cases h
      exact List.mem_cons_self
    · rw [List.lookup_cons, beq_false_of_ne e] at h
      exact List.mem_cons_of_mem _ (lookup_mem h)
theorem lookup_no {z : Str} : ∀ {kvs : List (Str × V)}, kvs.lookup z = none → z ∉ kvs.map (·.1)
  | [], _, m => by cases m
  | (k, x) :: r, h, m => by
    by_cases e : z = k
    · subst e
      rw [List.lookup_cons, beq_self_eq_true] at h
      cases h
    · rw [List.lookup_cons, beq_false_of_ne e] at h
      rcases List.mem_cons.mp m with y | y
      · exact e y
      · exact lookup_no h y
theorem tabK_of {a : Addr} {dvs : List (Str × Dv)} (h : dicW K a = some (keysIn w.params (dvs.map (·.1)))) (hv : valsB K a dvs = true) : TabK K w a (dvs.map fun q => (q.1, q.2.v K)) := by
  refine ⟨dicW_ok h, fun z v e => ?_, fun z e => ?_⟩
  · obtain ⟨q, hq, e2⟩ := List.mem_map.mp (lookup_mem e)
    obtain ⟨u, h1, h2⟩ := valsB_ok hv hq
    cases e2
    exact ⟨u, h1, h2⟩
  · have hn := lookup_no e
    rw [List.map_map] at hn
    obtain ⟨es, n, hl, he⟩ := dicW_lk h
    obtain ⟨h1, h2⟩ := find_no he hn
    unfold PySem.W.nsIn
    rw [hl]
    simp only [h1, h2, Bool.false_eq_true, if_false]
end
end Ls
namespace Ls
open PySem PySem.Spec PyProof.Rows L2 LamX
section
variable {K : PySem.W.Frag} {v : V} {d : PyData} {vs : List V} {ds : List PyData}
instance : NoTb (fd (K := K) v d) := ⟨fun z a q => (z.1 a q).elim⟩
instance : NoTb (fds (K := K) vs ds) := ⟨fun z a q => (z.1 a q).elim⟩
end
end Ls
namespace Ls
open PySem PySem.Spec PyProof.Rows L2 LamX
end Ls
namespace Ls
open PySem PySem.Spec PyProof.Rows L2 LamX PySem.W
section
variable {K : PySem.W.Frag} {L M N : List (As K)} {H H' : Hp} {a l p D : Addr} {xs vs : List V} {ds es : List PyData} {d e : PyData} {v x y z : V} {σ : L2.St} {Q : VK} {n j : Nat}
theorem all_str (zs : List Str) : (zs.map PyData.str).all isS = true := by
  rw [List.all_eq_true]
  intro d hd
  obtain ⟨z, _, rfl⟩ := List.mem_map.mp hd
  rfl
theorem k_gtupStar {tg : TGs} {R : L2.St → Hp → Prop} (h : Ls.Sep L H) (m : im (.ref a) (.tuple ds) ∈ L) (hn : n ≤ ds.length) (hl : ds.length ≤ 1000) (q : GvAll (K := K) (ds.take n) fun vs M => ∀ p H', Ls.Sep (ld p (ds.drop n) :: (M ++ L)) H' → tg (vs ++ [.ref p]) σ H' R) : gTupS K n tg (.ref a) σ H R := by
  obtain ⟨a', xs, e, h1, h2⟩ := im_tup (h.imm m)
  cases e
  obtain ⟨M, h3, h4⟩ := q.go (ImAll.take n h2) h
  refine ⟨a, xs, rfl, h1, by rw [h2.length]; exact hn, by rw [h2.length]; exact hl, fun p hp => h3 p _ (Sep.newImA h4 hp ((ImAll.drop n h2)))⟩
theorem k_maxI {ns : List Int} (h : Ls.Sep L H) (m : ld a (ns.map .int) ∈ L) (h0 : ns ≠ []) (q : ∀ i, i ∈ ns → (∀ k ∈ ns, k ≤ i) → Q (.int i) H) : rMaxU K [V.ref a] H Q :=
  .inr ⟨a, ns, rfl, h.sqi m, List.length_pos_iff.mpr h0, fun i hi hm => q i hi hm⟩
end
end Ls
namespace Ls
open PySem PySem.Spec PyProof.Rows L2
section
variable {K : PySem.W.Frag} {L M : List (As K)} {H : Hp} {Q : VK} {a p : Addr} {v : V} {d : PyData} {ds : List PyData} {i : Int} {z x y u : Str}
theorem k_ixG (h : Sep L H) (m : im (.ref a) (.tuple ds) ∈ L) (e : atI ds i = some d) (q : ∀ v, Sep (im v d :: L) H → Q v H) : rIx K (.ref a) (.int i) H Q := by
  obtain ⟨a', xs, e', h1, h2⟩ := im_tup (h.imm m)
  cases e'
  obtain ⟨v, hv, hd⟩ := atI_all h2 e
  exact k_ixT h1 hv (q v (Sep.im_iff.mpr ⟨hd, h⟩))
theorem k_isiM {T : String} {b : Bool} (h : Sep L H) (m : im v d ∈ L) (e : kitB (tyn d) T = some b) (q : Q (.bl b) H) : rIsi K [v, .ty T] H Q := k_isi (h.imm m).dp rfl e q
theorem im_isRef (h : Sep L H) (m : im v (.tuple ds) ∈ L) : ∃ a, v = .ref a := by
  obtain ⟨a', xs, e', h1, h2⟩ := im_tup (h.imm m)
  exact ⟨a', e'⟩
theorem im_isStr (h : Sep L H) (m : im v (.str z) ∈ L) : v = .str z := by
  cases h.imm m
  rfl
theorem im_isInt (h : Sep L H) (m : im v (.int i) ∈ L) : v = .int i := by
  cases h.imm m
  rfl
theorem k_inSt {zs : List Str} (h : Sep L H) (m : im (.ref p) (.tuple (zs.map PyData.str)) ∈ L) (q : Q (.bl (decide (z ∈ zs))) H) : rInU K (.str z) (.ref p) H Q := by
  obtain ⟨a', xs, e', h1, h2⟩ := im_tup (h.imm m)
  cases e'
  cases ims_str h2
  exact .inl ⟨p, _, rfl, .inr h1, rfl, flat_strs zs, by rw [if_neg (by decide), inV_str]; exact q⟩
theorem k_ninSt {zs : List Str} (h : Sep L H) (m : im (.ref p) (.tuple (zs.map PyData.str)) ∈ L) (q : Q (.bl (!decide (z ∈ zs))) H) : rNotInU K (.str z) (.ref p) H Q := by
  obtain ⟨a', xs, e', h1, h2⟩ := im_tup (h.imm m)
  cases e'
  cases ims_str h2
  exact .inl ⟨p, _, rfl, .inr h1, rfl, flat_strs zs, by rw [if_pos rfl, inV_str]; exact q⟩
theorem k_inS2 (h : Sep L H) (m : im (.ref p) (.tuple [.str x, .str y]) ∈ L) (q : Q (.bl (decide (z ∈ [x, y]))) H) : rInU K (.str z) (.ref p) H Q := k_inSt (zs := [x, y]) h m q
theorem k_inS3 (h : Sep L H) (m : im (.ref p) (.tuple [.str x, .str y, .str u]) ∈ L) (q : Q (.bl (decide (z ∈ [x, y, u]))) H) : rInU K (.str z) (.ref p) H Q := k_inSt (zs := [x, y, u]) h m q
theorem k_ninS2 (h : Sep L H) (m : im (.ref p) (.tuple [.str x, .str y]) ∈ L) (q : Q (.bl (!decide (z ∈ [x, y]))) H) : rNotInU K (.str z) (.ref p) H Q := k_ninSt (zs := [x, y]) h m q
theorem k_ninS3 (h : Sep L H) (m : im (.ref p) (.tuple [.str x, .str y, .str u]) ∈ L) (q : Q (.bl (!decide (z ∈ [x, y, u]))) H) : rNotInU K (.str z) (.ref p) H Q := k_ninSt (zs := [x, y, u]) h m q
end
section
variable {K : PySem.W.Frag} {L M : List (As K)} {H : Hp} {Q : VK} {a : Addr} {ds : List PyData} {i : Int} {z : Str}
theorem k_isSS (q : Q (.bl true) H) : rIsi K [.str z, .ty "str"] H Q := k_isi (.str z) rfl kt_str_str q
theorem k_isSI (q : Q (.bl false) H) : rIsi K [.str z, .ty "int"] H Q := k_isi (.str z) rfl kt_str_int q
theorem k_isST (q : Q (.bl false) H) : rIsi K [.str z, .ty "tuple"] H Q := k_isi (.str z) rfl kt_str_tuple q
theorem k_isIS (q : Q (.bl false) H) : rIsi K [.int i, .ty "str"] H Q := k_isi (.int i) rfl kt_int_str q
theorem k_isII (q : Q (.bl true) H) : rIsi K [.int i, .ty "int"] H Q := k_isi (.int i) rfl kt_int_int q
theorem k_isIT (q : Q (.bl false) H) : rIsi K [.int i, .ty "tuple"] H Q := k_isi (.int i) rfl kt_int_tuple q
theorem k_isTS (h : Sep L H) (m : im (.ref a) (.tuple ds) ∈ L) (q : Q (.bl false) H) : rIsi K [.ref a, .ty "str"] H Q := k_isi (h.imm m).dp rfl kt_tuple_str q
theorem k_isTI (h : Sep L H) (m : im (.ref a) (.tuple ds) ∈ L) (q : Q (.bl false) H) : rIsi K [.ref a, .ty "int"] H Q := k_isi (h.imm m).dp rfl kt_tuple_int q
theorem k_isTT (h : Sep L H) (m : im (.ref a) (.tuple ds) ∈ L) (q : Q (.bl true) H) : rIsi K [.ref a, .ty "tuple"] H Q := k_isi (h.imm m).dp rfl kt_tuple_tuple q
end
section
variable {K : PySem.W.Frag} {L : List (As K)} {H : Hp} {Q : VK} {a l : Addr} {ds es : List PyData}
/-- the sum of two tuples of data -/
theorem k_addIA (h : Sep L H) (m : im (.ref a) (.tuple ds) ∈ L) (m2 : im (.ref l) (.tuple es) ∈ L) (hl : ds.length + es.length ≤ sizeLine) (q : ∀ p H', Sep (im (.ref p) (.tuple (ds ++ es)) :: L) H' → Q (.ref p) H') : rAddU K (.ref a) (.ref l) H Q := by
  have i1 := h.imm m
  have i2 := h.imm m2
  obtain ⟨a', xs, e, h1, k1⟩ := im_tup i1
  cases e
  obtain ⟨a', ys, e, h2, k2⟩ := im_tup i2
  cases e
  refine k_addT h1 h2 (by rw [k1.length, k2.length]; exact hl) (fun e => ?_) (fun _ e => ?_) fun p hp => q p _ (Sep.im_iff.mpr ⟨.tup (sqt_of upd_same) ((k1.app k2).mono (Tp.new hp)), h.same (same_new hp)⟩)
  · subst e
    cases k1
    exact q l H (Sep.im_iff.mpr ⟨i2, h⟩)
  · subst e
    cases k2
    exact q a H (Sep.im_iff.mpr ⟨by rw [List.append_nil]; exact i1, h⟩)
end
theorem at00 {α : Type} (x : α) (r : List α) : atI (x :: r) 0 = some x := by
  show atI (x :: r) ((0 : Nat) : Int) = some x
  exact atI_nat rfl
theorem at01 {α : Type} (x y : α) (r : List α) : atI (x :: y :: r) 1 = some y := by
  show atI (x :: y :: r) ((1 : Nat) : Int) = some y
  exact atI_nat rfl
theorem at02 {α : Type} (x y z : α) (r : List α) : atI (x :: y :: z :: r) 2 = some z := by
  show atI (x :: y :: z :: r) ((2 : Nat) : Int) = some z
  exact atI_nat rfl
end Ls
namespace Ls
open PySem PySem.Spec PyProof.Rows L2
end Ls
namespace Ls
open PySem PySem.Spec PyProof.Rows L2
end Ls
namespace Ls
open PySem PySem.Spec PyProof.Rows L2
end Ls
namespace Ls
open PySem PySem.Spec PyProof.Rows L2
end Ls
namespace Ls
open PySem PySem.Spec PyProof.Rows L2 TL
def rStarts : V → List V → Hp → VK → Prop := fun x xs H Q => ∃ a b, x = .str a ∧ xs = [.str b] ∧ Q (.bl (Txt.startswith a b)) H
def rEnds : V → List V → Hp → VK → Prop := fun x xs H Q => ∃ a b, x = .str a ∧ xs = [.str b] ∧ Q (.bl (Txt.endswith a b)) H
def rPart : V → List V → Hp → VK → Prop := fun x xs H Q => ∃ a b, x = .str a ∧ xs = [.str b] ∧ (b.length == 0) = false ∧ a.length ≤ sizeLine ∧
    ∀ p, H p = none → Q (.ref p) (upd H p (.tup [.str (Txt.partition a b).1, .str (Txt.partition a b).2.1, .str (Txt.partition a b).2.2]))
section
variable {X : Cx} {o e : Expr} {to te : TE} {apos pos : Pos}
theorem pe_starts (ho : PE X o to) (he : PE X e te) (hs : starEach [e] X.env = [(false, eval e X.env)] := by rfl) (hbase : attributeBase o "startswith" X.env (eval o X.env) = eval o X.env := by rfl) (hline : (apos.endLine == pos.line) = true := by rfl) :
    PE X (.Call (.Attribute o "startswith" apos) [e] [] pos) (tM1 rStarts to te) := pe_m1 F.slot_str_startswith F.type_str_startswith mt_startswith ho he hs hbase hline
theorem pe_ends (ho : PE X o to) (he : PE X e te) (hs : starEach [e] X.env = [(false, eval e X.env)] := by rfl) (hbase : attributeBase o "endswith" X.env (eval o X.env) = eval o X.env := by rfl) (hline : (apos.endLine == pos.line) = true := by rfl) :
    PE X (.Call (.Attribute o "endswith" apos) [e] [] pos) (tM1 rEnds to te) := pe_m1 F.slot_str_endswith F.type_str_endswith mt_endswith ho he hs hbase hline
theorem pe_part (ho : PE X o to) (he : PE X e te) (hs : starEach [e] X.env = [(false, eval e X.env)] := by rfl) (hbase : attributeBase o "partition" X.env (eval o X.env) = eval o X.env := by rfl) (hline : (apos.endLine == pos.line) = true := by rfl) :
    PE X (.Call (.Attribute o "partition" apos) [e] [] pos) (tM1 rPart to te) := pe_partition ho he hs hbase hline
end
section
variable {K : PySem.W.Frag} {L : List (As K)} {H : Hp} {Q : VK} {a b : Str} {σ : L2.St} {to te : TE} {r : V → List V → Hp → VK → Prop}
theorem k_m1 (h : to σ H fun x H1 => (∃ a, x = .str a) ∧ te σ H1 fun y H2 => r x [y] H2 Q) : tM1 r to te σ H Q := h
theorem k_starts (q : Q (.bl (Txt.startswith a b)) H) : rStarts (.str a) [.str b] H Q := ⟨a, b, rfl, rfl, q⟩
theorem k_ends (q : Q (.bl (Txt.endswith a b)) H) : rEnds (.str a) [.str b] H Q := ⟨a, b, rfl, rfl, q⟩
theorem k_part3 (h : Ls.Sep L H) (hb : (b.length == 0) = false) (hl : a.length ≤ sizeLine) (q : ∀ p H', Ls.Sep (im (.ref p) (.tuple [.str (Txt.partition a b).1, .str (Txt.partition a b).2.1, .str (Txt.partition a b).2.2]) :: L) H' → Q (.ref p) H') : rPart (.str a) [.str b] H Q :=
  ⟨a, b, rfl, rfl, hb, hl, fun p hp => q p _ (Sep.im_iff.mpr ⟨.tup (sqt_of upd_same) (.cons (.str _) (.cons (.str _) (.cons (.str _) .nil))), h.same (same_new hp)⟩)⟩
end
theorem starts_iff {x y : Str} (hy : tl y ≠ []) : Txt.startswith x y = true ↔ pre (tl y) (tl x) = true := by
  have h := at_iff (x := x) hy 0
  rw [List.drop_zero] at h
  rw [← h]
  unfold Txt.startswith
  rw [Bool.and_eq_true, decide_eq_true_iff]
  exact Iff.rfl
theorem ends_iff {x y : Str} (hy : tl y ≠ []) (hl : y.length ≤ x.length) : Txt.endswith x y = true ↔ pre (tl y) ((tl x).drop (x.length - y.length)) = true := by
  have h := at_iff (x := x) hy (x.length - y.length)
  rw [← h]
  unfold Txt.endswith
  rw [Bool.and_eq_true, decide_eq_true_iff]
  exact Iff.intro (fun h => ⟨by omega, h.2⟩) fun h => ⟨by omega, h.2⟩
theorem pre_iff {y x : List Nat} : pre y x = true ↔ x.take y.length = y := by
  unfold pre
  exact beq_iff_eq
theorem starts_app {x y : Str} {r : List Nat} (hy : tl y ≠ []) (h : tl x = tl y ++ r) : Txt.startswith x y = true := by
  rw [starts_iff hy, pre_iff, h, List.take_left']
  rfl
/-- a sign of y that x lacks -/
theorem starts_no {x y : Str} {c : Nat} (hc : c ∈ tl y) (h : c ∉ tl x) : Txt.startswith x y = false := by
  refine Bool.eq_false_iff.mpr fun z => h ?_
  rw [starts_iff (fun e => by rw [e] at hc; cases hc), pre_iff] at z
  rw [← z] at hc
  exact List.mem_of_mem_take hc
/-- another sign at its place -/
theorem starts_ne {x y : Str} {i c d : Nat} (h1 : (tl x)[i]? = some c) (h2 : (tl y)[i]? = some d) (n : c ≠ d) : Txt.startswith x y = false := by
  refine Bool.eq_false_iff.mpr fun z => n ?_
  rw [starts_iff (fun e => by rw [e] at h2; simp at h2), pre_iff] at z
  rw [← z, List.getElem?_take] at h2
  split at h2
  · rw [h1] at h2
    exact Option.some.inj h2
  · cases h2
theorem ends_app {x y : Str} {r : List Nat} (hy : tl y ≠ []) (h : tl x = r ++ tl y) : Txt.endswith x y = true := by
  have l : ∀ z : Str, (tl z).length = z.length := fun z => Array.length_toList
  have h1 : x.length = r.length + y.length := by rw [← l, h, List.length_append, l]
  rw [ends_iff hy (by omega), pre_iff, h, show x.length - y.length = r.length by omega, List.drop_left', List.take_of_length_le (Nat.le_refl _)]
  rfl
end Ls
namespace Ls
open PySem PySem.Spec PyProof.Rows L2
structure KeysK (K : PySem.W.Frag) (d : Addr) (ks : List Str) : Prop where
  lk : ∃ es n, K.lookup d = some ⟨.type "dict", none, .dict es n, #[]⟩ ∧ es.size = ks.length ∧ (d == sysModules) = false ∧ ∀ (i : Nat) (k : Str), ks[i]? = some k → ∃ (en : DictEntry) (t : Tok), es[i]? = some en ∧ en.key = .str k t
theorem dicW_low {K : PySem.W.Frag} {a : Addr} {r : List (Option (Str × Int))} (h : He.dicW K a = some r) : (a == sysModules) = false := by
  unfold He.dicW at h
  split at h
  · split at h
    · rename_i hb
      have z2 := (Bool.and_eq_true_iff.mp (Bool.and_eq_true_iff.mp hb).2).2
      cases e : (a == sysModules) with
      | false => rfl
      | true => rw [e] at z2; cases z2
    · cases h
  · cases h
theorem keysK_of {K : PySem.W.Frag} {P : Params} {d : Addr} {ks : List Str} (h : He.dicW K d = some (He.keysIn P ks)) : KeysK K d ks := by
  have hd := dicW_low h
  obtain ⟨es, n, hl, e⟩ := dicW_lk h
  have hlen : es.size = ks.length := by
    have := congrArg List.length e
    unfold He.keysIn at this
    rwa [List.length_map, List.length_map, Array.length_toList] at this
  refine ⟨es, n, hl, hlen, hd, fun i k hk => ?_⟩
  have hi := (List.getElem?_eq_some_iff.mp hk).1
  have hn : es[i]? = some es[i] := Array.getElem?_eq_getElem (by omega)
  have e2 : (es.toList.map He.keyOf)[i]? = (He.keysIn P ks)[i]? := by rw [e]
  unfold He.keysIn at e2
  rw [List.getElem?_map, List.getElem?_map, hk, Array.getElem?_toList, hn] at e2
  have e3 : He.keyOf es[i] = some (k, PyData.keyHash P k) := Option.some.inj e2
  unfold He.keyOf at e3
  split at e3
  · rename_i x t q
    have e4 := (Prod.mk.inj (Option.some.inj e3)).1
    exact ⟨es[i], t, hn, by rw [q, e4]⟩
  · cases e3
def ItkK (ks : List Str) : It := ⟨fun i _ => i < ks.length, fun i H x H' => H' = H ∧ ∃ k, ks[i]? = some k ∧ x = .str k, fun i _ => ks.length ≤ i⟩
theorem turn_keysK {P : Program} {w : World} {K : PySem.W.Frag} {tg : Expr} {d : Addr} {es : Array DictEntry} {n : Nat} {ks : List Str} (it : Addr) (hl : K.lookup d = some ⟨.type "dict", none, .dict es n, #[]⟩) (hs : es.size = ks.length)
    (hk : ∀ (i : Nat) (k : Str), ks[i]? = some k → ∃ (en : DictEntry) (t : Tok), es[i]? = some en ∧ en.key = .str k t) : Turn P w K tg (ItkK ks) [it] it (fun i h => h.IsKeyIter it d i ks.length n) where
  mem := by simp
  obj := fun i h st b hb => by
    have e : b = it := by simpa using hb
    subst e
    obtain ⟨oi, e, c, dd⟩ := st
    exact ⟨oi, e, fun v z => by rw [dd] at z; cases z⟩
  keep := fun i h h' st k => st.at fun oi e => k it (by simp) oi e
  item := by
    intro X hP hw hK hc i pins s σ H E I hf st hg
    subst hP hw hK
    obtain ⟨f0, f1, f2, f3, f4, f5⟩ := hf it (by simp)
    obtain ⟨k, hkv⟩ : ∃ k, ks[i]? = some k := ⟨ks[i], List.getElem?_eq_getElem hg⟩
    obtain ⟨en, t, hen, hkey⟩ := hk i k hkv
    refine next_key_item st (I.kIn d _ hl) rfl hs hen fun h' st' sb => ?_
    have I1 : Inv X pins σ H { s with heap := h' } := I.turned (t' := s.toks) (fun b ob hb e => (sb.2 b hb).trans e) f0 f1 f3 f4 f5
    obtain ⟨oi, e, c, dd⟩ := id st'
    exact ⟨en.key, rfl, go_of (s := { s with heap := h' }) e c dd (by decide) ⟨.str k, H, I1, by rw [hkey]; exact ⟨t, rfl⟩, ⟨rfl, k, hkv, rfl⟩, st', fun b hb => (hf b hb).1⟩⟩
  done := by
    intro X hP hw hK hc i pins s σ H E I hf st hg
    subst hP hw hK
    obtain ⟨f0, f1, f2, f3, f4, f5⟩ := hf it (by simp)
    exact next_key_end (I.ok.hd hc) st (I.kIn d _ hl) rfl hs hg fun h' eb => ⟨rfl, I.turned (t' := s.toks) (fun b ob hb e => eb b ob hb e) f0 f1 f3 f4 f5⟩
  self := fun A i s Q E st h => wpAny_pyIter_keyiter st h
def iKeysK (ks : List Str) : TI := fun σ H R => R (ItkK ks) H
theorem pi_keysK {X : Cx} {tg e : Expr} {d : Addr} {ks : List Str} (T : KeysK X.K d ks) (he : PE X e (tC (.ref d))) : PI X tg e (iKeysK ks) := by
  refine ⟨fun pins s σ H R I h => ?_⟩
  refine thn (he.run pins s σ H (fun x H1 => x = .ref d ∧ H1 = H) I ⟨rfl, rfl⟩) fun u s1 ⟨x, H1, I1, rx, ex, eH⟩ => ?_
  subst ex eH
  obtain rfl : u = Value.ref d := rx
  obtain ⟨es, n, hl, hs, hd, hk⟩ := T.lk
  refine iter_keys hd (I1.kIn d _ hl) ⟨rfl, rfl, rfl⟩ rfl (pi_one (tk := s1.toks) I1 _ (turn_keysK _ hl hs hk) ⟨_, Heap.get?_push_size _ rfl, rfl, ?_⟩ h)
  rw [hs] <;> rfl
section
variable {K : PySem.W.Frag} {L : List (As K)} {ks : List Str}
theorem wk_keysK : Wk (ItkK ks) L ks.length fun i q => ∀ k, ks[i]? = some k → q (.str k) [] where
  go := fun i H hi h => hi
  yl := fun i H x H' R hi h ⟨e, k, hk, ex⟩ q => by
    subst e ex
    exact q k hk _ h
  st := fun H h => Nat.le_refl _
theorem k_keysK {σ : L2.St} {H : Hp} {R : It → Hp → Prop} (h : R (ItkK ks) H) : iKeysK ks σ H R := h
end
end Ls
namespace Ls
open PySem PySem.Spec PyProof.Rows L2
theorem strIterType_two (x : Str) : strIterType x = "str_ascii_iterator" ∨ strIterType x = "str_iterator" := by
  unfold strIterType
  split
  · exact .inl rfl
  · exact .inr rfl
def IteS (x : Str) : It :=
  ⟨fun i _ => i < x.cps.size, fun i H v H' => ∃ T c, x.cps[i]? = some c ∧ v = .ref T ∧ H T = none ∧ H' = upd H T (.tup [.int (i : Nat), .str ⟨#[c]⟩]), fun i _ => x.cps.size ≤ i⟩
theorem turn_enumS {P : Program} {w : World} {K : PySem.W.Frag} {elts : List Expr} {kk : Nat} {tpos : Pos} (x : Str) (t : Tok) (e it : Addr) :
    Turn P w K (.Tuple elts kk tpos) (IteS x) [e, it] e (fun i h => (∃ old, IsEnum h e it ((i : Nat) : Int) old) ∧ h.IsStrIter it (strIterType x) x t i ∧ e ≠ it) where
  mem := List.mem_cons_self
  obj := fun i h st b hb => by
    obtain ⟨⟨old, hen⟩, ⟨o, ho, hc, hd⟩, _⟩ := st
    rcases List.mem_cons.mp hb with rfl | hb
    · exact ⟨_, hen, fun v q => nomatch q⟩
    · rw [List.mem_singleton.mp hb]; exact ⟨o, ho, fun v q => by rw [hd] at q; cases q⟩
  keep := fun i h h' st k => let ⟨⟨old, hen⟩, ⟨o, ho, r⟩, hne⟩ := st; ⟨⟨old, k e List.mem_cons_self _ hen⟩, ⟨o, k it (List.mem_cons_of_mem _ List.mem_cons_self) o ho, r⟩, hne⟩
  item := by
    intro X hP hw hK hc i pins s σ H E I hf st hg
    subst hP hw hK
    obtain ⟨⟨old, hen⟩, hit, hne⟩ := st
    have sze : e < s.heap.objs.size := Heap.lt_size hen
    have szi : it < s.heap.objs.size := by obtain ⟨_, q, _⟩ := hit; exact Heap.lt_size q
    refine wpAny_pyNext_enum_itemD (Draws.text (A := X.A.in1) (by exact I.ok.hd hc) it x t) hen hit hg hne (by
      intro z
      exact hne (List.mem_singleton.mp z)) fun v h' tk hP ho hst hT hsz hk => ?_
    obtain ⟨c, u, hcx, rfl⟩ := hP
    refine ⟨_, rfl, wpAny_letOwnedTupleGo_enum (s := { s with heap := h', toks := tk + 1 }) ho fun h'' hen2 sb => ?_⟩
    have hT2 : h''.get? s.heap.objs.size = some { cls := .type "tuple", data := .seq #[.int i tk, .str ⟨#[c]⟩ u] } := (sb.2 _ (Nat.ne_of_gt sze)).trans hT
    have new : ObjOk X.prog X.w (upd H s.heap.objs.size (.tup [.int (i : Nat), .str ⟨#[c]⟩])) h'' s.heap.objs.size (.tup [.int (i : Nat), .str ⟨#[c]⟩]) :=
      ⟨by show 2 ≤ sizeLine; decide, [.int i tk, .str ⟨#[c]⟩ u], .cons ⟨_, rfl⟩ (.cons ⟨_, rfl⟩ .nil), ⟨_, hT2, rfl, _, rfl⟩⟩
    have I1 : Inv X pins σ (upd H s.heap.objs.size (.tup [.int (i : Nat), .str ⟨#[c]⟩])) { s with heap := h'', toks := tk + 1 } :=
      I.turnedNew (ch := [e, it]) (fun b ob hb q => (sb.2 b (fun z => hb (by rw [z]; exact List.mem_cons_self))).trans (hk b ob (fun z => hb (by rw [z]; exact List.mem_cons_self)) (fun z => hb (by rw [z]; exact List.mem_cons_of_mem _ List.mem_cons_self)) q)) hf (Nat.le_refl _) new
    refine ⟨.ref s.heap.objs.size, _, I1, rfl, ⟨_, c, hcx, rfl, I.hok.fresh (Nat.le_refl _), rfl⟩, ⟨⟨.str ⟨#[c]⟩ u, ?_⟩, ?_, hne⟩, fun b hb => ?_⟩
    · rw [show ((i + 1 : Nat) : Int) = (i : Int) + 1 by omega]; exact hen2
    · obtain ⟨o, ho2, r⟩ := hst
      exact ⟨o, (sb.2 it (Ne.symm hne)).trans ho2, r⟩
    · have hb2 : b < s.heap.objs.size := by
        rcases List.mem_cons.mp hb with z | z
        · rw [z]; exact sze
        · rw [List.mem_singleton.mp z]; exact szi
      rw [upd_ne (Nat.ne_of_lt hb2)]
      exact (hf b hb).1
  done := by
    intro X hP hw hK hc i pins s σ H E I hf st hg
    subst hP hw hK
    obtain ⟨⟨old, hen⟩, hit, hne⟩ := st
    obtain ⟨f0, f1, f2, f3, f4, f5⟩ := hf it (List.mem_cons_of_mem _ List.mem_cons_self)
    have ge : x.cps.size ≤ i := hg
    have D : Draws X.prog X.w X.A.in1 it [it] i (fun _ _ => True) (fun j h => j = i ∧ h.IsStrIter it (strIterType x) x t i) :=
      { live := fun _ _ st => let ⟨o, ho, _⟩ := st.2; ⟨o, ho⟩
        frame := fun _ _ _ st hk => ⟨st.1, let ⟨o, ho, r⟩ := st.2; ⟨o, hk it List.mem_cons_self o ho, r⟩⟩
        item := fun j _ _ _ hj st _ => absurd st.1 (Nat.ne_of_lt hj)
        done := fun s0 Q0 E0 st k => by
          have hx : x.cps[i]? = none := Array.getElem?_eq_none ge
          have st2 := st.2
          rcases strIterType_two x with e | e
          · rw [e] at st2
            exact wpAny_nextOf_ascii_end (by exact I.ok.hd hc) st2 hx k
          · rw [e] at st2
            exact wpAny_nextOf_wide_end (by exact I.ok.hd hc) st2 hx k }
    exact wpAny_pyNext_enum_endD D hen ⟨rfl, hit⟩ fun h' eb => ⟨rfl, I.turned (t' := s.toks) (fun b o hb q => eb b o hb q) f0 f1 f3 f4 f5⟩
  self := fun A i s Q E st h => let ⟨⟨_, hen⟩, _⟩ := st; wpAny_pyIter_enum hen h
def iEnumS (ta : TA) : TI := fun σ H R => ta σ H fun vs H1 => ∃ x, vs = [.str x] ∧ R (IteS x) H1
theorem pi_enumS {X : Cx} {e : Expr} {ta : TA} {p pos tpos : Pos} {elts : List Expr} {kk : Nat} (hg : Gl X "enumerate") (hm : X.mg "enumerate" = none) (ha : PA X [e] ta) (hs : starEach [e] X.env = [(false, eval e X.env)] := by rfl) :
    PI X (.Tuple elts kk tpos) (.Call (.Name "enumerate" p) [e] [] pos) (iEnumS ta) := by
  refine ⟨fun pins s σ H R I h => ?_⟩
  refine Call_ (ld_blt I hg hm boot_enumerate (PyProof.Rows.callWith_type1 (thn (ha.run pos pins s σ H _ I h) fun us s1 ⟨vs, H1, I1, r1, q1⟩ => ?_) hs rfl))
  obtain ⟨x, ex, q⟩ := q1
  subst ex
  cases r1 with
  | cons r rr =>
    cases rr
    obtain ⟨u, rfl⟩ := r
    have ge : ∀ b, b ∈ [s1.heap.objs.size + 1, s1.heap.objs.size] → s1.heap.objs.size ≤ b := fun b hb => by
      rcases List.mem_cons.mp hb with z | z
      · rw [z]; exact Nat.le_add_right _ _
      · rw [List.mem_singleton.mp z]; exact Nat.le_refl _
    refine call_enumerate_str fun h' he hit hsz hk => wpAny_pyIter_enum he ?_
    have I2 : Inv X pins σ H1 { s1 with heap := h' } := I1.kept (t' := s1.toks) hk
    exact ⟨s1.heap.objs.size + 1, [s1.heap.objs.size + 1, s1.heap.objs.size], _, _, H1, rfl, I2, turn_enumS x u (s1.heap.objs.size + 1) s1.heap.objs.size, ⟨⟨.none, he⟩, hit, Nat.succ_ne_self _⟩, fun b hb => I1.fpOk (ge b hb) (I1.hok.fresh (ge b hb)), q⟩
section
variable {K : PySem.W.Frag} {L : List (As K)}
theorem k_enumS {t : TA} {σ : L2.St} {H : Hp} {R : It → Hp → Prop} (h : t σ H fun vs H1 => ∃ x, vs = [.str x] ∧ R (IteS x) H1) : iEnumS t σ H R := h
theorem k_enS {z : Str} {R : Str → Prop} (h : R z) : ∃ x, [V.str z] = [.str x] ∧ R x := ⟨z, rfl, h⟩
theorem wk_enS {z : Str} : Wk (IteS z) L z.cps.toList.length fun i q => ∀ c T, z.cps.toList[i]? = some c → q (.ref T) [im (.ref T) (.tuple [.int (i : Nat), .str (⟨#[c]⟩ : Str)])] where
  go := fun i H hi h => show i < z.cps.size by simpa using hi
  yl := fun i H x H' R hi h ⟨T, c, hc, e, hT, e2⟩ q => by
    subst e e2
    refine q c T (by simpa using hc) _ (Sep.im_iff.mpr ⟨?_, h.same (same_new hT)⟩)
    exact .tup (sqt_of upd_same) (.cons (.int _) (.cons (.str _) .nil))
  st := fun H h => by
    show z.cps.size ≤ _
    simp
end
end Ls
namespace Ls
open PySem PySem.Spec PyProof.Rows L2 PySem.W.KOpn
def revS (z : Str) : Str := ⟨z.cps.toList.reverse.toArray⟩
theorem revS_is (z : Str) (u : Tok) : Txt.sliceBy z none none (-1, u) = revS z := by
  refine TL.ext_tl ?_
  show (Txt.sliceBy z none none (-1, u)).cps.toList = z.cps.toList.reverse.toArray.toList
  rw [step_rev_list, List.toList_toArray]
  have hl : z.cps.toList.length = z.length := Array.length_toList
  refine List.ext_getElem (by rw [List.length_map, List.length_range, List.length_reverse, hl]) fun i h1 h2 => ?_
  rw [List.getElem_map, List.getElem_range, List.getElem_reverse]
  rw [List.length_map, List.length_range] at h1
  have h3 : z.length - 1 - i < z.cps.size := by show _ < z.length; omega
  rw [Array.getD_eq_getD_getElem?, Array.getElem?_eq_getElem h3, Option.getD_some]
  simp only [hl]
  exact (Array.getElem_toList h3).symm
def tRevS (te : TE) : TE := fun σ H Q => te σ H fun x H1 => ∃ z, x = .str z ∧ z.length ≤ sizeLine ∧ Q (.str (revS z)) H1
section
variable {X : Cx}
theorem pe_revS {e : Expr} {te : TE} {k : Nat} {p1 p2 p3 pos : Pos} (he : PE X e te) : PE X (.Subscript e (.Slice none none (some (.UnaryOp .USub (.Constant (.int 1) k p1) p2)) p3) pos) (tRevS te) := by
  refine ⟨fun pins s σ H Q I h => ?_⟩
  refine Subscript_ (thn (he.run pins s σ H _ I h) fun v s1 ⟨x, H1, I1, r1, q1⟩ => ?_)
  obtain ⟨z, ex, hz, q⟩ := q1
  subst ex
  obtain ⟨tz, rfl⟩ := r1
  have hst : PO X (some (.UnaryOp .USub (.Constant (.int 1) k p1) p2)) (tPart (tUn (rU fun i => .int (-i)) (tC (.int 1)))) := po_some (pe_un un_neg pe_int)
  refine wpAny_Slice (thn (po_none.run pins s1 σ H1 (fun o H2 => o = none ∧ H2 = H1) I1 ⟨rfl, rfl⟩) fun vl s2 ⟨l, H2, I2, pl, el, e2⟩ => ?_)
  subst el e2
  refine thn (po_none.run pins s2 σ H2 (fun o H3 => o = none ∧ H3 = H2) I2 ⟨rfl, rfl⟩) fun vu s3 ⟨u, H3, I3, pu, eu, e3⟩ => ?_
  subst eu e3
  refine thn (hst.run pins s3 σ H3 (fun o H4 => o = some (-1) ∧ H4 = H3) I3 ⟨1, rfl, -1, rfl, rfl, rfl⟩) fun vs s4 ⟨o, H4, I4, ps, eo, e4⟩ => ?_
  subst eo e4
  have I5 : Inv X pins σ H4 { s4 with heap := s4.heap.push { cls := .type "slice", data := .fields #[vl, vu, vs] } } := I4.kept (t' := s4.toks) fun b ob q => Heap.get?_push_of_some _ q
  obtain ⟨l, rfl, el⟩ := IsPart.raw pl
  obtain ⟨u, rfl, eu⟩ := IsPart.raw pu
  obtain ⟨st, rfl, es⟩ := IsPart.raw ps
  cases l with
  | some y => cases el
  | none =>
  cases u with
  | some y => cases eu
  | none =>
  cases st with
  | none => cases es
  | some y =>
  obtain ⟨y, uk⟩ := y
  cases (Option.some.inj es : y = -1)
  show wpAny (model X.prog X.w) X.A (subscriptTail e (.Slice none none (some (.UnaryOp .USub (.Constant (.int 1) k p1) p2)) p3) (.str z tz) (.ref s4.heap.objs.size)) (EP X pins σ Q) X.xe _
  refine tail_any (ops := [.ref s4.heap.objs.size, .str z tz]) (T := "str") (typeIs_str _ _ _) F.slot_str_getitem.lookup ?_ (by with_unfolding_all rfl)
  refine wpAny_getItem_str_slice (l := none) (u := none) (st := some (-1, uk)) ⟨_, Heap.get?_push_size _ rfl, rfl, rfl⟩ (by with_unfolding_all rfl)
    (post_val_or_str ⟨Nat.le_trans (Txt.sliceBy_le z none none (-1, uk) (by show (-1 : Int) ≠ 0; decide)) hz, fun t' c => ?_⟩)
  exact ⟨.str (revS z), H4, I5.tok _, ⟨t', congrArg (fun y => Value.str y t') (revS_is z uk)⟩, q⟩
end
def rUpper : V → List V → Hp → VK → Prop := fun x xs H Q => ∃ a, x = .str a ∧ xs = [] ∧ a.length ≤ 5592405 ∧ Q (.str (Txt.upper a)) H
def rCount : V → List V → Hp → VK → Prop := fun x xs H Q => ∃ a b, x = .str a ∧ xs = [.str b] ∧ Q (.int (Txt.count a b)) H
section
variable {X : Cx} {o e : Expr} {to te : TE} {apos pos : Pos}
theorem pe_upperR (ho : PE X o to) (hbase : attributeBase o "upper" X.env (eval o X.env) = eval o X.env := by rfl) (hline : (apos.endLine == pos.line) = true := by rfl) :
    PE X (.Call (.Attribute o "upper" apos) [] [] pos) (tM0 rUpper to) := pe_upper ho hbase hline
theorem pe_countR (ho : PE X o to) (he : PE X e te) (hs : starEach [e] X.env = [(false, eval e X.env)] := by rfl) (hbase : attributeBase o "count" X.env (eval o X.env) = eval o X.env := by rfl) (hline : (apos.endLine == pos.line) = true := by rfl) :
    PE X (.Call (.Attribute o "count" apos) [e] [] pos) (tM1 rCount to te) := pe_m1 F.slot_str_count F.type_str_count mt_count ho he hs hbase hline
end
section
variable {H : Hp} {Q : VK} {a b : Str} {σ : L2.St} {to te : TE} {r : V → List V → Hp → VK → Prop}
theorem k_m0 (h : to σ H fun x H1 => (∃ a, x = .str a) ∧ r x [] H1 Q) : tM0 r to σ H Q := h
theorem k_upper (hl : a.length ≤ 5592405) (q : Q (.str (Txt.upper a)) H) : rUpper (.str a) [] H Q := ⟨a, rfl, rfl, hl, q⟩
theorem k_count (q : Q (.int (Txt.count a b)) H) : rCount (.str a) [.str b] H Q := ⟨a, b, rfl, rfl, q⟩
theorem k_revS (h : te σ H fun x H1 => ∃ z, x = .str z ∧ z.length ≤ sizeLine ∧ Q (.str (revS z)) H1) : tRevS te σ H Q := h
end
/-- a text of plain signs -/
def Asc (z : Str) : Prop := ∀ c ∈ z.cps.toList, c < 128
theorem upper_asc {z : Str} (h : Asc z) : Asc (Txt.upper z) ∧ (Txt.upper z).length = z.length := by
  have key : ∀ l : List Nat, (∀ c ∈ l, c < 128) → Asc (Txt.upper ⟨l.toArray⟩) ∧ (Txt.upper ⟨l.toArray⟩).length = l.length := by
    intro l
    induction l with
    | nil =>
      intro _
      have e0 : Txt.upper (⟨([] : List Nat).toArray⟩ : Str) = ⟨#[]⟩ := by decide +kernel
      rw [e0]
      exact And.intro (show Asc _ from fun c hc => (List.not_mem_nil (show c ∈ ([] : List Nat) from hc)).elim) rfl
    | cons c l ih =>
      intro hl
      obtain ⟨i1, i2⟩ := ih fun x hx => hl x (List.mem_cons_of_mem _ hx)
      have hc := hl c List.mem_cons_self
      have e : (⟨(c :: l).toArray⟩ : Str) = (⟨#[c]⟩ : Str) ++ ⟨l.toArray⟩ := TL.ext_tl (by rw [TL.tl_append]; rfl)
      rw [e, upper_app, upper_one hc]
      refine ⟨fun x hx => ?_, ?_⟩
      · rw [show ∀ s : Str, s.cps.toList = TL.tl s from fun _ => rfl, TL.tl_append] at hx
        rcases List.mem_append.mp hx with hx | hx
        · rw [show TL.tl (⟨#[if 97 ≤ c ∧ c ≤ 122 then c - 32 else c]⟩ : Str) = [if 97 ≤ c ∧ c ≤ 122 then c - 32 else c] from rfl] at hx
          rw [List.mem_singleton.mp hx]
          split <;> omega
        · exact i1 x hx
      · have len : ∀ s : Str, (TL.tl s).length = s.length := fun s => Array.length_toList
        rw [← len, TL.tl_append, List.length_append, len, len, i2, List.length_cons, Nat.add_comm]
        rfl
  have := key z.cps.toList h
  rw [show (⟨z.cps.toList.toArray⟩ : Str) = z from TL.ext_tl (by exact List.toList_toArray)] at this
  exact ⟨this.1, this.2.trans Array.length_toList⟩
end Ls
namespace Lw
open PySem PySem.Spec PyProof.Rows L2 Ls
structure Env (K : PySem.W.Frag) (mg : Str → Option Value) (w : World) where
  a_law : Addr
  fd_law : FuncData
  F_law : FunD K "law" "law" (defArgs s_law) (defBody s_law) (defScope s_law) [] [] a_law fd_law
  g_law : mg "law" = some (.ref a_law)
  a__law_begin : Addr
  fd__law_begin : FuncData
  F__law_begin : FunD K "_law_begin" "_law_begin" (defArgs s__law_begin) (defBody s__law_begin) (defScope s__law_begin) [] [] a__law_begin fd__law_begin
  g__law_begin : mg "_law_begin" = some (.ref a__law_begin)
  a__law_tree : Addr
  fd__law_tree : FuncData
  F__law_tree : FunD K "_law_tree" "_law_tree" (defArgs s__law_tree) (defBody s__law_tree) (defScope s__law_tree) [] [] a__law_tree fd__law_tree
  g__law_tree : mg "_law_tree" = some (.ref a__law_tree)
  a__law_test_text : Addr
  fd__law_test_text : FuncData
  F__law_test_text : FunD K "_law_test_text" "_law_test_text" (defArgs s__law_test_text) (defBody s__law_test_text) (defScope s__law_test_text) [] [] a__law_test_text fd__law_test_text
  g__law_test_text : mg "_law_test_text" = some (.ref a__law_test_text)
  a__law_read : Addr
  fd__law_read : FuncData
  F__law_read : FunD K "_law_read" "_law_read" (defArgs s__law_read) (defBody s__law_read) (defScope s__law_read) [] [] a__law_read fd__law_read
  g__law_read : mg "_law_read" = some (.ref a__law_read)
  a__law_ask : Addr
  fd__law_ask : FuncData
  F__law_ask : FunD K "_law_ask" "_law_ask" (defArgs s__law_ask) (defBody s__law_ask) (defScope s__law_ask) [] [] a__law_ask fd__law_ask
  g__law_ask : mg "_law_ask" = some (.ref a__law_ask)
  a__law_words : Addr
  fd__law_words : FuncData
  F__law_words : FunD K "_law_words" "_law_words" (defArgs s__law_words) (defBody s__law_words) (defScope s__law_words) [] [] a__law_words fd__law_words
  g__law_words : mg "_law_words" = some (.ref a__law_words)
  a__law_pick : Addr
  fd__law_pick : FuncData
  F__law_pick : FunD K "_law_pick" "_law_pick" (defArgs s__law_pick) (defBody s__law_pick) (defScope s__law_pick) [] [] a__law_pick fd__law_pick
  g__law_pick : mg "_law_pick" = some (.ref a__law_pick)
  a__law_bent_text : Addr
  fd__law_bent_text : FuncData
  F__law_bent_text : FunD K "_law_bent_text" "_law_bent_text" (defArgs s__law_bent_text) (defBody s__law_bent_text) (defScope s__law_bent_text) [] [] a__law_bent_text fd__law_bent_text
  g__law_bent_text : mg "_law_bent_text" = some (.ref a__law_bent_text)
  a__law_same : Addr
  fd__law_same : FuncData
  F__law_same : FunD K "_law_same" "_law_same" (defArgs s__law_same) (defBody s__law_same) (defScope s__law_same) [] [] a__law_same fd__law_same
  g__law_same : mg "_law_same" = some (.ref a__law_same)
  a__law_test_ok : Addr
  fd__law_test_ok : FuncData
  F__law_test_ok : FunD K "_law_test_ok" "_law_test_ok" (defArgs s__law_test_ok) (defBody s__law_test_ok) (defScope s__law_test_ok) [] [] a__law_test_ok fd__law_test_ok
  g__law_test_ok : mg "_law_test_ok" = some (.ref a__law_test_ok)
  a_read_test : Addr
  fd_read_test : FuncData
  F_read_test : FunD K "read_test" "read_test" (defArgs s_read_test) (defBody s_read_test) (defScope s_read_test) [] [] a_read_test fd_read_test
  g_read_test : mg "read_test" = some (.ref a_read_test)
  a_test_text : Addr
  fd_test_text : FuncData
  F_test_text : FunD K "test_text" "test_text" (defArgs s_test_text) (defBody s_test_text) (defScope s_test_text) [] [] a_test_text fd_test_text
  g_test_text : mg "test_text" = some (.ref a_test_text)
  a__law_leaf : Addr
  fd__law_leaf : FuncData
  F__law_leaf : FunD K "_law_leaf" "_law_leaf" (defArgs s__law_leaf) (defBody s__law_leaf) (defScope s__law_leaf) [] [] a__law_leaf fd__law_leaf
  g__law_leaf : mg "_law_leaf" = some (.ref a__law_leaf)
  a__law_read_field : Addr
  fd__law_read_field : FuncData
  F__law_read_field : FunD K "_law_read_field" "_law_read_field" (defArgs s__law_read_field) (defBody s__law_read_field) (defScope s__law_read_field) [] [] a__law_read_field fd__law_read_field
  g__law_read_field : mg "_law_read_field" = some (.ref a__law_read_field)
  a__law_halves : Addr
  fd__law_halves : FuncData
  F__law_halves : FunD K "_law_halves" "_law_halves" (defArgs s__law_halves) (defBody s__law_halves) (defScope s__law_halves) [] [] a__law_halves fd__law_halves
  g__law_halves : mg "_law_halves" = some (.ref a__law_halves)
  a__law_word : Addr
  fd__law_word : FuncData
  F__law_word : FunD K "_law_word" "_law_word" (defArgs s__law_word) (defBody s__law_word) (defScope s__law_word) [] [] a__law_word fd__law_word
  g__law_word : mg "_law_word" = some (.ref a__law_word)
  a__law_of : Addr
  fd__law_of : FuncData
  F__law_of : FunD K "_law_of" "_law_of" (defArgs s__law_of) (defBody s__law_of) (defScope s__law_of) [] [] a__law_of fd__law_of
  g__law_of : mg "_law_of" = some (.ref a__law_of)
  a__law_shape_ok : Addr
  fd__law_shape_ok : FuncData
  F__law_shape_ok : FunD K "_law_shape_ok" "_law_shape_ok" (defArgs s__law_shape_ok) (defBody s__law_shape_ok) (defScope s__law_shape_ok) [] [] a__law_shape_ok fd__law_shape_ok
  g__law_shape_ok : mg "_law_shape_ok" = some (.ref a__law_shape_ok)
  a__law_deep : Addr
  fd__law_deep : FuncData
  F__law_deep : FunD K "_law_deep" "_law_deep" (defArgs s__law_deep) (defBody s__law_deep) (defScope s__law_deep) [] [] a__law_deep fd__law_deep
  g__law_deep : mg "_law_deep" = some (.ref a__law_deep)
  a__law_parts : Addr
  fd__law_parts : FuncData
  F__law_parts : FunD K "_law_parts" "_law_parts" (defArgs s__law_parts) (defBody s__law_parts) (defScope s__law_parts) [] [] a__law_parts fd__law_parts
  g__law_parts : mg "_law_parts" = some (.ref a__law_parts)
  a_test_in : Addr
  fd_test_in : FuncData
  F_test_in : FunD K "test_in" "test_in" (defArgs s_test_in) (defBody s_test_in) (defScope s_test_in) [] [] a_test_in fd_test_in
  g_test_in : mg "test_in" = some (.ref a_test_in)
  a_is_test : Addr
  fd_is_test : FuncData
  F_is_test : FunD K "is_test" "is_test" (defArgs s_is_test) (defBody s_is_test) (defScope s_is_test) [] [] a_is_test fd_is_test
  g_is_test : mg "is_test" = some (.ref a_is_test)
  a_look_test : Addr
  fd_look_test : FuncData
  F_look_test : FunD K "look_test" "look_test" (defArgs s_look_test) (defBody s_look_test) (defScope s_look_test) [] [] a_look_test fd_look_test
  g_look_test : mg "look_test" = some (.ref a_look_test)
  a_text_of : Addr
  fd_text_of : FuncData
  F_text_of : FunD K "text_of" "text_of" (defArgs s_text_of) (defBody s_text_of) (defScope s_text_of) [] [] a_text_of fd_text_of
  g_text_of : mg "text_of" = some (.ref a_text_of)
  a__law_number : Addr
  fd__law_number : FuncData
  F__law_number : FunD K "_law_number" "_law_number" (defArgs s__law_number) (defBody s__law_number) (defScope s__law_number) [] [] a__law_number fd__law_number
  g__law_number : mg "_law_number" = some (.ref a__law_number)
  a__law_number_in : Addr
  fd__law_number_in : FuncData
  F__law_number_in : FunD K "_law_number_in" "_law_number_in" (defArgs s__law_number_in) (defBody s__law_number_in) (defScope s__law_number_in) [] [] a__law_number_in fd__law_number_in
  g__law_number_in : mg "_law_number_in" = some (.ref a__law_number_in)
  a__law_leaf_ok : Addr
  fd__law_leaf_ok : FuncData
  F__law_leaf_ok : FunD K "_law_leaf_ok" "_law_leaf_ok" (defArgs s__law_leaf_ok) (defBody s__law_leaf_ok) (defScope s__law_leaf_ok) [] [] a__law_leaf_ok fd__law_leaf_ok
  g__law_leaf_ok : mg "_law_leaf_ok" = some (.ref a__law_leaf_ok)
  a_leaf_in : Addr
  fd_leaf_in : FuncData
  F_leaf_in : FunD K "leaf_in" "leaf_in" (defArgs s_leaf_in) (defBody s_leaf_in) (defScope s_leaf_in) [] [] a_leaf_in fd_leaf_in
  g_leaf_in : mg "leaf_in" = some (.ref a_leaf_in)
  a_parted_at : Addr
  fd_parted_at : FuncData
  F_parted_at : FunD K "parted_at" "parted_at" (defArgs s_parted_at) (defBody s_parted_at) (defScope s_parted_at) [] [] a_parted_at fd_parted_at
  g_parted_at : mg "parted_at" = some (.ref a_parted_at)
  a_parts_of : Addr
  fd_parts_of : FuncData
  F_parts_of : FunD K "parts_of" "parts_of" (defArgs s_parts_of) (defBody s_parts_of) (defScope s_parts_of) [] [] a_parts_of fd_parts_of
  g_parts_of : mg "parts_of" = some (.ref a_parts_of)
  a__law_is_name : Addr
  fd__law_is_name : FuncData
  F__law_is_name : FunD K "_law_is_name" "_law_is_name" (defArgs s__law_is_name) (defBody s__law_is_name) (defScope s__law_is_name) [] [] a__law_is_name fd__law_is_name
  g__law_is_name : mg "_law_is_name" = some (.ref a__law_is_name)
  a_number_in : Addr
  fd_number_in : FuncData
  F_number_in : FunD K "number_in" "number_in" (defArgs s_number_in) (defBody s_number_in) (defScope s_number_in) [.int 6] [] a_number_in fd_number_in
  g_number_in : mg "number_in" = some (.ref a_number_in)
  a_is_leaf : Addr
  fd_is_leaf : FuncData
  F_is_leaf : FunD K "is_leaf" "is_leaf" (defArgs s_is_leaf) (defBody s_is_leaf) (defScope s_is_leaf) [] [] a_is_leaf fd_is_leaf
  g_is_leaf : mg "is_leaf" = some (.ref a_is_leaf)
  a_is_name : Addr
  fd_is_name : FuncData
  F_is_name : FunD K "is_name" "is_name" (defArgs s_is_name) (defBody s_is_name) (defScope s_is_name) [] [] a_is_name fd_is_name
  g_is_name : mg "is_name" = some (.ref a_is_name)
  fi_ScribeError : Addr
  fdi_ScribeError : FuncData
  FI_ScribeError : FunD K "__init__" "ScribeError.__init__" (defArgs s_ScribeError___init__) (defBody s_ScribeError___init__) (defScope s_ScribeError___init__) [] [] fi_ScribeError fdi_ScribeError
  fi_BadTest : Addr
  fdi_BadTest : FuncData
  FI_BadTest : FunD K "__init__" "BadTest.__init__" (defArgs s_BadTest___init__) (defBody s_BadTest___init__) (defScope s_BadTest___init__) [] [] fi_BadTest fdi_BadTest
  C_ScribeError : Addr
  g_ScribeError : mg "ScribeError" = some (.ref C_ScribeError)
  C_BadTest : Addr
  g_BadTest : mg "BadTest" = some (.ref C_BadTest)
  C_BadValue : Addr
  g_BadValue : mg "BadValue" = some (.ref C_BadValue)
  C_Missing : Addr
  g_Missing : mg "Missing" = some (.ref C_Missing)
  r_ScribeError : ClX.CRead K C_ScribeError (.type "type")
  v_ScribeError : ClX.CVal K C_ScribeError (.type "type") "__init__" (.ref fi_ScribeError) (.ref fi_ScribeError)
  o_BadTest : OexC K C_BadTest
  i_BadTest : PySem.W.findIn K (.ref C_BadTest) "__init__" = some (some (.ref fi_BadTest))
  t_BadTest : PySem.W.typeIn K (.ref fi_BadTest) = some (.type "function")
  w_BadTest : PySem.W.findIn K (.ref C_BadTest) "word" = some none
  x_BadTest : XfC K C_BadTest
  e_BadTest_BadValue : PySem.W.exmOne K (.ref C_BadTest) (.ref C_BadValue) = some false
  e_BadTest_ScribeError : PySem.W.exmOne K (.ref C_BadTest) (.ref C_ScribeError) = some true
  e_BadTest_Missing : PySem.W.exmOne K (.ref C_BadTest) (.ref C_Missing) = some false
  vei : PySem.W.findCls K (.type "ValueError") (.type "type") "__init__" = some (.val (.builtin "ValueError.__init__"))
  n_ValueError : mg "ValueError" = none
  n_range : mg "range" = none
  n_list : mg "list" = none
  n_str : mg "str" = none
  n_tuple : mg "tuple" = none
  n_len : mg "len" = none
  n_isinstance : mg "isinstance" = none
  n_bool : mg "bool" = none
  n_int : mg "int" = none
  n_all : mg "all" = none
  n_max : mg "max" = none
  n_sum : mg "sum" = none
  n_enumerate : mg "enumerate" = none
  c_DEEPEST : ∃ u, mg "DEEPEST" = some u ∧ RelV (.int 5) u
  D_WITHIN : Addr
  g_WITHIN : mg "WITHIN" = some (.ref D_WITHIN)
  t_WITHIN : TabK K w D_WITHIN [("not", .int 1), ("and", .int 2), ("or", .int 2)]
  k_WITHIN : KeysK K D_WITHIN ["not", "and", "or"]
  c_MOST_PARTS : ∃ u, mg "MOST_PARTS" = some u ∧ RelV (.int 15) u
  D_SIGNS : Addr
  g_SIGNS : mg "SIGNS" = some (.ref D_SIGNS)
  t_SIGNS : TabK K w D_SIGNS [("<", .str "less"), ("=", .str "same")]
  k_SIGNS : KeysK K D_SIGNS ["<", "="]
  c_MOST_FIGURES : ∃ u, mg "MOST_FIGURES" = some u ∧ RelV (.int 6) u
  c_FIGURES : ∃ u, mg "FIGURES" = some u ∧ RelV (.str "0123456789") u
  c_LIMIT : ∃ u, mg "LIMIT" = some u ∧ RelV (.int 999999) u
  c_LONGEST : ∃ u, mg "LONGEST" = some u ∧ RelV (.int 8) u
  c_LETTERS : ∃ u, mg "LETTERS" = some u ∧ RelV (.str "abcdefghijklmnopqrstuvwxyz") u
section
variable {K : PySem.W.Frag} {mg : Str → Option Value} {w : World}
theorem bI_ScribeError (E : Env K mg w) : Binds K E.fdi_ScribeError ["self", "word"] [] := E.FI_ScribeError.bindsN fun _ _ _ _ _ _ us hl => match us, hl with | [_, _], _ => rfl
theorem bI_BadTest (E : Env K mg w) : Binds K E.fdi_BadTest ["self"] [] := E.FI_BadTest.bindsN fun _ _ _ _ _ _ us hl => match us, hl with | [_], _ => rfl
theorem b__law_begin (E : Env K mg w) : Binds K E.fd__law_begin ["_law_script"] [] := E.F__law_begin.bindsN fun _ _ _ _ _ _ us hl => match us, hl with | [_], _ => rfl
theorem b__law_tree (E : Env K mg w) : Binds K E.fd__law_tree ["_law_d", "_law_deep_here", "_law_names", "_law_kinds"] [] := E.F__law_tree.bindsN fun _ _ _ _ _ _ us hl => match us, hl with | [_, _, _, _], _ => rfl
theorem b__law_test_text (E : Env K mg w) : Binds K E.fd__law_test_text ["_law_test"] [] := E.F__law_test_text.bindsN fun _ _ _ _ _ _ us hl => match us, hl with | [_], _ => rfl
theorem b__law_read (E : Env K mg w) : Binds K E.fd__law_read ["_law_text", "_law_deep_here"] [] := E.F__law_read.bindsN fun _ _ _ _ _ _ us hl => match us, hl with | [_, _], _ => rfl
theorem b__law_ask (E : Env K mg w) : Binds K E.fd__law_ask ["_law_ask_here"] [] := E.F__law_ask.bindsN fun _ _ _ _ _ _ us hl => match us, hl with | [_], _ => rfl
theorem b__law_words (E : Env K mg w) : Binds K E.fd__law_words ["_law_d", "_law_many"] [] := E.F__law_words.bindsN fun _ _ _ _ _ _ us hl => match us, hl with | [_, _], _ => rfl
theorem b__law_pick (E : Env K mg w) : Binds K E.fd__law_pick ["_law_d", "_law_many"] [] := E.F__law_pick.bindsN fun _ _ _ _ _ _ us hl => match us, hl with | [_, _], _ => rfl
theorem b__law_bent_text (E : Env K mg w) : Binds K E.fd__law_bent_text ["_law_d", "_law_text"] [] := E.F__law_bent_text.bindsN fun _ _ _ _ _ _ us hl => match us, hl with | [_, _], _ => rfl
theorem b__law_same (E : Env K mg w) : Binds K E.fd__law_same ["_law_found", "_law_due"] [] := E.F__law_same.bindsN fun _ _ _ _ _ _ us hl => match us, hl with | [_, _], _ => rfl
theorem b__law_test_ok (E : Env K mg w) : Binds K E.fd__law_test_ok ["_law_test"] [] := E.F__law_test_ok.bindsN fun _ _ _ _ _ _ us hl => match us, hl with | [_], _ => rfl
theorem b_read_test (E : Env K mg w) : Binds K E.fd_read_test ["text"] [] := E.F_read_test.bindsN fun _ _ _ _ _ _ us hl => match us, hl with | [_], _ => rfl
theorem b_test_text (E : Env K mg w) : Binds K E.fd_test_text ["test"] [] := E.F_test_text.bindsN fun _ _ _ _ _ _ us hl => match us, hl with | [_], _ => rfl
theorem b__law_leaf (E : Env K mg w) : Binds K E.fd__law_leaf ["_law_d", "_law_names", "_law_kinds"] [] := E.F__law_leaf.bindsN fun _ _ _ _ _ _ us hl => match us, hl with | [_, _, _], _ => rfl
theorem b__law_read_field (E : Env K mg w) : Binds K E.fd__law_read_field ["_law_text"] [] := E.F__law_read_field.bindsN fun _ _ _ _ _ _ us hl => match us, hl with | [_], _ => rfl
theorem b__law_halves (E : Env K mg w) : Binds K E.fd__law_halves ["_law_text"] [] := E.F__law_halves.bindsN fun _ _ _ _ _ _ us hl => match us, hl with | [_], _ => rfl
theorem b__law_word (E : Env K mg w) : Binds K E.fd__law_word ["_law_d"] [] := E.F__law_word.bindsN fun _ _ _ _ _ _ us hl => match us, hl with | [_], _ => rfl
theorem b__law_of (E : Env K mg w) : Binds K E.fd__law_of ["_law_d", "_law_things"] [] := E.F__law_of.bindsN fun _ _ _ _ _ _ us hl => match us, hl with | [_, _], _ => rfl
theorem b__law_shape_ok (E : Env K mg w) : Binds K E.fd__law_shape_ok ["_law_test"] [] := E.F__law_shape_ok.bindsN fun _ _ _ _ _ _ us hl => match us, hl with | [_], _ => rfl
theorem b__law_deep (E : Env K mg w) : Binds K E.fd__law_deep ["_law_test"] [] := E.F__law_deep.bindsN fun _ _ _ _ _ _ us hl => match us, hl with | [_], _ => rfl
theorem b__law_parts (E : Env K mg w) : Binds K E.fd__law_parts ["_law_test"] [] := E.F__law_parts.bindsN fun _ _ _ _ _ _ us hl => match us, hl with | [_], _ => rfl
theorem b_test_in (E : Env K mg w) : Binds K E.fd_test_in ["text", "deep"] [] := E.F_test_in.bindsN fun _ _ _ _ _ _ us hl => match us, hl with | [_, _], _ => rfl
theorem b_is_test (E : Env K mg w) : Binds K E.fd_is_test ["test"] [] := E.F_is_test.bindsN fun _ _ _ _ _ _ us hl => match us, hl with | [_], _ => rfl
theorem b_look_test (E : Env K mg w) : Binds K E.fd_look_test ["test"] [] := E.F_look_test.bindsN fun _ _ _ _ _ _ us hl => match us, hl with | [_], _ => rfl
theorem b_text_of (E : Env K mg w) : Binds K E.fd_text_of ["test"] [] := E.F_text_of.bindsN fun _ _ _ _ _ _ us hl => match us, hl with | [_], _ => rfl
theorem b__law_number (E : Env K mg w) : Binds K E.fd__law_number ["_law_d"] [] := E.F__law_number.bindsN fun _ _ _ _ _ _ us hl => match us, hl with | [_], _ => rfl
theorem b__law_number_in (E : Env K mg w) : Binds K E.fd__law_number_in ["_law_text", "_law_most"] [] := E.F__law_number_in.bindsN fun _ _ _ _ _ _ us hl => match us, hl with | [_, _], _ => rfl
theorem b__law_leaf_ok (E : Env K mg w) : Binds K E.fd__law_leaf_ok ["_law_test"] [] := E.F__law_leaf_ok.bindsN fun _ _ _ _ _ _ us hl => match us, hl with | [_], _ => rfl
theorem b_leaf_in (E : Env K mg w) : Binds K E.fd_leaf_in ["text"] [] := E.F_leaf_in.bindsN fun _ _ _ _ _ _ us hl => match us, hl with | [_], _ => rfl
theorem b_parted_at (E : Env K mg w) : Binds K E.fd_parted_at ["text"] [] := E.F_parted_at.bindsN fun _ _ _ _ _ _ us hl => match us, hl with | [_], _ => rfl
theorem b_parts_of (E : Env K mg w) : Binds K E.fd_parts_of ["test", "deep"] [] := E.F_parts_of.bindsN fun _ _ _ _ _ _ us hl => match us, hl with | [_, _], _ => rfl
theorem b__law_is_name (E : Env K mg w) : Binds K E.fd__law_is_name ["_law_text"] [] := E.F__law_is_name.bindsN fun _ _ _ _ _ _ us hl => match us, hl with | [_], _ => rfl
theorem b_number_in (E : Env K mg w) : Binds K E.fd_number_in ["text", "most"] [] := by
  obtain ⟨ds, v, b⟩ := E.F_number_in.binds1 (ps := ["text", "most"]) 2 1 (by simp) (by rfl) fun _ _ _ _ _ _ _ us its h1 h2 => match us, its, h1, h2 with | [_, _], [_], _, _ => ⟨_, rfl, rfl⟩
  cases v
  exact b
theorem b_is_leaf (E : Env K mg w) : Binds K E.fd_is_leaf ["test"] [] := E.F_is_leaf.bindsN fun _ _ _ _ _ _ us hl => match us, hl with | [_], _ => rfl
theorem b_is_name (E : Env K mg w) : Binds K E.fd_is_name ["text"] [] := E.F_is_name.bindsN fun _ _ _ _ _ _ us hl => match us, hl with | [_], _ => rfl
theorem bd_number_in_10 (E : Env K mg w) : ∃ ds, Vals [.int 6] ds ∧ Binds K E.fd_number_in ["text", "most"] ds := E.F_number_in.binds1 (ps := ["text", "most"]) 1 0 (by simp) (by rfl) fun _ _ _ _ _ _ _ us its h1 h2 => match us, its, h1, h2 with | [_], [_], _, _ => ⟨_, rfl, rfl⟩
end
end Lw
namespace Ls
open PySem PySem.Spec PyProof.Rows L2
def lq_law : Str := ("law" : Str) ++ (".<locals>." : Str)
def spLaw (K : PySem.W.Frag) (T : List (Addr × Str)) : Sp := fun vs H Q _ => ∃ (a : Addr) (ns : List Int), vs = [.ref a] ∧ (∀ p ∈ T, H p.1 = some (.tbl #[])) ∧ SqL K H a (ns.map V.int) ∧ ns.length ≤ 63 ∧ ∀ H', Q (.bl true) H'
end Ls
namespace Lw
open PySem PySem.Spec PyProof.Rows L2 Ls
abbrev OkLaw : Prop := ∀ {P : Program} {w : World} {K : PySem.W.Frag} {mg : Str → Option Value} {base : Heap} (E : Env K mg w) {c Pt : Addr} {T : List (Addr × Str)} (hc : E.fd_law.code = .ref c) (TB : LamX.TabB base mg c Pt) (hmT : (Pt, lq_law ++ ("<lambda>" : Str)) ∈ T) (huT : ∀ p ∈ T, p.1 = Pt → p.2 = lq_law ++ ("<lambda>" : Str)), FnOk P w K mg base (L2.CX P w) 20 E.a_law E.fd_law ["_law_script"] (spLaw K T)
end Lw
section
namespace Lw
open PySem PySem.Spec PyProof.Rows L2 Ls LamX
theorem facts {K : PySem.W.Frag} {h : Heap} {w : World} {mg : Str → Option Value} (X : K.In h) (G : h.Ns mainGlobals mg) (y : He.SaysX Lh.fa Lh.fn Lh.tbs Lh.tfs Lh.exB w h K) : ∃ E : Env K mg w, E.a_law = He.ga K "law" := by
  have c := y.t.d
  have hb := y.more
  obtain ⟨fd_law, F_law⟩ := c.def_ 0 (d := Lh.d_law) rfl
  obtain ⟨fd__law_begin, F__law_begin⟩ := c.def_ 1 (d := Lh.d__law_begin) rfl
  obtain ⟨fd__law_tree, F__law_tree⟩ := c.def_ 2 (d := Lh.d__law_tree) rfl
  obtain ⟨fd__law_test_text, F__law_test_text⟩ := c.def_ 3 (d := Lh.d__law_test_text) rfl
  obtain ⟨fd__law_read, F__law_read⟩ := c.def_ 4 (d := Lh.d__law_read) rfl
  obtain ⟨fd__law_ask, F__law_ask⟩ := c.def_ 5 (d := Lh.d__law_ask) rfl
  obtain ⟨fd__law_words, F__law_words⟩ := c.def_ 6 (d := Lh.d__law_words) rfl
  obtain ⟨fd__law_pick, F__law_pick⟩ := c.def_ 7 (d := Lh.d__law_pick) rfl
  obtain ⟨fd__law_bent_text, F__law_bent_text⟩ := c.def_ 8 (d := Lh.d__law_bent_text) rfl
  obtain ⟨fd__law_same, F__law_same⟩ := c.def_ 9 (d := Lh.d__law_same) rfl
  obtain ⟨fd__law_test_ok, F__law_test_ok⟩ := c.def_ 10 (d := Lh.d__law_test_ok) rfl
  obtain ⟨fd_read_test, F_read_test⟩ := c.def_ 11 (d := Lh.d_read_test) rfl
  obtain ⟨fd_test_text, F_test_text⟩ := c.def_ 12 (d := Lh.d_test_text) rfl
  obtain ⟨fd__law_leaf, F__law_leaf⟩ := c.def_ 13 (d := Lh.d__law_leaf) rfl
  obtain ⟨fd__law_read_field, F__law_read_field⟩ := c.def_ 14 (d := Lh.d__law_read_field) rfl
  obtain ⟨fd__law_halves, F__law_halves⟩ := c.def_ 15 (d := Lh.d__law_halves) rfl
  obtain ⟨fd__law_word, F__law_word⟩ := c.def_ 16 (d := Lh.d__law_word) rfl
  obtain ⟨fd__law_of, F__law_of⟩ := c.def_ 17 (d := Lh.d__law_of) rfl
  obtain ⟨fd__law_shape_ok, F__law_shape_ok⟩ := c.def_ 18 (d := Lh.d__law_shape_ok) rfl
  obtain ⟨fd__law_deep, F__law_deep⟩ := c.def_ 19 (d := Lh.d__law_deep) rfl
  obtain ⟨fd__law_parts, F__law_parts⟩ := c.def_ 20 (d := Lh.d__law_parts) rfl
  obtain ⟨fd_test_in, F_test_in⟩ := c.def_ 21 (d := Lh.d_test_in) rfl
  obtain ⟨fd_is_test, F_is_test⟩ := c.def_ 22 (d := Lh.d_is_test) rfl
  obtain ⟨fd_look_test, F_look_test⟩ := c.def_ 23 (d := Lh.d_look_test) rfl
  obtain ⟨fd_text_of, F_text_of⟩ := c.def_ 24 (d := Lh.d_text_of) rfl
  obtain ⟨fd__law_number, F__law_number⟩ := c.def_ 25 (d := Lh.d__law_number) rfl
  obtain ⟨fd__law_number_in, F__law_number_in⟩ := c.def_ 26 (d := Lh.d__law_number_in) rfl
  obtain ⟨fd__law_leaf_ok, F__law_leaf_ok⟩ := c.def_ 27 (d := Lh.d__law_leaf_ok) rfl
  obtain ⟨fd_leaf_in, F_leaf_in⟩ := c.def_ 28 (d := Lh.d_leaf_in) rfl
  obtain ⟨fd_parted_at, F_parted_at⟩ := c.def_ 29 (d := Lh.d_parted_at) rfl
  obtain ⟨fd_parts_of, F_parts_of⟩ := c.def_ 30 (d := Lh.d_parts_of) rfl
  obtain ⟨fd__law_is_name, F__law_is_name⟩ := c.def_ 31 (d := Lh.d__law_is_name) rfl
  obtain ⟨fd_number_in, F_number_in⟩ := c.def_ 32 (d := Lh.d_number_in) rfl
  obtain ⟨fd_is_leaf, F_is_leaf⟩ := c.def_ 33 (d := Lh.d_is_leaf) rfl
  obtain ⟨fd_is_name, F_is_name⟩ := c.def_ 34 (d := Lh.d_is_name) rfl
  obtain ⟨fdi_ScribeError, FI_ScribeError⟩ := c.def_ 35 (d := Lh.d_ScribeError___init__) rfl
  obtain ⟨fdi_BadTest, FI_BadTest⟩ := c.def_ 36 (d := Lh.d_BadTest___init__) rfl
  refine ⟨{
    k_WITHIN := keysK_of (tab_eq y.t 0 rfl)
    k_SIGNS := keysK_of (tab_eq y.t 1 rfl)
    a_law := He.ga K "law", fd_law := fd_law, F_law := F_law, g_law := He.glo_ok X G (c.fact 0 (f := .glo "law") rfl)
    a__law_begin := He.ga K "_law_begin", fd__law_begin := fd__law_begin, F__law_begin := F__law_begin, g__law_begin := He.glo_ok X G (c.fact 1 (f := .glo "_law_begin") rfl)
    a__law_tree := He.ga K "_law_tree", fd__law_tree := fd__law_tree, F__law_tree := F__law_tree, g__law_tree := He.glo_ok X G (c.fact 2 (f := .glo "_law_tree") rfl)
    a__law_test_text := He.ga K "_law_test_text", fd__law_test_text := fd__law_test_text, F__law_test_text := F__law_test_text, g__law_test_text := He.glo_ok X G (c.fact 3 (f := .glo "_law_test_text") rfl)
    a__law_read := He.ga K "_law_read", fd__law_read := fd__law_read, F__law_read := F__law_read, g__law_read := He.glo_ok X G (c.fact 4 (f := .glo "_law_read") rfl)
    a__law_ask := He.ga K "_law_ask", fd__law_ask := fd__law_ask, F__law_ask := F__law_ask, g__law_ask := He.glo_ok X G (c.fact 5 (f := .glo "_law_ask") rfl)
    a__law_words := He.ga K "_law_words", fd__law_words := fd__law_words, F__law_words := F__law_words, g__law_words := He.glo_ok X G (c.fact 6 (f := .glo "_law_words") rfl)
    a__law_pick := He.ga K "_law_pick", fd__law_pick := fd__law_pick, F__law_pick := F__law_pick, g__law_pick := He.glo_ok X G (c.fact 7 (f := .glo "_law_pick") rfl)
    a__law_bent_text := He.ga K "_law_bent_text", fd__law_bent_text := fd__law_bent_text, F__law_bent_text := F__law_bent_text, g__law_bent_text := He.glo_ok X G (c.fact 8 (f := .glo "_law_bent_text") rfl)
    a__law_same := He.ga K "_law_same", fd__law_same := fd__law_same, F__law_same := F__law_same, g__law_same := He.glo_ok X G (c.fact 9 (f := .glo "_law_same") rfl)
    a__law_test_ok := He.ga K "_law_test_ok", fd__law_test_ok := fd__law_test_ok, F__law_test_ok := F__law_test_ok, g__law_test_ok := He.glo_ok X G (c.fact 10 (f := .glo "_law_test_ok") rfl)
    a_read_test := He.ga K "read_test", fd_read_test := fd_read_test, F_read_test := F_read_test, g_read_test := He.glo_ok X G (c.fact 11 (f := .glo "read_test") rfl)
    a_test_text := He.ga K "test_text", fd_test_text := fd_test_text, F_test_text := F_test_text, g_test_text := He.glo_ok X G (c.fact 12 (f := .glo "test_text") rfl)
    a__law_leaf := He.ga K "_law_leaf", fd__law_leaf := fd__law_leaf, F__law_leaf := F__law_leaf, g__law_leaf := He.glo_ok X G (c.fact 13 (f := .glo "_law_leaf") rfl)
    a__law_read_field := He.ga K "_law_read_field", fd__law_read_field := fd__law_read_field, F__law_read_field := F__law_read_field, g__law_read_field := He.glo_ok X G (c.fact 14 (f := .glo "_law_read_field") rfl)
    a__law_halves := He.ga K "_law_halves", fd__law_halves := fd__law_halves, F__law_halves := F__law_halves, g__law_halves := He.glo_ok X G (c.fact 15 (f := .glo "_law_halves") rfl)
    a__law_word := He.ga K "_law_word", fd__law_word := fd__law_word, F__law_word := F__law_word, g__law_word := He.glo_ok X G (c.fact 16 (f := .glo "_law_word") rfl)
    a__law_of := He.ga K "_law_of", fd__law_of := fd__law_of, F__law_of := F__law_of, g__law_of := He.glo_ok X G (c.fact 17 (f := .glo "_law_of") rfl)
    a__law_shape_ok := He.ga K "_law_shape_ok", fd__law_shape_ok := fd__law_shape_ok, F__law_shape_ok := F__law_shape_ok, g__law_shape_ok := He.glo_ok X G (c.fact 18 (f := .glo "_law_shape_ok") rfl)
    a__law_deep := He.ga K "_law_deep", fd__law_deep := fd__law_deep, F__law_deep := F__law_deep, g__law_deep := He.glo_ok X G (c.fact 19 (f := .glo "_law_deep") rfl)
    a__law_parts := He.ga K "_law_parts", fd__law_parts := fd__law_parts, F__law_parts := F__law_parts, g__law_parts := He.glo_ok X G (c.fact 20 (f := .glo "_law_parts") rfl)
    a_test_in := He.ga K "test_in", fd_test_in := fd_test_in, F_test_in := F_test_in, g_test_in := He.glo_ok X G (c.fact 21 (f := .glo "test_in") rfl)
    a_is_test := He.ga K "is_test", fd_is_test := fd_is_test, F_is_test := F_is_test, g_is_test := He.glo_ok X G (c.fact 22 (f := .glo "is_test") rfl)
    a_look_test := He.ga K "look_test", fd_look_test := fd_look_test, F_look_test := F_look_test, g_look_test := He.glo_ok X G (c.fact 23 (f := .glo "look_test") rfl)
    a_text_of := He.ga K "text_of", fd_text_of := fd_text_of, F_text_of := F_text_of, g_text_of := He.glo_ok X G (c.fact 24 (f := .glo "text_of") rfl)
    a__law_number := He.ga K "_law_number", fd__law_number := fd__law_number, F__law_number := F__law_number, g__law_number := He.glo_ok X G (c.fact 25 (f := .glo "_law_number") rfl)
    a__law_number_in := He.ga K "_law_number_in", fd__law_number_in := fd__law_number_in, F__law_number_in := F__law_number_in, g__law_number_in := He.glo_ok X G (c.fact 26 (f := .glo "_law_number_in") rfl)
    a__law_leaf_ok := He.ga K "_law_leaf_ok", fd__law_leaf_ok := fd__law_leaf_ok, F__law_leaf_ok := F__law_leaf_ok, g__law_leaf_ok := He.glo_ok X G (c.fact 27 (f := .glo "_law_leaf_ok") rfl)
    a_leaf_in := He.ga K "leaf_in", fd_leaf_in := fd_leaf_in, F_leaf_in := F_leaf_in, g_leaf_in := He.glo_ok X G (c.fact 28 (f := .glo "leaf_in") rfl)
    a_parted_at := He.ga K "parted_at", fd_parted_at := fd_parted_at, F_parted_at := F_parted_at, g_parted_at := He.glo_ok X G (c.fact 29 (f := .glo "parted_at") rfl)
    a_parts_of := He.ga K "parts_of", fd_parts_of := fd_parts_of, F_parts_of := F_parts_of, g_parts_of := He.glo_ok X G (c.fact 30 (f := .glo "parts_of") rfl)
    a__law_is_name := He.ga K "_law_is_name", fd__law_is_name := fd__law_is_name, F__law_is_name := F__law_is_name, g__law_is_name := He.glo_ok X G (c.fact 31 (f := .glo "_law_is_name") rfl)
    a_number_in := He.ga K "number_in", fd_number_in := fd_number_in, F_number_in := F_number_in, g_number_in := He.glo_ok X G (c.fact 32 (f := .glo "number_in") rfl)
    a_is_leaf := He.ga K "is_leaf", fd_is_leaf := fd_is_leaf, F_is_leaf := F_is_leaf, g_is_leaf := He.glo_ok X G (c.fact 33 (f := .glo "is_leaf") rfl)
    a_is_name := He.ga K "is_name", fd_is_name := fd_is_name, F_is_name := F_is_name, g_is_name := He.glo_ok X G (c.fact 34 (f := .glo "is_name") rfl)
    n_range := He.free_ok X G (c.fact 35 (f := .free "range") rfl)
    n_list := He.free_ok X G (c.fact 36 (f := .free "list") rfl)
    n_str := He.free_ok X G (c.fact 37 (f := .free "str") rfl)
    n_tuple := He.free_ok X G (c.fact 38 (f := .free "tuple") rfl)
    n_len := He.free_ok X G (c.fact 39 (f := .free "len") rfl)
    n_isinstance := He.free_ok X G (c.fact 40 (f := .free "isinstance") rfl)
    n_bool := He.free_ok X G (c.fact 41 (f := .free "bool") rfl)
    n_int := He.free_ok X G (c.fact 42 (f := .free "int") rfl)
    n_all := He.free_ok X G (c.fact 43 (f := .free "all") rfl)
    n_max := He.free_ok X G (c.fact 44 (f := .free "max") rfl)
    n_sum := He.free_ok X G (c.fact 45 (f := .free "sum") rfl)
    n_enumerate := He.free_ok X G (c.fact 46 (f := .free "enumerate") rfl)
    n_ValueError := He.free_ok X G (c.fact 47 (f := .free "ValueError") rfl)
    c_DEEPEST := by
      obtain ⟨t, e⟩ := He.int_ok X G (c.fact 48 (f := .int "DEEPEST" 5) rfl)
      exact ⟨_, e, ⟨t, rfl⟩⟩
    D_WITHIN := He.ga K "WITHIN", g_WITHIN := He.glo_ok X G (c.fact 49 (f := .glo "WITHIN") rfl)
    c_MOST_PARTS := by
      obtain ⟨t, e⟩ := He.int_ok X G (c.fact 50 (f := .int "MOST_PARTS" 15) rfl)
      exact ⟨_, e, ⟨t, rfl⟩⟩
    D_SIGNS := He.ga K "SIGNS", g_SIGNS := He.glo_ok X G (c.fact 51 (f := .glo "SIGNS") rfl)
    c_MOST_FIGURES := by
      obtain ⟨t, e⟩ := He.int_ok X G (c.fact 52 (f := .int "MOST_FIGURES" 6) rfl)
      exact ⟨_, e, ⟨t, rfl⟩⟩
    c_FIGURES := by
      obtain ⟨t, e⟩ := He.str_ok X G (c.fact 53 (f := .str "FIGURES" "0123456789") rfl)
      exact ⟨_, e, ⟨t, rfl⟩⟩
    c_LIMIT := by
      obtain ⟨t, e⟩ := He.int_ok X G (c.fact 54 (f := .int "LIMIT" 999999) rfl)
      exact ⟨_, e, ⟨t, rfl⟩⟩
    c_LONGEST := by
      obtain ⟨t, e⟩ := He.int_ok X G (c.fact 55 (f := .int "LONGEST" 8) rfl)
      exact ⟨_, e, ⟨t, rfl⟩⟩
    c_LETTERS := by
      obtain ⟨t, e⟩ := He.str_ok X G (c.fact 56 (f := .str "LETTERS" "abcdefghijklmnopqrstuvwxyz") rfl)
      exact ⟨_, e, ⟨t, rfl⟩⟩
    C_ScribeError := He.ga K "ScribeError", g_ScribeError := He.glo_ok X G (c.fact 57 (f := .glo "ScribeError") rfl)
    C_BadTest := He.ga K "BadTest", g_BadTest := He.glo_ok X G (c.fact 58 (f := .glo "BadTest") rfl)
    C_BadValue := He.ga K "BadValue", g_BadValue := He.glo_ok X G (c.fact 59 (f := .glo "BadValue") rfl)
    C_Missing := He.ga K "Missing", g_Missing := He.glo_ok X G (c.fact 60 (f := .glo "Missing") rfl)
    fi_ScribeError := He.ma K (He.ga K "ScribeError") "__init__", fdi_ScribeError := fdi_ScribeError, FI_ScribeError := FI_ScribeError
    fi_BadTest := He.ma K (He.ga K "BadTest") "__init__", fdi_BadTest := fdi_BadTest, FI_BadTest := FI_BadTest
    r_ScribeError := crdB_ok (Lh.exB_ok hb (i := 0) rfl)
    v_ScribeError := cviB_ok (Lh.exB_ok hb (i := 1) rfl)
    o_BadTest := oexB_ok (Lh.exB_ok hb (i := 2) rfl)
    i_BadTest := (iniB_ok (Lh.exB_ok hb (i := 3) rfl)).1
    t_BadTest := (iniB_ok (Lh.exB_ok hb (i := 4) rfl)).2
    w_BadTest := noFB_ok (Lh.exB_ok hb (i := 5) rfl)
    x_BadTest := xfB_ok (Lh.exB_ok hb (i := 6) rfl)
    e_BadTest_BadValue := exmB_ok (Lh.exB_ok hb (i := 7) rfl)
    e_BadTest_ScribeError := exmB_ok (Lh.exB_ok hb (i := 8) rfl)
    e_BadTest_Missing := exmB_ok (Lh.exB_ok hb (i := 9) rfl)
    vei := veiB_ok (Lh.exB_ok hb (i := 10) rfl)
    t_WITHIN := tabK_of (tab_eq y.t 0 rfl) (Lh.exB_ok hb (i := 11) rfl)
    t_SIGNS := tabK_of (tab_eq y.t 1 rfl) (Lh.exB_ok hb (i := 12) rfl)
    }, rfl⟩
end Lw
open PySem PySem.W PySem.Calls PyProof.Rows
theorem Lw.head_of (ok : Lw.OkLaw) : PySem.Challenge.rw_lanescribe_k05_texts_read_as_tests.Holds := by
  w_on; o_law
  refine HandSHeadRun.head_any (r := OpenLaw.row PySem.Challenge.rw_lanescribe_k05_texts_read_as_tests) (q := view (OpenLaw.row PySem.Challenge.rw_lanescribe_k05_texts_read_as_tests).prog [51]) (H := Lh.hk) (ob := Lh.ob) (M := 20000) (loose := Lh.loose) (d := HandSHeadRun.topDef (OpenLaw.row PySem.Challenge.rw_lanescribe_k05_texts_read_as_tests).prog 51) (kwd := []) Lh.ob_eq
    (by kernel_rfl) (fun s => by kernel_rfl) Lh.run (by kernel_rfl) (by kernel_rfl) (by kernel_rfl) (by rfl) (by first | assumption | decide +kernel) (by decide +kernel) ⟨rfl, rfl, rfl, rfl, rfl, by decide +kernel⟩ ?hw ?hc
  case hw => w_witness2
  case hc =>
    refine LamX.walk_ofTsE (l := PySem.Challenge.rw_lanescribe_k05_texts_read_as_tests) (n := 63) (k := 20) (x := "_law_script") (CX := fun w => L2.CX PySem.Challenge.rw_lanescribe_k05_texts_read_as_tests.prog w) rfl (by decide) (by kernel_rfl) ⟨rfl, by decide, by decide⟩ ?F (fun _ _ _ _ _ ⟨_, _, _, _, _, _, _, _, _, _, _, _, z⟩ => z)
    intro w mg fa h Y G hmg0
    obtain ⟨K, KX, y⟩ := Y
    have hmg : mg ("law" : PySem.Str) = some (.ref fa) := by
      have e : (HandSHeadRun.topDef (OpenLaw.row PySem.Challenge.rw_lanescribe_k05_texts_read_as_tests).prog 51).name = ("law" : PySem.Str) := by kernel_rfl
      rw [← e]
      exact hmg0
    obtain ⟨E, ea_law⟩ := Lw.facts KX G y
    have e := hmg.symm.trans E.g_law
    cases e
    have b := L2.FunD.bindsA (ps := ["_law_script"]) E.F_law fun _ _ _ _ _ _ us hl => match us, hl with | [_], _ => rfl
    have hc_law : E.fd_law.code = .ref (He.codeOf K ("law", none)) := by
      obtain ⟨oc, od, dV, kV, doc, pm, an, cdv, ct, osl, e1, lk, hcd, _, _⟩ := E.F_law.ex
      obtain ⟨c, hc⟩ := He.codeIn_ref hcd
      have e2 : E.fd_law.code = .ref c := by rw [e1]; exact hc
      have lk2 : K.lookup (He.fAd K ("law", none)) = some ⟨oc, od, .func E.fd_law, osl⟩ := by
        show K.lookup (He.ga K "law") = _
        rw [← ea_law]
        exact lk
      rw [He.codeOf_eq lk2 e2]
      exact e2
    refine ⟨K, KX, E.fd_law, Lh.tfs.map (He.cT K), Ls.spLaw K [((He.cT K ("law", none)).2, Ls.lq_law ++ ("<lambda>" : PySem.Str))], fun p hp => ?_, fun p hp => ?_, fun p hp => ?_, fun s v => b s [v] rfl, fun H a ns hl _ hT hS => ?_, fun base KB GB TB => ?_⟩
    · obtain ⟨d, hd, rfl⟩ := List.mem_map.mp hp
      exact y.empty _ hd
    · obtain ⟨d, hd, rfl⟩ := List.mem_map.mp hp
      exact y.out _ hd
    · obtain ⟨d, hd, rfl⟩ := List.mem_map.mp hp
      exact codeHd_of_K KX (y.hd _ hd)
    · exact ⟨a, ns, rfl, fun p hp => by
        simp only [List.mem_cons, List.not_mem_nil, or_false] at hp
        rcases hp with rfl <;> exact hT _ (List.mem_map_of_mem (by simp [Lh.tfs])), hS, hl, fun _ => rfl⟩
    · exact ok E hc_law (TB _ (List.mem_singleton.mpr rfl)) List.mem_cons_self (fun p hp _ => by rw [List.mem_singleton.mp hp])
end
local macro_rules | `(tactic| walk_at "hg") => `(tactic| first
  | assumption
  | exact upd_same
  | (refine up_new (by assumption) ?_; walk_at "hg")
  | (refine up_ne ?n ?_; (case n => walk_at "ne"); walk_at "hg")
  | (refine Keep.at (by assumption) ?n ?_; (case n => walk_at "ne"); walk_at "hg"))
local macro_rules | `(tactic| walk_at "ne") => `(tactic| first
  | assumption
  | (refine Ne.symm ?_; assumption)
  | (refine ne_of_none ?a ?b; (case b => assumption); (case a => walk_at "hg"))
  | (refine Ne.symm (ne_of_none ?a ?b); (case b => assumption); (case a => walk_at "hg"))
  | (refine ne_of ?a ?b ?c; (case a => assumption); (case b => assumption); (case c => (intro z; cases z))))
local macro_rules | `(tactic| walk_at "sz") => `(tactic| first | omega | decide | (simp only [List.length_cons, List.length_nil, List.length_append, List.length_map, List.length_take, List.length_drop, sizeLine_eq] <;> omega) | (rw [sizeLine_eq]; simp <;> omega))
local macro_rules | `(tactic| walk_at "w1") => `(tactic| first
  | (with_reducible first | refine k_v0 ?_ | refine k_v1 ?_ | refine k_v2 ?_ | refine k_v3 ?_ | refine k_v4 ?_ | refine k_v5 ?_ | refine k_v6 ?_ | refine k_v7 ?_ | refine k_v8 ?_ | refine k_v9 ?_ | refine k_v10 ?_ | refine k_v11 ?_ | refine k_v12 ?_ | refine k_v13 ?_ | refine k_v14 ?_ | refine k_v15 ?_ | refine k_v16 ?_ | refine k_v17 ?_ | refine k_v18 ?_ | refine k_v19 ?_ | refine k_v20 ?_ | refine k_v21 ?_ | refine k_v22 ?_ | refine k_v23 ?_ | refine k_v24 ?_ | refine k_v25 ?_ | refine k_v26 ?_ | refine k_v27 ?_ | refine k_v28 ?_ | refine k_v29 ?_ | refine k_v30 ?_ | refine k_v31 ?_ | refine k_v32 ?_ | refine k_v33 ?_ | refine k_v34 ?_ | refine k_v35 ?_ | refine k_v36 ?_ | refine k_v37 ?_ | refine k_v38 ?_ | refine k_v39 ?_ | refine k_v40 ?_ | refine k_v41 ?_ | refine k_v42 ?_ | refine k_v43 ?_)
  | (with_reducible first
    | refine k_seq ?_ | refine k_c ?_ | refine k_op ?_ | refine k_cons ?_ | refine k_nil ?_ | refine k_call ?_ | refine k_cb ?_ | refine k_ret ?_ | refine k_if ?_ | refine k_test ?_ | refine k_bl ?_
    | refine k_tup ?_ | refine k_lst ?_ | refine k_dget ?_ | refine k_dput ?_ | refine k_drop ?_ | refine k_next ?_ | refine k_B ?_ | refine k_and ?_ | refine k_or ?_ | refine k_not ?_ | refine k_un ?_
    | refine k_bm ?_ | refine k_bm0 ?_ | refine k_sl ?_ | refine k_nop ?_ | refine k_part ?_ | refine k_partI ?_ | refine k_par ?_ | refine k_par2 ?_ | refine k_gcons ?_ | refine k_gnil ?_
    | refine k_andV ?_ | refine k_orV ?_ | refine k_notV ?_ | refine k_ifE ?_ | refine k_chain ?_ | refine k_din ?_ | refine k_dnotin ?_ | refine k_brk ?_ | refine k_cont ?_ | refine k_retN ?_ | refine k_callN ?_ | refine k_yes ?_ | refine k_vei ?_ | refine k_ost ?_ | refine k_cfn ?_ | refine k_step ?_ | refine k_lenset ?_ | refine k_sortset ?_ | refine k_listrg ?_ | refine k_rg1 ?_ | refine k_lc ?_ | refine k_dc ?_
    | refine k_addI ?_ | refine k_sub ?_ | refine k_lt ?_ | refine k_le ?_ | refine k_gt ?_ | refine k_ge ?_ | refine k_eqI ?_ | refine k_neI ?_ | refine k_eqS ?_ | refine k_neS ?_ | refine k_eqB ?_ | refine k_neB ?_ | refine k_neg ?_ | refine k_isN ?_ | refine k_isnotN ?_
    | refine k_for ?_ | refine k_itL ?_ | refine k_itT ?_ | refine k_itR1 ?_ | refine k_itR2 ?_ | refine k_tt ?_ | refine k_ff ?_ | refine k_nt ?_ | refine k_nf ?_)
  | (with_reducible first | refine k_s0 ?_ | refine k_s1 ?_ | refine k_s2 ?_ | refine k_s3 ?_ | refine k_s4 ?_ | refine k_s5 ?_ | refine k_s6 ?_ | refine k_s7 ?_ | refine k_s8 ?_ | refine k_s9 ?_ | refine k_s10 ?_ | refine k_s11 ?_ | refine k_s12 ?_ | refine k_s13 ?_ | refine k_s14 ?_ | refine k_s15 ?_ | refine k_s16 ?_ | refine k_s17 ?_ | refine k_s18 ?_ | refine k_s19 ?_ | refine k_s20 ?_ | refine k_s21 ?_ | refine k_s22 ?_ | refine k_s23 ?_ | refine k_s24 ?_ | refine k_s25 ?_ | refine k_s26 ?_ | refine k_s27 ?_ | refine k_s28 ?_ | refine k_s29 ?_ | refine k_s30 ?_ | refine k_s31 ?_ | refine k_s32 ?_ | refine k_s33 ?_ | refine k_s34 ?_ | refine k_s35 ?_ | refine k_s36 ?_ | refine k_s37 ?_ | refine k_s38 ?_ | refine k_s39 ?_ | refine k_s40 ?_ | refine k_s41 ?_ | refine k_s42 ?_ | refine k_s43 ?_)
  | (with_reducible first | refine k_g0 ?_ | refine k_g1 ?_ | refine k_g2 ?_ | refine k_g3 ?_ | refine k_g4 ?_ | refine k_g5 ?_ | refine k_g6 ?_ | refine k_g7 ?_ | refine k_g8 ?_ | refine k_g9 ?_ | refine k_g10 ?_ | refine k_g11 ?_ | refine k_g12 ?_ | refine k_g13 ?_ | refine k_g14 ?_ | refine k_g15 ?_ | refine k_g16 ?_ | refine k_g17 ?_ | refine k_g18 ?_ | refine k_g19 ?_ | refine k_g20 ?_ | refine k_g21 ?_ | refine k_g22 ?_ | refine k_g23 ?_ | refine k_g24 ?_ | refine k_g25 ?_ | refine k_g26 ?_ | refine k_g27 ?_ | refine k_g28 ?_ | refine k_g29 ?_ | refine k_g30 ?_ | refine k_g31 ?_ | refine k_g32 ?_ | refine k_g33 ?_ | refine k_g34 ?_ | refine k_g35 ?_ | refine k_g36 ?_ | refine k_g37 ?_ | refine k_g38 ?_ | refine k_g39 ?_ | refine k_g40 ?_ | refine k_g41 ?_ | refine k_g42 ?_ | refine k_g43 ?_)
  | (with_reducible refine k_asg ?_)
  | (with_reducible refine k_mod ?e ?_; (case e => first | omega | decide))
  | (with_reducible refine k_mulR ?e ?_; (case e => decide))
  | (with_reducible refine k_mulL ?e ?_; (case e => decide))
  | (with_reducible refine k_new ?e ?_; (case e => walk_at "sz")))
local macro_rules | `(tactic| walk_at "w") => `(tactic| repeat walk_at "w1")
local macro_rules | `(tactic| walk_at "lc") => `(tactic| (simp only [wipe, List.map, List.set_cons_succ, List.set_cons_zero]; walk_at "w"; refine ⟨rfl, ?_⟩; walk_at "w"))
local macro_rules | `(tactic| walk_at "fr") => `(tactic| first | assumption | (refine Same.free ?s (by assumption); (case s => walk_at "sm")) | (refine Keep.free ?k ?d (by assumption); (case k => walk_at "kp"); (case d => walk_at "hg")))
local macro_rules | `(tactic| walk_at "sm") => `(tactic| first
  | assumption
  | exact Same.refl _
  | (refine Same.wr ?s ?f; (case s => walk_at "sm"); (case f => walk_at "fr"))
  | (refine Same.trans ?a (by assumption); (case a => walk_at "sm")))
local macro_rules | `(tactic| walk_at "kp") => `(tactic| first
  | assumption
  | exact Keep.refl
  | (refine Keep.put ?s; (case s => walk_at "kp"))
  | (refine Keep.wr ?s ?f; (case s => walk_at "kp"); (case f => walk_at "fr"))
  | (refine Keep.trans ?a (by assumption); (case a => walk_at "kp"))
  | (refine Keep.same ?s; (case s => walk_at "sm")))
local macro_rules | `(tactic| walk_at "ar") => `(tactic| first
  | (refine k_pos ?h ?_; (case h => omega))
  | (refine k_neg' ?h ?_; (case h => omega))
  | (refine k_npos ?h ?_; (case h => omega))
  | (refine k_nneg ?h ?_; (case h => omega)))
local macro_rules | `(tactic| walk_at "wa") => `(tactic| repeat first | walk_at "w1" | walk_at "ar")
local macro_rules | `(tactic| walk_at "lc1") => `(tactic| simp only [wipe, List.map, List.set_cons_succ, List.set_cons_zero])
local macro_rules | `(tactic| walk_at "lc2") => `(tactic| (walk_at "w"; refine ⟨rfl, ?_⟩; walk_at "w"))
namespace Lw
open PySem PySem.Spec PyProof.Rows L2 Ls
section
variable {P : Program} {w : World} {K : PySem.W.Frag} {mg : Str → Option Value} {base : Heap}
theorem ok__law_pick (E : Env K mg w) : FnOk P w K mg base CX0 1 E.a__law_pick E.fd__law_pick ["_law_d", "_law_many"] (spPick K) := by
  refine E.F__law_pick.ok sc__law_pick (fun vs H Q E h => ?_) (fun cdv A outer s H vs Q E' hr h => ?_)
  · obtain ⟨d, c, m, rfl, _⟩ := h
    rfl
  · obtain ⟨d, c, many, rfl, ⟨n, r, s, ns, h1, h2, h3, h4, h5, h6⟩, m1, m2, q⟩ := h
    have hu := huOf hr
    refine ⟨_, PSs.nox (pss_cut (ps_if (PW.pt (pw_and (pt_cmpR (op_eqU K rfl hu) (pe_dget (hu1 hu) (pv 0) pe_str (fun _ _ => rfl)) pe_int (nomark _)) (pw_and1 (pt_cmpR (op_lt) (pe_dget (hu1 hu) (pv 0) pe_str (fun _ _ => rfl)) (pe_callB (call_lenU K rfl) (by rfl) E.n_len boot_len (pa_cons (pe_dget (hu1 hu) (pv 0) pe_str (fun _ _ => rfl)) pa_nil)) (nomark _))))) (pss_cons (ps_set (i := 2) sc__law_pick.nd rfl (Or.inl rfl) (pe_ix (ix_U K rfl) (pe_dget (hu1 hu) (pv 0) pe_str (fun _ _ => rfl)) (pe_dget (hu1 hu) (pv 0) pe_str (fun _ _ => rfl)) (fun _ _ => rfl)))
(pss_cons (ps_dput (hu1 hu) (pv 0) pe_str (pe_op (op_addU K rfl) (pe_dget (hu1 hu) (pv 0) pe_str (fun _ _ => rfl)) pe_int) rfl)
(pss_one (ps_if (pt_cmpR (op_ge) (pv 2) (pe_op op_pow pe_int pe_int) (nomark _)) (pss_one (ps_dput (hu1 hu) (pv 0) pe_str (pv 2) rfl)) (pss_one (ps_dput (hu1 hu) (pv 0) pe_str (pe_op op_mod (pe_op (op_addU K rfl) (pe_op (op_addU K rfl) (pe_op op_mul (pe_dget (hu1 hu) (pv 0) pe_str (fun _ _ => rfl)) pe_int) (pe_op op_mul (pv 2) pe_int)) pe_int) pe_int) rfl)))))) pss_nil)
(pss_cons (ps_if (pt_cmpR (op_gt) (pe_dget (hu1 hu) (pv 0) pe_str (fun _ _ => rfl)) pe_int (nomark _)) (pss_cons (ps_set (i := 3) sc__law_pick.nd rfl (Or.inl rfl) (pe_op op_mod (pe_dget (hu1 hu) (pv 0) pe_str (fun _ _ => rfl)) (pv 1)))
(pss_cons (ps_dput (hu1 hu) (pv 0) pe_str (pe_op op_fdivW (pe_dget (hu1 hu) (pv 0) pe_str (fun _ _ => rfl)) (pv 1)) rfl)
(pss_one (ps_ret (pv 3))))) pss_nil)
(pss_cons (ps_set (i := 4) sc__law_pick.nd rfl (Or.inl rfl) (pe_op op_mod (pe_op op_mul (pe_dget (hu1 hu) (pv 0) pe_str (fun _ _ => rfl)) (pe_dget (hu1 hu) (pv 0) pe_str (fun _ _ => rfl))) pe_int))
(pss_cons (ps_dput (hu1 hu) (pv 0) pe_str (pe_op op_mod (pe_op (op_addU K rfl) (pe_op (op_addU K rfl) (pe_op op_mul (pv 4) pe_int) (pe_op op_mul (pe_dget (hu1 hu) (pv 0) pe_str (fun _ _ => rfl)) pe_int)) pe_int) pe_int) rfl)
(pss_one (ps_ret (pe_op op_mod (pe_op op_fdivW (pe_dget (hu1 hu) (pv 0) pe_str (fun _ _ => rfl)) pe_int) (pv 1)))))))), ?_⟩
    refine k_body (s1 := [some (.ref d), some (.int many), none, none, none]) rfl ?_
    refine k_cut (fun σ H' => ∃ (n r s : Int) (v : Option V), σ = [some (.ref d), some (.int many), v, none, none] ∧ Keep d H H' ∧ H' d = some (.dK (dd c n r s)) ∧ H' c = some (.lst (ns.map V.int)) ∧ 0 ≤ n ∧ 0 ≤ r ∧ 0 ≤ s ∧ s < 2305843009213693951) ?_ ?_
    · walk_at "w"
      refine k_getS h1 dd_rest ?_
      walk_at "w"
      refine k_itd (fun hr0 => ?_) (fun hr0 => ?_)
      · walk_at "w"
        refine k_getS h1 dd_at ?_
        walk_at "w"
        refine k_getS h1 dd_cells ?_
        walk_at "w"
        refine k_lenL (sql_of h2) ?_
        walk_at "w"
        refine k_itd (fun hl => ?_) (fun hl => ?_)
        · rw [List.length_map] at hl
          obtain ⟨k, rfl⟩ : ∃ k : Nat, n = (k : Int) := ⟨n.toNat, by omega⟩
          have hk : k < ns.length := by omega
          walk_at "w"
          refine k_getS h1 dd_cells ?_
          walk_at "w"
          refine k_getS h1 dd_at ?_
          walk_at "w"
          refine k_ixL (sql_of h2) (atI_nat (v := .int ns[k]) (by rw [List.getElem?_map, List.getElem?_eq_getElem hk]; rfl)) ?_
          walk_at "w"
          refine k_getS h1 dd_at ?_
          walk_at "w"
          refine k_putS h1 dd_len ?_
          rw [dd_put_at]
          have g1 : Keep d H (upd H d (.dK (dd c (k + 1) r s))) := Keep.put Keep.refl
          have nc : c ≠ d := ne_of h2 h1 (by intro z; cases z)
          have g2 : upd H d (.dK (dd c (k + 1) r s)) c = some (.lst (ns.map V.int)) := g1.at nc h2
          walk_at "w"
          refine k_powL (v := 1000000000000000000) (by decide) (by decide) (by decide) ?_
          walk_at "w"
          refine k_itd (fun hb => ?_) (fun hb => ?_)
          · walk_at "w"
            refine k_putS upd_same dd_len ?_
            rw [dd_put_rest]
            exact ⟨_, _, _, _, rfl, Keep.put g1, upd_same, (Keep.put Keep.refl : Keep d _ _).at nc g2, by omega, by omega, h5, h6⟩
          · walk_at "w"
            refine k_getS upd_same dd_seed ?_
            walk_at "w"
            refine k_putS upd_same dd_len ?_
            rw [dd_put_seed]
            exact ⟨_, _, _, _, rfl, Keep.put g1, upd_same, (Keep.put Keep.refl : Keep d _ _).at nc g2, by omega, by omega, by omega, by omega⟩
        · walk_at "w"
          exact ⟨_, _, _, _, rfl, Keep.refl, h1, h2, h3, h4, h5, h6⟩
      · walk_at "w"
        exact ⟨_, _, _, _, rfl, Keep.refl, h1, h2, h3, h4, h5, h6⟩
    · rintro σ' H' ⟨n, r, s, v, rfl, k, h1, h2, h3, h4, h5, h6⟩
      walk_at "w"
      refine k_getS h1 dd_rest ?_
      walk_at "w"
      refine k_itd (fun hr0 => ?_) (fun hr0 => ?_)
      · walk_at "w"
        refine k_getS h1 dd_rest ?_
        walk_at "w"
        refine k_getS h1 dd_rest ?_
        walk_at "w"
        refine k_fdiv m1 m2 ?_
        walk_at "w"
        refine k_putS h1 dd_len ?_
        rw [dd_put_rest]
        walk_at "w"
        exact q _ _ (Keep.put k) ⟨n, _, s, ns, upd_same, (Keep.put Keep.refl : Keep d _ _).at (ne_of h2 h1 (by intro z; cases z)) h2, h3, Int.ediv_nonneg h4 (by omega), h5, h6⟩ (Int.emod_nonneg _ (by omega)) (Int.emod_lt_of_pos _ m1)
      · walk_at "w"
        refine k_getS h1 dd_seed ?_
        walk_at "w"
        refine k_getS h1 dd_seed ?_
        refine k_mulR (by omega) ?_
        walk_at "w"
        refine k_getS h1 dd_seed ?_
        walk_at "w"
        refine k_putS h1 dd_len ?_
        rw [dd_put_seed]
        walk_at "w"
        refine k_getS upd_same dd_seed ?_
        walk_at "w"
        refine k_fdiv (by decide) (by decide) ?_
        walk_at "w"
        exact q _ _ (Keep.put k) ⟨n, r, _, ns, upd_same, (Keep.put Keep.refl : Keep d _ _).at (ne_of h2 h1 (by intro z; cases z)) h2, h3, h4, Int.emod_nonneg _ (by omega), Int.emod_lt_of_pos _ (by omega)⟩ (Int.emod_nonneg _ (by omega)) (Int.emod_lt_of_pos _ m1)
end
end Lw
namespace Lw
open PySem PySem.Spec PyProof.Rows L2 Ls
section
variable {P : Program} {w : World} {K : PySem.W.Frag} {mg : Str → Option Value} {base : Heap}
theorem ok__law_begin (E : Env K mg w) : FnOk P w K mg base CX0 1 E.a__law_begin E.fd__law_begin ["_law_script"] (spBegin K) := by
  refine E.F__law_begin.ok sc__law_begin (fun vs H Q E h => ?_) (fun cdv A outer s H vs Q E' hr h => ?_)
  · obtain ⟨d, m, rfl, _⟩ := h
    rfl
  · obtain ⟨a, ns, rfl, h1, h2, q⟩ := h
    have hu := huOf hr
    refine ⟨_, PSs.nox (pss_cons (ps_set (i := 1) sc__law_begin.nd rfl (Or.inl rfl) pe_int)
(pss_cons (ps_for PassesOwn.never rfl (kIL K rfl (pi_list (pe_slice (sl_U K rfl) (pv 0) po_none (po_some pe_int)))) (pg_name (i := 2) sc__law_begin.nd rfl (Or.inl rfl))
(pss_one (ps_set (i := 1) sc__law_begin.nd rfl (Or.inl rfl) (pe_op op_mod (pe_op (op_addU K rfl) (pe_op (op_addU K rfl) (pe_op op_mul (pv 1) pe_int) (pe_op op_mul (pv 2) pe_int)) pe_int) pe_int))))
(pss_one (ps_ret (pe_disp (pps_cons pe_str (pe_callTy (call_listU K rfl) (by rfl) E.n_list boot_list (pa_cons (pe_slice (sl_U K rfl) (pv 0) po_none (po_some pe_int)) pa_nil)) (pps_cons pe_str pe_int (pps_cons pe_str pe_int (pps_cons pe_str (pv 1) pps_nil)))) (by rfl) (by rfl) (by simp) (by decide)))))), ?_⟩
    refine k_body (s1 := [some (.ref a), none, none]) rfl ?_
    walk_at "w"
    refine k_slL h1 ?_
    rw [cut_all (by rw [List.length_map]; omega)]
    intro p hp
    refine k_itl (sql_of upd_same) ?_
    refine for_list (xs := ns.map V.int) (fun i σ H' => ∃ (s : Int) (c : Option V), σ = [some (.ref a), some (.int s), c] ∧ 0 ≤ s ∧ s < 2305843009213693951 ∧ Same H H' ∧ H' p = some (.lst (ns.map V.int))) ⟨_, _, rfl, by decide, by decide, same_new hp, upd_same⟩ (fun i σ H' _ hP => ?_) (fun i x σ H' hx hP => ?_) (fun σ H' hP => ?_)
    · obtain ⟨s, c, rfl, p1, p2, p3, p4⟩ := hP
      exact sql_of p4
    · obtain ⟨s, c, rfl, p1, p2, p3, p4⟩ := hP
      rw [List.getElem?_map] at hx
      obtain ⟨n, hn, rfl⟩ := Option.map_eq_some_iff.mp hx
      walk_at "w"
      exact ⟨_, _, rfl, Int.emod_nonneg _ (by decide), Int.emod_lt_of_pos _ (by decide), p3, p4⟩
    · obtain ⟨s, c, rfl, p1, p2, p3, p4⟩ := hP
      walk_at "w"
      refine k_disp ?_
      intro d hd
      refine k_prs ?_
      walk_at "w"
      refine k_slL (sql_same (same_new hd) (sql_same p3 h1)) ?_
      rw [cut_all (by rw [List.length_map]; omega)]
      intro pc hpc
      walk_at "w"
      refine k_list (sql_of upd_same) ?_
      intro pl hpl
      refine k_prs ?_
      walk_at "w"
      refine k_prs ?_
      walk_at "w"
      refine k_prs ?_
      walk_at "w"
      refine k_prn ?_
      have hd2 : upd (upd (upd H' d (.dK [])) pc (.lst (ns.map V.int))) pl (.lst (ns.map V.int)) d = some (.dK []) := by walk_at "hg"
      refine ⟨hd2, dd pl 0 0 s, rfl, by show 4 ≤ 15; decide, ?_⟩
      rw [dd_merge]
      refine q _ _ _ ?_ (Same.free p3 (Same.free (same_new hd) (Same.free (same_new hpc) hpl))) ?_ ?_
      · walk_at "fr"
      · walk_at "sm"
      · refine ⟨0, 0, s, ns, upd_same, ?_, by decide, by decide, p1, p2⟩
        rw [upd_ne (ne_of upd_same hd2 (by intro z; cases z))]
        exact upd_same
end
end Lw
namespace Lw
open PySem PySem.Spec PyProof.Rows L2 Ls
section
variable {P : Program} {w : World} {K : PySem.W.Frag} {mg : Str → Option Value} {base : Heap}
theorem ok__law_of (E : Env K mg w) (G__law_pick : FnOk P w K mg base CX0 1 E.a__law_pick E.fd__law_pick ["_law_d", "_law_many"] (spPick K)) : FnOk P w K mg base CX0 2 E.a__law_of E.fd__law_of ["_law_d", "_law_things"] (spOf K) := by
  refine E.F__law_of.ok sc__law_of (fun vs H Q E h => ?_) (fun cdv A outer s H vs Q E' hr h => ?_)
  · obtain ⟨d, c, m, xs, rfl, _⟩ := h
    rfl
  · obtain ⟨d, c, l, xs, rfl, hD, hl, h0, hn, q⟩ := h
    have hu := huOf hr
    have hr__law_pick := hr.mono (Nat.le_refl _)
    have b__law_pick := b__law_pick E
    refine ⟨_, PSs.nox (pss_one (ps_ret (pe_ix (ix_U K rfl) (pv 1) (pe_call G__law_pick hr__law_pick rfl E.g__law_pick E.F__law_pick.kp b__law_pick .nil pass0 (pa_cons (pv 0) (pa_cons (pe_callB (call_lenU K rfl) (by rfl) E.n_len boot_len (pa_cons (pv 1) pa_nil)) pa_nil))) (fun _ _ => rfl)))), ?_⟩
    refine k_body (s1 := [some (.ref d), some (.ref l)]) rfl ?_
    walk_at "w"
    refine k_lenL hl ?_
    walk_at "w"
    refine use_pick hD (by omega) (by omega) fun r H1 k1 D1 r0 r1 => ?_
    obtain ⟨k, rfl⟩ := Int.eq_ofNat_of_zero_le r0
    have hk : k < xs.length := by omega
    refine k_ixL (hD.sql k1 hl) (atI_nat (List.getElem?_eq_getElem hk)) ?_
    exact q _ _ k1 D1 (List.getElem_mem hk)
end
end Lw
namespace Lw
open PySem PySem.Spec PyProof.Rows L2 Ls
section
variable {P : Program} {w : World} {K : PySem.W.Frag} {mg : Str → Option Value} {base : Heap}
theorem same_turn (E : Env K mg w) (n : Nat) {sp : Sp} (G__law_same : FnOk P w K mg base CX0 n E.a__law_same E.fd__law_same ["_law_found", "_law_due"] sp)
    (use : ∀ (x y : V) (d : PyData) (H : Hp) (Q : VK) (E : XK) (m : Nat), n = m + 1 → Dp K H x d → Dp K H y d → OkD m d → (∀ H', Same H H' → Q (.bl true) H') → sp ([x, y] ++ []) H Q E) :
    FnOk P w K mg base CX0 (n + 1) E.a__law_same E.fd__law_same ["_law_found", "_law_due"] (spSame K n) := by
  refine E.F__law_same.ok sc__law_same (fun vs H Q E h => ?_) (fun cdv A outer s H vs Q E' hr h => ?_)
  · obtain ⟨x, y, d, rfl, _⟩ := h
    rfl
  · obtain ⟨x, y, d, rfl, hx, hy, hd, q⟩ := h
    have hu := huOf hr
    have b__law_same := b__law_same E
    have hr__law_same := hr
    refine ⟨_, PSs.nox (pss_cons (ps_if (pt_cmpR (op_isU) (pv 1) pe_non (nomark _)) (pss_one (ps_ret (pe_cmpR (op_isU) (pv 0) pe_non (nomark _)))) pss_nil)
(pss_cons (ps_if (PW.pt (pw_or (pt_val (pe_callB (call_isiU K rfl) (by rfl) E.n_isinstance boot_isinstance (pa_cons (pv 1) (pa_cons (pe_ty "bool" rfl E.n_bool (by decide +kernel)) pa_nil)))) (pw_or1 (pt_val (pe_callB (call_isiU K rfl) (by rfl) E.n_isinstance boot_isinstance (pa_cons (pv 0) (pa_cons (pe_ty "bool" rfl E.n_bool (by decide +kernel)) pa_nil))))))) (pss_one (ps_ret (pe_and (pe_callB (call_isiU K rfl) (by rfl) E.n_isinstance boot_isinstance (pa_cons (pv 1) (pa_cons (pe_ty "bool" rfl E.n_bool (by decide +kernel)) pa_nil))) (pe_and (pe_callB (call_isiU K rfl) (by rfl) E.n_isinstance boot_isinstance (pa_cons (pv 0) (pa_cons (pe_ty "bool" rfl E.n_bool (by decide +kernel)) pa_nil))) (pe_one (pe_cmpR (op_eqU K rfl hu) (pv 0) (pv 1) (nomark _))))))) pss_nil)
(pss_cons (ps_if (pt_val (pe_callB (call_isiTU K rfl) (by rfl) E.n_isinstance boot_isinstance (pa_cons (pv 1) (pa_cons (pe_tup (pa_cons (pe_ty "int" rfl E.n_int (by decide +kernel)) (pa_cons (pe_ty "str" rfl E.n_str (by decide +kernel)) pa_nil))) pa_nil)))) (pss_one (ps_ret (pe_and (pe_callB (call_isiTU K rfl) (by rfl) E.n_isinstance boot_isinstance (pa_cons (pv 0) (pa_cons (pe_tup (pa_cons (pe_ty "int" rfl E.n_int (by decide +kernel)) (pa_cons (pe_ty "str" rfl E.n_str (by decide +kernel)) pa_nil))) pa_nil))) (pe_and (pe_cmpR (op_eqU K rfl hu) (pe_callB (call_isiU K rfl) (by rfl) E.n_isinstance boot_isinstance (pa_cons (pv 0) (pa_cons (pe_ty "int" rfl E.n_int (by decide +kernel)) pa_nil))) (pe_callB (call_isiU K rfl) (by rfl) E.n_isinstance boot_isinstance (pa_cons (pv 1) (pa_cons (pe_ty "int" rfl E.n_int (by decide +kernel)) pa_nil))) (nomark _)) (pe_one (pe_cmpR (op_eqU K rfl hu) (pv 0) (pv 1) (nomark _))))))) pss_nil)
(pss_cons (ps_if (PW.pt (pw_or (pt_cmpR (op_neU K rfl hu) (pe_callB (call_isiU K rfl) (by rfl) E.n_isinstance boot_isinstance (pa_cons (pv 1) (pa_cons (pe_ty "list" rfl E.n_list (by decide +kernel)) pa_nil))) (pe_callB (call_isiU K rfl) (by rfl) E.n_isinstance boot_isinstance (pa_cons (pv 0) (pa_cons (pe_ty "list" rfl E.n_list (by decide +kernel)) pa_nil))) (nomark _)) (pw_or1 (pt_cmpR (op_neU K rfl hu) (pe_callB (call_isiU K rfl) (by rfl) E.n_isinstance boot_isinstance (pa_cons (pv 1) (pa_cons (pe_ty "tuple" rfl E.n_tuple (by decide +kernel)) pa_nil))) (pe_callB (call_isiU K rfl) (by rfl) E.n_isinstance boot_isinstance (pa_cons (pv 0) (pa_cons (pe_ty "tuple" rfl E.n_tuple (by decide +kernel)) pa_nil))) (nomark _))))) (pss_one (ps_ret pe_bl)) pss_nil)
(pss_one (ps_ret (pe_and (pe_cmpR (op_eqU K rfl hu) (pe_callB (call_lenU K rfl) (by rfl) E.n_len boot_len (pa_cons (pv 0) pa_nil)) (pe_callB (call_lenU K rfl) (by rfl) E.n_len boot_len (pa_cons (pv 1) pa_nil)) (nomark _)) (pe_one (pe_callB (cr_allU K rfl rfl) (by rfl) E.n_all boot_all (pa_cons (pe_lc (own := [("_law_k", 2)]) rfl sc__law_same.nd (pi_range1 rfl E.n_range (pa_cons (pe_callB (call_lenU K rfl) (by rfl) E.n_len boot_len (pa_cons (pv 1) pa_nil)) pa_nil)) (blkOk_by (N := ["_law_found", "_law_due", "_law_k"]) (sc := defScope s__law_same) (by decide +kernel)) (fun _ _ _ _ _ => (pg_name (i := 2) sc__law_same.nd rfl (Or.inl rfl))) (fun _ _ _ _ _ => pts_nil) (fun _ _ _ _ _ => (pe_call G__law_same hr__law_same rfl E.g__law_same E.F__law_same.kp b__law_same .nil pass0 (pa_cons (pe_ix (ix_U K rfl) (pv 0) (pv 2) (fun _ _ => rfl)) (pa_cons (pe_ix (ix_U K rfl) (pv 1) (pv 2) (fun _ _ => rfl)) pa_nil))))) pa_nil)))))))))), ?_⟩
    refine k_body (s1 := [some x, some y, none]) rfl ?_
    have two : d = .none ∨ (∃ b, d = .bool b) ∨ (∃ i, d = .int i) ∨ (∃ z, d = .str z) ∨ ∃ (a c : Addr) (xs ys : List V) (ds : List PyData) (m : Nat) (U : String) (bL bT : Bool), n = m + 1 ∧ x = .ref a ∧ y = .ref c ∧ (SqL K H a xs ∨ SqT K H a xs) ∧ (SqL K H c ys ∨ SqT K H c ys) ∧ DpAll K H xs ds ∧ DpAll K H ys ds ∧
        ds.length ≤ 100000 ∧ (∀ e ∈ ds, OkD m e) ∧ tyn d = U ∧ kitB U "bool" = some false ∧ kitB U "int" = some false ∧ kitB U "str" = some false ∧ kitB U "list" = some bL ∧ kitB U "tuple" = some bT := by
      cases d with
      | none => exact .inl rfl
      | bool b => exact .inr (.inl ⟨b, rfl⟩)
      | int i => exact .inr (.inr (.inl ⟨i, rfl⟩))
      | str z => exact .inr (.inr (.inr (.inl ⟨z, rfl⟩)))
      | list ds =>
        cases n with
        | zero => exact hd.elim
        | succ m =>
          cases hx with
          | lst h1 h2 =>
            cases hy with
            | lst h3 h4 => exact .inr (.inr (.inr (.inr ⟨_, _, _, _, ds, m, _, _, _, rfl, rfl, rfl, .inl h1, .inl h3, h2, h4, hd.1, hd.2, rfl, kt_list_bool, kt_list_int, kt_list_str, kt_list_list, kt_list_tuple⟩)))
      | tuple ds =>
        cases n with
        | zero => exact hd.elim
        | succ m =>
          cases hx with
          | tup h1 h2 =>
            cases hy with
            | tup h3 h4 => exact .inr (.inr (.inr (.inr ⟨_, _, _, _, ds, m, _, _, _, rfl, rfl, rfl, .inr h1, .inr h3, h2, h4, hd.1, hd.2, rfl, kt_tuple_bool, kt_tuple_int, kt_tuple_str, kt_tuple_list, kt_tuple_tuple⟩)))
      | dict i => cases n <;> exact hd.elim
    walk_at "w"
    rcases two with rfl | ⟨b, rfl⟩ | ⟨i, rfl⟩ | ⟨z, rfl⟩ | ⟨a, c, xs, ys, ds, m, U, bL, bT, rfl, rfl, rfl, sx, sy, ax, ay, hl, hds, e0, eb, ei, es, eL, eT⟩
    · cases hx
      cases hy
      refine k_pos rfl ?_
      walk_at "w"
      exact q H (Same.refl H)
    · cases hx
      cases hy
      refine k_neg' (by simp) ?_
      walk_at "w"
      refine k_isi (.bl b) rfl kt_bool_bool ?_
      walk_at "w"
      refine k_isi (.bl b) rfl kt_bool_bool ?_
      walk_at "w"
      refine k_isi (.bl b) rfl kt_bool_bool ?_
      walk_at "w"
      simp only [decide_true]
      exact q H (Same.refl H)
    · cases hx
      cases hy
      refine k_neg' (by simp) ?_
      walk_at "w"
      refine k_isi (.int i) rfl kt_int_bool ?_
      walk_at "w"
      refine k_isi (.int i) rfl kt_int_bool ?_
      walk_at "w"
      intro t nt
      walk_at "w"
      refine k_isi2 (b := true) (.int i) upd_same rfl kt_int_int kt_int_str rfl ?_
      walk_at "w"
      intro t2 nt2
      walk_at "w"
      refine k_isi2 (b := true) (.int i) upd_same rfl kt_int_int kt_int_str rfl ?_
      walk_at "w"
      refine k_isi (.int i) rfl kt_int_int ?_
      walk_at "w"
      refine k_isi (.int i) rfl kt_int_int ?_
      walk_at "w"
      refine k_pos rfl ?_
      walk_at "w"
      simp only [decide_true]
      exact q _ ((same_new nt).trans (same_new nt2))
    · cases hx
      cases hy
      refine k_neg' (by simp) ?_
      walk_at "w"
      refine k_isi (.str z) rfl kt_str_bool ?_
      walk_at "w"
      refine k_isi (.str z) rfl kt_str_bool ?_
      walk_at "w"
      intro t nt
      walk_at "w"
      refine k_isi2 (b := true) (.str z) upd_same rfl kt_str_int kt_str_str rfl ?_
      walk_at "w"
      intro t2 nt2
      walk_at "w"
      refine k_isi2 (b := true) (.str z) upd_same rfl kt_str_int kt_str_str rfl ?_
      walk_at "w"
      refine k_isi (.str z) rfl kt_str_int ?_
      walk_at "w"
      refine k_isi (.str z) rfl kt_str_int ?_
      walk_at "w"
      refine k_pos rfl ?_
      walk_at "w"
      simp only [decide_true]
      exact q _ ((same_new nt).trans (same_new nt2))
    · refine k_neg' (by simp) ?_
      walk_at "w"
      refine k_isi hy e0 eb ?_
      walk_at "w"
      refine k_isi hx e0 eb ?_
      walk_at "w"
      intro t nt
      have s1 := same_new (o := .tup [.ty "int", .ty "str"]) nt
      walk_at "w"
      refine k_isi2 (b := false) (dp_same s1 hy) upd_same e0 ei es rfl ?_
      walk_at "w"
      refine k_isi (dp_same s1 hy) e0 eL ?_
      walk_at "w"
      refine k_isi (dp_same s1 hx) e0 eL ?_
      walk_at "w"
      refine k_nneg rfl ?_
      walk_at "w"
      refine k_isi (dp_same s1 hy) e0 eT ?_
      walk_at "w"
      refine k_isi (dp_same s1 hx) e0 eT ?_
      walk_at "w"
      refine k_nneg rfl ?_
      walk_at "w"
      refine k_lenE (seq_same s1 sx) ?_
      walk_at "w"
      refine k_lenE (seq_same s1 sy) ?_
      walk_at "w"
      refine k_pos (by rw [DpAll.length' ax, DpAll.length' ay]) ?_
      walk_at "w"
      refine k_lenE (seq_same s1 sy) ?_
      walk_at "w"
      have ly := DpAll.length' ay
      refine k_itr1 (by omega) ?_
      intro D hD
      have s2 := s1.trans (same_new (o := .lst []) hD)
      refine lc_range (fun i H' => Same H H' ∧ H D = none ∧ H' D = some (.lst (List.replicate i (V.bl true)))) ⟨s2, s1.free hD, upd_same⟩ (fun i H' hi hP => ?_) (fun H' hP => ?_)
      · obtain ⟨p1, p2, p3⟩ := hP
        walk_at "lc"
        have hi' : i < ds.length := by omega
        obtain ⟨v, hv, dv⟩ := DpAll.getD' ax (List.getElem?_eq_getElem hi')
        obtain ⟨u, hu', du⟩ := DpAll.getD' ay (List.getElem?_eq_getElem hi')
        refine k_ixE (seq_same p1 sx) (at_of (by omega) hv) ?_
        walk_at "w"
        refine k_ixE (seq_same p1 sy) (at_of (by omega) hu') ?_
        walk_at "w"
        refine use _ _ _ _ _ _ m rfl (dp_same p1 dv) (dp_same p1 du) (hds _ (List.getElem_mem hi')) fun H2 s3 => ?_
        refine ⟨_, s3 _ _ p3, ?_, ?_⟩
        · rw [List.length_replicate, sizeLine_eq]
          omega
        · refine ⟨fun b o e => ?_, p2, ?_⟩
          · rw [upd_ne (ne_of_none e p2)]
            exact s3 _ _ (p1 _ _ e)
          · rw [upd_same, List.replicate_succ']
      · obtain ⟨p1, p2, p3⟩ := hP
        walk_at "w"
        refine k_all (bs := List.replicate (ys.length : Int).toNat true) (by rw [List.map_replicate]; exact sql_of p3) ?_
        have ea : (List.replicate (ys.length : Int).toNat true).all id = true := by
          rw [List.all_eq_true]
          intro x hx
          rw [List.eq_of_mem_replicate hx]
          rfl
        rw [ea]
        exact q _ p1
theorem ok__law_same (E : Env K mg w) : ∀ n : Nat, FnOk P w K mg base CX0 (n + 1) E.a__law_same E.fd__law_same ["_law_found", "_law_due"] (spSame K n)
  | 0 => same_turn E 0 (sp := fun _ _ _ _ => False) ⟨fun _ _ _ _ h => h.elim, fun _ _ _ _ _ _ _ _ _ _ _ _ _ h => h.elim⟩ fun x y d H Q E m hm => by omega
  | n + 1 => same_turn E (n + 1) (ok__law_same E n) fun x y d H Q E m hm h1 h2 h3 q => by
    cases hm
    exact use_same h1 h2 h3 q
end
end Lw
set_option hygiene false
local macro_rules | `(tactic| walk_at "mem") => `(tactic| first
  | (with_reducible exact List.mem_cons_self)
  | assumption
  | (with_reducible refine' List.mem_cons_of_mem _ ?mx; (case mx => walk_at "mem")))
local macro_rules | `(tactic| walk_at "om") => `(tactic| first | omega | decide | (simp only [List.length_cons, List.length_nil, List.length_append, List.length_map] <;> omega))
local macro_rules | `(tactic| walk_at "dat") => `(tactic| (with_reducible first
  | exact Dat.int _ | exact Dat.str _ | exact Dat.non | exact Dat.bl _
  | (refine' Dat.im ?dx; (case dx => walk_at "mem"))))
local macro_rules | `(tactic| walk_at "dats") => `(tactic| first
  | (with_reducible exact DatAll.nil)
  | (with_reducible refine' DatAll.cons ?da ?db; (case da => walk_at "dat"); (case db => walk_at "dats")))
local macro_rules | `(tactic| walk_at "dl") => `(tactic| first
  | (refine' Dl.dat ?dx; (case dx => walk_at "dat"))
  | (refine' Dl.ld ?dx; (case dx => walk_at "mem")))
local macro_rules | `(tactic| walk_at "rep") => `(tactic| first
  | (with_reducible exact Rep.here)
  | (with_reducible refine' Rep.there ?rx; (case rx => walk_at "rep")))
local macro_rules | `(tactic| walk_at "rem") => `(tactic| first
  | (with_reducible exact Rem.here)
  | (with_reducible refine' Rem.there ?rx; (case rx => walk_at "rem")))
local macro_rules | `(tactic| walk_at "sub") => `(tactic| first
  | (with_reducible exact Sub.refl)
  | (with_reducible exact Sub.nil)
  | (with_reducible refine' Sub.rem ?rr ?rs; (case rr => walk_at "rem"); (case rs => walk_at "sub"))
  | (with_reducible refine' Sub.dup ?rr ?rs; (case rr => walk_at "mem"); (case rs => walk_at "sub"))
  | (with_reducible refine' Sub.drop ?rx; (case rx => walk_at "sub")))
local macro_rules | `(tactic| walk_at "fl") => `(tactic| first | (with_unfolding_all exact Nat.le_of_ble_eq_true rfl) | with_unfolding_all decide | (simp only [List.length_cons, List.length_nil]; omega))
local macro_rules | `(tactic| walk_at "pf") => `(tactic| rfl)
local macro_rules | `(tactic| walk_at "gv") => `(tactic| (dsimp only [Gv, GvAll, List.nil_append, List.cons_append, List.append_nil]; first
  | refine fun (hS : Ls.Sep _ _) => ?_
  | refine fun v (hS : Ls.Sep _ _) => ?_
  | refine fun v1 v2 (hS : Ls.Sep _ _) => ?_
  | refine fun v1 v2 v3 (hS : Ls.Sep _ _) => ?_))
local macro_rules | `(tactic| walk_at "sa") => `(tactic| (refine fun p (hp : _ = none) => ?_; first
  | (rw [updT_eq p]; (generalize he : updT _ p _ = H'); (first | (refine' andThen (ar_I hS hp he ?dt) ?_; (case dt => walk_at "dats")) | (refine' andThen (ar_T hS hp he) ?_)); clear he hp hS; refine fun hS => ?_)
  | (rw [updL_eq p]; (generalize he : updL _ p _ = H'); (first | (refine' andThen (ar_L hS hp he ?dt) ?_; (case dt => walk_at "dats")) | (refine' andThen (ar_O hS hp he) ?_)); clear he hp hS; refine fun hS => ?_)
  | (rw [updK_eq p]; (generalize he : updK _ p _ = H'); (refine' andThen (ar_K hS hp he) ?_); clear he hp hS; refine fun hS => ?_)))
local macro_rules | `(tactic| walk_at "sr") => `(tactic| with_reducible first
  | (refine' k_lenD hS ?sm ?_; (case sm => walk_at "mem"))
  | (refine' k_lenI hS ?sm ?_; (case sm => walk_at "mem"))
  | (refine' k_lenO hS ?sm ?_; (case sm => walk_at "mem"))
  | (refine' k_lenK hS ?sm ?_; (case sm => walk_at "mem"))
  | (refine' k_ixS' hS ?sm ?se ?_; (case sm => walk_at "mem"); (case se => with_unfolding_all rfl); clear hS; walk_at "gv")
  | (refine' k_ixD hS ?sm ?se ?_; (case sm => walk_at "mem"); (case se => with_unfolding_all rfl); clear hS; walk_at "gv")
  | (refine' k_ixTu hS ?sm ?se ?_; (case sm => walk_at "mem"); (case se => with_unfolding_all rfl))
  | (refine' k_gtupS hS ?sm ?se ?_; (case sm => walk_at "mem"); (case se => with_unfolding_all rfl); clear hS; walk_at "gv")
  | (refine' k_gtupO hS ?sm ?se ?_; (case sm => walk_at "mem"); (case se => with_unfolding_all rfl))
  | (refine' k_tyD hS ?sm ?_; (case sm => walk_at "mem"))
  | (refine' k_tyO hS ?sm ?_; (case sm => walk_at "mem"))
  | (refine' k_appD hS ?sr ?st ?sl ?_; (case sr => walk_at "rep"); (case st => walk_at "dat"); (case sl => walk_at "sz"); clear hS; refine fun H' hS => ?_)
  | (refine' k_appO hS ?sr ?sl ?_; (case sr => walk_at "rep"); (case sl => walk_at "sz"); clear hS; refine fun H' hS => ?_)
  | refine k_chain3 ?_ | refine k_istr ?_ | refine k_istX ?_ | refine k_inSg ?_ | refine k_non ?_
  | (refine' k_fldS hS ?sm ?sc ?sn ?se ?_; (case sm => walk_at "mem"); (case sc => assumption); (case sn => assumption); (case se => with_unfolding_all rfl))
  | (refine' k_fldF hS ?sm ?sc ?sn ?se ?_; (case sm => walk_at "mem"); (case sc => assumption); (case sn => assumption); (case se => with_unfolding_all rfl))
  | (refine' k_fldA hS ?sm ?sc ?sn ?se ?_; (case sm => walk_at "mem"); (case sc => assumption); (case sn => assumption); (case se => with_unfolding_all rfl))
  | (refine' k_putS' hS ?sr ?sc ?sn ?sl ?se ?_; (case sr => walk_at "rep"); (case sc => assumption); (case sn => assumption); (case sl => walk_at "fl"); (case se => walk_at "pf"); clear hS; refine fun H' hS => ?_)
  | (refine' k_putG hS ?sr ?sc ?sn ?sl ?se ?_; (case sr => walk_at "rep"); (case sc => assumption); (case sn => assumption); (case sl => walk_at "fl"); (case se => walk_at "pf"); clear hS; refine fun H' hS => ?_)
  | (refine' k_recvP (Z := ⟨E.C_Kind, E.C_Page, E.C_Lane⟩) hS ?sm ?se ?_; (case sm => walk_at "mem"); (case se => (intro c; with_unfolding_all rfl)))
  | (refine' k_recvL (Z := ⟨E.C_Kind, E.C_Page, E.C_Lane⟩) hS ?sm ?se ?_; (case sm => walk_at "mem"); (case se => (intro b c; with_unfolding_all rfl)))
  | (refine' k_recvLA (Z := ⟨E.C_Kind, E.C_Page, E.C_Lane⟩) hS ?sm ?se ?_; (case sm => walk_at "mem"); (case se => (intro b c; with_unfolding_all rfl)))
  | (refine' k_kname hS ?sm ?sc ?sn ?_; (case sm => walk_at "mem"); (case sc => assumption); (case sn => assumption))
  | (refine' k_kfields hS ?sm ?sc ?sn ?_; (case sm => walk_at "mem"); (case sc => assumption); (case sn => assumption); clear hS; refine fun f hS => ?_)
  | (refine' k_madeT hS ?_; clear hS; refine fun x H hS => ?_)
  | (refine' k_recvK hS ?sm ?se ?_; (case sm => walk_at "mem"); (case se => (intro b; with_unfolding_all rfl)))
  | (refine' k_fldP (Z := ⟨E.C_Kind, E.C_Page, E.C_Lane⟩) hS ?sm ?sc ?sn ?se ?_; (case sm => walk_at "mem"); (case sc => assumption); (case sn => assumption); (case se => (intro c; with_unfolding_all rfl)))
  | (refine' k_fldL (Z := ⟨E.C_Kind, E.C_Page, E.C_Lane⟩) hS ?sm ?sc ?sn ?se ?_; (case sm => walk_at "mem"); (case sc => assumption); (case sn => assumption); (case se => (intro b c; with_unfolding_all rfl)))
  | (refine' k_augS hS ?sr ?sl ?se ?_; (case sr => walk_at "rep"); (case sl => walk_at "fl"); (case se => walk_at "pf"); clear hS; refine fun H' hS => ?_)
  | (refine' k_recvI hS ?sm ?se ?_; (case sm => walk_at "mem"); (case se => with_unfolding_all rfl))
  | (refine' k_recvF hS ?sm ?se ?_; (case sm => walk_at "mem"); (case se => with_unfolding_all rfl))
  | (refine' k_eqzO hS ?sm ?sn ?_; (case sm => walk_at "mem"); (case sn => walk_at "mem"))
  | (refine' k_nezO hS ?sm ?sn ?_; (case sm => walk_at "mem"); (case sn => walk_at "mem"))
  | (refine' k_eqzD hS ?sm ?sn ?_; (case sm => walk_at "mem"); (case sn => walk_at "mem"))
  | (refine' k_nezD hS ?sm ?sn ?_; (case sm => walk_at "mem"); (case sn => walk_at "mem"))
  | (refine' k_ixO hS ?sm ?se ?_; (case sm => walk_at "mem"); (case se => assumption))
  | (refine' k_ixD hS ?sm ?se ?_; (case sm => walk_at "mem"); (case se => assumption); clear hS; walk_at "gv")
  | (refine' k_popAtO hS ?sr ?se ?sb ?_; (case sr => walk_at "rep"); (case se => assumption); (case sb => walk_at "om"); clear hS; refine fun H' hS => ?_)
  | (refine' k_popO hS ?sr ?se ?_; (case sr => walk_at "rep"); (case se => assumption); clear hS; refine fun H' hS => ?_)
  | (refine' k_extO hS ?sr ?sm ?sl ?_; (case sr => walk_at "rep"); (case sm => walk_at "mem"); (case sl => walk_at "sz"); clear hS; refine fun H' hS => ?_)
  | (refine' k_setO hS ?sr ?se ?_; (case sr => walk_at "rep"); (case se => assumption); clear hS; refine fun H' hS => ?_)
  | (refine' k_slTu hS ?sm ?_; (case sm => walk_at "mem"); clear hS; refine fun p H' hS => ?_)
  | (refine' k_slI hS ?sm ?_; (case sm => walk_at "mem"); clear hS; refine fun p H' hS => ?_)
  | (refine' k_slD hS ?sm ?_; (case sm => walk_at "mem"); clear hS; refine fun p H' hS => ?_)
  | (refine' k_slO hS ?sm ?_; (case sm => walk_at "mem"); clear hS; refine fun p H' hS => ?_)
  | refine k_joinU ?_ | refine k_strX ?_ | refine k_iseq ?_ | refine k_enum ?_ | refine k_fld ?_ | refine k_sfld ?_ | refine k_gfld ?_ | refine k_gsub ?_ | refine k_makeK ?_ | (refine' k_aug ?se ?_; (case se => with_unfolding_all rfl); dsimp only [List.set_cons_succ, List.set_cons_zero]) | refine k_ipI ?_ | refine k_asg2 ?_ | refine k_sfldaug ?_ | refine k_meth ?_ | refine k_methN ?_ | refine k_make ?_ | refine k_inadd ?_ | refine k_insub ?_
  | (refine' k_glueS hS ?sm ?sl ?_; (case sm => walk_at "mem"); (case sl => walk_at "om"))
  | (refine' k_seqD hS ?sm ?_; (case sm => walk_at "mem"))
  | (refine' k_seqO hS ?sm ?_; (case sm => walk_at "mem"))
  | (refine' k_seqI hS ?sm ?_; (case sm => walk_at "mem"))
  | (refine' k_enD hS ?sm ?_; (case sm => walk_at "mem"))
  | (refine' k_enO hS ?sm ?_; (case sm => walk_at "mem"))
  | (refine' k_enI hS ?sm ?_; (case sm => walk_at "mem"))
  | (refine' k_tupleS hS ?sm ?_; (case sm => walk_at "mem"); clear hS; refine fun p H' hS => ?_)
  | (refine' k_listS hS ?sm ?_; (case sm => walk_at "mem"); clear hS; refine fun p H' hS => ?_)
  | (refine' k_listO hS ?sm ?_; (case sm => walk_at "mem"); clear hS; refine fun p H' hS => ?_)
  | refine k_min2 ?_ | refine k_max2 ?_
  | (refine' k_addD hS ?sm ?sn ?sl ?_; (case sm => walk_at "mem"); (case sn => walk_at "mem"); (case sl => walk_at "sz"); clear hS; refine fun p H' hS => ?_)
  | (refine' k_inS hS ?sm ?_; (case sm => walk_at "mem"))
  | (refine' k_notinS hS ?sm ?_; (case sm => walk_at "mem"))
  | (refine' k_inI hS ?sm ?_; (case sm => walk_at "mem"))
  | (refine' k_notinI hS ?sm ?_; (case sm => walk_at "mem"))
  | (refine k_fdiv ?sa ?sb ?_; (case sa => (first | omega | decide)); (case sb => (first | omega | decide)))
  | (refine k_itr1 ?se ?_; (case se => omega))
  | (refine' k_itlD hS ?sm ?_; (case sm => walk_at "mem"))
  | (refine' k_itlO hS ?sm ?_; (case sm => walk_at "mem"))
  | (refine' k_ittI hS ?sm ?_; (case sm => walk_at "mem")))
local macro_rules | `(tactic| walk_at "s") => `(tactic| repeat first | walk_at "w1" | walk_at "ar" | walk_at "sa" | walk_at "sr")
local macro_rules | `(tactic| walk_at "pk") => `(tactic| (refine' use_pickS hS ?sm ?sa ?sb ?_; (case sm => walk_at "mem"); (case sa => walk_at "om"); (case sb => walk_at "om"); clear hS))
local macro_rules | `(tactic| walk_at "ofI") => `(tactic| (refine' use_ofI hS ?sm ?sn ?si ?sa ?sb ?_; (case sm => walk_at "mem"); (case sn => walk_at "mem"); (case si => rfl); (case sa => walk_at "om"); (case sb => walk_at "om"); clear hS))
local macro_rules | `(tactic| walk_at "ofS") => `(tactic| (refine' use_ofS hS ?sm ?sn ?si ?sa ?sb ?_; (case sm => walk_at "mem"); (case sn => walk_at "mem"); (case si => rfl); (case sa => walk_at "om"); (case sb => walk_at "om"); clear hS))
local macro_rules | `(tactic| walk_at "hl") => `(tactic| repeat first | (obtain ⟨rfl, -⟩ := h; rfl) | (obtain ⟨_, h⟩ := h))
local macro_rules | `(tactic| walk_at "ls") => `(tactic| (simp only [wipe, List.map, List.set_cons_succ, List.set_cons_zero, List.nil_append, List.cons_append] at hS ⊢; walk_at "s"; refine ⟨rfl, ?_⟩; walk_at "s"))
local macro_rules | `(tactic| walk_at "ns") => `(tactic| (simp only [List.nil_append, List.cons_append] at hS))
local macro_rules | `(tactic| walk_at "gi") => `(tactic| (dsimp only [Gv]; first | refine fun H (hS : Ls.Sep _ _) => ?_ | refine fun a H (hS : Ls.Sep _ _) => ?_))
local macro_rules | `(tactic| walk_at "tp") => `(tactic| (refine' Sep.toPage (Sub.ok ?sa hS) ?sb; (case sa => walk_at "sub"); (case sb => rfl)))
local macro_rules | `(tactic| walk_at "tl") => `(tactic| focus (first
  | (refine' Sep.toLane (bk := bk) (pl := pl) (Sub.ok ?sa hS) ?sb ?_ ?_; (case sa => walk_at "sub"); (case sb => rfl); all_goals (try rfl))
  | (refine' Sep.toLane (Sub.ok ?sa hS) ?sb ?_ ?_; (case sa => walk_at "sub"); (case sb => rfl); all_goals (try rfl))))
namespace Ls
open PySem PySem.Spec PyProof.Rows L2
open TL
abbrev IsSg (c : Nat) : Prop := 97 ≤ c ∧ c ≤ 122
def IsNm (z : Str) : Prop := 1 ≤ z.length ∧ z.length ≤ 8 ∧ ∀ c ∈ z.cps.toList, IsSg c
theorem abc_at : ∀ k : Fin 26, (("abcdefghijklmnopqrstuvwxyz" : Str).cps.toList)[k.val]? = some (97 + k.val) := by decide +kernel
theorem abc_ix {r : Int} (h0 : 0 ≤ r) (h1 : r < 26) : atI ("abcdefghijklmnopqrstuvwxyz" : Str).cps.toList r = some (97 + r.toNat) := by
  obtain ⟨k, rfl⟩ := Int.eq_ofNat_of_zero_le h0
  exact atI_nat (abc_at ⟨k, by omega⟩)
theorem join_sigs : ∀ cs : List Nat, (Txt.join ("" : Str) (cs.map fun c => (⟨#[c]⟩ : Str))).cps.toList = cs := fun cs => by
  rw [join_eq]
  show tl _ = _
  rw [tl_join, List.map_map]
  have e : tl ("" : Str) = [] := by decide +kernel
  rw [e]
  have : ∀ cs : List Nat, joinL [] (cs.map (tl ∘ fun c => (⟨#[c]⟩ : Str))) = cs := by
    intro cs
    induction cs with
    | nil => rfl
    | cons c r ih =>
      cases r with
      | nil => rfl
      | cons c2 r2 =>
        show tl (⟨#[c]⟩ : Str) ++ ([] ++ joinL [] ((c2 :: r2).map _)) = _
        rw [ih]
        rfl
  exact this cs
theorem sig_len (c : Nat) : (⟨#[c]⟩ : Str).length = 1 := rfl
theorem sigs_sum (cs : List Nat) : ((cs.map fun c => (⟨#[c]⟩ : Str)).map (·.length)).sum = cs.length := by
  induction cs with
  | nil => rfl
  | cons c r ih =>
    simp only [List.map_cons, List.sum_cons, List.length_cons] at ih ⊢
    rw [ih, sig_len]
    omega
theorem len_toList (z : Str) : z.length = z.cps.toList.length := (Array.length_toList).symm
theorem app_toList (x y : Str) : (x ++ y).cps.toList = x.cps.toList ++ y.cps.toList := by
  rw [Str.cps_append, Array.toList_append]
theorem app_len (x y : Str) : (x ++ y).length = x.length + y.length := Str.length_append x y
def spWord (K : PySem.W.Frag) : Sp := fun vs H Q _ => ∃ (d : Addr) (L : List (As K)), vs = [.ref d] ∧ Sep L H ∧ dr d ∈ L ∧ ∀ z H', IsNm z → Sep L H' → Q (.str z) H'
def spWords (K : PySem.W.Frag) : Sp := fun vs H Q _ => ∃ (d : Addr) (n : Nat) (L : List (As K)), vs = [.ref d, .int n] ∧ n ≤ 8 ∧ Sep L H ∧ dr d ∈ L ∧ ∀ p (zs : List Str) H', zs.length = n → zs.Nodup → (∀ z ∈ zs, IsNm z) → Sep (ld p (zs.map PyData.str) :: L) H' → Q (.ref p) H'
end Ls
namespace Lw
open PySem PySem.Spec PyProof.Rows L2 Ls
theorem ok__law_word {P : Program} {w : World} {K : PySem.W.Frag} {mg : Str → Option Value} {base : Heap} (E : Env K mg w) : FnOk P w K mg base CX0 3 E.a__law_word E.fd__law_word ["_law_d"] (spWord K) := by
  refine E.F__law_word.ok sc__law_word (fun vs H Q E h => ?_) (fun cdv A outer s H vs Q E' hr h => ?_)
  · walk_at "hl"
  · have hu := huOf hr
    have G__law_of := ok__law_of E (ok__law_pick (P := P) (w := w) (base := base) E)
    have hr__law_of := hr.mono (show 2 ≤ 2 by decide)
    have b__law_of := b__law_of E
    have G__law_pick := ok__law_pick (P := P) (w := w) (base := base) E
    have hr__law_pick := hr.mono (show 1 ≤ 2 by decide)
    have b__law_pick := b__law_pick E
    obtain ⟨d, L, rfl, hS, hd, q⟩ := h
    refine ⟨_, PSs.nox (pss_cons (ps_set (i := 1) sc__law_word.nd rfl (Or.inr rfl) pe_str)
(pss_cons (ps_set (i := 2) sc__law_word.nd rfl (Or.inl rfl) (pe_call G__law_of hr__law_of rfl E.g__law_of E.F__law_of.kp b__law_of .nil pass0 (pa_cons (pv 0) (pa_cons (pe_lst (pa_cons pe_str (pa_cons pe_str (pa_cons pe_str (pa_cons pe_str (pa_cons pe_str pa_nil)))))) pa_nil))))
(pss_cons (ps_set (i := 3) sc__law_word.nd rfl (Or.inl rfl) (pe_op (op_addU K rfl) pe_int (pe_call G__law_pick hr__law_pick rfl E.g__law_pick E.F__law_pick.kp b__law_pick .nil pass0 (pa_cons (pv 0) (pa_cons (pe_op op_sub pe_int (pe_callB (call_lenU K rfl) (by rfl) E.n_len boot_len (pa_cons (pv 2) pa_nil))) pa_nil)))))
(pss_cons (ps_set (i := 4) sc__law_word.nd rfl (Or.inl rfl) (pe_joinU K rfl pe_str (pe_lc (own := [("_law_k", 5)]) rfl sc__law_word.nd (pi_range1 rfl E.n_range (pa_cons (pv 3) pa_nil)) (blkOk_by (N := ["_law_d", "_law_letters", "_law_first", "_law_size", "_law_some", "_law_k"]) (sc := defScope s__law_word) (by decide +kernel)) (fun _ _ _ _ _ => (pg_name (i := 5) sc__law_word.nd rfl (Or.inl rfl))) (fun _ _ _ _ _ => pts_nil) (fun _ _ _ _ _ => (pe_ix (ix_U K rfl) (pv 1) (pe_call G__law_pick hr__law_pick rfl E.g__law_pick E.F__law_pick.kp b__law_pick .nil pass0 (pa_cons (pv 0) (pa_cons pe_int pa_nil))) (fun _ _ => rfl))))))
(pss_one (ps_ret (pe_ix (ix_U K rfl) (pe_lst (pa_cons (pe_op (op_addU K rfl) (pv 2) (pv 4)) (pa_cons (pe_op (op_addU K rfl) (pv 4) (pv 2)) pa_nil))) (pe_call G__law_pick hr__law_pick rfl E.g__law_pick E.F__law_pick.kp b__law_pick .nil pass0 (pa_cons (pv 0) (pa_cons pe_int pa_nil))) (fun _ _ => rfl)))))))), ?_⟩
    refine k_body (s1 := some _ :: [none, none, none, none, none]) rfl ?_
    walk_at "s"
    walk_at "ofS"
    intro z H hz hS
    have hz : z.length ≤ 7 ∧ ∀ c ∈ z.cps.toList, IsSg c := by
      simp only [List.mem_cons, PyData.str.injEq, List.not_mem_nil, or_false] at hz
      rcases hz with rfl | rfl | rfl | rfl | rfl <;> exact ⟨by decide +kernel, by decide +kernel⟩
    walk_at "s"
    refine k_lenS (by rw [sizeLine_eq]; omega) ?_
    walk_at "s"
    walk_at "pk"
    intro r H hS r0 r1
    walk_at "s"
    refine lc_wk (L := L) (n := (1 + r).toNat) (fun i acc L' => L' = L ∧ ∃ cs : List Nat, acc = (cs.map fun c => (⟨#[c]⟩ : Str)).map PyData.str ∧ cs.length = i ∧ ∀ c ∈ cs, IsSg c) (fun i acc L' _ => wk_rng) (Sub.ok ?u hS) ⟨rfl, [], rfl, rfl, by simp⟩ (fun i acc L' hi iv H hS => ?_) (fun acc L' H iv hS => ?_)
    case u => walk_at "sub"
    · obtain ⟨rfl, cs, rfl, hc, hsg⟩ := iv
      walk_at "ls"
      walk_at "pk"
      intro r2 H hS s0 s1
      refine k_ixS (by rw [sizeLine_eq]; decide +kernel) (abc_ix s0 s1) ?_
      refine lc_keep hS (.str _) .refl (by rw [sizeLine_eq]; simp only [List.length_map]; omega) ⟨rfl, cs ++ [97 + r2.toNat], by simp, by simp [hc], fun c hm => ?_⟩
      rcases List.mem_append.mp hm with hm | hm
      · exact hsg c hm
      · rw [List.mem_singleton.mp hm]; exact ⟨by omega, by omega⟩
    · obtain ⟨rfl, cs, rfl, hc, hsg⟩ := iv
      refine k_glueS (z := ("" : Str)) hS (zs := cs.map fun c => (⟨#[c]⟩ : Str)) List.mem_cons_self (by rw [sigs_sum, List.length_map, show ("" : Str).length = 0 by decide +kernel]; omega) ?_
      have hw := join_sigs cs
      generalize Txt.join ("" : Str) (cs.map fun c => (⟨#[c]⟩ : Str)) = w at hw
      have hl : w.length = cs.length := by rw [len_toList, hw]
      walk_at "s"
      refine k_addS (by rw [sizeLine_eq]; omega) ?_
      walk_at "s"
      refine k_addS (by rw [sizeLine_eq]; omega) ?_
      walk_at "s"
      walk_at "pk"
      intro r2 H hS s0 s1
      have e : ∀ x y : Str, (x.length ≤ 7 ∧ ∀ c ∈ x.cps.toList, IsSg c) ∨ True → True := fun _ _ _ => trivial
      have n1 : IsNm (z ++ w) := ⟨by rw [app_len]; omega, by rw [app_len]; omega, fun c hm => by
        rw [app_toList, hw] at hm
        exact (List.mem_append.mp hm).elim (hz.2 c) (hsg c)⟩
      have n2 : IsNm (w ++ z) := ⟨by rw [app_len]; omega, by rw [app_len]; omega, fun c hm => by
        rw [app_toList, hw] at hm
        exact (List.mem_append.mp hm).elim (hsg c) (hz.2 c)⟩
      have : r2 = 0 ∨ r2 = 1 := by omega
      rcases this with rfl | rfl
      · walk_at "s"
        exact q _ _ n1 (Sub.ok (by walk_at "sub") hS)
      · walk_at "s"
        exact q _ _ n2 (Sub.ok (by walk_at "sub") hS)
end Lw
local macro_rules | `(tactic| walk_at "sr") => `(tactic| with_reducible first
  | (refine' k_lenF hS ?sm ?_; (case sm => walk_at "mem"))
  | (refine' k_tyF hS ?sm ?_; (case sm => walk_at "mem"))
  | (refine' k_seqF hS ?sm ?_; (case sm => walk_at "mem"))
  | (refine' k_extD hS ?sr ?sm ?sl ?_; (case sr => walk_at "rep"); (case sm => walk_at "mem"); (case sl => walk_at "sz"); clear hS; refine fun H' hS => ?_))
namespace Ls
open PySem PySem.Spec PyProof.Rows L2 TL
def IsDg (c : Nat) : Prop := 48 ≤ c ∧ c ≤ 57
instance (c : Nat) : Decidable (IsDg c) := inferInstanceAs (Decidable (48 ≤ c ∧ c ≤ 57))
/-- the figures: what stands behind a sign ahead -/
def figs (z : Str) : Str := if cutS z none (some 1) = ("-" : Str) then cutS z (some 1) none else z
def FigOk (most : Int) (z : Str) : Prop := 1 ≤ ((figs z).length : Int) ∧ ((figs z).length : Int) ≤ most ∧ ∀ c ∈ (figs z).cps.toList, IsDg c
instance (most : Int) (z : Str) : Decidable (FigOk most z) := inferInstanceAs (Decidable (_ ∧ _ ∧ _))
def numIn (most : Int) (z : Str) : Option Int := if FigOk most z then (if (figs z).cps.toList.head? = some 48 ∧ z ≠ ("0" : Str) then none else intText? z) else none
theorem cut1 (z : Str) : (cutS z none (some 1)).cps.toList = z.cps.toList.take 1 := by
  show ((z.cps.toList.drop 0).take (HT.sIx z.length z.length (some ((1 : Nat) : Int)) - 0)).toArray.toList = _
  rw [HT.sIx_nat, List.drop_zero, Nat.sub_zero, List.toList_toArray]
  have e : z.cps.toList.length = z.length := Array.length_toList
  rcases Nat.lt_or_ge z.length 1 with h | h
  · rw [Nat.min_eq_right (by omega), List.take_of_length_le (by omega), List.take_of_length_le (by omega)]
  · rw [Nat.min_eq_left h]
theorem cutR (z : Str) : (cutS z (some 1) none).cps.toList = z.cps.toList.drop 1 := by
  show ((z.cps.toList.drop (HT.sIx z.length 0 (some ((1 : Nat) : Int)))).take (z.length - HT.sIx z.length 0 (some ((1 : Nat) : Int)))).toArray.toList = _
  rw [HT.sIx_nat, List.toList_toArray]
  have e : z.cps.toList.length = z.length := Array.length_toList
  rcases Nat.lt_or_ge z.length 1 with h | h
  · rw [Nat.min_eq_right (by omega), List.drop_of_length_le (by omega), List.drop_of_length_le (by omega), List.take_nil]
  · rw [Nat.min_eq_left h, List.take_of_length_le (by rw [List.length_drop]; omega)]
theorem figs_neg {z : Str} {r : List Nat} (h : z.cps.toList = 45 :: r) : (figs z).cps.toList = r := by
  unfold figs
  rw [if_pos (ext_tl (by show (cutS z none (some 1)).cps.toList = _; rw [cut1, h]; rfl)), cutR, h]
  rfl
theorem figs_pos {z : Str} (h : z.cps.toList.head? ≠ some 45) : figs z = z := by
  unfold figs
  rw [if_neg fun e => h ?_]
  have : (cutS z none (some 1)).cps.toList = ("-" : Str).cps.toList := by rw [e]
  rw [cut1] at this
  cases hz : z.cps.toList with
  | nil => rw [hz] at this; cases this
  | cons c r =>
    rw [hz, List.take_succ_cons, List.take_zero] at this
    have h2 : [c] = [45] := this
    rw [(List.cons.inj h2).1]
    rfl
theorem fig_int {most : Int} {z : Str} (h : FigOk most z) (hm : most ≤ 600) : (∃ n, intText? z = some n) ∧ z.length ≤ 640 := by
  obtain ⟨h1, h2, h3⟩ := h
  cases hz : z.cps.toList with
  | nil =>
    have e : figs z = z := figs_pos (by rw [hz]; exact fun e => by cases e)
    rw [e] at h1
    have e2 : z.cps.toList.length = z.length := Array.length_toList
    rw [hz] at e2
    have : (0 : Nat) = z.length := e2
    omega
  | cons c r =>
    have e2 : z.cps.toList.length = z.length := Array.length_toList
    by_cases hc : c = 45
    · subst hc
      have e := figs_neg hz
      have e3 : (figs z).cps.toList.length = (figs z).length := Array.length_toList
      rw [e] at e3 h3
      rw [hz, List.length_cons] at e2
      exact ⟨⟨_, intText_neg hz (fun c hc => h3 c hc) (fun z => by rw [z] at e3; have : 0 = (figs _).length := e3; omega) (by omega)⟩, by omega⟩
    · have e : figs z = z := figs_pos (by rw [hz]; intro e; exact hc (Option.some.inj e))
      rw [e] at h1 h2 h3
      exact ⟨⟨_, intText_digits (fun c hc => h3 c hc) (fun y => by rw [hz] at y; cases y) (by omega)⟩, by omega⟩
def numS (i : Int) : Str := Str.ofString (toString i)
theorem numS_nat (n : Nat) : (numS (n : Int)).cps.toList = numL n := tl_num n
theorem numS_neg (n : Nat) : (numS (-((n + 1 : Nat) : Int))).cps.toList = 45 :: numL (n + 1) := by
  show (Str.ofString ("-" ++ Nat.repr (n + 1))).cps.toList = _
  rw [signs_ofString, String.toList_append, List.map_append, Nat.toList_repr]
  rfl
theorem head_num : ∀ n : Nat, 0 < n → (numL n).head? ≠ some 48 := fun n => by
  induction n using Nat.strongRecOn with
  | ind n ih =>
    intro h0
    rcases Nat.lt_or_ge n 10 with h | h
    · rw [numL_lt h]
      intro e
      have := Option.some.inj e
      omega
    · rw [numL_step h]
      have := ih (n / 10) (by omega) (by omega)
      have hn := numL_ne (n / 10)
      cases hl : numL (n / 10) with
      | nil => exact absurd hl hn
      | cons a r =>
        rw [hl] at this
        exact this
theorem num_in {i most : Int} {k : Nat} (hk : 0 < k) (h : i.natAbs < 10 ^ k) (hm : (k : Int) ≤ most) (hm2 : k ≤ 600) : numIn most (numS i) = some i := by
  have len : ∀ z : Str, z.cps.toList.length = z.length := fun z => Array.length_toList
  rcases Int.lt_or_le i 0 with hi | hi
  · obtain ⟨n, rfl⟩ : ∃ n : Nat, i = -((n + 1 : Nat) : Int) := ⟨i.natAbs - 1, by omega⟩
    have hz := numS_neg n
    have hf := figs_neg hz
    have hn : n + 1 < 10 ^ k := by omega
    have hl := numL_len hk hn
    have hne := numL_ne (n + 1)
    have e1 := len (figs (numS (-((n + 1 : Nat) : Int))))
    rw [hf] at e1
    have h1 := List.length_pos_iff.mpr hne
    have ok : FigOk most (numS (-((n + 1 : Nat) : Int))) := ⟨by omega, by omega, by rw [hf]; exact fun c hc => numL_digits (n + 1) c hc⟩
    have e2 := len (numS (-((n + 1 : Nat) : Int)))
    rw [hz, List.length_cons] at e2
    unfold numIn
    rw [if_pos ok, if_neg fun y => head_num (n + 1) (by omega) (by rw [← hf]; exact y.1), intText_neg hz (numL_digits (n + 1)) hne (by omega), numL_val]
  · obtain ⟨n, rfl⟩ := Int.eq_ofNat_of_zero_le hi
    have hz := numS_nat n
    have hn : n < 10 ^ k := by omega
    have hl := numL_len hk hn
    have hne := numL_ne n
    have hd := numL_digits n
    have hf : figs (numS (n : Int)) = numS (n : Int) := figs_pos (by
      rw [hz]
      intro e
      have := hd 45 (List.mem_of_head? e)
      omega)
    have e1 := len (numS (n : Int))
    rw [hz] at e1
    have h1 := List.length_pos_iff.mpr hne
    have ok : FigOk most (numS (n : Int)) := by
      unfold FigOk
      rw [hf, hz]
      exact ⟨by omega, by omega, fun c hc => hd c hc⟩
    unfold numIn
    rw [if_pos ok, if_neg fun y => ?_, intText_digits (by rw [hz]; exact hd) (by rw [hz]; exact hne) (by omega), hz, numL_val]
    rw [hf, hz] at y
    rcases Nat.eq_zero_or_pos n with h0 | h0
    · subst h0
      exact y.2 rfl
    · exact head_num n h0 y.1
/-- no sign of a number's text but figures and the sign ahead -/
theorem numS_sg (i : Int) : ∀ c ∈ (numS i).cps.toList, c = 45 ∨ IsDg c := by
  rcases Int.lt_or_le i 0 with hi | hi
  · obtain ⟨n, rfl⟩ : ∃ n : Nat, i = -((n + 1 : Nat) : Int) := ⟨i.natAbs - 1, by omega⟩
    rw [numS_neg n]
    intro c hc
    rcases List.mem_cons.mp hc with z | z
    · exact .inl z
    · exact .inr (numL_digits (n + 1) c z)
  · obtain ⟨n, rfl⟩ := Int.eq_ofNat_of_zero_le hi
    rw [numS_nat n]
    exact fun c hc => .inr (numL_digits n c hc)
theorem numS_len {i : Int} {k : Nat} (hk : 0 < k) (h : i.natAbs < 10 ^ k) : (numS i).length ≤ k + 1 := by
  have len : ∀ z : Str, z.cps.toList.length = z.length := fun z => Array.length_toList
  rw [← len]
  rcases Int.lt_or_le i 0 with hi | hi
  · obtain ⟨n, rfl⟩ : ∃ n : Nat, i = -((n + 1 : Nat) : Int) := ⟨i.natAbs - 1, by omega⟩
    rw [numS_neg n, List.length_cons]
    have := numL_len hk (show n + 1 < 10 ^ k by omega)
    omega
  · obtain ⟨n, rfl⟩ := Int.eq_ofNat_of_zero_le hi
    rw [numS_nat n]
    have := numL_len hk (show n < 10 ^ k by omega)
    omega
end Ls
namespace Ls
open PySem PySem.Spec PyProof.Rows L2
def cand (j : Nat) : Str := ⟨#[97 + j % 8]⟩ ++ ⟨#[113 + j / 8 % 8]⟩
theorem cand_cps (j : Nat) : (cand j).cps.toList = [97 + j % 8, 113 + j / 8 % 8] := rfl
theorem cand_nm (j : Nat) : IsNm (cand j) := ⟨by rw [len_toList, cand_cps]; show 1 ≤ 2; decide, by rw [len_toList, cand_cps]; show 2 ≤ 8; decide, fun c h => by
  rw [cand_cps] at h
  simp only [List.mem_cons, List.not_mem_nil, or_false] at h
  rcases h with rfl | rfl
  · exact ⟨by omega, by omega⟩
  · exact ⟨by omega, by omega⟩⟩
theorem cand_inj {i j : Nat} (h : cand i = cand j) : i % 8 = j % 8 := by
  have e : (cand i).cps.toList = (cand j).cps.toList := by rw [h]
  rw [cand_cps, cand_cps] at e
  injection e with e _
  omega
theorem ah_ix : ∀ k : Fin 8, (("abcdefgh" : Str).cps.toList)[k.val]? = some (97 + k.val) := by decide +kernel
theorem qx_ix : ∀ k : Fin 8, (("qrstuvwx" : Str).cps.toList)[k.val]? = some (113 + k.val) := by decide +kernel
theorem ah_at (j : Nat) : atI ("abcdefgh" : Str).cps.toList ((j : Int) % 8) = some (97 + j % 8) := by
  have e : (j : Int) % 8 = ((j % 8 : Nat) : Int) := by omega
  rw [e]
  exact atI_nat (ah_ix ⟨j % 8, by omega⟩)
theorem qx_at (j : Nat) : atI ("qrstuvwx" : Str).cps.toList ((j : Int) / 8 % 8) = some (113 + j / 8 % 8) := by
  have e : (j : Int) / 8 % 8 = ((j / 8 % 8 : Nat) : Int) := by omega
  rw [e]
  exact atI_nat (qx_ix ⟨j / 8 % 8, by omega⟩)
theorem nodup_le {α : Type} [DecidableEq α] : ∀ {xs ys : List α}, xs.Nodup → (∀ x ∈ xs, x ∈ ys) → xs.length ≤ ys.length
  | [], _, _, _ => Nat.zero_le _
  | x :: xs, ys, nd, h => by
    obtain ⟨n1, n2⟩ := List.nodup_cons.mp nd
    have hx := h x List.mem_cons_self
    have ih := nodup_le (ys := ys.erase x) n2 fun y hy => (List.mem_erase_of_ne fun e => n1 (by rw [← e]; exact hy)).mpr (h y (List.mem_cons_of_mem _ hy))
    rw [List.length_erase_of_mem hx] at ih
    have := List.length_pos_of_mem hx
    rw [List.length_cons]
    omega
/-- eight unlike words are not all among seven -/
theorem cand_free {zs : List Str} {k : Nat} (hl : zs.length < 8) (h : ∀ t, t < 8 → cand (k + t) ∈ zs) : False := by
  have nd : ((List.range 8).map fun t => cand (k + t)).Nodup := by
    rw [List.nodup_iff_pairwise_ne, List.pairwise_map]
    refine List.Pairwise.imp_of_mem (R := fun a b => a < b) (fun {a b} ha hb lt e => ?_) List.pairwise_lt_range
    have := cand_inj e
    have := List.mem_range.mp ha
    have := List.mem_range.mp hb
    omega
  have sub : ∀ x ∈ (List.range 8).map fun t => cand (k + t), x ∈ zs := by
    intro x hx
    obtain ⟨t, ht, rfl⟩ := List.mem_map.mp hx
    exact h t (List.mem_range.mp ht)
  have := nodup_le nd sub
  rw [List.length_map, List.length_range] at this
  omega
abbrev Fd := Str × Int × Int
abbrev fdD (f : Fd) : PyData := .tuple [.str f.1, .int f.2.1, .int f.2.2]
abbrev fdsD (fs : List Fd) : PyData := .tuple (fs.map fdD)
abbrev Kd := Str × List Fd
end Ls
namespace Lw
open PySem PySem.Spec PyProof.Rows L2 Ls
theorem ok__law_words {P : Program} {w : World} {K : PySem.W.Frag} {mg : Str → Option Value} {base : Heap} (E : Env K mg w) : FnOk P w K mg base CX0 4 E.a__law_words E.fd__law_words ["_law_d", "_law_many"] (spWords K) := by
  refine E.F__law_words.ok sc__law_words (fun vs H Q E h => ?_) (fun cdv A outer s H vs Q E' hr h => ?_)
  · walk_at "hl"
  · have hu := huOf hr
    have G__law_word := ok__law_word (P := P) (w := w) (base := base) E
    have hr__law_word := hr.mono (show 3 ≤ 3 by decide)
    have b__law_word := b__law_word E
    obtain ⟨d, n, L, rfl, hn, hS, hd, q⟩ := h
    refine ⟨_, PSs.nox (pss_cons (ps_set (i := 2) sc__law_words.nd rfl (Or.inl rfl) (pe_lst pa_nil))
(pss_cons (ps_for PassesOwn.never rfl (pi_range1 rfl E.n_range (pa_cons (pv 1) pa_nil)) (pg_name (i := 3) sc__law_words.nd rfl (Or.inl rfl))
(pss_cons (ps_set (i := 4) sc__law_words.nd rfl (Or.inl rfl) (pe_call G__law_word hr__law_word rfl E.g__law_word E.F__law_word.kp b__law_word .nil pass0 (pa_cons (pv 0) pa_nil)))
(pss_cons (ps_for PassesOwn.never rfl (pi_range1 rfl E.n_range (pa_cons pe_int pa_nil)) (pg_name (i := 5) sc__law_words.nd rfl (Or.inl rfl))
(pss_one (ps_if (pt_cmpR (op_inU K rfl hu) (pv 4) (pv 2) (by with_unfolding_all rfl)) (pss_one (ps_set (i := 4) sc__law_words.nd rfl (Or.inl rfl) (pe_op (op_addU K rfl) (pe_ix (ix_U K rfl) pe_str (pe_op op_mod (pe_op (op_addU K rfl) (pv 3) (pv 5)) pe_int) (fun _ _ => rfl)) (pe_ix (ix_U K rfl) pe_str (pe_op op_mod (pe_op op_fdivW (pe_op (op_addU K rfl) (pv 3) (pv 5)) pe_int) pe_int) (fun _ _ => rfl))))) pss_nil)))
(pss_one (ps_expr (kBM K rfl (pe_bm PySem.F.plainAttrs_list PySem.F.slot_list_append PySem.F.type_list_append mt_append (pv 2) (pa_cons (pv 4) pa_nil))))))))
(pss_one (ps_ret (pv 2))))), ?_⟩
    refine k_body (s1 := some _ :: some _ :: [none, none, none, none]) rfl ?_
    walk_at "s"
    refine for_wk (n := (n : Int).toNat) (L := Ls.ld p [] :: L) (fun i σ L' => ∃ zs : List Str, L' = Ls.ld p (zs.map PyData.str) :: L ∧ zs.length = i ∧ zs.Nodup ∧ (∀ z ∈ zs, IsNm z) ∧ ∃ c1 c2 c3, σ = [some (.ref d), some (.int n), some (.ref p), c1, c2, c3]) (fun i σ L' _ => wk_rng) hS ⟨[], rfl, rfl, .nil, by simp, _, _, _, rfl⟩ (fun i σ L' hi iv H hS => ?_) (fun σ L' H iv hS => ?_)
    · obtain ⟨zs, rfl, hz, nd, nm, c1, c2, c3, rfl⟩ := iv
      walk_at "ns"
      walk_at "s"
      refine ⟨d, _, rfl, hS, by walk_at "mem", fun z H nz hS => ?_⟩
      walk_at "s"
      refine for_wk (n := (64 : Int).toNat) (fun j σ L' => L' = Ls.ld p (zs.map PyData.str) :: L ∧ ∃ w, IsNm w ∧ (w ∉ zs ∨ (w ∈ zs ∧ ∀ t, t < j → t < 8 → cand (i + t) ∈ zs)) ∧ ∃ c3, σ = [some (.ref d), some (.int n), some (.ref p), some (.int (0 + i)), some (.str w), c3]) (fun i σ L' _ => wk_rng) hS ⟨rfl, z, nz, ?_, _, rfl⟩ (fun j σ L' hj iv H hS => ?_) (fun σ L' H iv hS => ?_)
      · by_cases e : z ∈ zs
        · exact .inr ⟨e, fun t h => absurd h (Nat.not_lt_zero _)⟩
        · exact .inl e
      · obtain ⟨rfl, w, nw, hw, c3, rfl⟩ := iv
        walk_at "ns"
        walk_at "s"
        refine k_itd (fun e => ?_) (fun e => ?_)
        · have hw := (hw.resolve_left fun z => z e).2
          walk_at "s"
          have e1 : (0 + (i : Int) + (0 + (j : Int))) = ((i + j : Nat) : Int) := by omega
          rw [e1]
          refine k_ixS (by rw [sizeLine_eq]; decide +kernel) (ah_at _) ?_
          walk_at "s"
          rw [e1]
          walk_at "s"
          refine k_ixS (by rw [sizeLine_eq]; decide +kernel) (qx_at _) ?_
          refine k_addS (by rw [sizeLine_eq]; show 1 + 1 ≤ _; decide) ?_
          walk_at "s"
          refine ⟨_, ⟨rfl, cand (i + j), cand_nm _, ?_, _, rfl⟩, hS⟩
          by_cases e2 : cand (i + j) ∈ zs
          · refine .inr ⟨e2, fun t h1 h2 => ?_⟩
            by_cases e3 : t < j
            · exact hw t e3 h2
            · rw [show t = j by omega]; exact e2
          · exact .inl e2
        · walk_at "s"
          exact ⟨_, ⟨rfl, w, nw, .inl e, _, rfl⟩, hS⟩
      · obtain ⟨rfl, w, nw, hw, c3, rfl⟩ := iv
        have hw : w ∉ zs := by
          rcases hw with hw | ⟨_, hw⟩
          · exact hw
          · exact (cand_free (zs := zs) (k := i) (by omega) fun t h => hw t (by omega) h).elim
        walk_at "s"
        refine ⟨_, ⟨zs ++ [w], by rw [List.map_append]; rfl, by simp [hz], ?_, ?_, _, _, _, rfl⟩, hS⟩
        · rw [List.nodup_append]
          exact ⟨nd, by simp, fun a ha b hb e => hw (by rw [List.mem_singleton.mp hb] at e; exact e ▸ ha)⟩
        · intro x hx
          rcases List.mem_append.mp hx with hx | hx
          · exact nm x hx
          · rw [List.mem_singleton.mp hx]; exact nw
    · obtain ⟨zs, rfl, hz, nd, nm, c1, c2, c3, rfl⟩ := iv
      walk_at "s"
      exact q p zs H (by omega) nd nm hS
end Lw
namespace Ls
open PySem PySem.Spec PyProof.Rows L2
instance (z : Str) : Decidable (IsNm z) := by unfold IsNm; exact inferInstance
def kindV (n f : V) : List (Str × V) := [("name", n), ("fields", f)]
/-- the Kind at a: it never changes -/
def kindF {K : PySem.W.Frag} (C a : Addr) (k : Kd) : As K := persW (fun W H => ∃ f dx, W a (.ins C dx (kindV (.str k.1) (.ref f))) ∧ Im K H (.ref f) (fdsD k.2)) (fun _ _ _ t ⟨f, dx, h1, h2⟩ => ⟨f, dx, h1, h2.mono t.1⟩) fun _ _ _ e ⟨f, dx, h1, h2⟩ => ⟨f, dx, e _ _ h1, h2⟩
instance {K : PySem.W.Frag} {C a : Addr} {k : Kd} : Dup (kindF (K := K) C a k) := ⟨fun z => z.1⟩
section
variable {K : PySem.W.Frag} {L : List (As K)} {H : Hp} {C a f : Addr} {k : Kd}
theorem Sep.kind (h : Ls.Sep L H) (m : kindF C a k ∈ L) : ∃ f dx, H a = some (.ins C dx (kindV (.str k.1) (.ref f))) ∧ Im K H (.ref f) (fdsD k.2) := by
  obtain ⟨W, s, ⟨_, f, dx, h1, h2⟩, z⟩ := h.the m
  exact ⟨f, dx, (z _ _ h1).1, h2⟩
theorem k_kname {R : V → Prop} (h : Ls.Sep L H) (m : kindF C a k ∈ L) (c : Cls K C) (n : NoAttr K C ("name" : Str)) (q : R (.str k.1)) : ∃ a' C' dx fs v', V.ref a = .ref a' ∧ H a' = some (.ins C' dx fs) ∧ Cls K C' ∧ NoAttr K C' ("name" : Str) ∧ fs.lookup ("name" : Str) = some v' ∧ R v' := by
  obtain ⟨f, dx, h1, h2⟩ := h.kind m
  exact k_fldt ⟨dx, h1⟩ c n rfl q
theorem k_kfields {R : V → Prop} (h : Ls.Sep L H) (m : kindF C a k ∈ L) (c : Cls K C) (n : NoAttr K C ("fields" : Str)) (q : ∀ f, Ls.Sep (im (.ref f) (fdsD k.2) :: L) H → R (.ref f)) : ∃ a' C' dx fs v', V.ref a = .ref a' ∧ H a' = some (.ins C' dx fs) ∧ Cls K C' ∧ NoAttr K C' ("fields" : Str) ∧ fs.lookup ("fields" : Str) = some v' ∧ R v' := by
  obtain ⟨f, dx, h1, h2⟩ := h.kind m
  exact k_fldt ⟨dx, h1⟩ c n rfl (q f (Sep.im_iff.mpr ⟨h2, h⟩))
theorem k_recvK {R : Addr → Prop} {m : Str} (h : Ls.Sep L H) (w : kindF C a k ∈ L) (e : ∀ f, (kindV (.str k.1) (.ref f)).lookup m = none) (q : R a) : ∃ a' dx fs, V.ref a = .ref a' ∧ H a' = some (.ins C dx fs) ∧ fs.lookup m = none ∧ R a' := by
  obtain ⟨f, dx, h1, h2⟩ := h.kind w
  exact k_recv ⟨dx, _, h1, e f⟩ q
end
def spIsName (K : PySem.W.Frag) : Sp := fun vs H Q _ => ∃ (z : Str) (L : List (As K)), vs = [.str z] ∧ z.length ≤ 1000000 ∧ Ls.Sep L H ∧ ∀ H', Ls.Sep L H' → Q (.bl (decide (IsNm z))) H'
end Ls
namespace Lw
open PySem PySem.Spec PyProof.Rows L2 Ls
theorem ok_is_name {P : Program} {w : World} {K : PySem.W.Frag} {mg : Str → Option Value} {base : Heap} (E : Env K mg w) : FnOk P w K mg base CX0 1 E.a_is_name E.fd_is_name ["text"] (spIsName K) := by
  refine E.F_is_name.ok sc_is_name (fun vs H Q E h => ?_) (fun cdv A outer s H vs Q E' hr h => ?_)
  · walk_at "hl"
  · have hu := huOf hr
    obtain ⟨z, L, rfl, hz, hS, q⟩ := h
    refine ⟨_, PSs.nox (pss_one (ps_ret (pe_and (pe_chain op_le op_le pe_int (pe_callB (call_lenU K rfl) (by rfl) E.n_len boot_len (pa_cons (pv 0) pa_nil)) (pe_gc rfl E.c_LONGEST)) (pe_one (pe_callB (cr_allU K rfl rfl) (by rfl) E.n_all boot_all (pa_cons (pe_lc (own := [("sign", 1)]) rfl sc_is_name.nd (pi_str (pv 0)) (blkOk_by (N := ["text", "sign"]) (sc := defScope s_is_name) (by decide +kernel)) (fun _ _ _ _ _ => (pg_name (i := 1) sc_is_name.nd rfl (Or.inl rfl))) (fun _ _ _ _ _ => pts_nil) (fun _ _ _ _ _ => (pe_cmpR (op_inU K rfl hu) (pv 1) (pe_gc rfl E.c_LETTERS) (by with_unfolding_all rfl)))) pa_nil)))))), ?_⟩
    refine k_body (s1 := some _ :: [none]) rfl ?_
    walk_at "s"
    refine k_lenS (by rw [sizeLine_eq]; omega) ?_
    walk_at "s"
    by_cases h1 : 1 ≤ z.length
    · walk_at "s"
      by_cases h2 : z.length ≤ 8
      · walk_at "s"
        refine lc_flat (zs := z.cps.toList) (fun c => [PyData.bool (decide (IsSg c))]) hS (fun acc => wk_str) (fun i c acc hc hk _ la H hS => ?_) (fun H hS => ?_)
        · walk_at "ls"
          have e : decide (c ∈ ("abcdefghijklmnopqrstuvwxyz" : Str).cps.toList) = decide (IsSg c) := by
            have : ∀ k : Fin 26, k.val + 97 ∈ ("abcdefghijklmnopqrstuvwxyz" : Str).cps.toList := by decide +kernel
            have h2 : ∀ c ∈ ("abcdefghijklmnopqrstuvwxyz" : Str).cps.toList, IsSg c := by decide +kernel
            refine decide_eq_decide.mpr ⟨h2 c, fun h => ?_⟩
            have := this ⟨c - 97, by omega⟩
            rwa [show c - 97 + 97 = c by omega] at this
          rw [e]
          refine lc_keep hS (.bl _) .refl ?_ (hk _ rfl)
          have := (List.getElem?_eq_some_iff.mp hc).1
          rw [sizeLine_eq]
          rw [← len_toList] at this
          omega
        · rw [flat_map] at hS
          refine k_allS hS List.mem_cons_self ?_
          have e : z.cps.toList.all (fun c => decide (IsSg c)) = decide (IsNm z) := by
            rw [Bool.eq_iff_iff, List.all_eq_true, decide_eq_true_eq]
            exact ⟨fun h => ⟨h1, h2, fun c hc => of_decide_eq_true (h c hc)⟩, fun h c hc => decide_eq_true (h.2.2 c hc)⟩
          rw [e]
          exact q _ hS.tail
      · have e : decide (IsNm z) = false := decide_eq_false fun h => h2 h.2.1
        rw [e] at q
        walk_at "s"
        exact q _ hS
    · have e : decide (IsNm z) = false := decide_eq_false fun h => h1 h.1
      rw [e] at q
      walk_at "s"
      exact q _ hS
end Lw
namespace Ls
open PySem PySem.Spec PyProof.Rows L2 TL
def spNumIn (K : PySem.W.Frag) : Sp := fun vs H Q _ => ∃ (z : Str) (most : Int) (L : List (As K)), vs = [.str z, .int most] ∧ z.length ≤ 1000000 ∧ most ≤ 600 ∧ Ls.Sep L H ∧ ∀ H', Ls.Sep L H' → Q (oV (numIn most z)) H'
theorem figs_len (z : Str) : (figs z).length ≤ z.length := by
  have len : ∀ z : Str, z.cps.toList.length = z.length := fun z => Array.length_toList
  unfold figs
  split
  · rw [← len, ← len, cutR, List.length_drop]
    omega
  · exact Nat.le_refl _
theorem dg_mem (c : Nat) : decide (c ∈ ("0123456789" : Str).cps.toList) = decide (IsDg c) := by
  have h1 : ∀ k : Fin 10, k.val + 48 ∈ ("0123456789" : Str).cps.toList := by decide +kernel
  have h2 : ∀ c ∈ ("0123456789" : Str).cps.toList, IsDg c := by decide +kernel
  refine decide_eq_decide.mpr ⟨h2 c, fun h => ?_⟩
  have := h1 ⟨c - 48, by have := h.2; omega⟩
  rwa [show c - 48 + 48 = c by have := h.1; omega] at this
end Ls
namespace Lw
open PySem PySem.Spec PyProof.Rows L2 Ls
theorem ok_number_in {P : Program} {w : World} {K : PySem.W.Frag} {mg : Str → Option Value} {base : Heap} (E : Env K mg w) : FnOk P w K mg base CX0 1 E.a_number_in E.fd_number_in ["text", "most"] (spNumIn K) := by
  refine E.F_number_in.ok sc_number_in (fun vs H Q E h => ?_) (fun cdv A outer s H vs Q E' hr h => ?_)
  · walk_at "hl"
  · have hu := huOf hr
    obtain ⟨z, most, L, rfl, hz, hm, hS, q⟩ := h
    refine ⟨_, PSs.nox (pss_cons (ps_set (i := 2) sc_number_in.nd rfl (Or.inl rfl) (pe_join (pe_ifExp (pt_cmpR (op_eqU K rfl hu) (pe_slice (sl_U K rfl) (pv 0) po_none (po_some pe_int)) pe_str (nomark _)) (pe_slice (sl_U K rfl) (pv 0) (po_some pe_int) po_none) (pv 0))))
(pss_cons (ps_if (PW.pt (pw_or (pt_not (pt_chain op_le op_le pe_int (pe_callB (call_lenU K rfl) (by rfl) E.n_len boot_len (pa_cons (pv 2) pa_nil)) (pv 1))) (pw_or1 (pt_not (pt_val (pe_callB (cr_allU K rfl rfl) (by rfl) E.n_all boot_all (pa_cons (pe_lc (own := [("sign", 3)]) rfl sc_number_in.nd (pi_str (pv 2)) (blkOk_by (N := ["text", "most", "figures", "sign"]) (sc := defScope s_number_in) (by decide +kernel)) (fun _ _ _ _ _ => (pg_name (i := 3) sc_number_in.nd rfl (Or.inl rfl))) (fun _ _ _ _ _ => pts_nil) (fun _ _ _ _ _ => (pe_cmpR (op_inU K rfl hu) (pv 3) (pe_gc rfl E.c_FIGURES) (by with_unfolding_all rfl)))) pa_nil))))))) (pss_one (ps_ret pe_non)) pss_nil)
(pss_cons (ps_if (PW.pt (pw_and (pt_cmpR (op_eqU K rfl hu) (pe_ix (ix_U K rfl) (pv 2) pe_int (fun _ _ => rfl)) pe_str (nomark _)) (pw_and1 (pt_cmpR (op_neU K rfl hu) (pv 0) pe_str (nomark _))))) (pss_one (ps_ret pe_non)) pss_nil)
(pss_one (ps_ret (pe_callTy (call_int_str) (by rfl) E.n_int boot_int (pa_cons (pv 0) pa_nil))))))), ?_⟩
    refine k_body (s1 := some _ :: some _ :: [none, none]) rfl ?_
    walk_at "s"
    refine k_joinS (fun v (M : List (As K)) => v = V.str (figs z) ∧ M = L) ?_ ?_
    · walk_at "s"
      refine k_slStr (by rw [sizeLine_eq]; omega) ?_
      walk_at "s"
      by_cases e : cutS z none (some 1) = ("-" : Str)
      · have ef : figs z = cutS z (some 1) none := if_pos e
        rw [if_pos (decide_eq_true e)]
        walk_at "s"
        refine k_slStr (by rw [sizeLine_eq]; omega) ?_
        exact ⟨_, ⟨by rw [ef], rfl⟩, hS⟩
      · have ef : figs z = z := if_neg e
        rw [if_neg (by rw [decide_eq_false e]; exact Bool.false_ne_true)]
        walk_at "s"
        exact ⟨_, ⟨by rw [ef], rfl⟩, hS⟩
    rintro _ M H ⟨rfl, hM⟩ hS
    rw [hM] at hS
    have hfl := figs_len z
    walk_at "s"
    refine k_lenS (by rw [sizeLine_eq]; omega) ?_
    walk_at "s"
    have no : ¬ FigOk most z → numIn most z = none := fun h => if_neg h
    by_cases h1 : 1 ≤ (figs z).length
    · walk_at "s"
      by_cases h2 : ((figs z).length : Int) ≤ most
      · walk_at "s"
        rename Addr => pl
        refine lc_flat (zs := (figs z).cps.toList) (fun c => [PyData.bool (decide (IsDg c))]) hS (fun acc => wk_str) (fun i c acc hc hk _ la H hS => ?_) (fun H hS => ?_)
        · walk_at "ls"
          rw [dg_mem]
          refine lc_keep hS (.bl _) .refl ?_ (hk _ rfl)
          have := (List.getElem?_eq_some_iff.mp hc).1
          have e2 : (figs z).cps.toList.length = (figs z).length := Array.length_toList
          rw [sizeLine_eq]
          omega
        rw [flat_map (fun c : Nat => PyData.bool (decide (IsDg c)))] at hS
        walk_at "s"
        refine k_allS (zs := (figs z).cps.toList) (f := fun c => decide (IsDg c)) hS (by walk_at "mem") ?_
        by_cases h3 : ∀ c ∈ (figs z).cps.toList, IsDg c
        · have ok : FigOk most z := ⟨by omega, h2, h3⟩
          rw [List.all_eq_true.mpr fun c hc => decide_eq_true (h3 c hc)]
          walk_at "s"
          obtain ⟨c, r, hcr⟩ : ∃ c r, (figs z).cps.toList = c :: r := by
            have e2 : (figs z).cps.toList.length = (figs z).length := Array.length_toList
            cases hl : (figs z).cps.toList with
            | nil => rw [hl] at e2; have : 0 = (figs z).length := e2; omega
            | cons c r => exact ⟨c, r, rfl⟩
          refine k_ixS (by rw [sizeLine_eq]; omega) (c := c) (by rw [hcr]; show atI (c :: r) ((0 : Nat) : Int) = some c; exact atI_nat rfl) ?_
          walk_at "s"
          obtain ⟨⟨n, hn⟩, hlen⟩ := fig_int ok hm
          by_cases h4 : c = 48
          · have e4 : (⟨#[c]⟩ : Str) = ("0" : Str) := by rw [h4]; rfl
            rw [if_pos (decide_eq_true e4)]
            walk_at "s"
            by_cases h5 : z = ("0" : Str)
            · have hq : numIn most z = some n := by
                unfold numIn
                rw [if_pos ok, if_neg fun y => y.2 h5]
                exact hn
              rw [hq] at q
              rw [if_neg (by rw [decide_eq_true h5]; exact Bool.false_ne_true)]
              walk_at "s"
              exact ⟨z, n, rfl, hn, hlen, q _ (Sub.ok (by walk_at "sub") hS)⟩
            · have hq : numIn most z = none := by
                unfold numIn
                rw [if_pos ok, if_pos ⟨by rw [hcr, h4]; rfl, h5⟩]
              rw [hq] at q
              rw [if_pos (by rw [decide_eq_false h5]; rfl)]
              walk_at "s"
              exact q _ (Sub.ok (by walk_at "sub") hS)
          · have e4 : ¬ (⟨#[c]⟩ : Str) = ("0" : Str) := fun e => h4 (by
              have := congrArg (fun s : Str => s.cps.toList) e
              have h6 : [c] = [48] := this
              exact (List.cons.inj h6).1)
            have hq : numIn most z = some n := by
              unfold numIn
              rw [if_pos ok, if_neg fun y => h4 (by have := y.1; rw [hcr] at this; exact Option.some.inj this)]
              exact hn
            rw [hq] at q
            rw [if_neg (by rw [decide_eq_false e4]; exact Bool.false_ne_true)]
            walk_at "s"
            exact ⟨z, n, rfl, hn, hlen, q _ (Sub.ok (by walk_at "sub") hS)⟩
        · have hb : (figs z).cps.toList.all (fun c => decide (IsDg c)) = false := by
            rw [List.all_eq_false]
            obtain ⟨c, hc, hn⟩ := Classical.not_forall.mp h3 |>.imp fun c h => Classical.not_imp.mp h
            exact ⟨c, hc, by rw [decide_eq_false hn]; exact Bool.false_ne_true⟩
          rw [hb]
          walk_at "s"
          rw [no fun h => h3 h.2.2] at q
          exact q _ (Sub.ok (by walk_at "sub") hS)
      · rw [if_pos (by rw [decide_eq_false h2]; rfl), if_pos rfl]
        walk_at "s"
        rw [no fun h => h2 h.2.1] at q
        exact q _ hS
    · rw [if_neg (by rw [decide_eq_false (by omega)]; exact Bool.false_ne_true)]
      walk_at "s"
      rw [no fun h => h1 (by have := h.1; omega)] at q
      exact q _ hS
end Lw
namespace Ls
open PySem PySem.Spec PyProof.Rows L2
inductive Tst where
  | all
  | is (n : Str)
  | less (f : Str) (k : Int)
  | same (f : Str) (k : Int)
  | no (a : Tst)
  | an (a b : Tst)
  | or (a b : Tst)
def Tst.D : Tst → PyData
  | .all => .tuple [.str "all"]
  | .is n => .tuple [.str "is", .str n]
  | .less f k => .tuple [.str "less", .str f, .int k]
  | .same f k => .tuple [.str "same", .str f, .int k]
  | .no a => .tuple [.str "not", a.D]
  | .an a b => .tuple [.str "and", a.D, b.D]
  | .or a b => .tuple [.str "or", a.D, b.D]
def Tst.deep : Tst → Nat
  | .no a => a.deep + 1
  | .an a b => max a.deep b.deep + 1
  | .or a b => max a.deep b.deep + 1
  | _ => 1
def Tst.parts : Tst → Nat
  | .no a => a.parts + 1
  | .an a b => a.parts + b.parts + 1
  | .or a b => a.parts + b.parts + 1
  | _ => 1
def Tst.leaves : Tst → List Tst
  | .no a => a.leaves
  | .an a b => a.leaves ++ b.leaves
  | .or a b => a.leaves ++ b.leaves
  | t => [t]
def Lim (k : Int) : Prop := -999999 ≤ k ∧ k ≤ 999999
instance (k : Int) : Decidable (Lim k) := inferInstanceAs (Decidable (_ ∧ _))
def Tst.ok : Tst → Prop
  | .all => True
  | .is n => IsNm n
  | .less f k => IsNm f ∧ Lim k
  | .same f k => IsNm f ∧ Lim k
  | .no a => a.ok
  | .an a b => a.ok ∧ b.ok
  | .or a b => a.ok ∧ b.ok
/-- what a leaf's word and what is behind it make -/
def leafOf (z : Str) (r : List PyData) : Option Tst :=
  if z = "all" then (match r with | [] => some .all | _ => none)
  else if z = "is" then (match r with | [.str n] => if IsNm n then some (.is n) else none | _ => none)
  else if z = "less" then (match r with | [.str f, .int k] => if IsNm f ∧ Lim k then some (.less f k) else none | _ => none)
  else if z = "same" then (match r with | [.str f, .int k] => if IsNm f ∧ Lim k then some (.same f k) else none | _ => none)
  else none
/-- the words that hold tests within -/
def wordK (z : Str) : Option Nat := if z = "not" then some 1 else if z = "and" then some 2 else if z = "or" then some 2 else none
/-- what a word and the tests behind it make -/
def mkT (z : Str) (ts : List Tst) : Option Tst :=
  if z = "not" then (match ts with | [a] => some (.no a) | _ => none)
  else if z = "and" then (match ts with | [a, b] => some (.an a b) | _ => none)
  else if z = "or" then (match ts with | [a, b] => some (.or a b) | _ => none)
  else none
/-- the test that a datum is, at most so deep -/
def dec : Nat → PyData → Option Tst
  | n + 1, .tuple (.str z :: r) => match wordK z with
    | none => leafOf z r
    | some _ => (r.mapM (dec n)).bind (mkT z)
  | _, _ => none
theorem dec_tup (n : Nat) (z : Str) (r : List PyData) : dec (n + 1) (.tuple (.str z :: r)) = match wordK z with
    | none => leafOf z r
    | some _ => (r.mapM (dec n)).bind (mkT z) := by rw [dec]
theorem parts_pos (t : Tst) : 0 < t.parts := by cases t <;> exact Nat.succ_pos _
theorem deep_pos (t : Tst) : 0 < t.deep := by cases t <;> exact Nat.succ_pos _
theorem wordK_not : wordK "not" = some 1 := by decide +kernel
theorem wordK_and : wordK "and" = some 2 := by decide +kernel
theorem wordK_or : wordK "or" = some 2 := by decide +kernel
theorem leafOf_ok {z : Str} {r : List PyData} {t : Tst} (h : leafOf z r = some t) : t.ok ∧ t.D = .tuple (.str z :: r) ∧ t.deep = 1 ∧ t.parts = 1 ∧ t.leaves = [t] := by
  unfold leafOf at h
  split at h
  · rename_i e
    split at h
    · cases h
      exact ⟨trivial, by rw [e]; rfl, rfl, rfl, rfl⟩
    · cases h
  · split at h
    · rename_i e
      split at h
      · split at h
        · rename_i n hn
          cases h
          exact ⟨hn, by rw [e]; rfl, rfl, rfl, rfl⟩
        · cases h
      · cases h
    · split at h
      · rename_i e
        split at h
        · split at h
          · rename_i f k hn
            cases h
            exact ⟨hn, by rw [e]; rfl, rfl, rfl, rfl⟩
          · cases h
        · cases h
      · split at h
        · rename_i e
          split at h
          · split at h
            · rename_i f k hn
              cases h
              exact ⟨hn, by rw [e]; rfl, rfl, rfl, rfl⟩
            · cases h
          · cases h
        · cases h
theorem mapM_all {n : Nat} : ∀ {r : List PyData} {ts : List Tst}, r.mapM (dec n) = some ts → (∀ d t, dec n d = some t → t.ok ∧ t.D = d ∧ t.deep ≤ n) → r = ts.map Tst.D ∧ (∀ t ∈ ts, t.ok ∧ t.deep ≤ n)
  | [], ts, h, _ => by
    have : some [] = some ts := h
    cases this
    exact ⟨rfl, fun t h => by cases h⟩
  | d :: r, ts, h, k => by
    rw [List.mapM_cons] at h
    cases e : dec n d with
    | none => rw [e] at h; cases h
    | some t =>
      rw [e] at h
      cases e2 : r.mapM (dec n) with
      | none => rw [e2] at h; cases h
      | some us =>
        rw [e2] at h
        cases h
        obtain ⟨h1, h2⟩ := mapM_all e2 k
        obtain ⟨k1, k2, k3⟩ := k d t e
        refine ⟨by rw [List.map_cons, k2, ← h1], fun x hx => ?_⟩
        rcases List.mem_cons.mp hx with rfl | hx
        · exact ⟨k1, k3⟩
        · exact h2 x hx
theorem mkT_ok {z : Str} {ts : List Tst} {t : Tst} {n : Nat} (h : mkT z ts = some t) (k : ∀ t ∈ ts, t.ok ∧ t.deep ≤ n) : t.ok ∧ t.D = .tuple (.str z :: ts.map Tst.D) ∧ t.deep ≤ n + 1 ∧ t.parts = 1 + (ts.map Tst.parts).sum ∧ t.leaves = ts.flatMap Tst.leaves ∧ wordK z = some ts.length ∧ t.deep = 1 + (ts.map Tst.deep).foldl max 0 := by
  unfold mkT at h
  split at h
  · rename_i e
    split at h
    · rename_i a
      cases h
      obtain ⟨k1, k2⟩ := k a List.mem_cons_self
      exact ⟨k1, by rw [e]; rfl, by show a.deep + 1 ≤ n + 1; omega, by show a.parts + 1 = 1 + (a.parts + 0); omega, by show a.leaves = a.leaves ++ []; rw [List.append_nil], by rw [e]; exact wordK_not, by show a.deep + 1 = 1 + max 0 a.deep; omega⟩
    · cases h
  · split at h
    · rename_i e
      split at h
      · rename_i a b
        cases h
        obtain ⟨k1, k2⟩ := k a List.mem_cons_self
        obtain ⟨k3, k4⟩ := k b (List.mem_cons_of_mem _ List.mem_cons_self)
        exact ⟨⟨k1, k3⟩, by rw [e]; rfl, by show max a.deep b.deep + 1 ≤ n + 1; omega, by show a.parts + b.parts + 1 = 1 + (a.parts + (b.parts + 0)); omega, by show a.leaves ++ b.leaves = a.leaves ++ (b.leaves ++ []); rw [List.append_nil], by rw [e]; exact wordK_and, by show max a.deep b.deep + 1 = 1 + max (max 0 a.deep) b.deep; omega⟩
      · cases h
    · split at h
      · rename_i e
        split at h
        · rename_i a b
          cases h
          obtain ⟨k1, k2⟩ := k a List.mem_cons_self
          obtain ⟨k3, k4⟩ := k b (List.mem_cons_of_mem _ List.mem_cons_self)
          exact ⟨⟨k1, k3⟩, by rw [e]; rfl, by show max a.deep b.deep + 1 ≤ n + 1; omega, by show a.parts + b.parts + 1 = 1 + (a.parts + (b.parts + 0)); omega, by show a.leaves ++ b.leaves = a.leaves ++ (b.leaves ++ []); rw [List.append_nil], by rw [e]; exact wordK_or, by show max a.deep b.deep + 1 = 1 + max (max 0 a.deep) b.deep; omega⟩
        · cases h
      · cases h
theorem dec_ok : ∀ {n : Nat} {d : PyData} {t : Tst}, dec n d = some t → t.ok ∧ t.D = d ∧ t.deep ≤ n
  | 0, d, t, h => by rw [dec] at h <;> first | cases h | (intros; simp_all)
  | n + 1, d, t, h => by
    unfold dec at h
    split at h
    · rename_i m z r em
      obtain rfl : n = m := Nat.succ.inj em
      split at h
      · obtain ⟨h1, h2, h3, _⟩ := leafOf_ok h
        exact ⟨h1, h2, by omega⟩
      · obtain ⟨ts, e1, e2⟩ := Option.bind_eq_some_iff.mp h
        obtain ⟨h1, h2⟩ := mapM_all e1 fun d t => dec_ok
        obtain ⟨k1, k2, k3, _⟩ := mkT_ok e2 h2
        exact ⟨k1, by rw [k2, h1], k3⟩
    · cases h
theorem leaf_not (r : List PyData) : wordK "all" = none ∧ wordK "is" = none ∧ wordK "less" = none ∧ wordK "same" = none := by decide +kernel
theorem dec_of : ∀ {n : Nat} {t : Tst}, t.ok → t.deep ≤ n → dec n t.D = some t
  | 0, t, _, h => by have := deep_pos t; omega
  | n + 1, t, ho, h => by
    have e1 : ("is" : Str) ≠ "all" := by decide +kernel
    have e2 : ("less" : Str) ≠ "all" := by decide +kernel
    have e3 : ("less" : Str) ≠ "is" := by decide +kernel
    have e4 : ("same" : Str) ≠ "all" := by decide +kernel
    have e5 : ("same" : Str) ≠ "is" := by decide +kernel
    have e6 : ("same" : Str) ≠ "less" := by decide +kernel
    have e7 : ("and" : Str) ≠ "not" := by decide +kernel
    have e8 : ("or" : Str) ≠ "not" := by decide +kernel
    have e9 : ("or" : Str) ≠ "and" := by decide +kernel
    obtain ⟨l1, l2, l3, l4⟩ := leaf_not []
    cases t with
    | all => rw [Tst.D, dec_tup, l1]; rfl
    | is x =>
      rw [Tst.D, dec_tup, l2]
      show leafOf _ _ = _
      unfold leafOf
      rw [if_neg e1, if_pos rfl]
      exact if_pos ho
    | less f k =>
      rw [Tst.D, dec_tup, l3]
      show leafOf _ _ = _
      unfold leafOf
      rw [if_neg e2, if_neg e3, if_pos rfl]
      exact if_pos ho
    | same f k =>
      rw [Tst.D, dec_tup, l4]
      show leafOf _ _ = _
      unfold leafOf
      rw [if_neg e4, if_neg e5, if_neg e6, if_pos rfl]
      exact if_pos ho
    | no a =>
      have ha := dec_of (n := n) (t := a) ho (by have : a.deep + 1 ≤ n + 1 := h; omega)
      rw [Tst.D, dec_tup, wordK_not]
      show (([a.D] : List PyData).mapM (dec n)).bind (mkT "not") = _
      rw [List.mapM_cons, ha]
      rfl
    | an a b =>
      have hm : max a.deep b.deep + 1 ≤ n + 1 := h
      have ha := dec_of (n := n) (t := a) ho.1 (by omega)
      have hb := dec_of (n := n) (t := b) ho.2 (by omega)
      rw [Tst.D, dec_tup, wordK_and]
      show (([a.D, b.D] : List PyData).mapM (dec n)).bind (mkT "and") = _
      rw [List.mapM_cons, ha, List.mapM_cons, hb]
      show mkT "and" [a, b] = _
      unfold mkT
      rw [if_neg e7, if_pos rfl]
    | or a b =>
      have hm : max a.deep b.deep + 1 ≤ n + 1 := h
      have ha := dec_of (n := n) (t := a) ho.1 (by omega)
      have hb := dec_of (n := n) (t := b) ho.2 (by omega)
      rw [Tst.D, dec_tup, wordK_or]
      show (([a.D, b.D] : List PyData).mapM (dec n)).bind (mkT "or") = _
      rw [List.mapM_cons, ha, List.mapM_cons, hb]
      show mkT "or" [a, b] = _
      unfold mkT
      rw [if_neg e8, if_neg e9, if_pos rfl]
/-- what is handed in as a test: texts, numbers, tuples (of c things at most) that begin with a text -/
def RawC (c : Nat) : Nat → PyData → Prop
  | _, .str z => z.length ≤ 1000 ∧ PyData.strOk z = true
  | _, .int _ => True
  | n + 1, .tuple xs => xs.length ≤ c ∧ (∀ x r, xs = x :: r → ∃ z, x = .str z) ∧ ∀ x ∈ xs, RawC c n x
  | _, _ => False
abbrev Raw (n : Nat) (d : PyData) : Prop := RawC 100 n d
theorem RawC.mono {c e : Nat} (hc : c ≤ e) : ∀ {n m : Nat} {d : PyData}, RawC c n d → n ≤ m → RawC e m d
  | n, m, .str z, h, _ => by cases n <;> cases m <;> exact h
  | n, m, .int z, h, _ => by cases n <;> cases m <;> exact h
  | 0, m, .tuple z, h, _ => h.elim
  | n + 1, 0, .tuple z, h, l => by omega
  | n + 1, m + 1, .tuple z, h, l => ⟨Nat.le_trans h.1 hc, h.2.1, fun x hx => RawC.mono hc (h.2.2 x hx) (by omega)⟩
  | n, m, .none, h, _ => by cases n <;> exact h.elim
  | n, m, .bool _, h, _ => by cases n <;> exact h.elim
  | n, m, .list _, h, _ => by cases n <;> exact h.elim
  | n, m, .dict _, h, _ => by cases n <;> exact h.elim
theorem nm_rawS {c n : Nat} {z : Str} (h : z.length ≤ 1000) (k : PyData.strOk z = true) : RawC c n (.str z) := by cases n <;> exact ⟨h, k⟩
theorem nm_strT {z : Str} (h : IsNm z) : PyData.strOk z = true := by
  unfold PyData.strOk
  rw [← Array.all_toList, List.all_eq_true]
  intro c hc
  have := h.2.2 c hc
  exact decide_eq_true (by omega)
theorem raw_mk {c n : Nat} {ys : List PyData} (h1 : ys.length ≤ c) (h2 : ∀ x r, ys = x :: r → ∃ z, x = .str z) (h3 : ∀ y ∈ ys, RawC c n y) : RawC c (n + 1) (.tuple ys) := ⟨h1, h2, h3⟩
theorem raw_okd {c : Nat} (hc : c ≤ 100000) : ∀ {n : Nat} {d : PyData}, RawC c n d → OkD n d
  | n, .str z, h => by cases n <;> exact h.2
  | n, .int z, h => by cases n <;> trivial
  | 0, .tuple z, h => h.elim
  | n + 1, .tuple z, h => ⟨by have := h.1; omega, fun x hx => raw_okd hc (h.2.2 x hx)⟩
  | n, .none, h => by cases n <;> exact h.elim
  | n, .bool _, h => by cases n <;> exact h.elim
  | n, .list _, h => by cases n <;> exact h.elim
  | n, .dict _, h => by cases n <;> exact h.elim
theorem raw_int {c n : Nat} {i : Int} : RawC c n (.int i) := by cases n <;> trivial
theorem ok_rawC : ∀ {n : Nat} {t : Tst}, t.ok → t.deep ≤ n → RawC 3 n t.D
  | 0, t, _, h => by have := deep_pos t; omega
  | n + 1, t, ho, h => by
    have hd : ∀ (x : Str) (q : List PyData), ∀ y r, (PyData.str x :: q : List PyData) = y :: r → ∃ z, y = .str z := fun x q y r e => ⟨x, (List.cons.inj e).1.symm⟩
    have nm : ∀ {x : Str}, IsNm x → RawC 3 n (.str x) := fun h => nm_rawS (by have := h.2.1; omega) (nm_strT h)
    have w : ∀ {x : Str}, x.length ≤ 1000 ∧ PyData.strOk x = true → RawC 3 n (.str x) := fun h => nm_rawS h.1 h.2
    cases t with
    | all => exact ⟨by show 1 ≤ 3; decide, hd _ _, fun x hx => by
        rw [List.mem_singleton.mp hx]
        exact w (by decide +kernel)⟩
    | is z =>
      refine ⟨by show 2 ≤ 3; decide, hd _ _, fun x hx => ?_⟩
      simp only [List.mem_cons, List.not_mem_nil, or_false] at hx
      rcases hx with rfl | rfl
      · exact w (by decide +kernel)
      · exact nm ho
    | less f k =>
      refine ⟨by show 3 ≤ 3; decide, hd _ _, fun x hx => ?_⟩
      simp only [List.mem_cons, List.not_mem_nil, or_false] at hx
      rcases hx with rfl | rfl | rfl
      · exact w (by decide +kernel)
      · exact nm ho.1
      · exact raw_int
    | same f k =>
      refine ⟨by show 3 ≤ 3; decide, hd _ _, fun x hx => ?_⟩
      simp only [List.mem_cons, List.not_mem_nil, or_false] at hx
      rcases hx with rfl | rfl | rfl
      · exact w (by decide +kernel)
      · exact nm ho.1
      · exact raw_int
    | no a =>
      have ha := ok_rawC (n := n) (t := a) ho (by have : a.deep + 1 ≤ n + 1 := h; omega)
      refine ⟨by show 2 ≤ 3; decide, hd _ _, fun x hx => ?_⟩
      simp only [List.mem_cons, List.not_mem_nil, or_false] at hx
      rcases hx with rfl | rfl
      · exact w (by decide +kernel)
      · exact ha
    | an a b =>
      have hm : max a.deep b.deep + 1 ≤ n + 1 := h
      have ha := ok_rawC (n := n) (t := a) ho.1 (by omega)
      have hb := ok_rawC (n := n) (t := b) ho.2 (by omega)
      refine ⟨by show 3 ≤ 3; decide, hd _ _, fun x hx => ?_⟩
      simp only [List.mem_cons, List.not_mem_nil, or_false] at hx
      rcases hx with rfl | rfl | rfl
      · exact w (by decide +kernel)
      · exact ha
      · exact hb
    | or a b =>
      have hm : max a.deep b.deep + 1 ≤ n + 1 := h
      have ha := ok_rawC (n := n) (t := a) ho.1 (by omega)
      have hb := ok_rawC (n := n) (t := b) ho.2 (by omega)
      refine ⟨by show 3 ≤ 3; decide, hd _ _, fun x hx => ?_⟩
      simp only [List.mem_cons, List.not_mem_nil, or_false] at hx
      rcases hx with rfl | rfl | rfl
      · exact w (by decide +kernel)
      · exact ha
      · exact hb
theorem ok_raw {n : Nat} {t : Tst} (h : t.ok) (hd : t.deep ≤ n) : Raw n t.D := (ok_rawC h hd).mono (by decide) (Nat.le_refl _)
/-- what the program counts: 0 where there is no test at most so deep -/
def partsP (n : Nat) (d : PyData) : Int := match dec n d with
  | none => 0
  | some t => (t.parts : Int)
def IsT (d : PyData) : Prop := 1 ≤ partsP 5 d ∧ partsP 5 d ≤ 15
instance (d : PyData) : Decidable (IsT d) := inferInstanceAs (Decidable (_ ∧ _))
theorem isT_of {t : Tst} (h : t.ok) (hd : t.deep ≤ 5) (hp : t.parts ≤ 15) : IsT t.D := by
  unfold IsT partsP
  rw [dec_of h hd]
  have := parts_pos t
  constructor
  · show 1 ≤ (t.parts : Int)
    omega
  · show (t.parts : Int) ≤ 15
    omega
theorem isT_is {d : PyData} (h : IsT d) : ∃ t : Tst, t.D = d ∧ t.ok ∧ t.deep ≤ 5 ∧ t.parts ≤ 15 := by
  unfold IsT partsP at h
  cases e : dec 5 d with
  | none =>
    rw [e] at h
    exact absurd h.1 (by decide)
  | some t =>
    rw [e] at h
    obtain ⟨h1, h2, h3⟩ := dec_ok e
    exact ⟨t, h2, h1, h3, by have h5 : (t.parts : Int) ≤ 15 := h.2; omega⟩
/-- a test from outside: a leaf, or a word with tests behind it -/
theorem Tst.view (t : Tst) : (∃ z r, t.D = .tuple (.str z :: r) ∧ wordK z = none ∧ t.leaves = [t] ∧ t.parts = 1 ∧ t.deep = 1 ∧ (t.ok → Ls.leafOf z r = some t)) ∨
    (∃ z ts, t.D = .tuple (.str z :: ts.map Tst.D) ∧ wordK z = some ts.length ∧ t.leaves = ts.flatMap Tst.leaves ∧ t.parts = 1 + (ts.map Tst.parts).sum ∧ t.deep = 1 + (ts.map Tst.deep).foldl max 0 ∧ (t.ok → ∀ x ∈ ts, x.ok) ∧ (∀ x ∈ ts, x.deep < t.deep) ∧ mkT z ts = some t) := by
  have leaf : ∀ {z r}, t.D = .tuple (.str z :: r) → wordK z = none → t.leaves = [t] → t.parts = 1 → t.deep = 1 → ∃ z r, t.D = .tuple (.str z :: r) ∧ wordK z = none ∧ t.leaves = [t] ∧ t.parts = 1 ∧ t.deep = 1 ∧ (t.ok → Ls.leafOf z r = some t) := fun {z r} h1 h2 h3 h4 h5 => ⟨z, r, h1, h2, h3, h4, h5, fun ho => by
    have := dec_of (n := 1) ho (by omega)
    rw [h1, dec_tup, h2] at this
    exact this⟩
  obtain ⟨l1, l2, l3, l4⟩ := leaf_not []
  have e7 : ("and" : Str) ≠ "not" := by decide +kernel
  have e8 : ("or" : Str) ≠ "not" := by decide +kernel
  have e9 : ("or" : Str) ≠ "and" := by decide +kernel
  cases t with
  | all => exact .inl (leaf rfl l1 rfl rfl rfl)
  | is n => exact .inl (leaf rfl l2 rfl rfl rfl)
  | less f k => exact .inl (leaf rfl l3 rfl rfl rfl)
  | same f k => exact .inl (leaf rfl l4 rfl rfl rfl)
  | no a => exact .inr ⟨"not", [a], rfl, wordK_not, by show a.leaves = a.leaves ++ []; rw [List.append_nil], by show a.parts + 1 = 1 + (a.parts + 0); omega, by show a.deep + 1 = 1 + max 0 a.deep; omega, fun h x hx => by rw [List.mem_singleton.mp hx]; exact h, fun x hx => by rw [List.mem_singleton.mp hx]; exact Nat.lt_succ_self _, by unfold mkT; rw [if_pos rfl]⟩
  | an a b => exact .inr ⟨"and", [a, b], rfl, wordK_and, by show a.leaves ++ b.leaves = a.leaves ++ (b.leaves ++ []); rw [List.append_nil], by show a.parts + b.parts + 1 = 1 + (a.parts + (b.parts + 0)); omega, by show max a.deep b.deep + 1 = 1 + max (max 0 a.deep) b.deep; omega, fun h x hx => by
      simp only [List.mem_cons, List.not_mem_nil, or_false] at hx
      rcases hx with rfl | rfl
      · exact h.1
      · exact h.2, fun x hx => by
      simp only [List.mem_cons, List.not_mem_nil, or_false] at hx
      show x.deep < max a.deep b.deep + 1
      rcases hx with rfl | rfl <;> omega, by unfold mkT; rw [if_neg e7, if_pos rfl]⟩
  | or a b => exact .inr ⟨"or", [a, b], rfl, wordK_or, by show a.leaves ++ b.leaves = a.leaves ++ (b.leaves ++ []); rw [List.append_nil], by show a.parts + b.parts + 1 = 1 + (a.parts + (b.parts + 0)); omega, by show max a.deep b.deep + 1 = 1 + max (max 0 a.deep) b.deep; omega, fun h x hx => by
      simp only [List.mem_cons, List.not_mem_nil, or_false] at hx
      rcases hx with rfl | rfl
      · exact h.1
      · exact h.2, fun x hx => by
      simp only [List.mem_cons, List.not_mem_nil, or_false] at hx
      show x.deep < max a.deep b.deep + 1
      rcases hx with rfl | rfl <;> omega, by unfold mkT; rw [if_neg e8, if_neg e9, if_pos rfl]⟩
theorem Tst.D_tup (t : Tst) : ∃ ds, t.D = .tuple ds := by cases t <;> exact ⟨_, rfl⟩
theorem wordK_le {z : Str} {n : Nat} (h : wordK z = some n) : 1 ≤ n ∧ n ≤ 2 := by
  unfold wordK at h
  split at h
  · cases h; decide
  · split at h
    · cases h; decide
    · split at h
      · cases h; decide
      · cases h
theorem parts_deep : ∀ t : Tst, t.parts < 2 ^ t.deep := by
  intro t
  induction t with
  | no a ih => show a.parts + 1 < 2 ^ (a.deep + 1); rw [Nat.pow_succ]; omega
  | an a b i1 i2 =>
    show a.parts + b.parts + 1 < 2 ^ (max a.deep b.deep + 1)
    have h1 : 2 ^ a.deep ≤ 2 ^ max a.deep b.deep := Nat.pow_le_pow_right (by decide) (Nat.le_max_left ..)
    have h2 : 2 ^ b.deep ≤ 2 ^ max a.deep b.deep := Nat.pow_le_pow_right (by decide) (Nat.le_max_right ..)
    rw [Nat.pow_succ]
    omega
  | or a b i1 i2 =>
    show a.parts + b.parts + 1 < 2 ^ (max a.deep b.deep + 1)
    have h1 : 2 ^ a.deep ≤ 2 ^ max a.deep b.deep := Nat.pow_le_pow_right (by decide) (Nat.le_max_left ..)
    have h2 : 2 ^ b.deep ≤ 2 ^ max a.deep b.deep := Nat.pow_le_pow_right (by decide) (Nat.le_max_right ..)
    rw [Nat.pow_succ]
    omega
  | _ => show 1 < 2 ^ 1; decide
end Ls
local macro_rules | `(tactic| walk_at "at") => `(tactic| first | assumption | exact at00 _ _ | exact at01 _ _ _ | exact at02 _ _ _ _)
local macro_rules | `(tactic| walk_at "sr") => `(tactic| with_reducible first
  | refine k_prs ?_ | refine k_prn ?_
  | (refine' k_getD hS ?sm ?se ?_; (case sm => walk_at "mem"); (case se => with_unfolding_all rfl))
  | refine k_inTb ?_ | refine k_notinTb ?_ | refine k_isSS ?_ | refine k_isSI ?_ | refine k_isST ?_ | refine k_isIS ?_ | refine k_isII ?_ | refine k_isIT ?_
  | (refine' k_isTS hS ?sm ?_; (case sm => walk_at "mem"))
  | (refine' k_isTI hS ?sm ?_; (case sm => walk_at "mem"))
  | (refine' k_isTT hS ?sm ?_; (case sm => walk_at "mem"))
  | (refine' k_ixS' hS ?sm ?se ?_; (case sm => walk_at "mem"); (case se => walk_at "at"); clear hS; walk_at "gv")
  | (refine' k_inS2 hS ?sm ?_; (case sm => walk_at "mem"))
  | (refine' k_inS3 hS ?sm ?_; (case sm => walk_at "mem"))
  | (refine' k_ninS2 hS ?sm ?_; (case sm => walk_at "mem"))
  | (refine' k_ninS3 hS ?sm ?_; (case sm => walk_at "mem"))
  | (refine' k_isiM hS ?sm ?se ?_; (case sm => walk_at "mem"); (case se => assumption)))
namespace Ls
open PySem PySem.Spec PyProof.Rows L2
def spLeaf (K : PySem.W.Frag) : Sp := fun vs H Q _ => ∃ (a : Addr) (z : Str) (r : List PyData) (N : Nat) (L : List (As K)), vs = [.ref a] ∧ Ls.Sep L H ∧ im (.ref a) (.tuple (.str z :: r)) ∈ L ∧ Raw N (.tuple (.str z :: r)) ∧ wordK z = none ∧ ∀ H', Ls.Sep L H' → Q (.bl (Ls.leafOf z r).isSome) H'
def spParts (K : PySem.W.Frag) (n : Nat) : Sp := fun vs H Q _ => ∃ (a : Addr) (k : Nat) (xs : List PyData) (N : Nat) (L : List (As K)), vs = [.ref a, .int k] ∧ k ≤ n ∧ Ls.Sep L H ∧ im (.ref a) (.tuple xs) ∈ L ∧ Raw N (.tuple xs) ∧ ∀ H', Ls.Sep L H' → Q (.int (partsP k (.tuple xs))) H'
theorem raw_d {c N : Nat} {d : PyData} (h : RawC c N d) : (∃ z, d = .str z ∧ z.length ≤ 1000) ∨ (∃ i, d = .int i) ∨ (∃ xs m, d = .tuple xs ∧ N = m + 1 ∧ xs.length ≤ c ∧ (∀ x r, xs = x :: r → ∃ z, x = .str z) ∧ ∀ x ∈ xs, RawC c m x) := by
  cases d with
  | str z => cases N <;> exact .inl ⟨z, rfl, h.1⟩
  | int i => exact .inr (.inl ⟨i, rfl⟩)
  | tuple xs =>
    cases N with
    | zero => exact h.elim
    | succ m => exact .inr (.inr ⟨xs, m, rfl, rfl, h⟩)
  | none => cases N <;> exact h.elim
  | bool b => cases N <;> exact h.elim
  | list b => cases N <;> exact h.elim
  | dict b => cases N <;> exact h.elim
end Ls
namespace Lw
open PySem PySem.Spec PyProof.Rows L2 Ls
theorem ok_is_leaf {P : Program} {w : World} {K : PySem.W.Frag} {mg : Str → Option Value} {base : Heap} (E : Env K mg w) : FnOk P w K mg base CX0 2 E.a_is_leaf E.fd_is_leaf ["test"] (spLeaf K) := by
  refine E.F_is_leaf.ok sc_is_leaf (fun vs H Q E h => ?_) (fun cdv A outer s H vs Q E' hr h => ?_)
  · walk_at "hl"
  · have hu := huOf hr
    have G_is_name := ok_is_name (P := P) (w := w) (base := base) E
    have hr_is_name := hr.mono (show 1 ≤ 1 by decide)
    have b_is_name := b_is_name E
    obtain ⟨a, z, r, N, L, rfl, hS, hm, hr', hw, q⟩ := h
    refine ⟨_, PSs.nox (pss_cons (ps_if (pt_cmpR (op_eqU K rfl hu) (pe_ix (ix_U K rfl) (pv 0) pe_int (fun _ _ => rfl)) pe_str (nomark _)) (pss_one (ps_ret (pe_cmpR (op_eqU K rfl hu) (pe_callB (call_lenU K rfl) (by rfl) E.n_len boot_len (pa_cons (pv 0) pa_nil)) pe_int (nomark _)))) pss_nil)
(pss_cons (ps_if (pt_cmpR (op_eqU K rfl hu) (pe_ix (ix_U K rfl) (pv 0) pe_int (fun _ _ => rfl)) pe_str (nomark _)) (pss_one (ps_ret (pe_and (pe_cmpR (op_eqU K rfl hu) (pe_callB (call_lenU K rfl) (by rfl) E.n_len boot_len (pa_cons (pv 0) pa_nil)) pe_int (nomark _)) (pe_and (pe_callB (call_isiU K rfl) (by rfl) E.n_isinstance boot_isinstance (pa_cons (pe_ix (ix_U K rfl) (pv 0) pe_int (fun _ _ => rfl)) (pa_cons (pe_ty "str" rfl E.n_str (by decide +kernel)) pa_nil))) (pe_one (pe_call G_is_name hr_is_name rfl E.g_is_name E.F_is_name.kp b_is_name .nil pass0 (pa_cons (pe_ix (ix_U K rfl) (pv 0) pe_int (fun _ _ => rfl)) pa_nil))))))) pss_nil)
(pss_cons (ps_if (PW.pt (pw_or (pt_cmpR (op_neU K rfl hu) (pe_callB (call_lenU K rfl) (by rfl) E.n_len boot_len (pa_cons (pv 0) pa_nil)) pe_int (nomark _)) (pw_or (pt_not (pt_val (pe_callB (call_isiU K rfl) (by rfl) E.n_isinstance boot_isinstance (pa_cons (pe_ix (ix_U K rfl) (pv 0) pe_int (fun _ _ => rfl)) (pa_cons (pe_ty "str" rfl E.n_str (by decide +kernel)) pa_nil))))) (pw_or1 (pt_not (pt_val (pe_callB (call_isiU K rfl) (by rfl) E.n_isinstance boot_isinstance (pa_cons (pe_ix (ix_U K rfl) (pv 0) pe_int (fun _ _ => rfl)) (pa_cons (pe_ty "int" rfl E.n_int (by decide +kernel)) pa_nil))))))))) (pss_one (ps_ret pe_bl)) pss_nil)
(pss_one (ps_ret (pe_and (pe_cmpR (op_inU K rfl hu) (pe_ix (ix_U K rfl) (pv 0) pe_int (fun _ _ => rfl)) (pe_tup (pa_cons pe_str (pa_cons pe_str pa_nil))) (by with_unfolding_all rfl)) (pe_and (pe_call G_is_name hr_is_name rfl E.g_is_name E.F_is_name.kp b_is_name .nil pass0 (pa_cons (pe_ix (ix_U K rfl) (pv 0) pe_int (fun _ _ => rfl)) pa_nil)) (pe_one (pe_chain op_le op_le (pe_un un_neg (pe_gc rfl E.c_LIMIT)) (pe_ix (ix_U K rfl) (pv 0) pe_int (fun _ _ => rfl)) (pe_gc rfl E.c_LIMIT)))))))))), ?_⟩
    refine k_body (s1 := some _ :: []) rfl ?_
    walk_at "s"
    by_cases e1 : z = ("all" : Str)
    · rw [if_pos (decide_eq_true e1)]
      walk_at "s"
      have e : decide (((PyData.str z :: r).length : Int) = 1) = (Ls.leafOf z r).isSome := by
        unfold Ls.leafOf
        rw [if_pos e1]
        cases r with
        | nil => rfl
        | cons x r => exact decide_eq_false (by simp; omega)
      rw [e]
      exact q _ hS
    · rw [if_neg (by rw [decide_eq_false e1]; exact Bool.false_ne_true)]
      walk_at "s"
      by_cases e2 : z = ("is" : Str)
      · rw [if_pos (decide_eq_true e2)]
        walk_at "s"
        by_cases hl : ∃ x, r = [x]
        · obtain ⟨x, rfl⟩ := hl
          rw [if_pos (by rfl)]
          obtain ⟨m, rfl⟩ : ∃ m, N = m + 1 := by cases N with | zero => exact hr'.elim | succ m => exact ⟨m, rfl⟩
          have hx := hr'.2.2 x (List.mem_cons_of_mem _ List.mem_cons_self)
          rcases raw_d hx with ⟨s, rfl, hs⟩ | ⟨i, rfl⟩ | ⟨xs, k, rfl, _⟩
          · walk_at "s"
            have e : decide (IsNm s) = (Ls.leafOf z [.str s]).isSome := by
              unfold Ls.leafOf
              rw [if_neg e1, if_pos e2]
              by_cases hn : IsNm s
              · show _ = (if IsNm s then some (Tst.is s) else none).isSome
                rw [if_pos hn, decide_eq_true hn]
                rfl
              · show _ = (if IsNm s then some (Tst.is s) else none).isSome
                rw [if_neg hn, decide_eq_false hn]
                rfl
            refine ⟨s, _, rfl, by omega, hS, fun H hS => ?_⟩
            rw [e]
            exact q _ hS
          · have e : (Ls.leafOf z [.int i]).isSome = false := by
              unfold Ls.leafOf
              rw [if_neg e1, if_pos e2]
              rfl
            rw [e] at q
            walk_at "s"
            exact q _ hS
          · have e : (Ls.leafOf z [.tuple xs]).isSome = false := by
              unfold Ls.leafOf
              rw [if_neg e1, if_pos e2]
              rfl
            rw [e] at q
            walk_at "s"
            exact q _ (Sub.ok (by walk_at "sub") hS)
        · have e : (Ls.leafOf z r).isSome = false := by
            unfold Ls.leafOf
            rw [if_neg e1, if_pos e2]
            split
            · exact (hl ⟨_, rfl⟩).elim
            · rfl
          have e3 : decide (((PyData.str z :: r).length : Int) = 2) = false := decide_eq_false fun h => hl (by
            match r, h with
            | [x], _ => exact ⟨x, rfl⟩
            | [], h => simp at h
            | x :: y :: r, h => simp at h; omega)
          rw [e3, if_neg Bool.false_ne_true]
          rw [e] at q
          exact q _ hS
      · rw [if_neg (by rw [decide_eq_false e2]; exact Bool.false_ne_true)]
        walk_at "s"
        by_cases hl : ∃ x y, r = [x, y]
        · obtain ⟨x, y, rfl⟩ := hl
          rw [if_neg (by show ¬(!decide ((3 : Int) = 3)) = true; decide)]
          obtain ⟨m, rfl⟩ : ∃ m, N = m + 1 := by cases N with | zero => exact hr'.elim | succ m => exact ⟨m, rfl⟩
          have hx := hr'.2.2 x (List.mem_cons_of_mem _ List.mem_cons_self)
          have hy := hr'.2.2 y (List.mem_cons_of_mem _ (List.mem_cons_of_mem _ List.mem_cons_self))
          have no : (∀ s i, ¬ ((x = .str s) ∧ y = .int i)) → (Ls.leafOf z [x, y]).isSome = false := fun h => by
            unfold Ls.leafOf
            rw [if_neg e1, if_neg e2]
            repeat' split
            all_goals first | rfl | (rename_i e _; exact (h _ _ (by cases e; exact ⟨rfl, rfl⟩)).elim)
          walk_at "s"
          rcases raw_d hx with ⟨s, rfl, hs⟩ | ⟨i, rfl⟩ | ⟨xs, k, rfl, _⟩
          · walk_at "s"
            rcases raw_d hy with ⟨s2, rfl, hs2⟩ | ⟨i, rfl⟩ | ⟨xs, k, rfl, _⟩
            · rw [no (by rintro s i ⟨_, h⟩; cases h)] at q
              walk_at "s"
              exact q _ hS
            · walk_at "s"
              have en : ∀ P : Prop, ¬ z = ("less" : Str) → ¬ z = ("same" : Str) → (Ls.leafOf z [.str s, .int i]).isSome = false := fun _ h3 h4 => by
                unfold Ls.leafOf
                rw [if_neg e1, if_neg e2, if_neg h3, if_neg h4]
                rfl
              have ey : (z = ("less" : Str) ∨ z = ("same" : Str)) → (Ls.leafOf z [.str s, .int i]).isSome = decide (IsNm s ∧ Lim i) := fun h => by
                unfold Ls.leafOf
                rw [if_neg e1, if_neg e2]
                by_cases h3 : z = ("less" : Str)
                · rw [if_pos h3]
                  by_cases hn : IsNm s ∧ Lim i
                  · show (if IsNm s ∧ Lim i then some (Tst.less s i) else none).isSome = _
                    rw [if_pos hn, decide_eq_true hn]
                    rfl
                  · show (if IsNm s ∧ Lim i then some (Tst.less s i) else none).isSome = _
                    rw [if_neg hn, decide_eq_false hn]
                    rfl
                · rw [if_neg h3, if_pos (h.resolve_left h3)]
                  by_cases hn : IsNm s ∧ Lim i
                  · show (if IsNm s ∧ Lim i then some (Tst.same s i) else none).isSome = _
                    rw [if_pos hn, decide_eq_true hn]
                    rfl
                  · show (if IsNm s ∧ Lim i then some (Tst.same s i) else none).isSome = _
                    rw [if_neg hn, decide_eq_false hn]
                    rfl
              by_cases hz : z = ("less" : Str) ∨ z = ("same" : Str)
              · rw [if_pos (decide_eq_true (by simp only [List.mem_cons, List.not_mem_nil, or_false]; exact hz))]
                rw [ey hz] at q
                walk_at "s"
                refine ⟨s, _, rfl, by omega, hS, fun H hS => ?_⟩
                by_cases hn : IsNm s
                · rw [decide_eq_true hn]
                  walk_at "s"
                  by_cases h5 : -999999 ≤ i
                  · walk_at "s"
                    rw [show decide (i ≤ 999999) = decide (IsNm s ∧ Lim i) from decide_eq_decide.mpr ⟨fun h => ⟨hn, h5, h⟩, fun h => h.2.2⟩]
                    exact q _ (Sub.ok (by walk_at "sub") hS)
                  · rw [decide_eq_false fun h => h5 h.2.1] at q
                    walk_at "s"
                    exact q _ (Sub.ok (by walk_at "sub") hS)
                · rw [decide_eq_false fun h => hn h.1] at q
                  rw [decide_eq_false hn]
                  walk_at "s"
                  exact q _ (Sub.ok (by walk_at "sub") hS)
              · rw [if_neg (by rw [decide_eq_false (by simp only [List.mem_cons, List.not_mem_nil, or_false]; exact hz)]; exact Bool.false_ne_true)]
                rw [en True (fun h => hz (.inl h)) (fun h => hz (.inr h))] at q
                exact q _ (Sub.ok (by walk_at "sub") hS)
            · rw [no (by rintro s i ⟨_, h⟩; cases h)] at q
              walk_at "s"
              exact q _ (Sub.ok (by walk_at "sub") hS)
          · rw [no (by rintro s i ⟨h, _⟩; cases h)] at q
            walk_at "s"
            exact q _ hS
          · rw [no (by rintro s i ⟨h, _⟩; cases h)] at q
            walk_at "s"
            exact q _ (Sub.ok (by walk_at "sub") hS)
        · have e : (Ls.leafOf z r).isSome = false := by
            unfold Ls.leafOf
            rw [if_neg e1, if_neg e2]
            repeat' split
            all_goals first | rfl | exact (hl ⟨_, _, rfl⟩).elim
          have e3 : decide (((PyData.str z :: r).length : Int) = 3) = false := decide_eq_false fun h => hl (by
            match r, h with
            | [x, y], _ => exact ⟨x, y, rfl⟩
            | [], h => simp at h
            | [x], h => simp at h
            | x :: y :: u :: r, h => simp at h; omega)
          rw [e3, if_pos rfl]
          rw [e] at q
          walk_at "s"
          exact q _ hS
end Lw
namespace Ls
open PySem PySem.Spec PyProof.Rows L2
theorem mkT_some {z : Str} {ts : List Tst} (h : wordK z = some ts.length) : ∃ t, mkT z ts = some t := by
  unfold wordK at h
  unfold mkT
  split at h
  · rename_i e
    rw [if_pos e]
    match ts, h with
    | [a], _ => exact ⟨_, rfl⟩
  · rename_i e
    rw [if_neg e]
    split at h
    · rename_i e
      rw [if_pos e]
      match ts, h with
      | [a, b], _ => exact ⟨_, rfl⟩
    · rename_i e
      rw [if_neg e]
      split at h
      · rename_i e
        rw [if_pos e]
        match ts, h with
        | [a, b], _ => exact ⟨_, rfl⟩
      · cases h
theorem mkT_none {z : Str} {ts : List Tst} (h : wordK z ≠ some ts.length) : mkT z ts = none := by
  unfold wordK at h
  unfold mkT
  repeat' split
  all_goals first | rfl | (exfalso; apply h; simp_all)
theorem mapM_len {α β : Type} {f : α → Option β} : ∀ {r : List α} {ts : List β}, r.mapM f = some ts → ts.length = r.length
  | [], ts, h => by
    have : some [] = some ts := h
    cases this
    rfl
  | d :: r, ts, h => by
    rw [List.mapM_cons] at h
    cases e : f d with
    | none => rw [e] at h; cases h
    | some t =>
      rw [e] at h
      cases e2 : r.mapM f with
      | none => rw [e2] at h; cases h
      | some us =>
        rw [e2] at h
        cases h
        simp [mapM_len e2]
theorem mapM_app {α β : Type} {f : α → Option β} : ∀ {r : List α} {x : α} {ts : List β} {t : β}, r.mapM f = some ts → f x = some t → (r ++ [x]).mapM f = some (ts ++ [t])
  | [], x, ts, t, h, e => by
    have : some [] = some ts := h
    cases this
    rw [List.nil_append, List.mapM_cons, e]
    rfl
  | d :: r, x, ts, t, h, e => by
    rw [List.mapM_cons] at h
    cases e1 : f d with
    | none => rw [e1] at h; cases h
    | some u =>
      rw [e1] at h
      cases e2 : r.mapM f with
      | none => rw [e2] at h; cases h
      | some us =>
        rw [e2] at h
        cases h
        rw [List.cons_append, List.mapM_cons, e1, mapM_app e2 e]
        rfl
theorem mapM_no {α β : Type} {f : α → Option β} : ∀ {r : List α} {x : α}, x ∈ r → f x = none → r.mapM f = none
  | d :: r, x, m, e => by
    rw [List.mapM_cons]
    rcases List.mem_cons.mp m with rfl | m
    · rw [e]; rfl
    · rw [mapM_no m e]
      cases f d <;> rfl
theorem dec_atom {n : Nat} {d : PyData} (h : ∀ xs, d ≠ .tuple xs) : dec n d = none := by
  unfold dec
  split
  · exact (h _ rfl).elim
  · rfl
theorem dec_nil (n : Nat) : dec n (.tuple []) = none := by
  unfold dec
  split
  · rename_i e
    cases e
  · rfl
theorem dec_zero (d : PyData) : dec 0 d = none := by
  unfold dec
  rfl
theorem tabW (z : Str) : List.lookup z [(Str.ofString "not", V.int 1), (Str.ofString "and", V.int 2), (Str.ofString "or", V.int 2)] = (wordK z).map fun n : Nat => V.int n := by
  unfold wordK
  by_cases h1 : z = Str.ofString "not"
  · rw [if_pos h1, h1]
    rw [List.lookup_cons, beq_self_eq_true]
    rfl
  · rw [if_neg h1, List.lookup_cons, beq_false_of_ne h1]
    by_cases h2 : z = Str.ofString "and"
    · rw [if_pos h2, h2]
      simp only [List.lookup_cons, beq_self_eq_true]
      rfl
    · rw [if_neg h2]
      simp only [List.lookup_cons, beq_false_of_ne h2]
      by_cases h3 : z = Str.ofString "or"
      · rw [if_pos h3, h3]
        simp only [beq_self_eq_true]
        rfl
      · rw [if_neg h3]
        simp only [beq_false_of_ne h3]
        rfl
theorem pP_leaf {k : Nat} {z : Str} {r : List PyData} (hw : wordK z = none) : partsP (k + 1) (.tuple (.str z :: r)) = if (Ls.leafOf z r).isSome = true then 1 else 0 := by
  unfold partsP
  rw [dec_tup, hw]
  show (match Ls.leafOf z r with | none => 0 | some t => (t.parts : Int)) = _
  cases e : Ls.leafOf z r with
  | none => rfl
  | some t =>
    obtain ⟨_, _, _, h4, _⟩ := leafOf_ok e
    show (t.parts : Int) = 1
    rw [h4]
    rfl
theorem pP_some {k l : Nat} {z : Str} {r : List PyData} {ts : List Tst} (hw : wordK z = some l) (hl : r.length = l) (h : r.mapM (dec k) = some ts) : partsP (k + 1) (.tuple (.str z :: r)) = 1 + ((ts.map Tst.parts).sum : Nat) := by
  unfold partsP
  rw [dec_tup, hw]
  show (match (r.mapM (dec k)).bind (mkT z) with | none => 0 | some t => (t.parts : Int)) = _
  have hts := mapM_len h
  obtain ⟨t, ht⟩ := mkT_some (z := z) (ts := ts) (by rw [hw, hts, hl])
  rw [h]
  show (match mkT z ts with | none => 0 | some t => (t.parts : Int)) = _
  rw [ht]
  obtain ⟨h1, h2⟩ := mapM_all h fun d t => dec_ok
  obtain ⟨_, _, _, k4, _⟩ := mkT_ok ht h2
  show (t.parts : Int) = _
  rw [k4]
  omega
theorem pP_none {k l : Nat} {z : Str} {r : List PyData} (hw : wordK z = some l) (h : r.length ≠ l ∨ r.mapM (dec k) = none) : partsP (k + 1) (.tuple (.str z :: r)) = 0 := by
  unfold partsP
  rw [dec_tup, hw]
  show (match (r.mapM (dec k)).bind (mkT z) with | none => 0 | some t => (t.parts : Int)) = _
  cases e : r.mapM (dec k) with
  | none => rfl
  | some ts =>
    have hts := mapM_len e
    show (match mkT z ts with | none => 0 | some t => (t.parts : Int)) = _
    rw [mkT_none (by
      rw [hw, hts]
      intro y
      rcases h with h | h
      · exact h (Option.some.inj y).symm
      · rw [e] at h; cases h)]
end Ls
namespace Lw
open PySem PySem.Spec PyProof.Rows L2 Ls
theorem ok_parts_of {P : Program} {w : World} {K : PySem.W.Frag} {mg : Str → Option Value} {base : Heap} (E : Env K mg w) : ∀ n : Nat, FnOk P w K mg base CX0 (3 + n) E.a_parts_of E.fd_parts_of ["test", "deep"] (recSp (spParts K) n) := by
  intro n
  induction n with
  | zero => exact E.F_parts_of.ok sc_parts_of (fun vs H Q E h => h.elim) (fun cdv A outer s H vs Q E' hr h => h.elim)
  | succ n ih =>
  replace ih : FnOk P w K mg base CX0 (3 + n) E.a_parts_of E.fd_parts_of ["test", "deep"] (recSp (spParts K) n) := ih
  show FnOk P w K mg base CX0 (3 + n + 1) E.a_parts_of E.fd_parts_of ["test", "deep"] ((spParts K) n)
  refine E.F_parts_of.ok sc_parts_of (fun vs H Q E h => ?_) (fun cdv A outer s H vs Q E' hr h => ?_)
  · walk_at "hl"
  · have hu := huOf hr
    have G_is_leaf := ok_is_leaf (P := P) (w := w) (base := base) E
    have hr_is_leaf := hr.mono (show 2 ≤ 3 + n by omega)
    have b_is_leaf := b_is_leaf E
    have G_parts_of := ih
    have hr_parts_of := hr
    have b_parts_of := b_parts_of E
    obtain ⟨a, k, xs, N, L, rfl, hk, hS, hm, hr', q⟩ := h
    obtain ⟨m, rfl⟩ : ∃ m, N = m + 1 := by cases N with | zero => exact hr'.elim | succ m => exact ⟨m, rfl⟩
    refine ⟨_, PSs.nox (pss_cons (ps_if (PW.pt (pw_or (pt_cmpR (op_eqU K rfl hu) (pv 1) pe_int (nomark _)) (pw_or1 (pt_cmpR (op_eqU K rfl hu) (pe_callB (call_lenU K rfl) (by rfl) E.n_len boot_len (pa_cons (pv 0) pa_nil)) pe_int (nomark _))))) (pss_one (ps_ret pe_int)) pss_nil)
(pss_cons (ps_if (pt_cmpR (op_notinT E.t_WITHIN) (pe_ix (ix_U K rfl) (pv 0) pe_int (fun _ _ => rfl)) (pe_glob (v := .ref E.D_WITHIN) rfl E.g_WITHIN rfl) (by with_unfolding_all rfl)) (pss_one (ps_ret (pe_callTy (call_int1) (by rfl) E.n_int boot_int (pa_cons (pe_call G_is_leaf hr_is_leaf rfl E.g_is_leaf E.F_is_leaf.kp b_is_leaf .nil pass0 (pa_cons (pv 0) pa_nil)) pa_nil)))) pss_nil)
(pss_cons (ps_asg (pv 0) (pg_tupS (n := 1) K rfl (pgs_cons (pg_name (i := 2) sc_parts_of.nd rfl (Or.inl rfl)) (pgs_star (pg_name (i := 3) sc_parts_of.nd rfl (Or.inl rfl)) pgs_nil))))
(pss_cons (ps_if (pt_cmpR (op_neU K rfl hu) (pe_callB (call_lenU K rfl) (by rfl) E.n_len boot_len (pa_cons (pv 3) pa_nil)) (pe_ix (ix_T E.t_WITHIN) (pe_glob (v := .ref E.D_WITHIN) rfl E.g_WITHIN rfl) (pv 2) (fun _ _ => rfl)) (nomark _)) (pss_one (ps_ret pe_int)) pss_nil)
(pss_cons (ps_set (i := 4) sc_parts_of.nd rfl (Or.inl rfl) pe_int)
(pss_cons (ps_for PassesOwn.never rfl (pi_seqU K rfl (pv 3)) (pg_name (i := 5) sc_parts_of.nd rfl (Or.inl rfl))
(pss_cons (ps_set (i := 6) sc_parts_of.nd rfl (Or.inl rfl) (pe_join (pe_ifExp (pt_val (pe_callB (call_isiU K rfl) (by rfl) E.n_isinstance boot_isinstance (pa_cons (pv 5) (pa_cons (pe_ty "tuple" rfl E.n_tuple (by decide +kernel)) pa_nil)))) (pe_call G_parts_of hr_parts_of rfl E.g_parts_of E.F_parts_of.kp b_parts_of .nil pass0 (pa_cons (pv 5) (pa_cons (pe_op op_sub (pv 1) pe_int) pa_nil))) pe_int)))
(pss_cons (ps_if (pt_cmpR (op_eqU K rfl hu) (pv 6) pe_int (nomark _)) (pss_one (ps_ret pe_int)) pss_nil)
(pss_one (ps_aug (i := 4) sc_parts_of.nd rfl (Or.inl rfl) (pv 6) ip_add)))))
(pss_one (ps_ret (pv 4))))))))), ?_⟩
    refine k_body (s1 := some _ :: some _ :: [none, none, none, none, none]) rfl ?_
    walk_at "s"
    cases k with
    | zero =>
      have e : partsP 0 (.tuple xs) = 0 := by
        unfold partsP
        rw [dec_zero]
      rw [e] at q
      walk_at "s"
      exact q _ hS
    | succ k =>
      walk_at "s"
      cases xs with
      | nil =>
        have e : partsP (k + 1) (.tuple []) = 0 := by
          unfold partsP
          rw [dec_nil]
        rw [e] at q
        rw [if_pos (by rfl)]
        walk_at "s"
        exact q _ hS
      | cons x r =>
        obtain ⟨z, rfl⟩ := hr'.2.1 x r rfl
        rw [if_neg (by rw [decide_eq_false (by simp; omega)]; exact Bool.false_ne_true)]
        walk_at "s"
        rw [tabW]
        cases hw : wordK z with
        | none =>
          rw [if_pos (by rfl)]
          walk_at "s"
          refine ⟨a, z, r, m + 1, _, rfl, hS, hm, hr', hw, fun H hS => ?_⟩
          rw [pP_leaf hw] at q
          refine .inr ⟨_, rfl, ?_⟩
          exact q _ hS
        | some l =>
          rw [if_neg (by exact Bool.false_ne_true)]
          walk_at "s"
          refine k_gtupStar hS (by walk_at "mem") (by show 1 ≤ r.length + 1; omega) (by have := hr'.1; omega) ?_
          show ∀ p H', Ls.Sep (Ls.ld p r :: ([] ++ L)) H' → _
          intro p H hS
          replace hS : Ls.Sep (Ls.ld p r :: L) H := hS
          show gCons (gName 2) (gCons (gName 3) gNil) [V.str z, V.ref p] _ _ _
          walk_at "s"
          refine k_ixTb (by rw [tabW, hw]; rfl) ?_
          walk_at "s"
          by_cases hl : r.length = l
          · rw [if_neg (by rw [hl]; simp)]
            walk_at "s"
            have hrl : r.length ≤ 100 := by have := hr'.1; simp at this; omega
            refine for_wk (L := Ls.ld p r :: L) (n := r.length) (fun i σ L' => L' = Ls.ld p r :: L ∧ ∃ (ts : List Tst) (c5 c6 : Option V), (r.take i).mapM (dec k) = some ts ∧ σ = [some (.ref a), some (.int (k + 1 : Nat)), some (.str z), some (.ref p), some (.int (1 + ((ts.map Tst.parts).sum : Nat))), c5, c6]) (fun i σ L' e => by obtain ⟨rfl, _⟩ := e; exact wk_ld (by walk_at "mem")) hS ⟨rfl, [], _, _, by rfl, rfl⟩ (fun i σ L' hi iv => ?_) (fun σ L' H iv hS => ?_)
            · obtain ⟨rfl, ts, c5, c6, hts, rfl⟩ := iv
              intro d hd
              have hdr := hr'.2.2 d (List.mem_cons_of_mem _ (List.mem_of_getElem? hd))
              have htk : r.take (i + 1) = r.take i ++ [d] := by rw [List.take_add_one, hd]; rfl
              rcases raw_d hdr with ⟨s, rfl, hs⟩ | ⟨j, rfl⟩ | ⟨xs, m2, rfl, _, rl, _⟩
              · have hn : dec k (.str s) = none := dec_atom fun xs h => by cases h
                have q0 := pP_none hw (.inr (mapM_no (List.mem_of_getElem? hd) hn))
                rw [q0] at q
                walk_at "gi"
                walk_at "ns"
                walk_at "s"
                refine k_nojoin ?_
                walk_at "s"
                exact q _ (Sub.ok (by walk_at "sub") hS)
              · have hn : dec k (.int j) = none := dec_atom fun xs h => by cases h
                have q0 := pP_none hw (.inr (mapM_no (List.mem_of_getElem? hd) hn))
                rw [q0] at q
                walk_at "gi"
                walk_at "ns"
                walk_at "s"
                refine k_nojoin ?_
                walk_at "s"
                exact q _ (Sub.ok (by walk_at "sub") hS)
              · walk_at "gi"
                walk_at "ns"
                walk_at "s"
                refine k_nojoin ?_
                walk_at "s"
                obtain ⟨n', rfl⟩ : ∃ n', n = n' + 1 := ⟨n - 1, by omega⟩
                rw [show ((k + 1 : Nat) : Int) - 1 = (k : Nat) by omega]
                refine ⟨_, k, xs, m, _, rfl, by omega, hS, by walk_at "mem", hdr, fun H hS => ?_⟩
                walk_at "s"
                cases e : dec k (.tuple xs) with
                | none =>
                  have q0 := pP_none hw (.inr (mapM_no (List.mem_of_getElem? hd) e))
                  rw [q0] at q
                  have e2 : partsP k (.tuple xs) = 0 := by unfold partsP; rw [e]
                  rw [e2, if_pos (by rfl)]
                  walk_at "s"
                  exact q _ (Sub.ok (by walk_at "sub") hS)
                | some t =>
                  have e2 : partsP k (.tuple xs) = (t.parts : Int) := by unfold partsP; rw [e]
                  have hp := parts_pos t
                  rw [e2, if_neg (by rw [decide_eq_false (by omega)]; exact Bool.false_ne_true)]
                  walk_at "s"
                  have hsum : (1 + ((((ts ++ [t]).map Tst.parts).sum : Nat) : Int)) = 1 + ((ts.map Tst.parts).sum : Nat) + (t.parts : Nat) := by
                    rw [List.map_append, List.sum_append]
                    simp only [List.map_cons, List.map_nil, List.sum_cons, List.sum_nil, Nat.add_zero]
                    omega
                  exact ⟨_, ⟨rfl, ts ++ [t], _, _, by rw [htk]; exact mapM_app hts e, by rw [hsum]⟩, Sub.ok (by walk_at "sub") hS⟩
            · obtain ⟨rfl, ts, c5, c6, hts, rfl⟩ := iv
              rw [List.take_length] at hts
              rw [pP_some hw hl hts] at q
              walk_at "s"
              exact q _ (Sub.ok (by walk_at "sub") hS)
          · rw [if_pos (by rw [decide_eq_false (by omega)]; rfl)]
            rw [pP_none hw (.inl hl)] at q
            walk_at "s"
            exact q _ (Sub.ok (by walk_at "sub") hS)
end Lw
namespace Ls
open PySem PySem.Spec PyProof.Rows L2 LamX
/-- what _law_ask makes of what it is handed: what is let out and caught -/
def TAsk (K : PySem.W.Frag) (CV CS CM : Addr) : (XK → Hp → VK → Prop) → Hp → VK → Prop := fun tl H Q => ∀ (E' : XK) (Q' : VK),
  (∀ (C dd : Addr) (w : Str) (H' : Hp), PySem.W.exmOne K (.ref C) (.ref CV) = some false → PySem.W.exmOne K (.ref C) (.ref CS) = some true → XfC K C → PySem.W.findIn K (.ref C) "word" = some none → H' dd = some (.xd [("word", .str w)]) →
    (∀ p, H' p = none → Q (.ref p) (upd H' p (.lst [.str w, .non]))) → E' (.ref C) (some dd) H') →
  (∀ (C dd : Addr) (w : Str) (H' : Hp), PySem.W.exmOne K (.ref C) (.ref CV) = some false → PySem.W.exmOne K (.ref C) (.ref CS) = some false → PySem.W.exmOne K (.ref C) (.ref CM) = some true → XfC K C → PySem.W.findIn K (.ref C) "word" = some none → H' dd = some (.xd [("word", .str w)]) →
    (∀ p, H' p = none → Q (.ref p) (upd H' p (.lst [.str w, .non]))) → E' (.ref C) (some dd) H') →
  (∀ (C dd : Addr) (w : V) (i : Int) (H' : Hp), PySem.W.exmOne K (.ref C) (.ref CV) = some true → XfC K C → PySem.W.findIn K (.ref C) "at" = some none → i.natAbs < 10 ^ 100 → H' dd = some (.xd [("at", .int i), ("word", w)]) →
    (∀ p, H' p = none → Q (.ref p) (upd H' p (.lst [.str (("badvalue " : Str) ++ (toString i : String)), .non]))) → E' (.ref C) (some dd) H') →
  (∀ v H', (∀ p, H' p = none → Q (.ref p) (upd H' p (.lst [.str "", v]))) → Q' v H') → tl E' H Q'
theorem bv_len {i : Int} (h : i.natAbs < 10 ^ 100) : ("badvalue " : Str).length + (Str.ofString (toString i)).length ≤ sizeLine := by
  have := num_len (k := 100) (by decide) h
  have e : ("badvalue " : Str).length = 9 := by decide +kernel
  rw [e, sizeLine_eq]
  omega
end Ls
namespace Lw
open PySem PySem.Spec PyProof.Rows L2 Ls LamX
section
variable {P : Program} {w : World} {K : PySem.W.Frag} {mg : Str → Option Value} {base : Heap}
theorem ask_gives (E : Env K mg w) {X : Cx} (hK : X.K = K) (hmg : X.mg = mg) {g : Addr} {cdg : Value} {q : Str} :
    GivesZ X ["_law_ask_here", "_law_told", "_law_word_here", "e"] "_law_ask" (defScope s__law_ask) g cdg (defBody s__law_ask) "_law_ask_here" q (TAsk K E.C_BadValue E.C_ScribeError E.C_Missing) := by
  subst hK hmg
  intro f c' s H Q tl act hc h
  refine ⟨_, pss_cons (ps_set (i := 1) sc__law_ask.nd rfl (Or.inl rfl) pe_non) (pss_cons (ps_set (i := 2) sc__law_ask.nd rfl (Or.inl rfl) pe_str)
    (pss_cons (ps_try_cl (l := [(.ref E.C_BadValue, 3, fun a cls d => tAsg (tOp (rAddU X.K) (tC (.str "badvalue ")) (tCB (fun xs H Q => ∃ i : Int, xs = [.int i] ∧ i.natAbs.log2 < 1920 ∧ Q (.str (toString i)) H) (tCons (tXfA X.K a cls d "at" (tVar 3)) tNil))) (gName 2)), (.ref E.C_ScribeError, 3, fun a cls d => tAsg (tXfA X.K a cls d "word" (tVar 3)) (gName 2)), (.ref E.C_Missing, 3, fun a cls d => tAsg (tXfA X.K a cls d "word" (tVar 3)) (gName 2))])
      (tb := fun (W : WX) (D : Ends) (σ : L2.St) (H : Hp) => σ[0]? = some (some (V.ref f)) ∧ H c' = some (CodeO c' q) ∧ tl (fun cls d H' => W cls d σ H') H fun v H' => D.nx (σ.set 1 (some v)) H')
      rfl rfl sc__law_ask.nd LamX.takes0 (fun W pn xe tk _ => ⟨fun pins s' σ H' D I h' => (pss_one (ps_set (i := 1) sc__law_ask.nd rfl (Or.inl rfl) (act W pn xe _ _ tk))).run pins s' σ H' D I h'⟩)
      (.cons ⟨rfl, by decide, .inl E.g_BadValue⟩ rfl rfl (fun a oe cls d pn hz hf => pss_one (ps_set (i := 2) sc__law_ask.nd rfl (Or.inl rfl) (pe_op (op_addU X.K rfl) pe_str (pe_callTy call_str_int (by rfl) E.n_str boot_str (pa_cons (pe_xfA X.K rfl hz hf (pv 3)) pa_nil))))) (.cons ⟨rfl, by decide, .inl E.g_ScribeError⟩ rfl rfl (fun a oe cls d pn hz hf => pss_one (ps_set (i := 2) sc__law_ask.nd rfl (Or.inl rfl) (pe_xfA X.K rfl hz hf (pv 3))))
        (.cons ⟨rfl, by decide, .inl E.g_Missing⟩ rfl rfl (fun a oe cls d pn hz hf => pss_one (ps_set (i := 2) sc__law_ask.nd rfl (Or.inl rfl) (pe_xfA X.K rfl hz hf (pv 3)))) .nil))))
      (pss_one (ps_ret (pe_lst (pa_cons (pv 2) (pa_cons (pv 1) pa_nil))))))), ?_⟩
  refine k_body (s1 := [some (.ref f), none, none, none]) rfl ?_
  walk_at "w"
  refine ⟨rfl, hc, h _ _ (fun C dd w H' e1 e2 xf no hd q => ?_) (fun C dd w H' e1 e2 e3 xf no hd q => ?_) (fun C dd w i H' e1 xf no hi hd q => ?_) fun v H' q => ?_⟩
  · refine ⟨false, e1, (fun z => by cases z), fun _ => ⟨true, e2, fun _ a _ => ?_, fun z => by cases z⟩⟩
    refine k_body (s1 := [some (.ref f), some .non, some (.str ""), some (.ref a)]) rfl ?_
    refine ⟨C, xf, no, _, rfl, rfl, rfl, dd, [("word", .str w)], .str w, rfl, hd, by simp [List.lookup], ?_⟩
    dsimp only [gone]
    refine k_body (s1 := [some (.ref f), some .non, some (.str w), none]) rfl ?_
    walk_at "w"
    exact q
  · refine ⟨false, e1, (fun z => by cases z), fun _ => ⟨false, e2, (fun z => by cases z), fun _ => ⟨true, e3, fun _ a _ => ?_, fun z => by cases z⟩⟩⟩
    refine k_body (s1 := [some (.ref f), some .non, some (.str ""), some (.ref a)]) rfl ?_
    refine ⟨C, xf, no, _, rfl, rfl, rfl, dd, [("word", .str w)], .str w, rfl, hd, by simp [List.lookup], ?_⟩
    dsimp only [gone]
    refine k_body (s1 := [some (.ref f), some .non, some (.str w), none]) rfl ?_
    walk_at "w"
    exact q
  · refine ⟨true, e1, fun _ a _ => ?_, fun z => by cases z⟩
    refine k_body (s1 := [some (.ref f), some .non, some (.str ""), some (.ref a)]) rfl ?_
    walk_at "w"
    refine ⟨C, xf, no, _, rfl, rfl, rfl, dd, [("at", .int i), ("word", w)], .int i, rfl, hd, by simp [List.lookup], ?_⟩
    walk_at "w"
    refine ⟨i, rfl, log_lt hi, ?_⟩
    refine k_addS (bv_len hi) ?_
    walk_at "w"
    dsimp only [gone]
    refine k_body (s1 := [some (.ref f), some .non, some (.str (("badvalue " : Str) ++ (toString i : String))), none]) rfl ?_
    walk_at "w"
    exact q
  · refine k_body (s1 := [some (.ref f), some v, some (.str ""), none]) rfl ?_
    walk_at "w"
    exact q
theorem pe_askT (E : Env K mg w) {X : Cx} (hK : X.K = K) (hmg : X.mg = mg) {q : Str} (hq : X.env.qual = q) {T : List (Addr × Str)} {c Pt : Addr} {k : Nat} {params : Arguments} {body : Expr} {scope : Scope} {t : XK → TE} {p lpos pos : Pos} (TB : TabB X.base X.mg c Pt) (hcode : X.env.code = .ref c)
    (hmT : (Pt, q ++ ("<lambda>" : Str)) ∈ T) (hu : ∀ p ∈ T, p.1 = Pt → p.2 = q ++ ("<lambda>" : Str)) (hr : Room (k + 2) X.A) (L : LamS X.env.scope scope) (hdef : defaultsOf params X.env = ([], []))
    (bind0 : ∀ (q : Str) (cl : List (Str × Addr)) (pm cv ctv : Value), bindArgs (PySem.W.kla_fn "<lambda>" q params body scope cl pm cv ctv) ⟨[], []⟩ = pure [])
    (bodyP : ∀ (A : Around) (outer : List PySem.Env) (s : Shared) (H : Hp) (E : XK) (f c' : Addr), Room k (A.deeper (lamEnv X scope s.heap.objs.size f c')) → PE (lamCx X A outer s H E scope f c') body (t E)) (hg : Gl X "_law_ask" := by rfl) :
    PE X (.Call (.Name "_law_ask" p) [.Lambda params body scope lpos] [] pos) (tLam T (TAsk K E.C_BadValue E.C_ScribeError E.C_Missing) t) := by
  subst hK hmg hq
  obtain ⟨oc, od, dV, kV, doc, pm, an, cdv, ct, osl, e, lk, hcd, _, _⟩ := E.F__law_ask.ex
  have b := b__law_ask E
  rw [e] at lk b
  exact pe_lamZ hg E.g__law_ask E.F__law_ask.kp lk hcd b sc__law_ask rfl (.inl rfl) (ask_gives E rfl rfl) TB hcode hmT hu hr L hdef bind0 bodyP
end
end Lw
namespace Ls
open PySem PySem.Spec PyProof.Rows L2 LamX
end Ls
namespace Ls
open PySem PySem.Spec PyProof.Rows L2 LamX
section
variable {K : PySem.W.Frag} {L M : List (As K)} {H H' H1 : Hp} {C CV CS CM : Addr} {w : Str} {i : Int} {Q : VK} {tl : XK → Hp → VK → Prop}
/-- an ask, all its ends told at once: P says what the call gives or lets out, with the word -/
theorem task_by (P : V → Str → Hp → Prop) (R : ∀ v w H', P v w H' → ∀ p, H' p = none → Q (.ref p) (upd H' p (.lst [.str w, v])))
    (h : ∀ (E' : XK) (Q' : VK), (∀ v H', P v "" H' → Q' v H') →
      (∀ C ww (L : List (As K)), PySem.W.exmOne K (.ref C) (.ref CV) = some false → PySem.W.exmOne K (.ref C) (.ref CS) = some true → XfC K C → PySem.W.findIn K (.ref C) "word" = some none → (∀ H', Ls.Sep L H' → P .non ww H') → Lets L C ww E') →
      (∀ C ww (L : List (As K)), PySem.W.exmOne K (.ref C) (.ref CV) = some false → PySem.W.exmOne K (.ref C) (.ref CS) = some false → PySem.W.exmOne K (.ref C) (.ref CM) = some true → XfC K C → PySem.W.findIn K (.ref C) "word" = some none → (∀ H', Ls.Sep L H' → P .non ww H') → Lets L C ww E') →
      (∀ C ww (i : Int) (L : List (As K)), PySem.W.exmOne K (.ref C) (.ref CV) = some true → XfC K C → PySem.W.findIn K (.ref C) "at" = some none → i.natAbs < 10 ^ 100 → (∀ d H', Ls.Sep (ob d (.xd [("at", .int i), ("word", .str ww)]) :: L) H' → P .non (("badvalue " : Str) ++ (toString i : String)) H') → LetsA L C "at" ww (.int i) E') → tl E' H Q') :
    TAsk K CV CS CM tl H Q := fun E' Q' hS hM hV hO => h E' Q' (fun v H' p => hO v H' (R _ _ _ p))
  (fun C ww L e1 e2 xf no p d H' s => hS C d ww H' e1 e2 xf no (s.obm List.mem_cons_self) (R _ _ _ (p _ s.tail)))
  (fun C ww L e1 e2 e3 xf no p d H' s => hM C d ww H' e1 e2 e3 xf no (s.obm List.mem_cons_self) (R _ _ _ (p _ s.tail)))
  (fun C ww i L e1 xf no hi p d H' s => hV C d (.str ww) i H' e1 xf no hi (s.obm List.mem_cons_self) (R _ _ _ (p _ _ s)))
end
end Ls
namespace Ls
open PySem PySem.Spec PyProof.Rows L2
theorem gv_T {K : PySem.W.Frag} (t : Tst) {q : V → List (As K) → Prop} (h : ∀ a, q (.ref a) [im (.ref a) t.D]) : Gv (K := K) t.D q := by
  cases t <;> exact h
section
variable {K : PySem.W.Frag} {L : List (As K)} {a : Addr} {ts : List Tst}
theorem wk_imT (m : im (.ref a) (.tuple (ts.map Tst.D)) ∈ L) : Wk (Itt K a) L ts.length fun i q => ∀ t, ts[i]? = some t → ∀ b, q (.ref b) [im (.ref b) t.D] :=
  (wk_imm m).mono fun i q hi k t ht => gv_T t (k t ht)
theorem wk_ldT (m : Ls.ld a (ts.map Tst.D) ∈ L) : Wk (Itl K a) L ts.length fun i q => ∀ t, ts[i]? = some t → ∀ b, q (.ref b) [im (.ref b) t.D] :=
  (wk_ldm m).mono fun i q hi k t ht => gv_T t (k t ht)
end
theorem cut1D (x : PyData) (ds : List PyData) : Ls.cutD (x :: ds) (some 1) none = ds := by
  rw [cutD_from (by decide)]
  rfl
def spIsTest (K : PySem.W.Frag) : Sp := fun vs H Q _ => ∃ (a : Addr) (xs : List PyData) (N : Nat) (L : List (As K)), vs = [.ref a] ∧ Ls.Sep L H ∧ im (.ref a) (.tuple xs) ∈ L ∧ Raw N (.tuple xs) ∧ ∀ H', Ls.Sep L H' → Q (.bl (decide (IsT (.tuple xs)))) H'
def spLookT (K : PySem.W.Frag) : Sp := fun vs H Q _ => ∃ (a : Addr) (t : Tst) (L : List (As K)), vs = [.ref a] ∧ Ls.Sep L H ∧ im (.ref a) t.D ∈ L ∧ t.ok ∧ t.deep ≤ 5 ∧ t.parts ≤ 15 ∧ ∀ H', Ls.Sep L H' → Q .non H'
end Ls
namespace Lw
open PySem PySem.Spec PyProof.Rows L2 Ls
theorem ok_is_test {P : Program} {w : World} {K : PySem.W.Frag} {mg : Str → Option Value} {base : Heap} (E : Env K mg w) : FnOk P w K mg base CX0 10 E.a_is_test E.fd_is_test ["test"] (spIsTest K) := by
  refine E.F_is_test.ok sc_is_test (fun vs H Q E h => ?_) (fun cdv A outer s H vs Q E' hr h => ?_)
  · walk_at "hl"
  · have hu := huOf hr
    have G_parts_of := ok_parts_of (P := P) (w := w) (base := base) E 6
    have hr_parts_of := hr.mono (show 9 ≤ 9 by decide)
    have b_parts_of := b_parts_of E
    obtain ⟨a, xs, N, L, rfl, hS, hm, hr', q⟩ := h
    refine ⟨_, PSs.nox (pss_one (ps_ret (pe_chain op_le op_le pe_int (pe_call G_parts_of hr_parts_of rfl E.g_parts_of E.F_parts_of.kp b_parts_of .nil pass0 (pa_cons (pv 0) (pa_cons (pe_gc rfl E.c_DEEPEST) pa_nil))) (pe_gc rfl E.c_MOST_PARTS)))), ?_⟩
    refine k_body (s1 := some _ :: []) rfl ?_
    walk_at "s"
    refine ⟨a, 5, xs, N, _, rfl, by decide, hS, hm, hr', fun H hS => ?_⟩
    walk_at "s"
    by_cases h1 : 1 ≤ partsP 5 (.tuple xs)
    · walk_at "s"
      rw [show decide (partsP 5 (.tuple xs) ≤ 15) = decide (IsT (.tuple xs)) from decide_eq_decide.mpr ⟨fun h => ⟨h1, h⟩, fun h => h.2⟩]
      exact q _ hS
    · rw [decide_eq_false fun h => h1 h.1] at q
      walk_at "s"
      exact q _ hS
theorem ok_look_test {P : Program} {w : World} {K : PySem.W.Frag} {mg : Str → Option Value} {base : Heap} (E : Env K mg w) : FnOk P w K mg base CX0 11 E.a_look_test E.fd_look_test ["test"] (spLookT K) := by
  refine E.F_look_test.ok sc_look_test (fun vs H Q E h => ?_) (fun cdv A outer s H vs Q E' hr h => ?_)
  · walk_at "hl"
  · have hu := huOf hr
    have G_is_test := ok_is_test (P := P) (w := w) (base := base) E
    have hr_is_test := hr.mono (show 10 ≤ 10 by decide)
    have b_is_test := b_is_test E
    obtain ⟨a, t, L, rfl, hS, hm, ho, hd, hp, q⟩ := h
    refine ⟨_, PSs.nox (pss_one (ps_if (pt_not (pt_val (pe_call G_is_test hr_is_test rfl E.g_is_test E.F_is_test.kp b_is_test .nil pass0 (pa_cons (pv 0) pa_nil)))) (pss_one ps_never) pss_nil)), ?_⟩
    refine k_body (s1 := some _ :: []) rfl ?_
    obtain ⟨xs, ex⟩ := t.D_tup
    have hi := isT_of ho hd hp
    have hraw := ok_raw ho hd
    rw [ex] at hm hi hraw
    walk_at "s"
    refine ⟨a, xs, 5, _, rfl, hS, hm, hraw, fun H hS => ?_⟩
    rw [decide_eq_true hi]
    walk_at "s"
    exact q _ hS
theorem okI_ScribeError {P : Program} {w : World} {K : PySem.W.Frag} {mg : Str → Option Value} {base : Heap} (E : Env K mg w) : FnOk P w K mg base CX0 1 E.fi_ScribeError E.fdi_ScribeError ["self", "word"] (spInit1 K) := by
  refine E.FI_ScribeError.ok sc_ScribeError___init__ (fun vs H Q E h => ?_) (fun cdv A outer s H vs Q E' hr h => ?_)
  · obtain ⟨a, C, w, rfl, _⟩ := h
    rfl
  · obtain ⟨a, C, w, rfl, T, no, ha, q⟩ := h
    refine ⟨_, PSs.nox (pss_cons (ps_expr (pe_veinit rfl E.n_ValueError E.vei (pa_cons (pv 0) (pa_cons (pv 1) pa_nil))))
(pss_one (ps_ost (pv 0) (pv 1)))), ?_⟩
    refine k_body (s1 := [some (.ref a), some (.str w)]) rfl ?_
    walk_at "w"
    refine ⟨a, C, [.str w], rfl, by show 1 ≤ 1000; omega, T, ha, ?_⟩
    walk_at "w"
    exact ⟨a, C, rfl, T, no, .inl ⟨ha, fun dx h1 h2 => q dx h1 h2⟩⟩
theorem okI_BadTest {P : Program} {w : World} {K : PySem.W.Frag} {mg : Str → Option Value} {base : Heap} (E : Env K mg w) : FnOk P w K mg base CX0 2 E.fi_BadTest E.fdi_BadTest ["self"] (spInit0 K "badtest") := by
  refine E.FI_BadTest.ok sc_BadTest___init__ (fun vs H Q E h => ?_) (fun cdv A outer s H vs Q E' hr h => ?_)
  · obtain ⟨a, C, rfl, _⟩ := h
    rfl
  · obtain ⟨a, C, rfl, T, no, ha, q⟩ := h
    have GI_ScribeError := okI_ScribeError (P := P) (w := w) (base := base) E
    have hrI_ScribeError := hr.mono (show 1 ≤ 1 by decide)
    have bI_ScribeError := bI_ScribeError E
    refine ⟨_, PSs.nox (pss_one (ps_expr (pe_cfn (pe_glob (v := .ref E.C_ScribeError) rfl E.g_ScribeError rfl) E.r_ScribeError E.v_ScribeError E.FI_ScribeError.kp GI_ScribeError hrI_ScribeError bI_ScribeError pass0 (pa_cons (pv 0) (pa_cons pe_str pa_nil))))), ?_⟩
    refine k_body (s1 := [some (.ref a)]) rfl ?_
    walk_at "w"
    refine ⟨rfl, ?_⟩
    walk_at "w"
    exact ⟨a, C, _, rfl, T, no, ha, q⟩
end Lw
namespace Ls
open PySem PySem.Spec PyProof.Rows L2 TL
def Tst.text : Tst → Str
  | .all => "all"
  | .is n => ("is:" : Str) ++ n
  | .less f k => f ++ ("<" : Str) ++ numS k
  | .same f k => f ++ ("=" : Str) ++ numS k
  | .no a => ("not" : Str) ++ ("(" : Str) ++ Txt.join "," [a.text] ++ (")" : Str)
  | .an a b => ("and" : Str) ++ ("(" : Str) ++ Txt.join "," [a.text, b.text] ++ (")" : Str)
  | .or a b => ("or" : Str) ++ ("(" : Str) ++ Txt.join "," [a.text, b.text] ++ (")" : Str)
theorem text_mk {z : Str} {ts : List Tst} {t : Tst} (h : mkT z ts = some t) : t.text = z ++ ("(" : Str) ++ Txt.join "," (ts.map Tst.text) ++ (")" : Str) := by
  unfold mkT at h
  split at h
  · rename_i e
    split at h
    · cases h
      rw [e]
      rfl
    · cases h
  · split at h
    · rename_i e
      split at h
      · cases h
        rw [e]
        rfl
      · cases h
    · split at h
      · rename_i e
        split at h
        · cases h
          rw [e]
          rfl
        · cases h
      · cases h
theorem sapT (a b : Str) : (a ++ b).length = a.length + b.length := by
  have l : ∀ z : Str, (tl z).length = z.length := fun z => Array.length_toList
  rw [← l, ← l, ← l, tl_append, List.length_append]
theorem join1 (a : Str) : Txt.join "," [a] = a := by
  refine ext_tl ?_
  rw [join_eq, tl_join]
  rfl
theorem join2 (a b : Str) : Txt.join "," [a, b] = a ++ (("," : Str) ++ b) := by
  refine ext_tl ?_
  rw [join_eq, tl_join, tl_append, tl_append]
  rfl
theorem lim_len {k : Int} (h : Lim k) : (numS k).length ≤ 7 := numS_len (k := 6) (by decide) (by have h1 := h.1; have h2 := h.2; omega)
theorem text_len : ∀ {t : Tst}, t.ok → t.text.length ≤ 20 * t.parts := by
  intro t
  have l3 : ("all" : Str).length = 3 := by decide +kernel
  have li : ("is:" : Str).length = 3 := by decide +kernel
  have l1 : ("<" : Str).length = 1 := by decide +kernel
  have l2 : ("=" : Str).length = 1 := by decide +kernel
  have ln : ("not" : Str).length = 3 := by decide +kernel
  have la : ("and" : Str).length = 3 := by decide +kernel
  have lo : ("or" : Str).length = 2 := by decide +kernel
  have lp : ("(" : Str).length = 1 := by decide +kernel
  have lq : (")" : Str).length = 1 := by decide +kernel
  have lc : ("," : Str).length = 1 := by decide +kernel
  induction t with
  | all => intro h; show ("all" : Str).length ≤ 20 * 1; omega
  | is n =>
    intro h
    have h : IsNm n := h
    have := h.2.1
    show (("is:" : Str) ++ n).length ≤ 20 * 1
    rw [sapT]
    omega
  | less f k =>
    intro h
    have h1 : IsNm f := h.1
    have := h1.2.1
    have := lim_len h.2
    show (f ++ ("<" : Str) ++ numS k).length ≤ 20 * 1
    rw [sapT, sapT]
    omega
  | same f k =>
    intro h
    have h1 : IsNm f := h.1
    have := h1.2.1
    have := lim_len h.2
    show (f ++ ("=" : Str) ++ numS k).length ≤ 20 * 1
    rw [sapT, sapT]
    omega
  | no a ih =>
    intro h
    have := ih h
    show (("not" : Str) ++ ("(" : Str) ++ Txt.join "," [a.text] ++ (")" : Str)).length ≤ 20 * (a.parts + 1)
    rw [sapT, sapT, sapT, join1]
    omega
  | an a b i1 i2 =>
    intro h
    have := i1 h.1
    have := i2 h.2
    show (("and" : Str) ++ ("(" : Str) ++ Txt.join "," [a.text, b.text] ++ (")" : Str)).length ≤ 20 * (a.parts + b.parts + 1)
    rw [sapT, sapT, sapT, join2, sapT, sapT]
    omega
  | or a b i1 i2 =>
    intro h
    have := i1 h.1
    have := i2 h.2
    show (("or" : Str) ++ ("(" : Str) ++ Txt.join "," [a.text, b.text] ++ (")" : Str)).length ≤ 20 * (a.parts + b.parts + 1)
    rw [sapT, sapT, sapT, join2, sapT, sapT]
    omega
theorem text_sum {ts : List Tst} (h : ∀ t ∈ ts, t.ok) : ((ts.map Tst.text).map (·.length)).sum ≤ 20 * (ts.map Tst.parts).sum := by
  induction ts with
  | nil => exact Nat.zero_le _
  | cons t ts ih =>
    have h1 := text_len (h t List.mem_cons_self)
    have h2 := ih fun x hx => h x (List.mem_cons_of_mem _ hx)
    simp only [List.map_cons, List.sum_cons]
    simp only [List.map_map] at h2 ⊢
    omega
theorem wordK_is {z : Str} {n : Nat} (h : wordK z = some n) : z = ("not" : Str) ∨ z = ("and" : Str) ∨ z = ("or" : Str) := by
  unfold wordK at h
  split at h
  · rename_i e; exact .inl e
  · split at h
    · rename_i e; exact .inr (.inl e)
    · split at h
      · rename_i e; exact .inr (.inr e)
      · cases h
theorem empT (z : Str) : Str.empty ++ z = z := by
  refine ext_tl ?_
  rw [tl_append]
  rfl
theorem lim_big {k : Int} (h : Lim k) : k.natAbs < 10 ^ 100 := by
  have h1 := h.1
  have h2 := h.2
  have : k.natAbs < 10 ^ 7 := by omega
  exact Nat.lt_of_lt_of_le this (Nat.pow_le_pow_right (by decide) (by decide))
def spTextOf (K : PySem.W.Frag) (n : Nat) : Sp := fun vs H Q _ => ∃ (a : Addr) (t : Tst) (L : List (As K)), vs = [.ref a] ∧ t.ok ∧ t.deep ≤ n + 1 ∧ n ≤ 10 ∧ Ls.Sep L H ∧ im (.ref a) t.D ∈ L ∧ ∀ H', Ls.Sep L H' → Q (.str t.text) H'
def spTextG (K : PySem.W.Frag) : Sp := fun vs H Q E => ∃ (a : Addr) (t : Tst) (L : List (As K)), vs = [.ref a] ∧ Ls.Sep L H ∧ im (.ref a) t.D ∈ L ∧ t.ok ∧ t.deep ≤ 5 ∧ t.parts ≤ 15 ∧ ∀ H', Ls.Sep L H' → Q (.str t.text) H'
end Ls
namespace Lw
open PySem PySem.Spec PyProof.Rows L2 Ls
theorem ok_text_of {P : Program} {w : World} {K : PySem.W.Frag} {mg : Str → Option Value} {base : Heap} (E : Env K mg w) : ∀ n : Nat, FnOk P w K mg base CX0 (1 + n) E.a_text_of E.fd_text_of ["test"] (recSp (spTextOf K) n) := by
  intro n
  induction n with
  | zero => exact E.F_text_of.ok sc_text_of (fun vs H Q E h => h.elim) (fun cdv A outer s H vs Q E' hr h => h.elim)
  | succ n ih =>
  replace ih : FnOk P w K mg base CX0 (1 + n) E.a_text_of E.fd_text_of ["test"] (recSp (spTextOf K) n) := ih
  show FnOk P w K mg base CX0 (1 + n + 1) E.a_text_of E.fd_text_of ["test"] ((spTextOf K) n)
  refine E.F_text_of.ok sc_text_of (fun vs H Q E h => ?_) (fun cdv A outer s H vs Q E' hr h => ?_)
  · walk_at "hl"
  · have hu := huOf hr
    have G_text_of := ih
    have hr_text_of := hr
    have b_text_of := b_text_of E
    obtain ⟨a, t, L, rfl, ho, hd, hn, hS, hm, q⟩ := h
    refine ⟨_, PSs.nox (pss_cons (ps_asg (pv 0) (pg_tupS (n := 1) K rfl (pgs_cons (pg_name (i := 1) sc_text_of.nd rfl (Or.inl rfl)) (pgs_star (pg_name (i := 2) sc_text_of.nd rfl (Or.inl rfl)) pgs_nil))))
(pss_cons (ps_if (pt_cmpR (op_eqU K rfl hu) (pv 1) pe_str (nomark _)) (pss_one (ps_ret pe_str)) pss_nil)
(pss_cons (ps_if (pt_cmpR (op_eqU K rfl hu) (pv 1) pe_str (nomark _)) (pss_one (ps_ret (pe_op (op_addU K rfl) pe_str (pe_ix (ix_U K rfl) (pv 0) pe_int (fun _ _ => rfl))))) pss_nil)
(pss_cons (ps_if (pt_cmpR (op_eqU K rfl hu) (pv 1) pe_str (nomark _)) (pss_one (ps_ret (pe_joined (PJ.cons (pe_fmt (pe_ix (ix_U K rfl) (pv 0) pe_int (fun _ _ => rfl))) (PJ.cons pe_str (PJ.cons (pe_fmt (pe_ix (ix_U K rfl) (pv 0) pe_int (fun _ _ => rfl))) PJ.nil)))))) pss_nil)
(pss_cons (ps_if (pt_cmpR (op_eqU K rfl hu) (pv 1) pe_str (nomark _)) (pss_one (ps_ret (pe_joined (PJ.cons (pe_fmt (pe_ix (ix_U K rfl) (pv 0) pe_int (fun _ _ => rfl))) (PJ.cons pe_str (PJ.cons (pe_fmt (pe_ix (ix_U K rfl) (pv 0) pe_int (fun _ _ => rfl))) PJ.nil)))))) pss_nil)
(pss_cons (ps_set (i := 3) sc_text_of.nd rfl (Or.inl rfl) (pe_joinU K rfl pe_str (pe_lc (own := [("part", 4)]) rfl sc_text_of.nd (pi_seqU K rfl (pv 2)) (blkOk_by (N := ["test", "word", "inner", "within", "part"]) (sc := defScope s_text_of) (by decide +kernel)) (fun _ _ _ _ _ => (pg_name (i := 4) sc_text_of.nd rfl (Or.inl rfl))) (fun _ _ _ _ _ => pts_nil) (fun _ _ _ _ _ => (pe_call G_text_of hr_text_of rfl E.g_text_of E.F_text_of.kp b_text_of .nil pass0 (pa_cons (pv 4) pa_nil))))))
(pss_one (ps_ret (pe_joined (PJ.cons (pe_fmt (pv 1)) (PJ.cons pe_str (PJ.cons (pe_fmt (pv 3)) (PJ.cons pe_str PJ.nil))))))))))))), ?_⟩
    refine k_body (s1 := some _ :: [none, none, none, none]) rfl ?_
    rcases t.view with ⟨z, r, ed, hw, el, hp1, hd1, _⟩ | ⟨z, ts, ed, hw, el, hpp, _, hok, hlt, hmk⟩
    · cases t with
      | all =>
        dsimp only [Tst.D] at hm
        walk_at "s"
        refine k_gtupStar hS (by walk_at "mem") (by show 1 ≤ 1; decide) (by show 1 ≤ 1000; decide) ?_
        show ∀ p H', Ls.Sep (Ls.ld p [] :: ([] ++ L)) H' → _
        intro p H hS
        replace hS : Ls.Sep (Ls.ld p [] :: L) H := hS
        show gCons (gName 1) (gCons (gName 2) gNil) [V.str "all", V.ref p] _ _ _
        walk_at "s"
        rw [if_pos (by decide +kernel)]
        walk_at "s"
        exact q _ (Sub.ok (by walk_at "sub") hS)
      | is n =>
        dsimp only [Tst.D] at hm
        walk_at "s"
        refine k_gtupStar hS (by walk_at "mem") (by show 1 ≤ 2; decide) (by show 2 ≤ 1000; decide) ?_
        show ∀ p H', Ls.Sep (Ls.ld p [PyData.str n] :: ([] ++ L)) H' → _
        intro p H hS
        replace hS : Ls.Sep (Ls.ld p [PyData.str n] :: L) H := hS
        show gCons (gName 1) (gCons (gName 2) gNil) [V.str "is", V.ref p] _ _ _
        have hn : IsNm n := ho
        have hnl := hn.2.1
        have li : ("is:" : Str).length = 3 := by decide +kernel
        walk_at "s"
        rw [if_neg (by decide +kernel)]
        walk_at "s"
        rw [if_pos (by decide +kernel)]
        walk_at "s"
        refine k_addS (by rw [li, sizeLine_eq]; omega) ?_
        exact q _ (Sub.ok (by walk_at "sub") hS)
      | less f k =>
        dsimp only [Tst.D] at hm
        walk_at "s"
        refine k_gtupStar hS (by walk_at "mem") (by show 1 ≤ 3; decide) (by show 3 ≤ 1000; decide) ?_
        show ∀ p H', Ls.Sep (Ls.ld p [PyData.str f, PyData.int k] :: ([] ++ L)) H' → _
        intro p H hS
        replace hS : Ls.Sep (Ls.ld p [PyData.str f, PyData.int k] :: L) H := hS
        show gCons (gName 1) (gCons (gName 2) gNil) [V.str "less", V.ref p] _ _ _
        have hn : IsNm f := ho.1
        have hnl := hn.2.1
        have hk : k.natAbs < 10 ^ 100 := lim_big ho.2
        have hkl := lim_len ho.2
        have li : ("<" : Str).length = 1 := by decide +kernel
        walk_at "s"
        rw [if_neg (by decide +kernel)]
        walk_at "s"
        rw [if_neg (by decide +kernel)]
        walk_at "s"
        rw [if_pos (by decide +kernel)]
        walk_at "s"
        refine k_js (k_fmt ?_)
        walk_at "s"
        refine k_fmtS (by rw [sizeLine_eq]; omega) ?_
        refine k_jst (by rw [empT, sizeLine_eq]; omega) ?_
        rw [empT]
        refine k_js ?_
        refine k_jst (by rw [sapT, li, sizeLine_eq]; omega) ?_
        refine k_js (k_fmt ?_)
        walk_at "s"
        refine k_fmtI hk ?_
        refine k_jst (z := numS k) (by rw [sapT, sapT, li, sizeLine_eq]; omega) ?_
        refine k_js0 ?_
        exact q _ (Sub.ok (by walk_at "sub") hS)
      | same f k =>
        dsimp only [Tst.D] at hm
        walk_at "s"
        refine k_gtupStar hS (by walk_at "mem") (by show 1 ≤ 3; decide) (by show 3 ≤ 1000; decide) ?_
        show ∀ p H', Ls.Sep (Ls.ld p [PyData.str f, PyData.int k] :: ([] ++ L)) H' → _
        intro p H hS
        replace hS : Ls.Sep (Ls.ld p [PyData.str f, PyData.int k] :: L) H := hS
        show gCons (gName 1) (gCons (gName 2) gNil) [V.str "same", V.ref p] _ _ _
        have hn : IsNm f := ho.1
        have hnl := hn.2.1
        have hk : k.natAbs < 10 ^ 100 := lim_big ho.2
        have hkl := lim_len ho.2
        have li : ("=" : Str).length = 1 := by decide +kernel
        walk_at "s"
        rw [if_neg (by decide +kernel)]
        walk_at "s"
        rw [if_neg (by decide +kernel)]
        walk_at "s"
        rw [if_neg (by decide +kernel)]
        walk_at "s"
        rw [if_pos (by decide +kernel)]
        walk_at "s"
        refine k_js (k_fmt ?_)
        walk_at "s"
        refine k_fmtS (by rw [sizeLine_eq]; omega) ?_
        refine k_jst (by rw [empT, sizeLine_eq]; omega) ?_
        rw [empT]
        refine k_js ?_
        refine k_jst (by rw [sapT, li, sizeLine_eq]; omega) ?_
        refine k_js (k_fmt ?_)
        walk_at "s"
        refine k_fmtI hk ?_
        refine k_jst (z := numS k) (by rw [sapT, sapT, li, sizeLine_eq]; omega) ?_
        refine k_js0 ?_
        exact q _ (Sub.ok (by walk_at "sub") hS)
      | no a => exact absurd hd1 (by show a.deep + 1 ≠ 1; have := deep_pos a; omega)
      | an a b => exact absurd hd1 (by show max a.deep b.deep + 1 ≠ 1; have := deep_pos a; omega)
      | or a b => exact absurd hd1 (by show max a.deep b.deep + 1 ≠ 1; have := deep_pos a; omega)
    · rw [ed] at hm
      have hl2 := wordK_le hw
      have hz : z = ("not" : Str) ∨ z = ("and" : Str) ∨ z = ("or" : Str) := wordK_is hw
      have nz : ∀ x : Str, x ≠ ("not" : Str) → x ≠ ("and" : Str) → x ≠ ("or" : Str) → (decide (z = x)) = false := fun x h1 h2 h3 => decide_eq_false fun e => by
        rcases hz with h | h | h
        · exact h1 (e.symm.trans h)
        · exact h2 (e.symm.trans h)
        · exact h3 (e.symm.trans h)
      walk_at "s"
      refine k_gtupStar hS (by walk_at "mem") (by show 1 ≤ _ + 1; omega) (by rw [List.length_cons, List.length_map]; omega) ?_
      show ∀ p H', Ls.Sep (Ls.ld p (ts.map Tst.D) :: ([] ++ L)) H' → _
      intro p H hS
      replace hS : Ls.Sep (Ls.ld p (ts.map Tst.D) :: L) H := hS
      show gCons (gName 1) (gCons (gName 2) gNil) [V.str z, V.ref p] _ _ _
      walk_at "s"
      rw [nz _ (by decide +kernel) (by decide +kernel) (by decide +kernel), if_neg Bool.false_ne_true]
      walk_at "s"
      rw [nz _ (by decide +kernel) (by decide +kernel) (by decide +kernel), if_neg Bool.false_ne_true]
      walk_at "s"
      rw [nz _ (by decide +kernel) (by decide +kernel) (by decide +kernel), if_neg Bool.false_ne_true]
      walk_at "s"
      rw [nz _ (by decide +kernel) (by decide +kernel) (by decide +kernel), if_neg Bool.false_ne_true]
      walk_at "s"
      have htl := text_len ho
      have hts := text_sum (hok ho)
      have hpd := parts_deep t
      have hp11 : 2 ^ t.deep ≤ 2 ^ 11 := Nat.pow_le_pow_right (by decide) (by omega)
      have htx := text_mk hmk
      have lp : ("(" : Str).length = 1 := by decide +kernel
      have lq : (")" : Str).length = 1 := by decide +kernel
      have lc : ("," : Str).length = 1 := by decide +kernel
      have hzl : z.length ≤ 3 := by
        rcases hz with rfl | rfl | rfl <;> decide +kernel
      rename_i ps _
      refine lc_flat (zs := ts) (fun t => [PyData.str t.text]) hS (fun acc => wk_ldT (by walk_at "mem")) (fun j x acc hx hk _ la b => ?_) (fun H hS => ?_)
      · clear hS
        intro H hS
        have hxt := hlt x (List.mem_of_getElem? hx)
        have hj := (List.getElem?_eq_some_iff.mp hx).1
        obtain ⟨n', rfl⟩ : ∃ n', n = n' + 1 := ⟨n - 1, by have := deep_pos x; omega⟩
        walk_at "ls"
        refine ⟨b, x, _, rfl, hok ho x (List.mem_of_getElem? hx), by omega, by omega, hS, by walk_at "mem", fun H hS => ?_⟩
        exact lc_keep hS (d := .str x.text) (.str _) (by walk_at "sub") (by rw [sizeLine_eq]; omega) (hk _ rfl)
      rw [flat_map (fun t : Tst => PyData.str t.text), show (ts.map fun t : Tst => PyData.str t.text) = (ts.map Tst.text).map PyData.str by rw [List.map_map]; rfl] at hS
      walk_at "s"
      refine k_glueS hS (by walk_at "mem") (by rw [lc, List.length_map]; omega) ?_
      have hjl : (Txt.join "," (ts.map Tst.text)).length ≤ t.text.length := by
        rw [htx, sapT, sapT, sapT]
        omega
      walk_at "s"
      refine k_js (k_fmt ?_)
      walk_at "s"
      refine k_fmtS (by rw [sizeLine_eq]; omega) ?_
      refine k_jst (by rw [empT, sizeLine_eq]; omega) ?_
      rw [empT]
      refine k_js ?_
      refine k_jst (by rw [sapT, lp, sizeLine_eq]; omega) ?_
      refine k_js (k_fmt ?_)
      walk_at "s"
      refine k_fmtS (by rw [sizeLine_eq]; omega) ?_
      refine k_jst (by rw [sapT, sapT, lp, sizeLine_eq]; omega) ?_
      refine k_js ?_
      refine k_jst (by rw [sapT, sapT, sapT, lp, lq, sizeLine_eq]; omega) ?_
      refine k_js0 ?_
      rw [← htx]
      exact q _ (Sub.ok (by walk_at "sub") hS)
theorem ok_test_text {P : Program} {w : World} {K : PySem.W.Frag} {mg : Str → Option Value} {base : Heap} (E : Env K mg w) : FnOk P w K mg base CX0 12 E.a_test_text E.fd_test_text ["test"] (spTextG K) := by
  refine E.F_test_text.ok sc_test_text (fun vs H Q E h => ?_) (fun cdv A outer s H vs Q E' hr h => ?_)
  · walk_at "hl"
  · have hu := huOf hr
    have G_look_test := ok_look_test (P := P) (w := w) (base := base) E
    have hr_look_test := hr.mono (show 11 ≤ 11 by decide)
    have b_look_test := b_look_test E
    have G_text_of := ok_text_of (P := P) (w := w) (base := base) E 6
    have hr_text_of := hr.mono (show 7 ≤ 11 by decide)
    have b_text_of := b_text_of E
    obtain ⟨a, t, L, rfl, hS, hm, ho, hd, hp, q⟩ := h
    refine ⟨_, PSs.nox (pss_cons (ps_expr (pe_call G_look_test hr_look_test rfl E.g_look_test E.F_look_test.kp b_look_test .nil pass0 (pa_cons (pv 0) pa_nil)))
(pss_one (ps_ret (pe_call G_text_of hr_text_of rfl E.g_text_of E.F_text_of.kp b_text_of .nil pass0 (pa_cons (pv 0) pa_nil))))), ?_⟩
    refine k_body (s1 := some _ :: []) rfl ?_
    walk_at "s"
    refine ⟨a, t, _, rfl, hS, hm, ho, hd, hp, fun H hS => ?_⟩
    walk_at "s"
    refine ⟨a, t, _, rfl, ho, by show t.deep ≤ 6; omega, by decide, hS, hm, fun H hS => ?_⟩
    exact q _ hS
end Lw
namespace Ls
open PySem PySem.Spec PyProof.Rows L2 TL
def fcom : List Nat → Int → Option Nat
  | [], _ => none
  | c :: cs, d => if c = 40 then (fcom cs (d + 1)).map (· + 1) else if c = 41 then (fcom cs (d - 1)).map (· + 1) else if c = 44 ∧ d = 0 then some 0 else (fcom cs d).map (· + 1)
def Fsk (k : Int) (l : List Nat) : Prop := ∀ (d : Int) (rest : List Nat), k ≤ d → fcom (l ++ rest) d = (fcom rest d).map (· + l.length)
theorem om_add (o : Option Nat) (m n : Nat) : (o.map (· + m)).map (· + n) = o.map (· + (m + n)) := by
  cases o with
  | none => rfl
  | some x => exact congrArg some (by show x + m + n = x + (m + n); omega)
theorem om_zero (o : Option Nat) : o.map (· + 0) = o := by cases o <;> rfl
theorem Fsk.nil {k : Int} : Fsk k [] := fun d rest _ => (om_zero _).symm
theorem Fsk.app {k : Int} {l m : List Nat} (h1 : Fsk k l) (h2 : Fsk k m) : Fsk k (l ++ m) := fun d rest hd => by
  rw [List.append_assoc, h1 d _ hd, h2 d rest hd, om_add, List.length_append, Nat.add_comm]
theorem Fsk.one {k : Int} {c : Nat} (h1 : c ≠ 40) (h2 : c ≠ 41) (h3 : c ≠ 44) : Fsk k [c] := fun d rest hd => by
  show fcom (c :: rest) d = _
  rw [fcom, if_neg h1, if_neg h2, if_neg fun z => h3 z.1]
  rfl
theorem Fsk.com {k : Int} (hk : 1 ≤ k) : Fsk k [44] := fun d rest hd => by
  show fcom (44 :: rest) d = _
  rw [fcom, if_neg (by decide), if_neg (by decide), if_neg fun z => by have := z.2; omega]
  rfl
theorem Fsk.plain {k : Int} : ∀ {l : List Nat}, (∀ c ∈ l, c ≠ 40 ∧ c ≠ 41 ∧ c ≠ 44) → Fsk k l
  | [], _ => .nil
  | c :: l, h => by
    have hc := h c List.mem_cons_self
    exact Fsk.app (l := [c]) (.one hc.1 hc.2.1 hc.2.2) (Fsk.plain fun x hx => h x (List.mem_cons_of_mem _ hx))
theorem Fsk.up {l : List Nat} (h : Fsk 0 l) : Fsk 1 l := fun d rest hd => h d rest (by omega)
theorem Fsk.br {l : List Nat} (h : Fsk 1 l) : Fsk 0 (40 :: (l ++ [41])) := fun d rest hd => by
  rw [List.cons_append, fcom, if_pos rfl, List.append_assoc, h (d + 1) _ (by omega)]
  show Option.map (· + 1) (Option.map (· + l.length) (fcom (41 :: rest) (d + 1))) = _
  rw [fcom, if_neg (by decide), if_pos rfl, show d + 1 - 1 = d by omega, om_add, om_add]
  congr 1
  funext x
  rw [List.length_cons, List.length_append, List.length_singleton]
  omega
theorem nm_plain {z : Str} (h : IsNm z) : ∀ c ∈ tl z, c ≠ 40 ∧ c ≠ 41 ∧ c ≠ 44 := fun c hc => by
  have := h.2.2 c hc
  omega
theorem num_plain (i : Int) : ∀ c ∈ tl (numS i), c ≠ 40 ∧ c ≠ 41 ∧ c ≠ 44 := fun c hc => by
  rcases numS_sg i c hc with rfl | h
  · decide
  · unfold IsDg at h
    omega
theorem lit_is : ∀ c ∈ tl ("is:" : Str), c ≠ 40 ∧ c ≠ 41 ∧ c ≠ 44 := by decide +kernel
theorem lit_lt : ∀ c ∈ tl ("<" : Str), c ≠ 40 ∧ c ≠ 41 ∧ c ≠ 44 := by decide +kernel
theorem lit_eq : ∀ c ∈ tl ("=" : Str), c ≠ 40 ∧ c ≠ 41 ∧ c ≠ 44 := by decide +kernel
/-- a leaf's text has no bracket and no comma -/
theorem leaf_plain {t : Tst} (ho : t.ok) (hd : t.deep = 1) : ∀ c ∈ tl t.text, c ≠ 40 ∧ c ≠ 41 ∧ c ≠ 44 := by
  cases t with
  | all => exact fun c hc => by revert c; decide +kernel
  | is n =>
    intro c hc
    have hc : c ∈ tl (("is:" : Str) ++ n) := hc
    rw [tl_append] at hc
    rcases List.mem_append.mp hc with hc | hc
    · exact lit_is c hc
    · exact nm_plain ho c hc
  | less f k =>
    intro c hc
    have hc : c ∈ tl (f ++ ("<" : Str) ++ numS k) := hc
    rw [tl_append, tl_append] at hc
    rcases List.mem_append.mp hc with hc | hc
    · rcases List.mem_append.mp hc with hc | hc
      · exact nm_plain ho.1 c hc
      · exact lit_lt c hc
    · exact num_plain k c hc
  | same f k =>
    intro c hc
    have hc : c ∈ tl (f ++ ("=" : Str) ++ numS k) := hc
    rw [tl_append, tl_append] at hc
    rcases List.mem_append.mp hc with hc | hc
    · rcases List.mem_append.mp hc with hc | hc
      · exact nm_plain ho.1 c hc
      · exact lit_eq c hc
    · exact num_plain k c hc
  | no a => exact absurd hd (by have := deep_pos a; show a.deep + 1 ≠ 1; omega)
  | an a b => exact absurd hd (by have := deep_pos a; show max a.deep b.deep + 1 ≠ 1; omega)
  | or a b => exact absurd hd (by have := deep_pos a; show max a.deep b.deep + 1 ≠ 1; omega)
theorem tl_no (a : Tst) : tl (Tst.no a).text = tl ("not" : Str) ++ 40 :: (tl a.text ++ [41]) := by
  show tl (("not" : Str) ++ ("(" : Str) ++ Txt.join "," [a.text] ++ (")" : Str)) = _
  rw [join1, tl_append, tl_append, tl_append, List.append_assoc, List.append_assoc]
  rfl
theorem tl_an (a b : Tst) : tl (Tst.an a b).text = tl ("and" : Str) ++ 40 :: ((tl a.text ++ 44 :: tl b.text) ++ [41]) := by
  show tl (("and" : Str) ++ ("(" : Str) ++ Txt.join "," [a.text, b.text] ++ (")" : Str)) = _
  rw [join2, tl_append, tl_append, tl_append, tl_append, tl_append, List.append_assoc, List.append_assoc]
  rfl
theorem tl_or (a b : Tst) : tl (Tst.or a b).text = tl ("or" : Str) ++ 40 :: ((tl a.text ++ 44 :: tl b.text) ++ [41]) := by
  show tl (("or" : Str) ++ ("(" : Str) ++ Txt.join "," [a.text, b.text] ++ (")" : Str)) = _
  rw [join2, tl_append, tl_append, tl_append, tl_append, tl_append, List.append_assoc, List.append_assoc]
  rfl
theorem text_skip : ∀ {t : Tst}, t.ok → Fsk 0 (tl t.text) := by
  intro t
  induction t with
  | no a ih =>
    intro ho
    rw [tl_no]
    exact Fsk.app (.plain (by decide +kernel)) (Fsk.br (ih ho).up)
  | an a b ia ib =>
    intro ho
    rw [tl_an]
    exact Fsk.app (.plain (by decide +kernel)) (Fsk.br (Fsk.app (ia ho.1).up (Fsk.app (l := [44]) (.com (Int.le_refl _)) (ib ho.2).up)))
  | or a b ia ib =>
    intro ho
    rw [tl_or]
    exact Fsk.app (.plain (by decide +kernel)) (Fsk.br (Fsk.app (ia ho.1).up (Fsk.app (l := [44]) (.com (Int.le_refl _)) (ib ho.2).up)))
  | _ => exact fun ho => .plain (leaf_plain ho rfl)
theorem fcom_two {a b : Tst} (ha : a.ok) : fcom (tl a.text ++ 44 :: tl b.text) 0 = some (tl a.text).length := by
  rw [text_skip ha 0 _ (Int.le_refl _), fcom, if_neg (by decide), if_neg (by decide), if_pos ⟨rfl, rfl⟩]
  exact congrArg some (Nat.zero_add _)
end Ls
namespace Ls
open PySem PySem.Spec PyProof.Rows L2 TL
theorem sg1 (c k : Nat) : decide ((⟨#[c]⟩ : Str) = ⟨#[k]⟩) = decide (c = k) := by
  refine decide_eq_decide.mpr ⟨fun e => ?_, fun e => by rw [e]⟩
  have h6 : [c] = [k] := congrArg (fun s : Str => s.cps.toList) e
  exact (List.cons.inj h6).1
def prtQ {K : PySem.W.Frag} (z : Str) (L : List (As K)) (Q : VK) : Option Nat → Prop
  | none => ∀ H', Ls.Sep L H' → Q .non H'
  | some i => ∀ a H', Ls.Sep (ld a [.str (cutS z none (some (i : Int))), .str (cutS z (some ((i : Int) + 1)) none)] :: L) H' → Q (.ref a) H'
def spParted (K : PySem.W.Frag) : Sp := fun vs H Q _ => ∃ (z : Str) (L : List (As K)), vs = [.str z] ∧ z.length ≤ 1000000 ∧ Ls.Sep L H ∧ prtQ z L Q (fcom (tl z) 0)
end Ls
namespace Lw
open PySem PySem.Spec PyProof.Rows L2 Ls TL
theorem ok_parted_at {P : Program} {w : World} {K : PySem.W.Frag} {mg : Str → Option Value} {base : Heap} (E : Env K mg w) : FnOk P w K mg base CX0 1 E.a_parted_at E.fd_parted_at ["text"] (spParted K) := by
  refine E.F_parted_at.ok sc_parted_at (fun vs H Q E h => ?_) (fun cdv A outer s H vs Q E' hr h => ?_)
  · walk_at "hl"
  · have hu := huOf hr
    obtain ⟨z, L, rfl, hz, hS, q⟩ := h
    refine ⟨_, PSs.nox (pss_cons (ps_set (i := 1) sc_parted_at.nd rfl (Or.inl rfl) pe_int)
(pss_cons (ps_for PassesOwn.never rfl (pi_enumS rfl E.n_enumerate (pa_cons (pv 0) pa_nil)) (kGTup (n := 2) K rfl (pg_tup rfl (pgs_cons (pg_name (i := 2) sc_parted_at.nd rfl (Or.inl rfl)) (pgs_cons (pg_name (i := 3) sc_parted_at.nd rfl (Or.inl rfl)) pgs_nil))))
(pss_one (ps_if (pt_cmpR (op_eqU K rfl hu) (pv 3) pe_str (nomark _)) (pss_one (ps_aug (i := 1) sc_parted_at.nd rfl (Or.inl rfl) pe_int ip_add)) (pss_one (ps_if (pt_cmpR (op_eqU K rfl hu) (pv 3) pe_str (nomark _)) (pss_one (ps_aug (i := 1) sc_parted_at.nd rfl (Or.inl rfl) pe_int ip_sub)) (pss_one (ps_if (PW.pt (pw_and (pt_cmpR (op_eqU K rfl hu) (pv 3) pe_str (nomark _)) (pw_and1 (pt_cmpR (op_eqU K rfl hu) (pv 1) pe_int (nomark _))))) (pss_one (ps_ret (pe_lst (pa_cons (pe_slice (sl_U K rfl) (pv 0) po_none (po_some (pv 2))) (pa_cons (pe_slice (sl_U K rfl) (pv 0) (po_some (pe_op (op_addU K rfl) (pv 2) pe_int)) po_none) pa_nil))))) pss_nil)))))))
(pss_one (ps_ret pe_non)))), ?_⟩
    refine k_body (s1 := some _ :: [none, none, none]) rfl ?_
    have lz : (tl z).length = z.length := Array.length_toList
    walk_at "s"
    refine k_enumS ?_
    walk_at "s"
    refine k_enS ?_
    refine for_wk (n := z.cps.toList.length) (Y := fun i q => ∀ c T, z.cps.toList[i]? = some c → q (.ref T) [im (.ref T) (.tuple [.int (i : Nat), .str (⟨#[c]⟩ : Str)])]) (fun i σ L' => L' = L ∧ ∃ (d : Int) (c2 c3 : Option V), σ = [some (.str z), some (.int d), c2, c3] ∧ fcom (tl z) 0 = (fcom ((tl z).drop i) d).map (· + i)) (fun i σ L' _ => wk_enS) hS ⟨rfl, 0, _, _, rfl, (om_zero _).symm⟩ (fun i σ L' hi iv c T hc => ?_) (fun σ L' H iv => ?_)
    · obtain ⟨rfl, d, c2, c3, rfl, hf⟩ := iv
      have hdr : (tl z).drop i = c :: (tl z).drop (i + 1) := by
        obtain ⟨h1, h2⟩ := List.getElem?_eq_some_iff.mp hc
        rw [← h2]
        exact List.drop_eq_getElem_cons h1
      rw [hdr, fcom] at hf
      have hz2 : (40 : Nat) ≠ 41 := by decide
      clear hS
      intro H hS
      walk_at "ns"
      walk_at "s"
      rw [show (Str.ofString "(") = ⟨#[40]⟩ from rfl, sg1]
      by_cases h1 : c = 40
      · rw [if_pos h1, om_add] at hf
        rw [if_pos (decide_eq_true h1)]
        walk_at "s"
        exact ⟨_, ⟨rfl, _, _, _, rfl, by rw [hf, Nat.add_comm]⟩, Sub.ok (by walk_at "sub") hS⟩
      rw [if_neg h1] at hf
      rw [if_neg (by rw [decide_eq_false h1]; exact Bool.false_ne_true)]
      walk_at "s"
      rw [show (Str.ofString ")") = ⟨#[41]⟩ from rfl, sg1]
      by_cases h2 : c = 41
      · rw [if_pos h2, om_add] at hf
        rw [if_pos (decide_eq_true h2)]
        walk_at "s"
        exact ⟨_, ⟨rfl, _, _, _, rfl, by rw [hf, Nat.add_comm]⟩, Sub.ok (by walk_at "sub") hS⟩
      rw [if_neg h2] at hf
      rw [if_neg (by rw [decide_eq_false h2]; exact Bool.false_ne_true)]
      walk_at "s"
      rw [show (Str.ofString ",") = ⟨#[44]⟩ from rfl, sg1]
      have go : ∀ {h : ¬ (c = 44 ∧ d = 0)}, fcom (tl z) 0 = (fcom ((tl z).drop (i + 1)) d).map (· + (i + 1)) := fun {h} => by
        rw [if_neg h, om_add] at hf
        rw [hf, Nat.add_comm]
      by_cases h3 : c = 44
      · rw [if_pos (decide_eq_true h3)]
        walk_at "s"
        by_cases h4 : d = 0
        · rw [if_pos ⟨h3, h4⟩] at hf
          rw [hf] at q
          rw [if_pos (decide_eq_true h4)]
          walk_at "s"
          refine k_slStr (by rw [sizeLine_eq]; omega) ?_
          walk_at "s"
          refine k_slStr (by rw [sizeLine_eq]; omega) ?_
          walk_at "s"
          have q2 : prtQ z L' Q (some i) := by
            have e : Option.map (fun x => x + i) (some 0) = some i := congrArg some (Nat.zero_add i)
            rw [e] at q
            exact q
          exact q2 _ _ (Sub.ok (by walk_at "sub") hS)
        · rw [if_neg (by rw [decide_eq_false h4]; exact Bool.false_ne_true)]
          walk_at "s"
          exact ⟨_, ⟨rfl, _, _, _, rfl, go (h := fun z => h4 z.2)⟩, Sub.ok (by walk_at "sub") hS⟩
      · rw [if_neg (by rw [decide_eq_false h3]; exact Bool.false_ne_true)]
        walk_at "s"
        exact ⟨_, ⟨rfl, _, _, _, rfl, go (h := fun z => h3 z.1)⟩, Sub.ok (by walk_at "sub") hS⟩
    · obtain ⟨rfl, d, c2, c3, rfl, hf⟩ := iv
      rw [List.drop_of_length_le (Nat.le_of_eq rfl)] at hf
      rw [hf] at q
      clear hS
      intro hS
      walk_at "s"
      exact q _ hS
end Lw
namespace Ls
open PySem PySem.Spec PyProof.Rows L2 TL
theorem cutS_to (z : Str) (k : Nat) : tl (cutS z none (some (k : Int))) = (tl z).take k := by
  show ((z.cps.toList.drop 0).take (HT.sIx z.length z.length (some (k : Int)) - 0)).toArray.toList = _
  rw [HT.sIx_nat, List.drop_zero, Nat.sub_zero, List.toList_toArray]
  have e : z.cps.toList.length = z.length := Array.length_toList
  show _ = z.cps.toList.take k
  rcases Nat.lt_or_ge z.length k with h | h
  · rw [Nat.min_eq_right (by omega), List.take_of_length_le (by omega), List.take_of_length_le (by omega)]
  · rw [Nat.min_eq_left h]
theorem cutS_from (z : Str) (k : Nat) : tl (cutS z (some (k : Int)) none) = (tl z).drop k := by
  show ((z.cps.toList.drop (HT.sIx z.length 0 (some (k : Int)))).take (z.length - HT.sIx z.length 0 (some (k : Int)))).toArray.toList = _
  rw [HT.sIx_nat, List.toList_toArray]
  have e : z.cps.toList.length = z.length := Array.length_toList
  show _ = z.cps.toList.drop k
  rcases Nat.lt_or_ge z.length k with h | h
  · rw [Nat.min_eq_right (by omega), List.drop_of_length_le (by omega), List.drop_of_length_le (by omega), List.take_nil]
  · rw [Nat.min_eq_left h, List.take_of_length_le (by rw [List.length_drop]; omega)]
theorem cutS_to3 (z : Str) : tl (cutS z none (some 3)) = (tl z).take 3 := cutS_to z 3
theorem cutS_from3 (z : Str) : tl (cutS z (some 3) none) = (tl z).drop 3 := cutS_from z 3
theorem cutS_mid (z : Str) (k : Nat) : tl (cutS z (some (k : Int)) (some (-1))) = ((tl z).dropLast).drop k := by
  show ((z.cps.toList.drop (HT.sIx z.length 0 (some (k : Int)))).take (HT.sIx z.length z.length (some (-1)) - HT.sIx z.length 0 (some (k : Int)))).toArray.toList = _
  have e2 : HT.sIx z.length z.length (some (-1)) = z.length - 1 := by
    show (if (-1 : Int) < 0 then ((-1 : Int) + (z.length : Int)).toNat else min (-1 : Int).toNat z.length) = z.length - 1
    rw [if_pos (by decide)]
    omega
  rw [HT.sIx_nat, e2, List.toList_toArray]
  have e : z.cps.toList.length = z.length := Array.length_toList
  show _ = (z.cps.toList.dropLast).drop k
  rw [List.dropLast_eq_take, e]
  rcases Nat.lt_or_ge z.length k with h | h
  · rw [Nat.min_eq_right (by omega), List.drop_of_length_le (by omega), List.take_nil, List.drop_of_length_le (by rw [List.length_take]; omega)]
  · rw [Nat.min_eq_left h, List.drop_take]
theorem cutS_sub (z : Str) (lo hi : Option Int) : ∀ c ∈ tl (cutS z lo hi), c ∈ tl z := fun c hc => by
  unfold cutS at hc
  replace hc : c ∈ ((z.cps.toList.drop (HT.sIx z.length 0 lo)).take (HT.sIx z.length z.length hi - HT.sIx z.length 0 lo)).toArray.toList := hc
  rw [List.toList_toArray] at hc
  exact List.mem_of_mem_drop (List.mem_of_mem_take hc)
theorem cutS_len (z : Str) (lo hi : Option Int) : (cutS z lo hi).length ≤ z.length := by
  show ((z.cps.toList.drop (HT.sIx z.length 0 lo)).take (HT.sIx z.length z.length hi - HT.sIx z.length 0 lo)).toArray.size ≤ _
  rw [List.size_toArray, List.length_take, List.length_drop]
  have e : z.cps.toList.length = z.length := Array.length_toList
  omega
/-- a text of bounded length of true signs -/
def Tx (z : Str) : Prop := z.length ≤ 1000 ∧ PyData.strOk z = true
theorem strOk_sub {y z : Str} (h : ∀ c ∈ tl y, c ∈ tl z) (k : PyData.strOk z = true) : PyData.strOk y = true := by
  unfold PyData.strOk at k ⊢
  rw [← Array.all_toList, List.all_eq_true] at k ⊢
  exact fun c hc => k c (h c hc)
theorem Tx.cut {z : Str} (h : Tx z) (lo hi : Option Int) : Tx (cutS z lo hi) := ⟨Nat.le_trans (cutS_len z lo hi) h.1, strOk_sub (cutS_sub z lo hi) h.2⟩
theorem tl_strSub2 (z : Str) (i j : Nat) : (∀ c ∈ tl (PySem.Builtin.Str.strSub z i j), c ∈ tl z) ∧ (PySem.Builtin.Str.strSub z i j).length ≤ z.length := by
  have e : (tl (PySem.Builtin.Str.strSub z i j)).length = (PySem.Builtin.Str.strSub z i j).length := Array.length_toList
  have e2 : (tl z).length = z.length := Array.length_toList
  rw [← e, ← e2, tl_strSub]
  exact ⟨fun c hc => List.mem_of_mem_drop (List.mem_of_mem_take hc), by rw [List.length_take, List.length_drop]; omega⟩
theorem part_sub (x y : Str) : ((∀ c ∈ tl (Txt.partition x y).1, c ∈ tl x) ∧ (Txt.partition x y).1.length ≤ x.length) ∧ (∀ c ∈ tl (Txt.partition x y).2.2, c ∈ tl x) ∧ (Txt.partition x y).2.2.length ≤ x.length := by
  rcases PyProof.Rows.partition_whole x y with ⟨e, _⟩ | ⟨i, e, _⟩
  · rw [e]
    exact ⟨⟨fun c h => h, Nat.le_refl _⟩, ⟨fun c h => by exact (List.not_mem_nil (h : c ∈ ([] : List Nat))).elim, Nat.zero_le _⟩⟩
  · rw [e]
    exact ⟨tl_strSub2 x _ _, tl_strSub2 x _ _⟩
def sgLeaf (mk : Str → Int → Tst) (m z : Str) : Option Tst := if (Txt.partition z m).2.1 = ("" : Str) then none else (numIn 6 (Txt.partition z m).2.2).map (mk (Txt.partition z m).1)
/-- the leaf that a text writes -/
def leafR (z : Str) : Option Tst :=
  if z = ("all" : Str) then some .all else if cutS z none (some 3) = ("is:" : Str) then some (.is (cutS z (some 3) none)) else (sgLeaf .less "<" z).or (sgLeaf .same "=" z)
def wordsR : List Str := ["not", "and", "or"]
def hitW (z w : Str) : Bool := Txt.startswith z (w ++ ("(" : Str)) && Txt.endswith z (")" : Str)
def innerR (w z : Str) : Str := cutS z (some ((w.length : Int) + 1)) (some (-1))
def halvesR (w z : Str) : Option (List Str) := if w = ("not" : Str) then some [z] else (fcom (tl z) 0).map fun i : Nat => [cutS z none (some (i : Int)), cutS z (some ((i : Int) + 1)) none]
/-- the test that a text writes, at most so deep -/
def testR : Nat → Str → Option Tst
  | 0, _ => none
  | n + 1, z => match wordsR.find? (hitW z) with
    | none => leafR z
    | some w => (halvesR w (innerR w z)).bind fun hs => (hs.mapM (testR n)).bind (mkT w)
def readR (z : Str) : Option Tst := (testR 5 z).filter fun t => decide (IsT t.D)
/-- a sign that no name, no number and not the mark has -/
theorem cmp_no {f sg : Str} {k : Int} {c : Nat} (hf : IsNm f) (h1 : ¬ (48 ≤ c ∧ c ≤ 57)) (h2 : ¬ (97 ≤ c ∧ c ≤ 122)) (h3 : c ≠ 45) (h4 : c ∉ tl sg) : c ∉ tl (f ++ sg ++ numS k) := fun h => by
  rw [tl_append, tl_append] at h
  rcases List.mem_append.mp h with h | h
  · rcases List.mem_append.mp h with h | h
    · exact h2 (hf.2.2 c h)
    · exact h4 h
  · rcases numS_sg k c h with h | h
    · exact h3 h
    · exact h1 h
theorem cmp_nall {f sg : Str} {k : Int} {m : Nat} (hm : m ∈ tl sg) (h : m ≠ 97 ∧ m ≠ 108) : ¬ f ++ sg ++ numS k = Str.ofString "all" := fun e => by
  have h1 : m ∈ tl (Str.ofString "all") := by
    rw [← e, tl_append, tl_append]
    exact List.mem_append.mpr (.inl (List.mem_append.mpr (.inr hm)))
  have h2 : m = 97 ∨ m = 108 ∨ m = 108 := by
    have h3 : m ∈ [97, 108, 108] := h1
    simpa using h3
  omega
theorem cmp_nis {f sg : Str} {k : Int} (hf : IsNm f) (h4 : (58 : Nat) ∉ tl sg) : ¬ cutS (f ++ sg ++ numS k) none (some 3) = Str.ofString "is:" := fun e => by
  have h1 : (58 : Nat) ∈ tl (cutS (f ++ sg ++ numS k) none (some 3)) := by
    rw [e]
    decide +kernel
  rw [cutS_to3] at h1
  exact cmp_no hf (by omega) (by omega) (by omega) h4 (List.mem_of_mem_take h1)
theorem num6 {k : Int} (h : Lim k) : numIn 6 (numS k) = some k := num_in (k := 6) (by decide) (by have := h.1; have := h.2; show k.natAbs < 1000000; omega) (by decide) (by decide)
theorem sg_hit {mk : Str → Int → Tst} {f m : Str} {s : Nat} {k : Int} (em : tl m = [s]) (hs : ¬ (97 ≤ s ∧ s ≤ 122)) (hf : IsNm f) (hk : Lim k) : sgLeaf mk m (f ++ m ++ numS k) = some (mk f k) := by
  unfold sgLeaf
  rw [partition_app (S := []) em (fun h => hs (hf.2.2 s h))]
  show (if m = ("" : Str) then none else (numIn 6 (numS k)).map (mk f)) = _
  rw [if_neg (fun e => by rw [e] at em; cases em), num6 hk]
  rfl
theorem sg_miss {mk : Str → Int → Tst} {z m : Str} {s : Nat} (em : tl m = [s]) (h : s ∉ tl z) : sgLeaf mk m z = none := by
  unfold sgLeaf
  rw [partition_none (S := []) em h]
  exact if_pos rfl
theorem leafR_text {t : Tst} (ho : t.ok) (hd : t.deep = 1) : leafR t.text = some t := by
  unfold leafR
  cases t with
  | all => exact if_pos rfl
  | is n =>
    have e0 : tl (Tst.is n).text = tl ("is:" : Str) ++ tl n := tl_append _ _
    have h1 : ¬ (Tst.is n).text = Str.ofString "all" := fun e => by
      have h := congrArg (fun z => (tl z).head?) e
      replace h : (tl (Tst.is n).text).head? = (tl (Str.ofString "all")).head? := h
      rw [e0] at h
      have h : (some 105 : Option Nat) = some 97 := h
      cases h
    have h2 : cutS (Tst.is n).text none (some 3) = Str.ofString "is:" := ext_tl (by
      rw [cutS_to3, e0]
      rfl)
    have h3 : cutS (Tst.is n).text (some 3) none = n := ext_tl (by
      rw [cutS_from3, e0]
      rfl)
    rw [if_neg h1, if_pos h2]
    exact congrArg (fun z => some (Tst.is z)) h3
  | less f k =>
    have e0 : (Tst.less f k).text = f ++ ("<" : Str) ++ numS k := rfl
    rw [e0, if_neg (cmp_nall (m := 60) (by decide +kernel) (by omega)), if_neg (cmp_nis (sg := "<") ho.1 (by decide +kernel)), sg_hit (s := 60) (by decide +kernel) (by omega) ho.1 ho.2]
    rfl
  | same f k =>
    have e0 : (Tst.same f k).text = f ++ ("=" : Str) ++ numS k := rfl
    rw [e0, if_neg (cmp_nall (m := 61) (by decide +kernel) (by omega)), if_neg (cmp_nis (sg := "=") ho.1 (by decide +kernel)), sg_miss (s := 60) (by decide +kernel) (cmp_no ho.1 (by omega) (by omega) (by omega) (by decide +kernel)), sg_hit (s := 61) (by decide +kernel) (by omega) ho.1 ho.2]
    rfl
  | no a => exact absurd hd (by have := deep_pos a; show a.deep + 1 ≠ 1; omega)
  | an a b => exact absurd hd (by have := deep_pos a; show max a.deep b.deep + 1 ≠ 1; omega)
  | or a b => exact absurd hd (by have := deep_pos a; show max a.deep b.deep + 1 ≠ 1; omega)
theorem hit_of {z w : Str} {r : List Nat} (h : tl z = tl w ++ 40 :: (r ++ [41])) : hitW z w = true := by
  have e : tl (w ++ ("(" : Str)) = tl w ++ [40] := tl_append _ _
  unfold hitW
  rw [starts_app (r := r ++ [41]) (by rw [e]; simp) (by rw [e, h, List.append_assoc]; rfl), ends_app (y := (")" : Str)) (r := tl w ++ 40 :: r) (by exact List.cons_ne_nil _ _) (by rw [h, List.append_assoc]; rfl)]
  rfl
theorem inner_of {z w : Str} {r : List Nat} (h : tl z = tl w ++ 40 :: (r ++ [41])) : tl (innerR w z) = r := by
  have e : tl (innerR w z) = ((tl z).dropLast).drop (w.length + 1) := cutS_mid z (w.length + 1)
  have e2 : (tl w).length = w.length := Array.length_toList
  rw [e, h, show tl w ++ 40 :: (r ++ [41]) = (tl w ++ [40] ++ r) ++ [41] by simp, List.dropLast_concat]
  exact List.drop_left' (by rw [List.length_append, e2]; rfl)
theorem hit_no {z w : Str} (h : Txt.startswith z (w ++ ("(" : Str)) = false) : hitW z w = false := by
  unfold hitW
  rw [h]
  rfl
theorem leaf_nohit {t : Tst} (ho : t.ok) (hd : t.deep = 1) (w : Str) : hitW t.text w = false := hit_no (starts_no (c := 40) (by rw [tl_append]; exact List.mem_append.mpr (.inr List.mem_cons_self)) fun h => (leaf_plain ho hd 40 h).1 rfl)
theorem find_noR {t : Tst} (ho : t.ok) (hd : t.deep = 1) : wordsR.find? (hitW t.text) = none := List.find?_eq_none.mpr fun w _ => by rw [leaf_nohit ho hd w]; exact Bool.false_ne_true
theorem find_1R {z : Str} (h : hitW z "not" = true) : wordsR.find? (hitW z) = some ("not" : Str) := by
  show List.find? (hitW z) (("not" : Str) :: _) = _
  rw [List.find?_cons, h]
theorem find_2R {z : Str} (h0 : hitW z "not" = false) (h : hitW z "and" = true) : wordsR.find? (hitW z) = some ("and" : Str) := by
  show List.find? (hitW z) (("not" : Str) :: ("and" : Str) :: _) = _
  rw [List.find?_cons, h0, List.find?_cons, h]
theorem find_3R {z : Str} (h0 : hitW z "not" = false) (h1 : hitW z "and" = false) (h : hitW z "or" = true) : wordsR.find? (hitW z) = some ("or" : Str) := by
  show List.find? (hitW z) (("not" : Str) :: ("and" : Str) :: ("or" : Str) :: []) = _
  rw [List.find?_cons, h0, List.find?_cons, h1, List.find?_cons, h]
theorem halves_two {w z : Str} {a b : Tst} (hw : w ≠ ("not" : Str)) (ha : a.ok) (h : tl z = tl a.text ++ 44 :: tl b.text) : halvesR w z = some [a.text, b.text] := by
  unfold halvesR
  rw [if_neg hw, h, fcom_two ha]
  have e1 : cutS z none (some (((tl a.text).length : Nat) : Int)) = a.text := ext_tl (by rw [cutS_to, h, List.take_left' rfl])
  have e2 : cutS z (some ((((tl a.text).length : Nat) : Int) + 1)) none = b.text := ext_tl (by
    have := cutS_from z ((tl a.text).length + 1)
    rw [Int.natCast_add] at this
    refine this.trans ?_
    rw [h, show tl a.text ++ 44 :: tl b.text = (tl a.text ++ [44]) ++ tl b.text by simp]
    exact List.drop_left' (by rw [List.length_append]; rfl))
  show some [cutS z none (some (((tl a.text).length : Nat) : Int)), cutS z (some ((((tl a.text).length : Nat) : Int) + 1)) none] = _
  rw [e1, e2]
theorem testR_text : ∀ {n : Nat} {t : Tst}, t.ok → testR n t.text = if t.deep ≤ n then some t else none
  | 0, t, _ => by rw [if_neg (by have := deep_pos t; omega)]; rfl
  | n + 1, t, ho => by
    have leaf : t.deep = 1 → testR (n + 1) t.text = if t.deep ≤ n + 1 then some t else none := fun hd => by
      rw [testR, find_noR ho hd, if_pos (by omega)]
      exact leafR_text ho hd
    have n0 : ∀ {z : Str} {c : Nat}, (tl z)[0]? = some c → c ≠ 110 → hitW z "not" = false := fun h hc => hit_no (starts_ne (i := 0) (d := 110) h (by decide +kernel) hc)
    have n1 : ∀ {z : Str} {c : Nat}, (tl z)[0]? = some c → c ≠ 97 → hitW z "and" = false := fun h hc => hit_no (starts_ne (i := 0) (d := 97) h (by decide +kernel) hc)
    cases t with
    | all => exact leaf rfl
    | is z => exact leaf rfl
    | less f k => exact leaf rfl
    | same f k => exact leaf rfl
    | no a =>
      have e := tl_no a
      have ei : innerR "not" (Tst.no a).text = a.text := ext_tl (inner_of e)
      rw [testR, find_1R (hit_of e)]
      show ((halvesR "not" (innerR "not" (Tst.no a).text)).bind fun hs => (hs.mapM (testR n)).bind (mkT "not")) = _
      rw [ei]
      show (([a.text].mapM (testR n)).bind (mkT "not")) = _
      rw [List.mapM_cons, testR_text (n := n) (t := a) ho]
      show _ = if a.deep + 1 ≤ n + 1 then some (Tst.no a) else none
      by_cases h : a.deep ≤ n
      · rw [if_pos h, if_pos (by omega)]
        rfl
      · rw [if_neg h, if_neg (by omega)]
        rfl
    | an a b =>
      have e := tl_an a b
      have e7 : ("and" : Str) ≠ "not" := by decide +kernel
      rw [testR, find_2R (n0 (c := 97) (by rw [e]; rfl) (by decide)) (hit_of e)]
      show ((halvesR "and" (innerR "and" (Tst.an a b).text)).bind fun hs => (hs.mapM (testR n)).bind (mkT "and")) = _
      rw [halves_two e7 ho.1 (inner_of e)]
      show (([a.text, b.text].mapM (testR n)).bind (mkT "and")) = _
      rw [List.mapM_cons, List.mapM_cons, testR_text (n := n) (t := a) ho.1, testR_text (n := n) (t := b) ho.2]
      show _ = if max a.deep b.deep + 1 ≤ n + 1 then some (Tst.an a b) else none
      by_cases h : a.deep ≤ n
      · by_cases h2 : b.deep ≤ n
        · rw [if_pos h, if_pos h2, if_pos (by omega)]
          show mkT "and" [a, b] = _
          unfold mkT
          rw [if_neg e7, if_pos rfl]
        · rw [if_pos h, if_neg h2, if_neg (show ¬ max a.deep b.deep + 1 ≤ n + 1 by omega)]
          rfl
      · rw [if_neg h, if_neg (show ¬ max a.deep b.deep + 1 ≤ n + 1 by omega)]
        rfl
    | or a b =>
      have e := tl_or a b
      have e7 : ("or" : Str) ≠ "not" := by decide +kernel
      have e8 : ("or" : Str) ≠ "and" := by decide +kernel
      rw [testR, find_3R (n0 (c := 111) (by rw [e]; rfl) (by decide)) (n1 (c := 111) (by rw [e]; rfl) (by decide)) (hit_of e)]
      show ((halvesR "or" (innerR "or" (Tst.or a b).text)).bind fun hs => (hs.mapM (testR n)).bind (mkT "or")) = _
      rw [halves_two e7 ho.1 (inner_of e)]
      show (([a.text, b.text].mapM (testR n)).bind (mkT "or")) = _
      rw [List.mapM_cons, List.mapM_cons, testR_text (n := n) (t := a) ho.1, testR_text (n := n) (t := b) ho.2]
      show _ = if max a.deep b.deep + 1 ≤ n + 1 then some (Tst.or a b) else none
      by_cases h : a.deep ≤ n
      · by_cases h2 : b.deep ≤ n
        · rw [if_pos h, if_pos h2, if_pos (by omega)]
          show mkT "or" [a, b] = _
          unfold mkT
          rw [if_neg e7, if_neg e8, if_pos rfl]
        · rw [if_pos h, if_neg h2, if_neg (show ¬ max a.deep b.deep + 1 ≤ n + 1 by omega)]
          rfl
      · rw [if_neg h, if_neg (show ¬ max a.deep b.deep + 1 ≤ n + 1 by omega)]
        rfl
theorem mkT_D {w : Str} {ts : List Tst} {t : Tst} (h : mkT w ts = some t) : t.D = .tuple (.str w :: ts.map Tst.D) ∧ ts.length ≤ 2 := by
  unfold mkT at h
  split at h
  · rename_i e
    split at h
    · cases h
      exact ⟨by rw [e]; rfl, by show 1 ≤ 2; decide⟩
    · cases h
  · split at h
    · rename_i e
      split at h
      · cases h
        exact ⟨by rw [e]; rfl, by show 2 ≤ 2; decide⟩
      · cases h
    · split at h
      · rename_i e
        split at h
        · cases h
          exact ⟨by rw [e]; rfl, by show 2 ≤ 2; decide⟩
        · cases h
      · cases h
theorem raw_cons {c n : Nat} {w : Str} {ys : List PyData} (hw : w.length ≤ 1000 ∧ PyData.strOk w = true) (h1 : ys.length + 1 ≤ c) (h : ∀ y ∈ ys, RawC c n y) : RawC c (n + 1) (.tuple (.str w :: ys)) :=
  raw_mk h1 (fun x r e => ⟨w, (List.cons.inj e).1.symm⟩) fun y hy => by
    rcases List.mem_cons.mp hy with rfl | hy
    · exact nm_rawS hw.1 hw.2
    · exact h y hy
theorem leafR_raw {z : Str} {t : Tst} (hz : Tx z) (h : leafR z = some t) (n : Nat) : RawC 3 (n + 1) t.D := by
  have sg : ∀ {mk : Str → Int → Tst} {m w : Str}, (∀ f k, (mk f k).D = .tuple [.str w, .str f, .int k]) → w.length ≤ 1000 ∧ PyData.strOk w = true → sgLeaf mk m z = some t → RawC 3 (n + 1) t.D := fun {mk m w} hm hw h => by
    unfold sgLeaf at h
    split at h
    · cases h
    · obtain ⟨k, _, rfl⟩ := Option.map_eq_some_iff.mp h
      have hp := (part_sub z m).1
      rw [hm]
      refine raw_cons hw (by show 3 ≤ 3; decide) fun y hy => ?_
      simp only [List.mem_cons, List.not_mem_nil, or_false] at hy
      rcases hy with rfl | rfl
      · exact nm_rawS (Nat.le_trans hp.2 hz.1) (strOk_sub hp.1 hz.2)
      · exact raw_int
  unfold leafR at h
  split at h
  · cases h
    exact raw_cons (by decide +kernel) (by show 1 ≤ 3; decide) fun y hy => by cases hy
  · split at h
    · cases h
      refine raw_cons (by decide +kernel) (by show 2 ≤ 3; decide) fun y hy => ?_
      rw [List.mem_singleton.mp hy]
      have := hz.cut (some 3) none
      exact nm_rawS this.1 this.2
    · cases e : sgLeaf .less "<" z with
      | some u =>
        rw [e] at h
        cases h
        exact sg (w := "less") (fun _ _ => rfl) (by decide +kernel) e
      | none =>
        rw [e] at h
        exact sg (w := "same") (fun _ _ => rfl) (by decide +kernel) h
theorem halves_sub {w z : Str} {hs : List Str} (hz : Tx z) (h : halvesR w z = some hs) : hs.length ≤ 2 ∧ ∀ y ∈ hs, Tx y := by
  unfold halvesR at h
  split at h
  · cases h
    exact ⟨by show 1 ≤ 2; decide, fun y hy => by rw [List.mem_singleton.mp hy]; exact hz⟩
  · obtain ⟨i, _, rfl⟩ := Option.map_eq_some_iff.mp h
    refine ⟨by show 2 ≤ 2; decide, fun y hy => ?_⟩
    simp only [List.mem_cons, List.not_mem_nil, or_false] at hy
    rcases hy with rfl | rfl <;> exact hz.cut _ _
theorem mapM_mem {α β : Type} {f : α → Option β} : ∀ {xs : List α} {ys : List β}, xs.mapM f = some ys → ∀ y ∈ ys, ∃ x ∈ xs, f x = some y
  | [], ys, h, y, hy => by
    have : some [] = some ys := h
    cases this
    cases hy
  | x :: xs, ys, h, y, hy => by
    rw [List.mapM_cons] at h
    cases e : f x with
    | none => rw [e] at h; cases h
    | some u =>
      rw [e] at h
      cases e2 : xs.mapM f with
      | none => rw [e2] at h; cases h
      | some us =>
        rw [e2] at h
        cases h
        rcases List.mem_cons.mp hy with rfl | hy
        · exact ⟨x, List.mem_cons_self, e⟩
        · obtain ⟨x', h1, h2⟩ := mapM_mem e2 y hy
          exact ⟨x', List.mem_cons_of_mem _ h1, h2⟩
theorem word_tx {z w : Str} (h : wordsR.find? (hitW z) = some w) : w = "not" ∨ w = "and" ∨ w = "or" := by
  have := List.mem_of_find?_eq_some h
  simpa [wordsR] using this
theorem testR_raw : ∀ {n : Nat} {z : Str} {t : Tst}, Tx z → testR n z = some t → RawC 3 n t.D
  | 0, z, t, _, h => by cases h
  | n + 1, z, t, hz, h => by
    rw [testR] at h
    split at h
    · exact leafR_raw hz h n
    · rename_i w hw
      obtain ⟨hs, h1, h⟩ := Option.bind_eq_some_iff.mp h
      obtain ⟨ts, h2, h3⟩ := Option.bind_eq_some_iff.mp h
      obtain ⟨e, hl⟩ := mkT_D h3
      rw [e]
      refine raw_cons (by rcases word_tx hw with rfl | rfl | rfl <;> decide +kernel) (by rw [List.length_map]; omega) fun y hy => ?_
      obtain ⟨u, hu, rfl⟩ := List.mem_map.mp hy
      obtain ⟨x, hx, ex⟩ := mapM_mem h2 u hu
      exact testR_raw ((halves_sub (hz.cut _ _) h1).2 x hx) ex
end Ls
namespace Ls
open PySem PySem.Spec PyProof.Rows L2 TL
def oT : Option Tst → PyData
  | none => .none
  | some t => t.D
theorem Sep.nonT {K : PySem.W.Frag} {L : List (As K)} {H : Hp} (h : Ls.Sep L H) : Ls.Sep (im .non (oT none) :: L) H := Sep.im_iff.mpr ⟨.non, h⟩
/-- what is left to be tried from a sign on -/
def restR : Nat → Str → Option Tst
  | 0, z => (sgLeaf .less "<" z).or (sgLeaf .same "=" z)
  | 1, z => sgLeaf .same "=" z
  | _, _ => none
def spLeafIn (K : PySem.W.Frag) : Sp := fun vs H Q _ => ∃ (z : Str) (L : List (As K)), vs = [.str z] ∧ z.length ≤ 1000000 ∧ Ls.Sep L H ∧ ∀ v H', Ls.Sep (im v (oT (leafR z)) :: L) H' → Q v H'
theorem sg_none {mk : Str → Int → Tst} {m z : Str} (h : (Txt.partition z m).2.1 = ("" : Str)) : sgLeaf mk m z = none := if_pos h
theorem sg_some {mk : Str → Int → Tst} {m z : Str} (h : ¬ (Txt.partition z m).2.1 = ("" : Str)) : sgLeaf mk m z = (numIn 6 (Txt.partition z m).2.2).map (mk (Txt.partition z m).1) := if_neg h
end Ls
namespace Lw
open PySem PySem.Spec PyProof.Rows L2 Ls TL
theorem ok_leaf_in {P : Program} {w : World} {K : PySem.W.Frag} {mg : Str → Option Value} {base : Heap} (E : Env K mg w) : FnOk P w K mg base CX0 3 E.a_leaf_in E.fd_leaf_in ["text"] (spLeafIn K) := by
  refine E.F_leaf_in.ok sc_leaf_in (fun vs H Q E h => ?_) (fun cdv A outer s H vs Q E' hr h => ?_)
  · walk_at "hl"
  · have hu := huOf hr
    have G_number_in := ok_number_in (P := P) (w := w) (base := base) E
    have hr_number_in := hr.mono (show 1 ≤ 2 by decide)
    have b_number_in := b_number_in E
    obtain ⟨_, vd_number_in_1, bd_number_in_1⟩ := bd_number_in_10 E
    obtain ⟨z, L, rfl, hz, hS, q⟩ := h
    refine ⟨_, PSs.nox (pss_cons (ps_if (pt_cmpR (op_eqU K rfl hu) (pv 0) pe_str (nomark _)) (pss_one (ps_ret (pe_tup (pa_cons pe_str pa_nil)))) pss_nil)
(pss_cons (ps_if (pt_cmpR (op_eqU K rfl hu) (pe_slice (sl_U K rfl) (pv 0) po_none (po_some pe_int)) pe_str (nomark _)) (pss_one (ps_ret (pe_tup (pa_cons pe_str (pa_cons (pe_slice (sl_U K rfl) (pv 0) (po_some pe_int) po_none) pa_nil))))) pss_nil)
(pss_cons (ps_for PassesOwn.never rfl (pi_keysK E.k_SIGNS (pe_glob (v := .ref E.D_SIGNS) rfl E.g_SIGNS rfl)) (pg_name (i := 1) sc_leaf_in.nd rfl (Or.inl rfl))
(pss_cons (ps_asg (pe_part (pv 0) (pv 1)) (kGTup (n := 3) K rfl (pg_tup rfl (pgs_cons (pg_name (i := 2) sc_leaf_in.nd rfl (Or.inl rfl)) (pgs_cons (pg_name (i := 3) sc_leaf_in.nd rfl (Or.inl rfl)) (pgs_cons (pg_name (i := 4) sc_leaf_in.nd rfl (Or.inl rfl)) pgs_nil))))))
(pss_cons (ps_set (i := 5) sc_leaf_in.nd rfl (Or.inl rfl) (pe_call G_number_in hr_number_in rfl E.g_number_in E.F_number_in.kp bd_number_in_1 vd_number_in_1 pass0 (pa_cons (pv 4) pa_nil)))
(pss_one (ps_if (PW.pt (pw_and (pt_cmpR (op_neU K rfl hu) (pv 3) pe_str (nomark _)) (pw_and1 (pt_cmpR (op_isnotU) (pv 5) pe_non (nomark _))))) (pss_one (ps_ret (pe_tup (pa_cons (pe_ix (ix_T E.t_SIGNS) (pe_glob (v := .ref E.D_SIGNS) rfl E.g_SIGNS rfl) (pv 1) (fun _ _ => rfl)) (pa_cons (pv 2) (pa_cons (pv 5) pa_nil)))))) pss_nil)))))
(pss_one (ps_ret pe_non))))), ?_⟩
    refine k_body (s1 := some _ :: [none, none, none, none, none]) rfl ?_
    walk_at "s"
    by_cases h1 : z = ("all" : Str)
    · rw [if_pos (decide_eq_true h1)]
      walk_at "s"
      exact q _ _ (by rw [leafR, if_pos h1]; exact hS)
    rw [if_neg (by rw [decide_eq_false h1]; exact Bool.false_ne_true)]
    walk_at "s"
    refine k_slStr (by rw [sizeLine_eq]; omega) ?_
    walk_at "s"
    by_cases h2 : cutS z none (some 3) = ("is:" : Str)
    · rw [if_pos (decide_eq_true h2)]
      walk_at "s"
      refine k_slStr (by rw [sizeLine_eq]; omega) ?_
      walk_at "s"
      exact q _ _ (by rw [leafR, if_neg h1, if_pos h2]; exact hS)
    rw [if_neg (by rw [decide_eq_false h2]; exact Bool.false_ne_true)]
    have e0 : leafR z = restR 0 z := by rw [leafR, if_neg h1, if_neg h2]; rfl
    clear h1 h2
    walk_at "s"
    refine k_keysK ?_
    refine for_wk (n := 2) (Y := fun i q => ∀ k, ([("<" : Str), "="] : List Str)[i]? = some k → q (.str k) []) (fun i σ L' => L' = L ∧ leafR z = restR i z ∧ ∃ c1 c2 c3 c4 c5, σ = [some (.str z), c1, c2, c3, c4, c5]) (fun i σ L' _ => wk_keysK) hS ⟨rfl, e0, _, _, _, _, _, rfl⟩ (fun i σ L' hi iv k hk => ?_) (fun σ L' H iv hS9 => ?_)
    · obtain ⟨rfl, er, c1, c2, c3, c4, c5, rfl⟩ := iv
      clear hS
      intro H hS
      walk_at "ns"
      obtain ⟨mk, wd, hmk, ewd, er1, er2, hkl⟩ : ∃ (mk : Str → Int → Tst) (wd : Str), (∀ f n, (mk f n).D = .tuple [.str wd, .str f, .int n]) ∧ List.lookup k [(Str.ofString "<", V.str "less"), (Str.ofString "=", V.str "same")] = some (.str wd) ∧ (sgLeaf mk k z = none → leafR z = restR (i + 1) z) ∧ (∀ t, sgLeaf mk k z = some t → leafR z = some t) ∧ (k.length == 0) = false := by
        match i, hi, hk with
        | 0, _, hk =>
          cases hk
          refine ⟨.less, "less", fun _ _ => rfl, by decide +kernel, fun h => ?_, fun t h => ?_, by decide +kernel⟩
          · rw [er]
            show (sgLeaf .less "<" z).or _ = _
            rw [h]
            rfl
          · rw [er]
            show (sgLeaf .less "<" z).or _ = _
            rw [h]
            rfl
        | 1, _, hk =>
          cases hk
          refine ⟨.same, "same", fun _ _ => rfl, by decide +kernel, fun h => ?_, fun t h => ?_, by decide +kernel⟩
          · rw [er]
            exact h
          · rw [er]
            exact h
      have hp := part_sub z k
      walk_at "s"
      refine k_m1 ?_
      walk_at "s"
      refine k_part3 hS hkl (by rw [sizeLine_eq]; omega) fun pp H hS => ?_
      walk_at "s"
      refine ⟨_, _, _, rfl, by omega, by decide, hS, fun H hS => ?_⟩
      walk_at "s"
      by_cases h3 : (Txt.partition z k).2.1 = ("" : Str)
      · rw [if_neg (by rw [decide_eq_true h3]; exact Bool.false_ne_true)]
        walk_at "s"
        exact ⟨_, ⟨rfl, er1 (sg_none h3), _, _, _, _, _, rfl⟩, Sub.ok (by walk_at "sub") hS⟩
      rw [if_pos (by rw [decide_eq_false h3]; rfl)]
      walk_at "s"
      cases hn : numIn 6 (Txt.partition z k).2.2 with
      | none =>
        rw [show oV none = V.non from rfl, if_neg (by decide)]
        walk_at "s"
        exact ⟨_, ⟨rfl, er1 (by rw [sg_some h3, hn]; rfl), _, _, _, _, _, rfl⟩, Sub.ok (by walk_at "sub") hS⟩
      | some n =>
        have eq := er2 _ (by rw [sg_some h3, hn]; rfl)
        rw [show oV (some n) = V.int n from rfl, if_pos (by rfl)]
        walk_at "s"
        refine k_ixTb ewd ?_
        walk_at "s"
        refine q _ _ ?_
        rw [eq]
        show Ls.Sep (im _ (mk _ _).D :: _) _
        rw [hmk]
        exact Sub.ok (by walk_at "sub") hS
    · obtain ⟨rfl, er, c1, c2, c3, c4, c5, rfl⟩ := iv
      walk_at "s"
      refine q _ _ ?_
      rw [er]
      exact hS9.nonT
end Lw
namespace Ls
open PySem PySem.Spec PyProof.Rows L2 TL
def spTestIn (K : PySem.W.Frag) (n : Nat) : Sp := fun vs H Q _ => ∃ (z : Str) (k : Nat) (L : List (As K)), vs = [.str z, .int k] ∧ k ≤ n ∧ n ≤ 10 ∧ Tx z ∧ Ls.Sep L H ∧ ∀ v H', Ls.Sep (im v (oT (testR k z)) :: L) H' → Q v H'
theorem okd_oT {n : Nat} {z : Str} (hz : Tx z) : OkD n (oT (testR n z)) := by
  cases h : testR n z with
  | none => cases n <;> trivial
  | some t => exact raw_okd (c := 3) (by decide) (testR_raw hz h)
theorem mapM_oT {f : Str → Option Tst} : ∀ {hs : List Str}, (hs.map fun y => oT (f y)).any (fun z => PyData.eqv z .none) = (hs.mapM f).isNone
  | [] => rfl
  | y :: hs => by
    rw [List.map_cons, List.any_cons, mapM_oT (f := f) (hs := hs), List.mapM_cons]
    cases e : f y with
    | none => rfl
    | some t =>
      have e1 : PyData.eqv (oT (some t)) .none = false := by cases t <;> rfl
      rw [e1]
      cases hs.mapM f <;> rfl
theorem mapM_D {f : Str → Option Tst} : ∀ {hs : List Str} {ts : List Tst}, hs.mapM f = some ts → hs.map (fun y => oT (f y)) = ts.map Tst.D
  | [], ts, h => by
    have : some [] = some ts := h
    cases this
    rfl
  | y :: hs, ts, h => by
    rw [List.mapM_cons] at h
    cases e : f y with
    | none => rw [e] at h; cases h
    | some t =>
      rw [e] at h
      cases e2 : hs.mapM f with
      | none => rw [e2] at h; cases h
      | some us =>
        rw [e2] at h
        cases h
        rw [List.map_cons, List.map_cons, mapM_D e2, e]
        rfl
theorem halves_mk {w z : Str} {hs : List Str} {ts : List Tst} (hw : w = "not" ∨ w = "and" ∨ w = "or") (h : halvesR w z = some hs) (e : ts.length = hs.length) : ∃ t, mkT w ts = some t := by
  refine mkT_some ?_
  unfold halvesR at h
  rcases hw with rfl | rfl | rfl
  · rw [if_pos rfl] at h
    cases h
    rw [e]
    exact wordK_not
  · rw [if_neg (by decide +kernel)] at h
    obtain ⟨i, _, rfl⟩ := Option.map_eq_some_iff.mp h
    rw [e]
    exact wordK_and
  · rw [if_neg (by decide +kernel)] at h
    obtain ⟨i, _, rfl⟩ := Option.map_eq_some_iff.mp h
    rw [e]
    exact wordK_or
/-- None in a list of tests and Nones -/
theorem k_inOT {K : PySem.W.Frag} {L : List (As K)} {H : Hp} {Q : VK} {a : Addr} {ds : List PyData} {n : Nat} (h : Ls.Sep L H) (m : Ls.ld a ds ∈ L) (o : OkD n (.list ds)) (hn : n ≤ 64) (q : Q (.bl (ds.any fun z => PyData.eqv z .none)) H) : rInU K .non (.ref a) H Q :=
  .inr (.inl ⟨.none, ds, (Dl.dat Dat.non).is h, (Dl.ld m).is h, rfl, o.shaped hn, q⟩)
end Ls
namespace Lw
open PySem PySem.Spec PyProof.Rows L2 Ls TL
theorem ok_test_in {P : Program} {w : World} {K : PySem.W.Frag} {mg : Str → Option Value} {base : Heap} (E : Env K mg w) : ∀ n : Nat, FnOk P w K mg base CX0 (4 + n) E.a_test_in E.fd_test_in ["text", "deep"] (recSp (spTestIn K) n) := by
  intro n
  induction n with
  | zero => exact E.F_test_in.ok sc_test_in (fun vs H Q E h => h.elim) (fun cdv A outer s H vs Q E' hr h => h.elim)
  | succ n ih =>
  replace ih : FnOk P w K mg base CX0 (4 + n) E.a_test_in E.fd_test_in ["text", "deep"] (recSp (spTestIn K) n) := ih
  show FnOk P w K mg base CX0 (4 + n + 1) E.a_test_in E.fd_test_in ["text", "deep"] ((spTestIn K) n)
  refine E.F_test_in.ok sc_test_in (fun vs H Q E h => ?_) (fun cdv A outer s H vs Q E' hr h => ?_)
  · walk_at "hl"
  · have hu := huOf hr
    have G_leaf_in := ok_leaf_in (P := P) (w := w) (base := base) E
    have hr_leaf_in := hr.mono (show 3 ≤ 4 + n by omega)
    have b_leaf_in := b_leaf_in E
    have G_parted_at := ok_parted_at (P := P) (w := w) (base := base) E
    have hr_parted_at := hr.mono (show 1 ≤ 4 + n by omega)
    have b_parted_at := b_parted_at E
    have G_test_in := ih
    have hr_test_in := hr
    have b_test_in := b_test_in E
    obtain ⟨z, k, L, rfl, hk, hn10, hz, hS, q⟩ := h
    refine ⟨_, PSs.nox (pss_cons (ps_if (pt_cmpR (op_eqU K rfl hu) (pv 1) pe_int (nomark _)) (pss_one (ps_ret pe_non)) pss_nil)
(pss_cons (ps_for PassesOwn.never rfl (pi_keysK E.k_WITHIN (pe_glob (v := .ref E.D_WITHIN) rfl E.g_WITHIN rfl)) (pg_name (i := 2) sc_test_in.nd rfl (Or.inl rfl))
(pss_one (ps_if (PW.pt (pw_and (pt_val (pe_starts (pv 0) (pe_op (op_addU K rfl) (pv 2) pe_str))) (pw_and1 (pt_val (pe_ends (pv 0) pe_str))))) (pss_cons (ps_set (i := 3) sc_test_in.nd rfl (Or.inl rfl) (pe_slice (sl_U K rfl) (pv 0) (po_some (pe_op (op_addU K rfl) (pe_callB (call_lenU K rfl) (by rfl) E.n_len boot_len (pa_cons (pv 2) pa_nil)) pe_int)) (po_some (pe_un un_neg pe_int))))
(pss_cons (ps_set (i := 4) sc_test_in.nd rfl (Or.inl rfl) (pe_join (pe_ifExp (pt_cmpR (op_eqU K rfl hu) (pv 2) pe_str (nomark _)) (pe_lst (pa_cons (pv 3) pa_nil)) (pe_call G_parted_at hr_parted_at rfl E.g_parted_at E.F_parted_at.kp b_parted_at .nil pass0 (pa_cons (pv 3) pa_nil)))))
(pss_cons (ps_set (i := 5) sc_test_in.nd rfl (Or.inl rfl) (pe_join (pe_ifExp (pt_cmpR (op_isU) (pv 4) pe_non (nomark _)) (pe_lst (pa_cons pe_non pa_nil)) (pe_lc (own := [("half", 6)]) rfl sc_test_in.nd (pi_seqU K rfl (pv 4)) (blkOk_by (N := ["text", "deep", "word", "inner", "halves", "found", "half"]) (sc := defScope s_test_in) (by decide +kernel)) (fun _ _ _ _ _ => (pg_name (i := 6) sc_test_in.nd rfl (Or.inl rfl))) (fun _ _ _ _ _ => pts_nil) (fun _ _ _ _ _ => (pe_call G_test_in hr_test_in rfl E.g_test_in E.F_test_in.kp b_test_in .nil pass0 (pa_cons (pv 6) (pa_cons (pe_op op_sub (pv 1) pe_int) pa_nil))))))))
(pss_one (ps_ret (pe_join (pe_ifExp (pt_cmpR (op_inU K rfl hu) pe_non (pv 5) (by with_unfolding_all rfl)) pe_non (pe_op (op_addU K rfl) (pe_tup (pa_cons (pv 2) pa_nil)) (pe_callTy (call_tupleU K rfl) (by rfl) E.n_tuple boot_tuple (pa_cons (pv 5) pa_nil)))))))))) pss_nil)))
(pss_one (ps_ret (pe_call G_leaf_in hr_leaf_in rfl E.g_leaf_in E.F_leaf_in.kp b_leaf_in .nil pass0 (pa_cons (pv 0) pa_nil)))))), ?_⟩
    refine k_body (s1 := some _ :: some _ :: [none, none, none, none, none]) rfl ?_
    walk_at "s"
    cases k with
    | zero =>
      walk_at "s"
      exact q _ _ hS.nonT
    | succ k =>
      walk_at "s"
      refine k_keysK ?_
      refine for_wk (n := 3) (Y := fun i q => ∀ k, ([("not" : Str), "and", "or"] : List Str)[i]? = some k → q (.str k) []) (fun i σ L' => L' = L ∧ wordsR.find? (hitW z) = (wordsR.drop i).find? (hitW z) ∧ ∃ c1 c2 c3 c4 c5, σ = [some (.str z), some (.int (k + 1 : Nat)), c1, c2, c3, c4, c5]) (fun i σ L' _ => wk_keysK) hS ⟨rfl, rfl, _, _, _, _, _, rfl⟩ (fun i σ L' hi iv w hw => ?_) (fun σ L' H iv hS9 => ?_)
      · obtain ⟨rfl, er, c1, c2, c3, c4, c5, rfl⟩ := iv
        clear hS
        intro H hS
        walk_at "ns"
        have hwl : w = "not" ∨ w = "and" ∨ w = "or" := by simpa [wordsR] using (List.mem_of_getElem? hw : w ∈ wordsR)
        have hwlen : w.length ≤ 3 ∧ PyData.strOk w = true := by rcases hwl with rfl | rfl | rfl <;> decide +kernel
        have ed : wordsR.drop i = w :: wordsR.drop (i + 1) := by
          obtain ⟨h1, h2⟩ := List.getElem?_eq_some_iff.mp (hw : wordsR[i]? = some w)
          rw [← h2]
          exact List.drop_eq_getElem_cons h1
        rw [ed, List.find?_cons] at er
        have miss : hitW z w = false → wordsR.find? (hitW z) = (wordsR.drop (i + 1)).find? (hitW z) := fun h => by rw [er, h]
        walk_at "s"
        refine k_m1 ?_
        walk_at "s"
        refine k_addS (by rw [sizeLine_eq]; show w.length + 1 ≤ _; omega) ?_
        refine k_starts ?_
        refine ⟨_, rfl, ?_⟩
        by_cases hs : Txt.startswith z (w ++ ("(" : Str)) = true
        case neg =>
          rw [if_neg hs]
          walk_at "s"
          exact ⟨_, ⟨rfl, miss (hit_no (Bool.eq_false_iff.mpr hs)), _, _, _, _, _, rfl⟩, Sub.ok (by walk_at "sub") hS⟩
        rw [if_pos hs]
        walk_at "s"
        refine k_m1 ?_
        walk_at "s"
        refine k_ends ?_
        refine ⟨_, rfl, ?_⟩
        by_cases he : Txt.endswith z (")" : Str) = true
        case neg =>
          rw [if_neg he]
          walk_at "s"
          exact ⟨_, ⟨rfl, miss (by unfold hitW; rw [Bool.eq_false_iff.mpr he, Bool.and_false]), _, _, _, _, _, rfl⟩, Sub.ok (by walk_at "sub") hS⟩
        rw [if_pos he]
        have hit : hitW z w = true := by unfold hitW; rw [hs, he]; rfl
        rw [hit] at er
        have et : testR (k + 1) z = (halvesR w (innerR w z)).bind fun hs => (hs.mapM (testR k)).bind (mkT w) := by rw [testR, er]
        clear miss
        walk_at "s"
        refine k_lenS (by rw [sizeLine_eq]; omega) ?_
        walk_at "s"
        refine k_slStr (by have := hz.1; rw [sizeLine_eq]; omega) ?_
        have hin : Tx (innerR w z) := hz.cut _ _
        rw [show cutS z (some ((w.length : Int) + 1)) (some (-1)) = innerR w z from rfl]
        walk_at "s"
        obtain ⟨n', rfl⟩ : ∃ n', n = n' + 1 := ⟨n - 1, by omega⟩
        cases hh : halvesR w (innerR w z) with
        | none =>
          have hw1 : w ≠ ("not" : Str) := fun e => by rw [halvesR, if_pos e] at hh; cases hh
          have hf : fcom (tl (innerR w z)) 0 = none := by
            rw [halvesR, if_neg hw1] at hh
            exact Option.map_eq_none_iff.mp hh
          rw [hh] at et
          refine k_joinS (fun v (M : List (As K)) => v = V.non ∧ M = L') ?_ ?_
          · walk_at "s"
            refine ⟨_, _, rfl, by have := hin.1; omega, hS, ?_⟩
            rw [hf]
            exact fun H hS => ⟨_, ⟨rfl, rfl⟩, hS⟩
          · clear hS
            rintro _ M H ⟨rfl, rfl⟩ hS
            walk_at "s"
            refine k_joinS (fun v (N : List (As K)) => ∃ p, v = V.ref p ∧ N = Ls.ld p [.none] :: M) ?_ ?_
            · walk_at "s"
              rw [if_pos (by decide)]
              walk_at "s"
              exact ⟨_, ⟨_, rfl, rfl⟩, hS⟩
            · clear hS
              rintro _ N H ⟨p, rfl, rfl⟩ hS
              walk_at "s"
              refine k_nojoin ?_
              walk_at "s"
              refine k_inOT (n := 1) hS (by walk_at "mem") ⟨by decide, fun d hd => by rw [List.mem_singleton.mp hd]; trivial⟩ (by decide) ?_
              refine ⟨_, rfl, ?_⟩
              rw [if_pos (by rfl)]
              walk_at "s"
              refine q _ _ ?_
              rw [et]
              exact Ls.Sep.nonT (Sub.ok (by walk_at "sub") hS)
        | some hs2 =>
          obtain ⟨hl2, htx⟩ := halves_sub hin hh
          rw [hh] at et
          replace et : testR (k + 1) z = (hs2.mapM (testR k)).bind (mkT w) := et
          refine k_joinS (fun v (M : List (As K)) => ∃ p, v = V.ref p ∧ M = Ls.ld p (hs2.map .str) :: L') ?_ ?_
          · walk_at "s"
            by_cases hw1 : w = ("not" : Str)
            · rw [halvesR, if_pos hw1] at hh
              cases hh
              rw [if_pos (decide_eq_true hw1)]
              walk_at "s"
              exact ⟨_, ⟨_, rfl, rfl⟩, hS⟩
            · rw [halvesR, if_neg hw1] at hh
              obtain ⟨i0, hi0, rfl⟩ := Option.map_eq_some_iff.mp hh
              rw [if_neg (by rw [decide_eq_false hw1]; exact Bool.false_ne_true)]
              walk_at "s"
              refine ⟨_, _, rfl, by have := hin.1; omega, hS, ?_⟩
              rw [hi0]
              exact fun p H hS => ⟨_, ⟨_, rfl, rfl⟩, hS⟩
          · clear hS
            rintro _ M H ⟨p1, rfl, rfl⟩ hS
            walk_at "s"
            refine k_joinS (fun v (N : List (As K)) => ∃ p, v = V.ref p ∧ N = Ls.ld p (hs2.map fun y => oT (testR k y)) :: L') ?_ ?_
            · walk_at "s"
              rw [if_neg (by simp)]
              walk_at "s"
              rename Addr => pl
              refine lc_flat (zs := hs2) (fun y => [oT (testR k y)]) hS (fun acc => wk_ldm (f := PyData.str) (by walk_at "mem")) (fun i c acc hc hk2 _ la H hS => ?_) (fun H hS => ?_)
              · walk_at "ls"
                rw [show ((k + 1 : Nat) : Int) - 1 = (k : Nat) by omega]
                refine ⟨_, k, _, rfl, by omega, by omega, htx c (List.mem_of_getElem? hc), hS, fun v H hS => ?_⟩
                refine lc_keep hS (.im (by walk_at "mem")) (by walk_at "sub") (by rw [sizeLine_eq]; have := (List.getElem?_eq_some_iff.mp hc).1; omega) (hk2 _ rfl)
              · rw [flat_map] at hS
                exact ⟨_, ⟨_, rfl, rfl⟩, Sub.ok (by walk_at "sub") hS⟩
            · clear hS
              rintro _ N H ⟨p, rfl, rfl⟩ hS
              walk_at "s"
              refine k_nojoin ?_
              walk_at "s"
              refine k_inOT (n := k + 1) hS (by walk_at "mem") ⟨by rw [List.length_map]; omega, fun d hd => ?_⟩ (by omega) ?_
              · obtain ⟨y, hy, rfl⟩ := List.mem_map.mp hd
                exact okd_oT (htx y hy)
              refine ⟨_, rfl, ?_⟩
              rw [mapM_oT]
              cases hm : hs2.mapM (testR k) with
              | none =>
                rw [hm] at et
                rw [if_pos (by rfl)]
                walk_at "s"
                refine q _ _ ?_
                rw [et]
                exact Ls.Sep.nonT (Sub.ok (by walk_at "sub") hS)
              | some ts =>
                rw [hm] at et
                obtain ⟨t, ht⟩ := halves_mk hwl hh (mapM_len hm)
                obtain ⟨eD, hts⟩ := mkT_D ht
                rw [mapM_D hm] at hS
                rw [if_neg (by exact Bool.false_ne_true)]
                walk_at "s"
                refine k_addIA hS (by walk_at "mem") (by walk_at "mem") (by rw [List.length_map, sizeLine_eq]; show 1 + _ ≤ _; omega) fun p5 H hS => ?_
                refine q _ _ ?_
                rw [et]
                show Ls.Sep (im _ (oT (mkT w ts)) :: _) _
                rw [ht]
                show Ls.Sep (im _ t.D :: _) _
                rw [eD, show (PyData.str w :: ts.map Tst.D) = [PyData.str w] ++ ts.map Tst.D from rfl]
                exact Sub.ok (by walk_at "sub") hS
      · obtain ⟨rfl, er, c1, c2, c3, c4, c5, rfl⟩ := iv
        walk_at "s"
        have er : wordsR.find? (hitW z) = none := er
        refine ⟨_, _, rfl, by have := hz.1; omega, hS9, fun v H hS => ?_⟩
        refine q _ _ ?_
        rw [testR, er]
        exact hS
end Lw
namespace Ls
open PySem PySem.Spec PyProof.Rows L2 TL
def spReadTX (K : PySem.W.Frag) (CB : Addr) : Sp := fun vs H Q E => ∃ (z : Str) (L : List (As K)), vs = [.str z] ∧ Tx z ∧ Ls.Sep L H ∧ (∀ t, readR z = some t → ∀ p H', Ls.Sep (im (.ref p) t.D :: L) H' → Q (.ref p) H') ∧ (readR z = none → Lets L CB "badtest" E)
theorem readR_some {z : Str} {t : Tst} (h : testR 5 z = some t) (i : IsT t.D) : readR z = some t := by
  unfold readR
  rw [h, Option.filter_some, if_pos (decide_eq_true i)]
theorem readR_not {z : Str} {t : Tst} (h : testR 5 z = some t) (i : ¬ IsT t.D) : readR z = none := by
  unfold readR
  rw [h, Option.filter_some, if_neg (by rw [decide_eq_false i]; exact Bool.false_ne_true)]
theorem readR_none {z : Str} (h : testR 5 z = none) : readR z = none := by
  unfold readR
  rw [h]
  rfl
theorem readR_is {z : Str} {t : Tst} (h : readR z = some t) : testR 5 z = some t ∧ IsT t.D := by
  unfold readR at h
  obtain ⟨h1, h2⟩ := Option.filter_eq_some_iff.mp h
  exact ⟨h1, of_decide_eq_true h2⟩
end Ls
namespace Lw
open PySem PySem.Spec PyProof.Rows L2 Ls TL
theorem okX_read_test {P : Program} {w : World} {K : PySem.W.Frag} {mg : Str → Option Value} {base : Heap} (E : Env K mg w) : FnOk P w K mg base (L2.CX P w) 14 E.a_read_test E.fd_read_test ["text"] (spReadTX K E.C_BadTest) := by
  refine E.F_read_test.ok sc_read_test (fun vs H Q E h => ?_) (fun cdv A outer s H vs Q E' hr h => ?_)
  · walk_at "hl"
  · have hu := huOf hr
    have G_test_in := ok_test_in (P := P) (w := w) (base := base) E 6
    have hr_test_in := hr.mono (show 10 ≤ 13 by decide)
    have b_test_in := b_test_in E
    have G_is_test := ok_is_test (P := P) (w := w) (base := base) E
    have hr_is_test := hr.mono (show 10 ≤ 13 by decide)
    have b_is_test := b_is_test E
    have GI_BadTest := okI_BadTest (P := P) (w := w) (base := base) E
    have hrI_BadTest := hr.mono (show 3 ≤ 13 by decide)
    have bI_BadTest := bI_BadTest E
    obtain ⟨z, L, rfl, hz, hS, q1, q2⟩ := h
    refine ⟨_, (pss_cons (ps_set (i := 1) sc_read_test.nd rfl (Or.inl rfl) (pe_call G_test_in hr_test_in rfl E.g_test_in E.F_test_in.kp b_test_in .nil pass0 (pa_cons (pv 0) (pa_cons (pe_gc rfl E.c_DEEPEST) pa_nil))))
(pss_cons (ps_if (PW.pt (pw_or (pt_cmpR (op_isU) (pv 1) pe_non (nomark _)) (pw_or1 (pt_not (pt_val (pe_call G_is_test hr_is_test rfl E.g_is_test E.F_is_test.kp b_is_test .nil pass0 (pa_cons (pv 1) pa_nil))))))) (pss_one (ps_raise rfl (takes_of rfl rfl rfl rfl) (pmk_oex0 E.o_BadTest E.i_BadTest E.t_BadTest GI_BadTest hrI_BadTest bI_BadTest .nil pass0 rfl E.g_BadTest))) pss_nil)
(pss_one (ps_ret (pv 1))))), ?_⟩
    refine k_body (s1 := some _ :: [none]) rfl ?_
    walk_at "s"
    refine ⟨z, 5, _, rfl, by decide, by decide, hz, hS, fun v H hS => ?_⟩
    cases ht : testR 5 z with
    | none =>
      rw [ht] at hS
      obtain ⟨hv, hS2⟩ := Sep.im_iff.mp hS
      cases im_non hv
      walk_at "s"
      rw [if_pos (by decide)]
      walk_at "s"
      exact raise_lets E.o_BadTest E.w_BadTest hS ((q2 (readR_none ht)).sub (by walk_at "sub"))
    | some t =>
      rw [ht] at hS
      have hraw := testR_raw hz ht
      obtain ⟨ds, ed⟩ := t.D_tup
      replace hS : Ls.Sep (im v t.D :: L) H := hS
      have y1 := q1 t
      have y2 := readR_not ht
      have y3 := readR_some ht
      rw [ed] at hS hraw y1 y2 y3
      obtain ⟨p, rfl⟩ := im_isRef hS (by walk_at "mem")
      walk_at "s"
      rw [if_neg (by simp)]
      walk_at "s"
      refine ⟨p, ds, 5, _, rfl, hS, by walk_at "mem", hraw.mono (by decide) (Nat.le_refl _), fun H hS => ?_⟩
      by_cases hi : IsT (.tuple ds)
      · rw [decide_eq_true hi]
        walk_at "s"
        exact y1 (y3 hi) _ _ hS
      · rw [decide_eq_false hi]
        walk_at "s"
        exact raise_lets E.o_BadTest E.w_BadTest hS ((q2 (y2 hi)).sub (by walk_at "sub"))
end Lw
namespace Ls
open PySem PySem.Spec PyProof.Rows L2 TL
theorem snoc_last {l : List Nat} (h : l ≠ []) : l.dropLast ++ [l.getLast h] = l := List.dropLast_concat_getLast h
theorem len_two {α : Type} {l : List α} (h : l.length = 2) : ∃ x y, l = [x, y] := by
  match l, h with
  | [x, y], _ => exact ⟨x, y, rfl⟩
theorem val_snoc (cs : List Nat) (c : Nat) : NumText.digitsVal (cs ++ [c]) = 10 * NumText.digitsVal cs + (c - 48) := by
  unfold NumText.digitsVal
  rw [List.foldl_append]
  simp [Nat.mul_comm]
theorem numL_back : ∀ (n : Nat) (ds : List Nat), ds.length = n → ds ≠ [] → (∀ c ∈ ds, IsDg c) → ds.head? ≠ some 48 ∨ ds = [48] → numL (NumText.digitsVal ds) = ds := by
  intro n
  induction n with
  | zero => intro ds hl hn; exact (hn (List.length_eq_zero_iff.mp hl)).elim
  | succ n ih =>
    intro ds hl hn hd hh
    obtain ⟨cs, c, rfl⟩ : ∃ cs c, ds = cs ++ [c] := ⟨ds.dropLast, ds.getLast hn, (snoc_last hn).symm⟩
    have hc : IsDg c := hd c (List.mem_append.mpr (.inr List.mem_cons_self))
    unfold IsDg at hc
    rw [val_snoc]
    by_cases h0 : cs = []
    · subst h0
      rw [show NumText.digitsVal [] = 0 from rfl, show 10 * 0 + (c - 48) = c - 48 by omega, numL_lt (by omega), show 48 + (c - 48) = c by omega]
      rfl
    · have hh2 : cs.head? ≠ some 48 := by
        rcases hh with hh | hh
        · rw [List.head?_append] at hh
          cases cs with
          | nil => exact (h0 rfl).elim
          | cons x xs => exact hh
        · cases cs with
          | nil => exact (h0 rfl).elim
          | cons x xs => have := congrArg List.length hh; simp at this
      have i1 := ih cs (by rw [List.length_append] at hl; simp at hl; omega) h0 (fun x hx => hd x (List.mem_append.mpr (.inl hx))) (.inl hh2)
      have hp : 0 < NumText.digitsVal cs := by
        rcases Nat.eq_zero_or_pos (NumText.digitsVal cs) with h | h
        · rw [h] at i1
          rw [← i1] at hh2
          exact (hh2 rfl).elim
        · exact h
      rw [numL_step (by omega), show (10 * NumText.digitsVal cs + (c - 48)) / 10 = NumText.digitsVal cs by omega, show (10 * NumText.digitsVal cs + (c - 48)) % 10 = c - 48 by omega, i1, show 48 + (c - 48) = c by omega]
theorem num_back {most : Int} {z : Str} {n : Int} (hm : most ≤ 600) (h : numIn most z = some n) : z = numS n := by
  unfold numIn at h
  split at h
  · rename_i ok
    split at h
    · cases h
    · rename_i hz0
      obtain ⟨h1, h2, h3⟩ := ok
      have len : ∀ z : Str, z.cps.toList.length = z.length := fun z => Array.length_toList
      have hn : (figs z).cps.toList ≠ [] := fun e => by
        have := len (figs z)
        rw [e] at this
        have : (0 : Nat) = (figs z).length := this
        omega
      cases hz : z.cps.toList with
      | nil =>
        have e : figs z = z := figs_pos (by rw [hz]; exact fun e => by cases e)
        rw [e] at hn
        exact (hn hz).elim
      | cons c r =>
        have e2 := len z
        by_cases hc : c = 45
        · subst hc
          have e := figs_neg hz
          have e3 := len (figs z)
          rw [e] at e3 h3 hn hz0
          rw [hz, List.length_cons] at e2
          have hh : r.head? ≠ some 48 := fun x => hz0 ⟨x, fun y => by
            have := congrArg (fun s : Str => s.cps.toList) y
            rw [hz] at this
            have h48 : (45 :: r : List Nat) = [48] := this
            cases h48⟩
          rw [intText_neg hz (fun c hc => h3 c hc) hn (by omega)] at h
          cases h
          have hb := numL_back _ r rfl hn h3 (.inl hh)
          have hp : 0 < NumText.digitsVal r := by
            rcases Nat.eq_zero_or_pos (NumText.digitsVal r) with h | h
            · rw [h] at hb
              rw [← hb] at hh
              exact (hh rfl).elim
            · exact h
          obtain ⟨k, hk⟩ : ∃ k, NumText.digitsVal r = k + 1 := ⟨NumText.digitsVal r - 1, by omega⟩
          refine ext_tl ?_
          show z.cps.toList = (numS (-((NumText.digitsVal r : Nat) : Int))).cps.toList
          rw [hk, numS_neg, ← hk, hb, hz]
        · have e : figs z = z := figs_pos (by rw [hz]; intro e; exact hc (Option.some.inj e))
          rw [e] at h1 h2 h3 hn hz0
          rw [intText_digits (fun c hc => h3 c hc) hn (by omega)] at h
          cases h
          have hh : z.cps.toList.head? ≠ some 48 ∨ z.cps.toList = [48] := by
            by_cases y : z = ("0" : Str)
            · right; rw [y]; rfl
            · left; exact fun x => hz0 ⟨x, y⟩
          refine ext_tl ?_
          show z.cps.toList = (numS ((NumText.digitsVal z.cps.toList : Nat) : Int)).cps.toList
          rw [numS_nat, numL_back _ _ rfl hn h3 hh]
  · cases h
theorem list_at {l : List Nat} {i c : Nat} (h : l[i]? = some c) : l = l.take i ++ c :: l.drop (i + 1) := by
  obtain ⟨h1, h2⟩ := List.getElem?_eq_some_iff.mp h
  rw [← h2, ← List.drop_eq_getElem_cons h1, List.take_append_drop]
theorem fcom_at : ∀ {l : List Nat} {d : Int} {i : Nat}, fcom l d = some i → l[i]? = some 44
  | [], d, i, h => by cases h
  | c :: cs, d, i, h => by
    rw [fcom] at h
    have go : ∀ {d' : Int}, (fcom cs d').map (· + 1) = some i → (c :: cs)[i]? = some 44 := fun {d'} h => by
      obtain ⟨j, hj, rfl⟩ := Option.map_eq_some_iff.mp h
      exact (List.getElem?_cons_succ).trans (fcom_at hj)
    split at h
    · exact go h
    · split at h
      · exact go h
      · split at h
        · rename_i hc
          cases h
          rw [hc.1]
          rfl
        · exact go h
theorem part_back {x y : Str} (hy : tl y ≠ []) (h : ¬ (Txt.partition x y).2.1 = ("" : Str)) : tl x = tl (Txt.partition x y).1 ++ (tl y ++ tl (Txt.partition x y).2.2) := by
  rcases PyProof.Rows.partition_whole x y with ⟨e, _⟩ | ⟨i, e, hi, _⟩
  · rw [e] at h
    exact (h rfl).elim
  · rw [e]
    have hp := (at_iff hy i).mp hi
    have hl : (tl y).length = y.length := Array.length_toList
    have hx : (tl x).length = x.length := Array.length_toList
    rw [pre_iff] at hp
    show tl x = tl (PySem.Builtin.Str.strSub x 0 i) ++ (tl y ++ tl (PySem.Builtin.Str.strSub x (i + y.length) x.length))
    rw [tl_strSub, tl_strSub_end, List.drop_zero, Nat.sub_zero, ← hl, ← List.drop_drop]
    conv => lhs; rw [← List.take_append_drop i (tl x), ← List.take_append_drop (tl y).length ((tl x).drop i), hp]
theorem sg_back {mk : Str → Int → Tst} {m z : Str} {t : Tst} (hy : tl m ≠ []) (h : sgLeaf mk m z = some t) : ∃ f k, t = mk f k ∧ z = f ++ m ++ numS k := by
  unfold sgLeaf at h
  split at h
  · cases h
  · rename_i hm
    obtain ⟨k, hk, rfl⟩ := Option.map_eq_some_iff.mp h
    refine ⟨_, k, rfl, ext_tl ?_⟩
    rw [tl_append, tl_append, ← num_back (by decide) hk, List.append_assoc]
    exact part_back hy hm
theorem is_back {z : Str} (h : cutS z none (some 3) = ("is:" : Str)) : z = (Tst.is (cutS z (some 3) none)).text := ext_tl (by
  show tl z = tl (("is:" : Str) ++ cutS z (some 3) none)
  rw [tl_append, ← h, cutS_to3, cutS_from3, List.take_append_drop])
theorem leafR_back {z : Str} {t : Tst} (h : leafR z = some t) : z = t.text ∧ t.deep = 1 := by
  unfold leafR at h
  split at h
  · rename_i e
    cases h
    exact ⟨e, rfl⟩
  · split at h
    · rename_i e
      cases h
      exact ⟨is_back e, rfl⟩
    · cases e : sgLeaf .less "<" z with
      | some u =>
        rw [e] at h
        cases h
        obtain ⟨f, k, rfl, e2⟩ := sg_back (by exact List.cons_ne_nil _ _) e
        exact ⟨e2, rfl⟩
      | none =>
        rw [e] at h
        obtain ⟨f, k, rfl, e2⟩ := sg_back (by exact List.cons_ne_nil _ _) h
        exact ⟨e2, rfl⟩
theorem hit_back {z w : Str} (h : hitW z w = true) : tl z = tl w ++ 40 :: (tl (innerR w z) ++ [41]) := by
  have e : tl (w ++ ("(" : Str)) = tl w ++ [40] := tl_append _ _
  have hw : (tl w).length = w.length := Array.length_toList
  have hz : (tl z).length = z.length := Array.length_toList
  unfold hitW at h
  obtain ⟨h1, h2⟩ := Bool.and_eq_true_iff.mp h
  rw [starts_iff (by rw [e]; simp), pre_iff, e] at h1
  have l1 := congrArg List.length h1
  rw [List.length_take, List.length_append, List.length_singleton] at l1
  rw [ends_iff (by exact List.cons_ne_nil _ _) (by show 1 ≤ z.length; omega), pre_iff] at h2
  replace h2 : ((tl z).drop (z.length - 1)).take 1 = [41] := h2
  have el : (tl z)[z.length - 1]? = some 41 := by
    have := congrArg (fun l : List Nat => l[0]?) h2
    rw [List.getElem?_take_of_lt (by omega), List.getElem?_drop] at this
    exact this
  have ew : (tl z)[w.length]? = some 40 := by
    have := congrArg (fun l : List Nat => l[w.length]?) h1
    rw [List.getElem?_take_of_lt (by rw [List.length_append, hw]; exact Nat.lt_succ_self _)] at this
    rw [this, List.getElem?_append_right (by omega), hw, Nat.sub_self]
    rfl
  have hlt : w.length < z.length - 1 := by
    rcases Nat.lt_or_ge w.length (z.length - 1) with h | h
    · exact h
    · have : z.length - 1 = w.length := by
        have := (List.getElem?_eq_some_iff.mp ew).1
        omega
      rw [this, ew] at el
      cases el
  have ei : tl (innerR w z) = ((tl z).dropLast).drop (w.length + 1) := cutS_mid z (w.length + 1)
  have a1 : (tl z).take (w.length + 1) = tl w ++ [40] := by
    rw [List.length_append, hw] at h1
    exact h1
  have a2 : tl z = (tl z).dropLast ++ [41] := by
    have hne : tl z ≠ [] := fun e => by rw [e] at hz; have : 0 = z.length := hz; omega
    have : (tl z).getLast hne = 41 := by
      rw [List.getLast_eq_getElem]
      have := (List.getElem?_eq_some_iff.mp el).2
      simp only [hz]
      exact this
    conv => lhs; rw [← snoc_last hne, this]
  have a3 : ((tl z).dropLast).take (w.length + 1) = tl w ++ [40] := by
    rw [← a1, List.dropLast_eq_take, List.take_take, Nat.min_eq_left (by omega)]
  rw [ei]
  conv => lhs; rw [a2, ← List.take_append_drop (w.length + 1) (tl z).dropLast, a3]
  simp only [List.append_assoc, List.cons_append, List.nil_append]
theorem mapM_three {f : Str → Option Tst} {w : Str} {hs : List Str} {ts : List Tst} {t : Tst} (h : hs.mapM f = some ts) (hk : mkT w ts = some t) :
    (w = "not" ∧ ∃ x a, hs = [x] ∧ ts = [a] ∧ f x = some a ∧ t = .no a) ∨ (w = "and" ∧ ∃ x y a b, hs = [x, y] ∧ f x = some a ∧ f y = some b ∧ t = .an a b) ∨ (w = "or" ∧ ∃ x y a b, hs = [x, y] ∧ f x = some a ∧ f y = some b ∧ t = .or a b) := by
  have one : ∀ {x : Str} {a : Tst}, [x].mapM f = some [a] → f x = some a := fun {x a} h => by
    rw [List.mapM_cons] at h
    cases e : f x with
    | none => rw [e] at h; cases h
    | some u => rw [e] at h; cases h; rfl
  have two : ∀ {x y : Str} {a b : Tst}, [x, y].mapM f = some [a, b] → f x = some a ∧ f y = some b := fun {x y a b} h => by
    rw [List.mapM_cons] at h
    cases e : f x with
    | none => rw [e] at h; cases h
    | some u =>
      rw [e, List.mapM_cons] at h
      cases e2 : f y with
      | none => rw [e2] at h; cases h
      | some v => rw [e2] at h; cases h; exact ⟨rfl, rfl⟩
  have hl := mapM_len h
  unfold mkT at hk
  split at hk
  · rename_i e
    split at hk
    · rename_i a
      cases hk
      obtain ⟨x, rfl⟩ := List.length_eq_one_iff.mp (by rw [← hl]; rfl : hs.length = 1)
      exact .inl ⟨e, x, a, rfl, rfl, one h, rfl⟩
    · cases hk
  · split at hk
    · rename_i e
      split at hk
      · rename_i a b
        cases hk
        obtain ⟨x, y, rfl⟩ := len_two (by rw [← hl]; rfl : hs.length = 2)
        exact .inr (.inl ⟨e, x, y, a, b, rfl, (two h).1, (two h).2, rfl⟩)
      · cases hk
    · split at hk
      · rename_i e
        split at hk
        · rename_i a b
          cases hk
          obtain ⟨x, y, rfl⟩ := len_two (by rw [← hl]; rfl : hs.length = 2)
          exact .inr (.inr ⟨e, x, y, a, b, rfl, (two h).1, (two h).2, rfl⟩)
        · cases hk
      · cases hk
/-- two halves at a comma -/
theorem half_back {z : Str} {i : Nat} (h : (tl z)[i]? = some 44) : tl z = tl (cutS z none (some (i : Int))) ++ 44 :: tl (cutS z (some ((i : Int) + 1)) none) := by
  have e2 : tl (cutS z (some ((i : Int) + 1)) none) = (tl z).drop (i + 1) := by
    have := cutS_from z (i + 1)
    rw [Int.natCast_add] at this
    exact this
  rw [cutS_to, e2]
  exact list_at h
theorem testR_back : ∀ {n : Nat} {z : Str} {t : Tst}, testR n z = some t → z = t.text ∧ t.deep ≤ n
  | 0, z, t, h => by cases h
  | n + 1, z, t, h => by
    rw [testR] at h
    split at h
    · obtain ⟨h1, h2⟩ := leafR_back h
      exact ⟨h1, by omega⟩
    · rename_i w hw
      have hb := hit_back (List.find?_some hw)
      obtain ⟨hs, h1, h⟩ := Option.bind_eq_some_iff.mp h
      obtain ⟨ts, h2, h3⟩ := Option.bind_eq_some_iff.mp h
      have two : ∀ {x y : Str}, w ≠ ("not" : Str) → hs = [x, y] → tl (innerR w z) = tl x ++ 44 :: tl y := fun {x y} hn e => by
        rw [halvesR, if_neg hn] at h1
        obtain ⟨i, hi, e2⟩ := Option.map_eq_some_iff.mp h1
        rw [e] at e2
        cases e2
        exact half_back (fcom_at hi)
      rcases mapM_three h2 h3 with ⟨rfl, x, a, rfl, _, e, rfl⟩ | ⟨rfl, x, y, a, b, rfl, e1, e2, rfl⟩ | ⟨rfl, x, y, a, b, rfl, e1, e2, rfl⟩
      · obtain ⟨rfl, hd⟩ := testR_back e
        rw [halvesR, if_pos rfl] at h1
        have h1 : innerR "not" z = a.text := (List.cons.inj (Option.some.inj h1)).1
        exact ⟨ext_tl (by rw [hb, h1, tl_no]), Nat.succ_le_succ hd⟩
      · obtain ⟨rfl, hd1⟩ := testR_back e1
        obtain ⟨rfl, hd2⟩ := testR_back e2
        exact ⟨ext_tl (by rw [hb, two (by decide +kernel) rfl, tl_an]), by show max a.deep b.deep + 1 ≤ n + 1; omega⟩
      · obtain ⟨rfl, hd1⟩ := testR_back e1
        obtain ⟨rfl, hd2⟩ := testR_back e2
        exact ⟨ext_tl (by rw [hb, two (by decide +kernel) rfl, tl_or]), by show max a.deep b.deep + 1 ≤ n + 1; omega⟩
end Ls
namespace Ls
open PySem PySem.Spec PyProof.Rows L2 TL
def fsN {α : Type} (f : Nat → Option α) : Nat → Nat → Option α
  | 0, _ => none
  | m + 1, i => (f i).or (fsN f m (i + 1))
theorem fsN_hit {α : Type} {f : Nat → Option α} {k : Nat} {t : α} (h : f k = some t) : ∀ {m i : Nat}, i ≤ k → k < i + m → (∀ j, i ≤ j → j < k → f j = none) → fsN f m i = some t
  | 0, i, h1, h2, _ => by omega
  | m + 1, i, h1, h2, h3 => by
    rw [fsN]
    rcases Nat.lt_or_ge i k with hi | hi
    · rw [h3 i (Nat.le_refl _) hi, fsN_hit h (show i + 1 ≤ k by omega) (by omega) fun j j1 j2 => h3 j (by omega) j2]
      rfl
    · obtain rfl : i = k := by omega
      rw [h]
      rfl
theorem fsN_is {α : Type} {f : Nat → Option α} {t : α} : ∀ {m i : Nat}, fsN f m i = some t → ∃ k, i ≤ k ∧ k < i + m ∧ f k = some t
  | 0, i, h => by cases h
  | m + 1, i, h => by
    rw [fsN] at h
    cases e : f i with
    | some u =>
      rw [e] at h
      cases h
      exact ⟨i, Nat.le_refl _, by omega, e⟩
    | none =>
      rw [e] at h
      obtain ⟨k, h1, h2, h3⟩ := fsN_is (show fsN f m (i + 1) = some t from h)
      exact ⟨k, by omega, by omega, h3⟩
def fldL (z : Str) (i : Nat) : Option Tst :=
  if (tl z)[i]? = some 60 then (numIn 6 (cutS z (some ((i : Int) + 1)) none)).map (Tst.less (cutS z none (some (i : Int))))
  else if (tl z)[i]? = some 61 then (numIn 6 (cutS z (some ((i : Int) + 1)) none)).map (Tst.same (cutS z none (some (i : Int)))) else none
def lField (z : Str) : Option Tst := fsN (fldL z) z.length 0
def comL (z : Str) (i : Nat) : Bool := decide ((tl z)[i]? = some 44)
def balL (z : Str) (i : Nat) : Bool := decide (((tl z).take i).count 40 = ((tl z).take i).count 41)
def spotsL (z : Str) : List Nat := ((List.range z.length).filter (comL z)).filter (balL z)
def lHalves (z : Str) : List Str := match spotsL z with
  | [i] => [cutS z none (some (i : Int)), cutS z (some ((i : Int) + 1)) none]
  | _ => []
def lHv (w z : Str) : List Str := if w = ("not" : Str) then [z] else lHalves z
def lRead : Nat → Str → Option Tst
  | 0, z => match wordsR.find? (hitW z) with
    | some _ => none
    | none => if z = ("all" : Str) then some .all else if cutS z none (some 3) = ("is:" : Str) then some (.is (cutS z (some 3) none)) else lField z
  | n + 1, z => match wordsR.find? (hitW z) with
    | some w => if lHv w (innerR w z) = [] then none else ((lHv w (innerR w z)).mapM (lRead n)).bind (mkT w)
    | none => if z = ("all" : Str) then some .all else if cutS z none (some 3) = ("is:" : Str) then some (.is (cutS z (some 3) none)) else lField z
theorem lField_back {z : Str} {t : Tst} (h : lField z = some t) : z = t.text ∧ t.deep = 1 := by
  obtain ⟨k, _, _, hk⟩ := fsN_is h
  have e2 : tl (cutS z (some ((k : Int) + 1)) none) = (tl z).drop (k + 1) := by
    have := cutS_from z (k + 1)
    rw [Int.natCast_add] at this
    exact this
  have go : ∀ {c : Nat} {m : Str} {n : Int}, tl m = [c] → (tl z)[k]? = some c → numIn 6 (cutS z (some ((k : Int) + 1)) none) = some n → z = cutS z none (some (k : Int)) ++ m ++ numS n := fun {c m n} em hc hn => ext_tl (by
    rw [tl_append, tl_append, ← num_back (by decide) hn, cutS_to, e2, em, List.append_assoc]
    exact list_at hc)
  unfold fldL at hk
  split at hk
  · rename_i hc
    obtain ⟨n, hn, rfl⟩ := Option.map_eq_some_iff.mp hk
    exact ⟨go (m := "<") rfl hc hn, rfl⟩
  · split at hk
    · rename_i hc
      obtain ⟨n, hn, rfl⟩ := Option.map_eq_some_iff.mp hk
      exact ⟨go (m := "=") rfl hc hn, rfl⟩
    · cases hk
theorem lLeaf_back {z : Str} {t : Tst} (h : (if z = ("all" : Str) then some Tst.all else if cutS z none (some 3) = ("is:" : Str) then some (.is (cutS z (some 3) none)) else lField z) = some t) : z = t.text ∧ t.deep = 1 := by
  split at h
  · rename_i e
    cases h
    exact ⟨e, rfl⟩
  · split at h
    · rename_i e
      cases h
      exact ⟨is_back e, rfl⟩
    · exact lField_back h
theorem spots_mem {z : Str} {i : Nat} (h : i ∈ spotsL z) : (tl z)[i]? = some 44 := of_decide_eq_true (List.mem_filter.mp (List.mem_filter.mp h).1).2
theorem lHalves_two {z x y : Str} (h : lHalves z = [x, y]) : tl z = tl x ++ 44 :: tl y := by
  unfold lHalves at h
  split at h
  · rename_i i e
    cases h
    exact half_back (spots_mem (by rw [e]; exact List.mem_cons_self))
  · cases h
theorem lRead_back : ∀ {n : Nat} {z : Str} {t : Tst}, lRead n z = some t → z = t.text ∧ t.deep ≤ n + 1
  | 0, z, t, h => by
    rw [lRead] at h
    split at h
    · cases h
    · obtain ⟨h1, h2⟩ := lLeaf_back h
      exact ⟨h1, by omega⟩
  | n + 1, z, t, h => by
    rw [lRead] at h
    split at h
    · rename_i w hw
      have hb := hit_back (List.find?_some hw)
      split at h
      · cases h
      · obtain ⟨ts, h2, h3⟩ := Option.bind_eq_some_iff.mp h
        have two : ∀ {x y : Str}, w ≠ ("not" : Str) → lHv w (innerR w z) = [x, y] → tl (innerR w z) = tl x ++ 44 :: tl y := fun {x y} hn e => by
          rw [lHv, if_neg hn] at e
          exact lHalves_two e
        rcases mapM_three h2 h3 with ⟨rfl, x, a, e0, _, e, rfl⟩ | ⟨rfl, x, y, a, b, e0, e1, e2, rfl⟩ | ⟨rfl, x, y, a, b, e0, e1, e2, rfl⟩
        · obtain ⟨rfl, hd⟩ := lRead_back e
          rw [lHv, if_pos rfl] at e0
          exact ⟨ext_tl (by rw [hb, (List.cons.inj e0).1, tl_no]), Nat.succ_le_succ hd⟩
        · obtain ⟨rfl, hd1⟩ := lRead_back e1
          obtain ⟨rfl, hd2⟩ := lRead_back e2
          exact ⟨ext_tl (by rw [hb, two (by decide +kernel) e0, tl_an]), by show max a.deep b.deep + 1 ≤ n + 1 + 1; omega⟩
        · obtain ⟨rfl, hd1⟩ := lRead_back e1
          obtain ⟨rfl, hd2⟩ := lRead_back e2
          exact ⟨ext_tl (by rw [hb, two (by decide +kernel) e0, tl_or]), by show max a.deep b.deep + 1 ≤ n + 1 + 1; omega⟩
    · obtain ⟨h1, h2⟩ := lLeaf_back h
      exact ⟨h1, by omega⟩
structure Bl (d : Nat) (l : List Nat) : Prop where
  eq : l.count 40 = l.count 41
  cm : ∀ j, l[j]? = some 44 → (l.take j).count 41 < d + (l.take j).count 40
theorem Bl.plain {l : List Nat} (h : ∀ c ∈ l, c ≠ 40 ∧ c ≠ 41 ∧ c ≠ 44) : Bl 0 l := by
  refine ⟨?_, fun j hj => ?_⟩
  · rw [List.count_eq_zero.mpr fun m => (h 40 m).1 rfl, List.count_eq_zero.mpr fun m => (h 41 m).2.1 rfl]
  · exact ((h 44 (List.mem_of_getElem? hj)).2.2 rfl).elim
theorem Bl.mono {d e : Nat} {l : List Nat} (h : Bl d l) (k : d ≤ e) : Bl e l := ⟨h.eq, fun j hj => by have := h.cm j hj; omega⟩
theorem Bl.app {d : Nat} {l m : List Nat} (h1 : Bl d l) (h2 : Bl d m) : Bl d (l ++ m) := by
  refine ⟨by rw [List.count_append, List.count_append, h1.eq, h2.eq], fun j hj => ?_⟩
  rcases Nat.lt_or_ge j l.length with h | h
  · rw [List.getElem?_append_left h] at hj
    rw [List.take_append_of_le_length (by omega)]
    exact h1.cm j hj
  · rw [List.getElem?_append_right h] at hj
    rw [List.take_append, List.take_of_length_le h, List.count_append, List.count_append, h1.eq]
    have := h2.cm _ hj
    omega
theorem Bl.com {d : Nat} (hd : 1 ≤ d) : Bl d [44] := ⟨by decide, fun j hj => by
  have := (List.getElem?_eq_some_iff.mp hj).1
  have : j = 0 := by simpa using this
  subst this
  show 0 < d + 0
  omega⟩
theorem Bl.br {l : List Nat} (h : Bl 1 l) : Bl 0 (40 :: (l ++ [41])) := by
  refine ⟨?_, fun j hj => ?_⟩
  · rw [show (40 :: (l ++ [41])) = [40] ++ (l ++ [41]) from rfl, List.count_append, List.count_append, List.count_append, List.count_append, h.eq]
    show 1 + (_ + 0) = 0 + (_ + 1)
    omega
  · cases j with
    | zero => cases hj
    | succ j =>
      rw [List.getElem?_cons_succ] at hj
      rw [List.take_succ_cons, show ∀ m : List Nat, (40 :: m) = [40] ++ m from fun _ => rfl, List.count_append, List.count_append]
      rcases Nat.lt_or_ge j l.length with h3 | h3
      · rw [List.getElem?_append_left h3] at hj
        rw [List.take_append_of_le_length (by omega)]
        have := h.cm j hj
        show 0 + _ < 0 + (1 + _)
        omega
      · rw [List.getElem?_append_right h3] at hj
        have h4 := (List.getElem?_eq_some_iff.mp hj).1
        rw [List.length_singleton] at h4
        rw [show j - l.length = 0 by omega] at hj
        cases hj
theorem text_bl : ∀ {t : Tst}, t.ok → Bl 0 (tl t.text) := by
  intro t
  induction t with
  | no a ih =>
    intro ho
    rw [tl_no]
    exact .app (.plain (by decide +kernel)) (.br ((ih ho).mono (by decide)))
  | an a b ia ib =>
    intro ho
    rw [tl_an]
    exact .app (.plain (by decide +kernel)) (.br (.app ((ia ho.1).mono (by decide)) (.app (l := [44]) (.com (by decide)) ((ib ho.2).mono (by decide)))))
  | or a b ia ib =>
    intro ho
    rw [tl_or]
    exact .app (.plain (by decide +kernel)) (.br (.app ((ia ho.1).mono (by decide)) (.app (l := [44]) (.com (by decide)) ((ib ho.2).mono (by decide)))))
  | _ => exact fun ho => .plain (leaf_plain ho rfl)
theorem filter_one {n k : Nat} {p : Nat → Bool} (hk : k < n) (h : ∀ i, i < n → (p i = true ↔ i = k)) : (List.range n).filter p = [k] := by
  obtain ⟨m, rfl⟩ : ∃ m, n = k + (1 + m) := ⟨n - k - 1, by omega⟩
  rw [List.range_add, List.filter_append, List.filter_eq_nil_iff.mpr fun i hi => by
    have hi := List.mem_range.mp hi
    intro z
    have := (h i (by omega)).mp z
    omega, List.nil_append, Nat.add_comm 1 m, List.range_succ_eq_map, List.map_cons, List.filter_cons, if_pos ((h (k + 0) (by omega)).mpr rfl), List.filter_eq_nil_iff.mpr fun i hi => by
    simp only [List.mem_map, List.mem_range] at hi
    obtain ⟨j, ⟨i', hi', rfl⟩, rfl⟩ := hi
    intro z
    have := (h (k + (i' + 1)) (by omega)).mp z
    omega]
  rfl
theorem spots_two {z : Str} {a b : Tst} (ha : a.ok) (hb : b.ok) (h : tl z = tl a.text ++ 44 :: tl b.text) : spotsL z = [(tl a.text).length] := by
  have hz : (tl z).length = z.length := Array.length_toList
  have hl : z.length = (tl a.text).length + ((tl b.text).length + 1) := by rw [← hz, h, List.length_append, List.length_cons]
  unfold spotsL
  rw [List.filter_filter]
  refine filter_one (by omega) fun i hi => ?_
  rw [Bool.and_eq_true, comL, balL, decide_eq_true_iff, decide_eq_true_iff, h]
  refine ⟨fun ⟨h1, h2⟩ => ?_, fun e => ?_⟩
  · rcases Nat.lt_trichotomy i (tl a.text).length with hlt | heq | hgt
    · rw [List.getElem?_append_left hlt] at h2
      rw [List.take_append_of_le_length (by omega)] at h1
      have := (text_bl ha).cm i h2
      omega
    · exact heq
    · rw [List.getElem?_append_right (by omega)] at h2
      rw [List.take_append, List.take_of_length_le (by omega), List.count_append, List.count_append, (text_bl ha).eq] at h1
      obtain ⟨j, hj⟩ : ∃ j, i - (tl a.text).length = j + 1 := ⟨i - (tl a.text).length - 1, by omega⟩
      rw [hj] at h1 h2
      rw [List.getElem?_cons_succ] at h2
      rw [List.take_succ_cons, show ∀ m : List Nat, (44 :: m) = [44] ++ m from fun _ => rfl, List.count_append, List.count_append] at h1
      have := (text_bl hb).cm j h2
      have e40 : List.count 40 [44] = 0 := by decide
      have e41 : List.count 41 [44] = 0 := by decide
      omega
  · subst e
    refine ⟨?_, ?_⟩
    · rw [List.take_left' rfl, (text_bl ha).eq]
    · rw [List.getElem?_append_right (Nat.le_refl _), Nat.sub_self]
      rfl
theorem lHalves_text {z : Str} {a b : Tst} (ha : a.ok) (hb : b.ok) (h : tl z = tl a.text ++ 44 :: tl b.text) : lHalves z = [a.text, b.text] := by
  unfold lHalves
  rw [spots_two ha hb h]
  have e1 : cutS z none (some (((tl a.text).length : Nat) : Int)) = a.text := ext_tl (by rw [cutS_to, h, List.take_left' rfl])
  have e2 : cutS z (some ((((tl a.text).length : Nat) : Int) + 1)) none = b.text := ext_tl (by
    have := cutS_from z ((tl a.text).length + 1)
    rw [Int.natCast_add] at this
    refine this.trans ?_
    rw [h, show tl a.text ++ 44 :: tl b.text = (tl a.text ++ [44]) ++ tl b.text by simp]
    exact List.drop_left' (by rw [List.length_append]; rfl))
  show [cutS z none (some (((tl a.text).length : Nat) : Int)), cutS z (some ((((tl a.text).length : Nat) : Int) + 1)) none] = _
  rw [e1, e2]
theorem lLeaf_text {t : Tst} (ho : t.ok) (hd : t.deep = 1) : (if t.text = ("all" : Str) then some Tst.all else if cutS t.text none (some 3) = ("is:" : Str) then some (.is (cutS t.text (some 3) none)) else lField t.text) = some t := by
  have hR := leafR_text ho hd
  unfold leafR at hR
  have fld : ∀ {f sg : Str} {k : Int} {c : Nat} {u : Tst}, tl sg = [c] → IsNm f → fldL (f ++ sg ++ numS k) f.length = some u → (c = 60 ∨ c = 61) → lField (f ++ sg ++ numS k) = some u := fun {f sg k c u} es hf hu hc => by
    have hz : (tl (f ++ sg ++ numS k)).length = (f ++ sg ++ numS k).length := Array.length_toList
    have hfl : (tl f).length = f.length := Array.length_toList
    have e : tl (f ++ sg ++ numS k) = tl f ++ c :: tl (numS k) := by rw [tl_append, tl_append, es, List.append_assoc]; rfl
    refine fsN_hit hu (Nat.zero_le _) (by rw [← hz, e, List.length_append, List.length_cons, hfl]; omega) fun j _ hj => ?_
    have hm : (tl (f ++ sg ++ numS k))[j]? = some ((tl f)[j]'(by omega)) := by rw [e, List.getElem?_append_left (by omega)]; exact List.getElem?_eq_getElem _
    have hr := hf.2.2 _ (List.getElem_mem (l := tl f) (n := j) (by omega))
    unfold fldL
    rw [hm, if_neg fun z => by have := Option.some.inj z; omega, if_neg fun z => by have := Option.some.inj z; omega]
  have at_ : ∀ {f sg : Str} {k : Int} {c : Nat}, tl sg = [c] → (tl (f ++ sg ++ numS k))[f.length]? = some c ∧ cutS (f ++ sg ++ numS k) none (some (f.length : Int)) = f ∧ cutS (f ++ sg ++ numS k) (some ((f.length : Int) + 1)) none = numS k := fun {f sg k c} es => by
    have hfl : (tl f).length = f.length := Array.length_toList
    have e : tl (f ++ sg ++ numS k) = tl f ++ c :: tl (numS k) := by rw [tl_append, tl_append, es, List.append_assoc]; rfl
    refine ⟨by rw [e, List.getElem?_append_right (by omega), hfl, Nat.sub_self]; rfl, ext_tl (by rw [cutS_to, e, List.take_left' hfl]), ext_tl ?_⟩
    have := cutS_from (f ++ sg ++ numS k) (f.length + 1)
    rw [Int.natCast_add] at this
    refine this.trans ?_
    rw [e, show tl f ++ c :: tl (numS k) = (tl f ++ [c]) ++ tl (numS k) by simp]
    exact List.drop_left' (by rw [List.length_append, hfl]; rfl)
  cases t with
  | all => exact if_pos rfl
  | is n =>
    have h1 : ¬ (Tst.is n).text = ("all" : Str) := fun e => by rw [if_pos e] at hR; cases hR
    have h2 : cutS (Tst.is n).text none (some 3) = ("is:" : Str) := ext_tl (by
      rw [cutS_to3, show tl (Tst.is n).text = tl ("is:" : Str) ++ tl n from tl_append _ _]
      rfl)
    rw [if_neg h1, if_pos h2] at hR ⊢
    exact hR
  | less f k =>
    have e0 : (Tst.less f k).text = f ++ ("<" : Str) ++ numS k := rfl
    obtain ⟨a1, a2, a3⟩ := at_ (f := f) (sg := "<") (k := k) (c := 60) rfl
    rw [e0, if_neg (cmp_nall (m := 60) (by decide +kernel) (by omega)), if_neg (cmp_nis (sg := "<") ho.1 (by decide +kernel))]
    refine fld (c := 60) rfl ho.1 ?_ (.inl rfl)
    unfold fldL
    rw [a1, if_pos rfl, a2, a3, num6 ho.2]
    rfl
  | same f k =>
    have e0 : (Tst.same f k).text = f ++ ("=" : Str) ++ numS k := rfl
    obtain ⟨a1, a2, a3⟩ := at_ (f := f) (sg := "=") (k := k) (c := 61) rfl
    rw [e0, if_neg (cmp_nall (m := 61) (by decide +kernel) (by omega)), if_neg (cmp_nis (sg := "=") ho.1 (by decide +kernel))]
    refine fld (c := 61) rfl ho.1 ?_ (.inr rfl)
    unfold fldL
    rw [a1, if_neg (by decide), if_pos rfl, a2, a3, num6 ho.2]
    rfl
  | no a => exact absurd hd (by have := deep_pos a; show a.deep + 1 ≠ 1; omega)
  | an a b => exact absurd hd (by have := deep_pos a; show max a.deep b.deep + 1 ≠ 1; omega)
  | or a b => exact absurd hd (by have := deep_pos a; show max a.deep b.deep + 1 ≠ 1; omega)
theorem lRead_text : ∀ {n : Nat} {t : Tst}, t.ok → t.deep ≤ n + 1 → lRead n t.text = some t
  | 0, t, ho, hd => by
    have h1 : t.deep = 1 := by have := deep_pos t; omega
    rw [lRead, find_noR ho h1]
    exact lLeaf_text ho h1
  | n + 1, t, ho, hd => by
    have leaf : t.deep = 1 → lRead (n + 1) t.text = some t := fun h1 => by
      rw [lRead, find_noR ho h1]
      exact lLeaf_text ho h1
    have n0 : ∀ {z : Str} {c : Nat}, (tl z)[0]? = some c → c ≠ 110 → hitW z "not" = false := fun h hc => hit_no (starts_ne (i := 0) (d := 110) h (by decide +kernel) hc)
    have n1 : ∀ {z : Str} {c : Nat}, (tl z)[0]? = some c → c ≠ 97 → hitW z "and" = false := fun h hc => hit_no (starts_ne (i := 0) (d := 97) h (by decide +kernel) hc)
    cases t with
    | all => exact leaf rfl
    | is z => exact leaf rfl
    | less f k => exact leaf rfl
    | same f k => exact leaf rfl
    | no a =>
      have e := tl_no a
      have ei : innerR "not" (Tst.no a).text = a.text := ext_tl (inner_of e)
      have ha : lRead n a.text = some a := lRead_text ho (by have : a.deep + 1 ≤ n + 1 + 1 := hd; omega)
      rw [lRead, find_1R (hit_of e)]
      show (if lHv "not" (innerR "not" (Tst.no a).text) = [] then none else ((lHv "not" (innerR "not" (Tst.no a).text)).mapM (lRead n)).bind (mkT "not")) = _
      rw [ei]
      show (([a.text].mapM (lRead n)).bind (mkT "not")) = _
      rw [List.mapM_cons, ha]
      rfl
    | an a b =>
      have e := tl_an a b
      have e7 : ("and" : Str) ≠ "not" := by decide +kernel
      have hm : max a.deep b.deep + 1 ≤ n + 1 + 1 := hd
      rw [lRead, find_2R (n0 (c := 97) (by rw [e]; rfl) (by decide)) (hit_of e)]
      show (if lHv "and" (innerR "and" (Tst.an a b).text) = [] then none else ((lHv "and" (innerR "and" (Tst.an a b).text)).mapM (lRead n)).bind (mkT "and")) = _
      rw [lHv, if_neg e7, lHalves_text ho.1 ho.2 (inner_of e)]
      show (([a.text, b.text].mapM (lRead n)).bind (mkT "and")) = _
      rw [List.mapM_cons, List.mapM_cons, lRead_text (n := n) (t := a) ho.1 (by omega), lRead_text (n := n) (t := b) ho.2 (by omega)]
      show mkT "and" [a, b] = _
      unfold mkT
      rw [if_neg e7, if_pos rfl]
    | or a b =>
      have e := tl_or a b
      have e7 : ("or" : Str) ≠ "not" := by decide +kernel
      have e8 : ("or" : Str) ≠ "and" := by decide +kernel
      have hm : max a.deep b.deep + 1 ≤ n + 1 + 1 := hd
      rw [lRead, find_3R (n0 (c := 111) (by rw [e]; rfl) (by decide)) (n1 (c := 111) (by rw [e]; rfl) (by decide)) (hit_of e)]
      show (if lHv "or" (innerR "or" (Tst.or a b).text) = [] then none else ((lHv "or" (innerR "or" (Tst.or a b).text)).mapM (lRead n)).bind (mkT "or")) = _
      rw [lHv, if_neg e7, lHalves_text ho.1 ho.2 (inner_of e)]
      show (([a.text, b.text].mapM (lRead n)).bind (mkT "or")) = _
      rw [List.mapM_cons, List.mapM_cons, lRead_text (n := n) (t := a) ho.1 (by omega), lRead_text (n := n) (t := b) ho.2 (by omega)]
      show mkT "or" [a, b] = _
      unfold mkT
      rw [if_neg e7, if_neg e8, if_pos rfl]
/-- both tell the same of what is a test -/
theorem D_inj0 : ∀ {t u : Tst}, t.D = u.D → t = u := by
  have s1 : ("all" : Str) ≠ "is" := by decide +kernel
  have s2 : ("less" : Str) ≠ "same" := by decide +kernel
  have s3 : ("not" : Str) ≠ "is" := by decide +kernel
  have s4 : ("and" : Str) ≠ "or" := by decide +kernel
  have s5 : ("less" : Str) ≠ "and" := by decide +kernel
  have s6 : ("less" : Str) ≠ "or" := by decide +kernel
  have s7 : ("same" : Str) ≠ "and" := by decide +kernel
  have s8 : ("same" : Str) ≠ "or" := by decide +kernel
  intro t
  induction t with
  | all => intro u h; cases u <;> simp_all [Tst.D]
  | is n => intro u h; cases u <;> simp_all [Tst.D]
  | less f k => intro u h; cases u <;> simp_all [Tst.D]
  | same f k => intro u h; cases u <;> simp_all [Tst.D]
  | no a ih => intro u h; cases u <;> simp_all [Tst.D]; exact ih rfl
  | an a b i1 i2 => intro u h; cases u <;> simp_all [Tst.D]; exact ⟨i1 rfl, i2 rfl⟩
  | or a b i1 i2 => intro u h; cases u <;> simp_all [Tst.D]; exact ⟨i1 rfl, i2 rfl⟩
theorem lRead_is (z : Str) : (lRead 5 z).filter (fun t => decide (IsT t.D)) = readR z := by
  have ok : ∀ {t : Tst}, IsT t.D → t.ok ∧ t.deep ≤ 5 := fun {t} i => by
    obtain ⟨u, e, hu, h2, _⟩ := isT_is i
    obtain rfl := D_inj0 e
    exact ⟨hu, h2⟩
  have a1 : ∀ t, (lRead 5 z).filter (fun t => decide (IsT t.D)) = some t ↔ IsT t.D ∧ z = t.text := fun t => by
    rw [Option.filter_eq_some_iff]
    refine ⟨fun ⟨h1, h2⟩ => ⟨of_decide_eq_true h2, (lRead_back h1).1⟩, fun ⟨h1, h2⟩ => ⟨?_, decide_eq_true h1⟩⟩
    obtain ⟨o1, o2⟩ := ok h1
    rw [h2]
    exact lRead_text o1 (by omega)
  have a2 : ∀ t, readR z = some t ↔ IsT t.D ∧ z = t.text := fun t => by
    unfold readR
    rw [Option.filter_eq_some_iff]
    refine ⟨fun ⟨h1, h2⟩ => ⟨of_decide_eq_true h2, (testR_back h1).1⟩, fun ⟨h1, h2⟩ => ⟨?_, decide_eq_true h1⟩⟩
    obtain ⟨o1, o2⟩ := ok h1
    rw [h2, testR_text o1, if_pos o2]
  exact Option.ext fun t => (a1 t).trans (a2 t).symm
end Ls
namespace Ls
open PySem PySem.Spec PyProof.Rows L2 TL
def spLHalves (K : PySem.W.Frag) : Sp := fun vs H Q _ => ∃ (z : Str) (L : List (As K)), vs = [.str z] ∧ Tx z ∧ Ls.Sep L H ∧ ∀ p H', Ls.Sep (Ls.ld p ((lHalves z).map PyData.str) :: L) H' → Q (.ref p) H'
def spLField (K : PySem.W.Frag) : Sp := fun vs H Q _ => ∃ (z : Str) (L : List (As K)), vs = [.str z] ∧ Tx z ∧ Ls.Sep L H ∧ ∀ v H', Ls.Sep (im v (oT (lField z)) :: L) H' → Q v H'
theorem one_len (b : Bool) (d : PyData) : (if b = true then [d] else []).length ≤ 1 := by cases b <;> simp
theorem cnt_is (z : Str) (i : Nat) (c : Nat) : Txt.count (cutS z none (some (i : Int))) ⟨#[c]⟩ = (((tl z).take i).count c : Nat) := by
  rw [PyProof.Rows.count_is]
  show countIn _ ((tl (cutS z none (some (i : Int)))).map _) = _
  rw [cutS_to]
  generalize (tl z).take i = l
  induction l with
  | nil => rfl
  | cons x l ih =>
    rw [List.map_cons, List.count_cons]
    show (if same (.str ⟨#[x]⟩) (.str ⟨#[c]⟩) = true then (1 : Int) else 0) + countIn (.str ⟨#[c]⟩) (l.map fun n => PyData.str ⟨#[n]⟩) = _
    rw [ih]
    have e : same (.str ⟨#[x]⟩) (.str ⟨#[c]⟩) = (x == c) := by
      have h := sg1 x c
      by_cases hx : x = c
      · subst hx
        simp [same, PyData.eqv]
      · rw [decide_eq_false hx] at h
        have h2 := of_decide_eq_false h
        show ((⟨#[x]⟩ : Str) == ⟨#[c]⟩) = _
        rw [beq_false_of_ne h2, beq_false_of_ne hx]
    rw [e]
    by_cases hx : (x == c) = true
    · rw [if_pos hx, if_pos hx]; omega
    · rw [if_neg hx, if_neg hx]; omega
end Ls
namespace Lw
open PySem PySem.Spec PyProof.Rows L2 Ls TL
theorem ok__law_number_in {P : Program} {w : World} {K : PySem.W.Frag} {mg : Str → Option Value} {base : Heap} (E : Env K mg w) : FnOk P w K mg base CX0 1 E.a__law_number_in E.fd__law_number_in ["_law_text", "_law_most"] (spNumIn K) := by
  refine E.F__law_number_in.ok sc__law_number_in (fun vs H Q E h => ?_) (fun cdv A outer s H vs Q E' hr h => ?_)
  · walk_at "hl"
  · have hu := huOf hr
    obtain ⟨z, most, L, rfl, hz, hm, hS, q⟩ := h
    refine ⟨_, PSs.nox (pss_cons (ps_set (i := 2) sc__law_number_in.nd rfl (Or.inl rfl) (pe_join (pe_ifExp (pt_cmpR (op_eqU K rfl hu) (pe_slice (sl_U K rfl) (pv 0) po_none (po_some pe_int)) pe_str (nomark _)) (pe_slice (sl_U K rfl) (pv 0) (po_some pe_int) po_none) (pv 0))))
(pss_cons (ps_if (PW.pt (pw_or (pt_not (pt_chain op_le op_le pe_int (pe_callB (call_lenU K rfl) (by rfl) E.n_len boot_len (pa_cons (pv 2) pa_nil)) (pv 1))) (pw_or1 (pt_not (pt_val (pe_callB (cr_allU K rfl rfl) (by rfl) E.n_all boot_all (pa_cons (pe_lc (own := [("_law_sign", 3)]) rfl sc__law_number_in.nd (pi_str (pv 2)) (blkOk_by (N := ["_law_text", "_law_most", "_law_figures", "_law_sign"]) (sc := defScope s__law_number_in) (by decide +kernel)) (fun _ _ _ _ _ => (pg_name (i := 3) sc__law_number_in.nd rfl (Or.inl rfl))) (fun _ _ _ _ _ => pts_nil) (fun _ _ _ _ _ => (pe_cmpR (op_inU K rfl hu) (pv 3) pe_str (by with_unfolding_all rfl)))) pa_nil))))))) (pss_one (ps_ret pe_non)) pss_nil)
(pss_one (ps_ret (pe_join (pe_ifExp (PW.pt (pw_and (pt_cmpR (op_eqU K rfl hu) (pe_ix (ix_U K rfl) (pv 2) pe_int (fun _ _ => rfl)) pe_str (nomark _)) (pw_and1 (pt_cmpR (op_neU K rfl hu) (pv 0) pe_str (nomark _))))) pe_non (pe_callTy (call_int_str) (by rfl) E.n_int boot_int (pa_cons (pv 0) pa_nil)))))))), ?_⟩
    refine k_body (s1 := some _ :: some _ :: [none, none]) rfl ?_
    walk_at "s"
    refine k_joinS (fun v (M : List (As K)) => v = V.str (figs z) ∧ M = L) ?_ ?_
    · walk_at "s"
      refine k_slStr (by rw [sizeLine_eq]; omega) ?_
      walk_at "s"
      by_cases e : cutS z none (some 1) = ("-" : Str)
      · have ef : figs z = cutS z (some 1) none := if_pos e
        rw [if_pos (decide_eq_true e)]
        walk_at "s"
        refine k_slStr (by rw [sizeLine_eq]; omega) ?_
        exact ⟨_, ⟨by rw [ef], rfl⟩, hS⟩
      · have ef : figs z = z := if_neg e
        rw [if_neg (by rw [decide_eq_false e]; exact Bool.false_ne_true)]
        walk_at "s"
        exact ⟨_, ⟨by rw [ef], rfl⟩, hS⟩
    rintro _ M H ⟨rfl, hM⟩ hS
    rw [hM] at hS
    have hfl := figs_len z
    walk_at "s"
    refine k_lenS (by rw [sizeLine_eq]; omega) ?_
    walk_at "s"
    have no : ¬ FigOk most z → numIn most z = none := fun h => if_neg h
    by_cases h1 : 1 ≤ (figs z).length
    · walk_at "s"
      by_cases h2 : ((figs z).length : Int) ≤ most
      · walk_at "s"
        rename Addr => pl
        refine lc_flat (zs := (figs z).cps.toList) (fun c => [PyData.bool (decide (IsDg c))]) hS (fun acc => wk_str) (fun i c acc hc hk _ la H hS => ?_) (fun H hS => ?_)
        · walk_at "ls"
          rw [dg_mem]
          refine lc_keep hS (.bl _) .refl ?_ (hk _ rfl)
          have := (List.getElem?_eq_some_iff.mp hc).1
          have e2 : (figs z).cps.toList.length = (figs z).length := Array.length_toList
          rw [sizeLine_eq]
          omega
        rw [flat_map (fun c : Nat => PyData.bool (decide (IsDg c)))] at hS
        walk_at "s"
        refine k_allS (zs := (figs z).cps.toList) (f := fun c => decide (IsDg c)) hS (by walk_at "mem") ?_
        by_cases h3 : ∀ c ∈ (figs z).cps.toList, IsDg c
        · have ok : FigOk most z := ⟨by omega, h2, h3⟩
          rw [List.all_eq_true.mpr fun c hc => decide_eq_true (h3 c hc)]
          walk_at "s"
          refine k_nojoin ?_
          walk_at "s"
          obtain ⟨c, r, hcr⟩ : ∃ c r, (figs z).cps.toList = c :: r := by
            have e2 : (figs z).cps.toList.length = (figs z).length := Array.length_toList
            cases hl : (figs z).cps.toList with
            | nil => rw [hl] at e2; have : 0 = (figs z).length := e2; omega
            | cons c r => exact ⟨c, r, rfl⟩
          refine k_ixS (by rw [sizeLine_eq]; omega) (c := c) (by rw [hcr]; show atI (c :: r) ((0 : Nat) : Int) = some c; exact atI_nat rfl) ?_
          walk_at "s"
          obtain ⟨⟨n, hn⟩, hlen⟩ := fig_int ok hm
          by_cases h4 : c = 48
          · have e4 : (⟨#[c]⟩ : Str) = ("0" : Str) := by rw [h4]; rfl
            rw [if_pos (decide_eq_true e4)]
            walk_at "s"
            by_cases h5 : z = ("0" : Str)
            · have hq : numIn most z = some n := by
                unfold numIn
                rw [if_pos ok, if_neg fun y => y.2 h5]
                exact hn
              rw [hq] at q
              rw [if_neg (by rw [decide_eq_true h5]; exact Bool.false_ne_true)]
              walk_at "s"
              exact ⟨z, n, rfl, hn, hlen, q _ (Sub.ok (by walk_at "sub") hS)⟩
            · have hq : numIn most z = none := by
                unfold numIn
                rw [if_pos ok, if_pos ⟨by rw [hcr, h4]; rfl, h5⟩]
              rw [hq] at q
              rw [if_pos (by rw [decide_eq_false h5]; rfl)]
              walk_at "s"
              exact q _ (Sub.ok (by walk_at "sub") hS)
          · have e4 : ¬ (⟨#[c]⟩ : Str) = ("0" : Str) := fun e => h4 (by
              have := congrArg (fun s : Str => s.cps.toList) e
              have h6 : [c] = [48] := this
              exact (List.cons.inj h6).1)
            have hq : numIn most z = some n := by
              unfold numIn
              rw [if_pos ok, if_neg fun y => h4 (by have := y.1; rw [hcr] at this; exact Option.some.inj this)]
              exact hn
            rw [hq] at q
            rw [if_neg (by rw [decide_eq_false e4]; exact Bool.false_ne_true)]
            walk_at "s"
            exact ⟨z, n, rfl, hn, hlen, q _ (Sub.ok (by walk_at "sub") hS)⟩
        · have hb : (figs z).cps.toList.all (fun c => decide (IsDg c)) = false := by
            rw [List.all_eq_false]
            obtain ⟨c, hc, hn⟩ := Classical.not_forall.mp h3 |>.imp fun c h => Classical.not_imp.mp h
            exact ⟨c, hc, by rw [decide_eq_false hn]; exact Bool.false_ne_true⟩
          rw [hb]
          walk_at "s"
          rw [no fun h => h3 h.2.2] at q
          exact q _ (Sub.ok (by walk_at "sub") hS)
      · rw [if_pos (by rw [decide_eq_false h2]; rfl), if_pos rfl]
        walk_at "s"
        rw [no fun h => h2 h.2.1] at q
        exact q _ hS
    · rw [if_neg (by rw [decide_eq_false (by omega)]; exact Bool.false_ne_true)]
      walk_at "s"
      rw [no fun h => h1 (by have := h.1; omega)] at q
      exact q _ hS
theorem ok__law_halves {P : Program} {w : World} {K : PySem.W.Frag} {mg : Str → Option Value} {base : Heap} (E : Env K mg w) : FnOk P w K mg base CX0 1 E.a__law_halves E.fd__law_halves ["_law_text"] (spLHalves K) := by
  refine E.F__law_halves.ok sc__law_halves (fun vs H Q E h => ?_) (fun cdv A outer s H vs Q E' hr h => ?_)
  · walk_at "hl"
  · have hu := huOf hr
    obtain ⟨z, L, rfl, hz, hS, q⟩ := h
    refine ⟨_, PSs.nox (pss_cons (ps_setLc (i := 1) (own := [("_law_at", 2)]) rfl sc__law_halves.nd rfl rfl (sw_true rfl rfl rfl (by decide +kernel)) (pi_range1 rfl E.n_range (pa_cons (pe_callB (call_lenU K rfl) (by rfl) E.n_len boot_len (pa_cons (pv 0) pa_nil)) pa_nil)) (blkOk_by (N := ["_law_text", "_law_spots", "_law_at"]) (sc := defScope s__law_halves) (by decide +kernel)) (fun _ _ _ _ _ => (pg_name (i := 2) sc__law_halves.nd rfl (Or.inl rfl))) (fun _ _ _ _ _ => (pts_one (pt_cmpR (op_eqU K rfl hu) (pe_ix (ix_U K rfl) (pv 0) (pv 2) (fun _ _ => rfl)) pe_str (nomark _)))) (fun _ _ _ _ _ => (pv 2)))
(pss_cons (ps_setLc (i := 1) (own := [("_law_at", 2)]) rfl sc__law_halves.nd rfl rfl (sw_true rfl rfl rfl (by decide +kernel)) (pi_seqU K rfl (pv 1)) (blkOk_by (N := ["_law_text", "_law_spots", "_law_at"]) (sc := defScope s__law_halves) (by decide +kernel)) (fun _ _ _ _ _ => (pg_name (i := 2) sc__law_halves.nd rfl (Or.inl rfl))) (fun _ _ _ _ _ => (pts_one (pt_cmpR (op_eqU K rfl hu) (pe_countR (pe_slice (sl_U K rfl) (pv 0) po_none (po_some (pv 2))) pe_str) (pe_countR (pe_slice (sl_U K rfl) (pv 0) po_none (po_some (pv 2))) pe_str) (nomark _)))) (fun _ _ _ _ _ => (pv 2)))
(pss_one (ps_ret (pe_join (pe_ifExp (pt_cmpR (op_eqU K rfl hu) (pe_callB (call_lenU K rfl) (by rfl) E.n_len boot_len (pa_cons (pv 1) pa_nil)) pe_int (nomark _)) (pe_lst (pa_cons (pe_slice (sl_U K rfl) (pv 0) po_none (po_some (pe_ix (ix_U K rfl) (pv 1) pe_int (fun _ _ => rfl)))) (pa_cons (pe_slice (sl_U K rfl) (pv 0) (po_some (pe_op (op_addU K rfl) (pe_ix (ix_U K rfl) (pv 1) pe_int (fun _ _ => rfl)) pe_int)) po_none) pa_nil))) (pe_lst pa_nil))))))), ?_⟩
    refine k_body (s1 := some _ :: [none, none]) rfl ?_
    have lz : (tl z).length = z.length := Array.length_toList
    have hz1 := hz.1
    walk_at "s"
    refine k_lenS (by rw [sizeLine_eq]; omega) ?_
    walk_at "s"
    rename Addr => pa
    refine lc_flat (zs := List.range z.length) (fun i => if comL z i = true then [PyData.int (i : Nat)] else []) hS (fun acc => wk_range) (fun i j acc hj hk hk0 la H hS => ?_) (fun H hS => ?_) (hr := fun i => one_len _ _)
    · have hj1 : j < z.length := by
        have := List.mem_range.mp (List.mem_of_getElem? hj)
        exact this
      have hi1 := (List.getElem?_eq_some_iff.mp hj).1
      rw [List.length_range] at hi1
      have hc : (tl z)[j]? = some ((tl z)[j]'(by omega)) := List.getElem?_eq_getElem _
      walk_at "ls"
      rw [show (0 : Int) + (j : Nat) = (j : Nat) by omega]
      refine k_ixS (by rw [sizeLine_eq]; omega) (c := (tl z)[j]'(by omega)) (atI_nat hc) ?_
      walk_at "s"
      rw [show (Str.ofString ",") = (⟨#[44]⟩ : Str) from rfl, sg1]
      by_cases h : (tl z)[j]'(by omega) = 44
      · have e : comL z j = true := decide_eq_true (by rw [hc, h])
        rw [if_pos (decide_eq_true h)]
        walk_at "s"
        exact lc_keep hS (.int _) .refl (by rw [sizeLine_eq]; omega) (hk _ (by rw [e]; rfl))
      · have e : ¬ comL z j = true := fun x => h (by have := of_decide_eq_true x; rw [hc] at this; exact Option.some.inj this)
        rw [if_neg (by rw [decide_eq_false h]; exact Bool.false_ne_true)]
        walk_at "s"
        exact lc_skip hS .refl (hk0 (if_neg e))
    rw [flat_filter (comL z) (fun i : Nat => PyData.int i)] at hS
    walk_at "s"
    refine lc_flat (zs := (List.range z.length).filter (comL z)) (fun i => if balL z i = true then [PyData.int (i : Nat)] else []) hS (fun acc => wk_ldm (f := fun i : Nat => PyData.int i) (by walk_at "mem")) (fun i j acc hj hk hk0 la H hS => ?_) (fun H hS => ?_) (hr := fun i => one_len _ _)
    · have hi1 := (List.getElem?_eq_some_iff.mp hj).1
      have hl1 := List.length_filter_le (comL z) (List.range z.length)
      rw [List.length_range] at hl1
      walk_at "ls"
      refine k_m1 ?_
      walk_at "s"
      refine k_slStr (by rw [sizeLine_eq]; omega) ?_
      walk_at "s"
      refine k_count ?_
      refine k_m1 ?_
      walk_at "s"
      refine k_slStr (by rw [sizeLine_eq]; omega) ?_
      walk_at "s"
      refine k_count ?_
      rw [show (Str.ofString "(") = (⟨#[40]⟩ : Str) from rfl, show (Str.ofString ")") = (⟨#[41]⟩ : Str) from rfl, cnt_is, cnt_is]
      by_cases h : balL z j = true
      · have e := of_decide_eq_true h
        walk_at "s"
        exact lc_keep hS (.int _) .refl (by rw [sizeLine_eq]; omega) (hk _ (if_pos h))
      · have e : ¬ ((tl z).take j).count 40 = ((tl z).take j).count 41 := fun x => h (decide_eq_true x)
        walk_at "s"
        exact lc_skip hS .refl (hk0 (if_neg h))
    · rw [flat_filter (balL z) (fun i : Nat => PyData.int i)] at hS
      replace hS : Ls.Sep (Ls.ld p ((spotsL z).map fun i : Nat => PyData.int i) :: _) H := hS
      have hsl : (spotsL z).length ≤ 1000 := by
        have h1 := List.length_filter_le (balL z) ((List.range z.length).filter (comL z))
        have h2 := List.length_filter_le (comL z) (List.range z.length)
        rw [List.length_range] at h2
        show (((List.range z.length).filter (comL z)).filter (balL z)).length ≤ 1000
        omega
      cases hsp : spotsL z with
      | nil =>
        have eh : lHalves z = [] := by unfold lHalves; rw [hsp]
        rw [eh] at q
        simp only [List.map_nil, List.map_cons] at q
        rw [hsp] at hS
        walk_at "s"
        refine k_nojoin ?_
        walk_at "s"
        rw [if_neg (by decide)]
        walk_at "s"
        exact q _ _ (Sub.ok (by walk_at "sub") hS)
      | cons i r =>
        cases r with
        | nil =>
          have eh : lHalves z = [cutS z none (some (i : Int)), cutS z (some ((i : Int) + 1)) none] := by unfold lHalves; rw [hsp]
          rw [eh] at q
          simp only [List.map_nil, List.map_cons] at q
          rw [hsp] at hS
          have e0 : atI [PyData.int (i : Nat)] 0 = some (.int (i : Nat)) := at00 _ _
          walk_at "s"
          refine k_nojoin ?_
          walk_at "s"
          rw [if_pos (by rfl)]
          walk_at "s"
          refine k_slStr (by rw [sizeLine_eq]; omega) ?_
          walk_at "s"
          refine k_slStr (by rw [sizeLine_eq]; omega) ?_
          walk_at "s"
          exact q _ _ (Sub.ok (by walk_at "sub") hS)
        | cons j r =>
          have eh : lHalves z = [] := by unfold lHalves; rw [hsp]
          rw [eh] at q
          simp only [List.map_nil] at q
          rw [hsp] at hS
          walk_at "s"
          refine k_nojoin ?_
          walk_at "s"
          rw [if_neg (by rw [decide_eq_false (by rw [List.length_map, List.length_cons, List.length_cons]; omega)]; exact Bool.false_ne_true)]
          walk_at "s"
          exact q _ _ (Sub.ok (by walk_at "sub") hS)
theorem ok__law_read_field {P : Program} {w : World} {K : PySem.W.Frag} {mg : Str → Option Value} {base : Heap} (E : Env K mg w) : FnOk P w K mg base CX0 2 E.a__law_read_field E.fd__law_read_field ["_law_text"] (spLField K) := by
  refine E.F__law_read_field.ok sc__law_read_field (fun vs H Q E h => ?_) (fun cdv A outer s H vs Q E' hr h => ?_)
  · walk_at "hl"
  · have hu := huOf hr
    have G__law_number_in := ok__law_number_in (P := P) (w := w) (base := base) E
    have hr__law_number_in := hr.mono (show 1 ≤ 1 by decide)
    have b__law_number_in := b__law_number_in E
    obtain ⟨z, L, rfl, hz, hS, q⟩ := h
    refine ⟨_, PSs.nox (pss_cons (ps_for PassesOwn.never rfl (pi_range1 rfl E.n_range (pa_cons (pe_callB (call_lenU K rfl) (by rfl) E.n_len boot_len (pa_cons (pv 0) pa_nil)) pa_nil)) (pg_name (i := 1) sc__law_read_field.nd rfl (Or.inl rfl))
(pss_cons (ps_set (i := 2) sc__law_read_field.nd rfl (Or.inl rfl) (pe_call G__law_number_in hr__law_number_in rfl E.g__law_number_in E.F__law_number_in.kp b__law_number_in .nil pass0 (pa_cons (pe_slice (sl_U K rfl) (pv 0) (po_some (pe_op (op_addU K rfl) (pv 1) pe_int)) po_none) (pa_cons pe_int pa_nil))))
(pss_one (ps_if (PW.pt (pw_and (pt_cmpR (op_inU K rfl hu) (pe_ix (ix_U K rfl) (pv 0) (pv 1) (fun _ _ => rfl)) pe_str (by with_unfolding_all rfl)) (pw_and1 (pt_cmpR (op_isnotU) (pv 2) pe_non (nomark _))))) (pss_one (ps_ret (pe_tup (pa_cons (pe_dget (hu1 hu) (pe_disp (pps_cons pe_str pe_str (pps_cons pe_str pe_str pps_nil)) (by rfl) (by rfl) (by simp) (by decide)) (pe_ix (ix_U K rfl) (pv 0) (pv 1) (fun _ _ => rfl)) (fun _ _ => rfl)) (pa_cons (pe_slice (sl_U K rfl) (pv 0) po_none (po_some (pv 1))) (pa_cons (pv 2) pa_nil)))))) pss_nil))))
(pss_one (ps_ret pe_non))), ?_⟩
    refine k_body (s1 := some _ :: [none, none]) rfl ?_
    have lz : (tl z).length = z.length := Array.length_toList
    have hz1 := hz.1
    walk_at "s"
    refine k_lenS (by rw [sizeLine_eq]; omega) ?_
    walk_at "s"
    refine for_wk (n := z.length) (fun i σ L' => L' = L ∧ lField z = fsN (fldL z) (z.length - i) i ∧ ∃ c1 c2, σ = [some (.str z), c1, c2]) (fun i σ L' _ => wk_rng) hS ⟨rfl, rfl, _, _, rfl⟩ (fun i σ L' hi iv => ?_) (fun σ L' H iv hS9 => ?_)
    · obtain ⟨rfl, ef, c1, c2, rfl⟩ := iv
      clear hS
      intro H hS
      walk_at "ns"
      have hc : (tl z)[i]? = some ((tl z)[i]'(by omega)) := List.getElem?_eq_getElem _
      obtain ⟨c, ec⟩ : ∃ c, c = (tl z)[i]'(by omega) := ⟨_, rfl⟩
      rw [← ec] at hc
      rw [show z.length - i = (z.length - (i + 1)) + 1 by omega, fsN] at ef
      have miss : fldL z i = none → lField z = fsN (fldL z) (z.length - (i + 1)) (i + 1) := fun h => by rw [ef, h]; rfl
      have hit : ∀ t, fldL z i = some t → lField z = some t := fun t h => by rw [ef, h]; rfl
      walk_at "s"
      rw [show (0 : Int) + (i : Nat) = (i : Nat) by omega]
      refine k_slStr (by rw [sizeLine_eq]; omega) ?_
      walk_at "s"
      refine ⟨_, 6, _, rfl, by have := cutS_len z (some ((i : Int) + 1)) none; omega, by decide, hS, fun H hS => ?_⟩
      walk_at "s"
      refine k_ixS (by rw [sizeLine_eq]; omega) (c := c) (atI_nat hc) ?_
      walk_at "s"
      have ein : decide (c ∈ (Str.ofString "<=").cps.toList) = decide (c = 60 ∨ c = 61) := decide_eq_decide.mpr ⟨fun h => by
        have h2 : c ∈ [60, 61] := h
        simpa using h2, fun h => by
        show c ∈ [60, 61]
        simpa using h⟩
      rw [ein]
      by_cases h : c = 60 ∨ c = 61
      case neg =>
        have e0 : fldL z i = none := by
          unfold fldL
          rw [hc, if_neg fun x => h (.inl (Option.some.inj x)), if_neg fun x => h (.inr (Option.some.inj x))]
        rw [if_neg (by rw [decide_eq_false h]; exact Bool.false_ne_true)]
        walk_at "s"
        exact ⟨_, ⟨rfl, miss e0, _, _, rfl⟩, Sub.ok (by walk_at "sub") hS⟩
      rw [if_pos (decide_eq_true h)]
      walk_at "s"
      cases hn : numIn 6 (cutS z (some ((i : Int) + 1)) none) with
      | none =>
        have e0 : fldL z i = none := by
          unfold fldL
          rw [hc, hn]
          split
          · rfl
          · split <;> rfl
        rw [show oV none = V.non from rfl, if_neg (by decide)]
        walk_at "s"
        exact ⟨_, ⟨rfl, miss e0, _, _, rfl⟩, Sub.ok (by walk_at "sub") hS⟩
      | some n =>
        obtain ⟨mk, wd, hmk, e0, ew⟩ : ∃ (mk : Str → Int → Tst) (wd : Str), (∀ f n, (mk f n).D = .tuple [.str wd, .str f, .int n]) ∧ fldL z i = some (mk (cutS z none (some (i : Int))) n) ∧ valV ([(.inr "<", .str "less"), (.inr "=", .str "same")] : List (Key × V)) (.inr (⟨#[c]⟩ : Str)) = some (.str wd) := by
          rcases h with rfl | rfl
          · refine ⟨.less, "less", fun _ _ => rfl, ?_, by decide +kernel⟩
            unfold fldL
            rw [hc, if_pos rfl, hn]
            rfl
          · refine ⟨.same, "same", fun _ _ => rfl, ?_, by decide +kernel⟩
            unfold fldL
            rw [hc, if_neg (by decide), if_pos rfl, hn]
            rfl
        have el := hit _ e0
        rw [show oV (some n) = V.int n from rfl, if_pos (by rfl)]
        walk_at "s"
        obtain ⟨kvs, ek⟩ : ∃ kvs : List (Key × V), kvs = [(.inr "<", .str "less"), (.inr "=", .str "same")] := ⟨_, rfl⟩
        refine ⟨hS.obm (by walk_at "mem"), kvs, by rw [ek]; rfl, by rw [ek]; exact Nat.le_of_ble_eq_true rfl, andThen (hS.disp kvs (by walk_at "rep")) ?_⟩
        generalize (upd _ _ (HO.dK (mergeK [] kvs))) = H2
        clear hS
        intro hS
        have em : mergeK [] kvs = kvs := by rw [ek]; rfl
        rw [em] at hS
        subst ek
        walk_at "s"
        refine k_ixS (by rw [sizeLine_eq]; omega) (c := c) (atI_nat hc) ?_
        refine k_getD hS (by walk_at "mem") ew ?_
        walk_at "s"
        refine k_slStr (by rw [sizeLine_eq]; omega) ?_
        walk_at "s"
        refine q _ _ ?_
        rw [el]
        show Ls.Sep (im _ (mk _ _).D :: _) _
        rw [hmk]
        exact Sub.ok (by walk_at "sub") hS
    · obtain ⟨rfl, ef, c1, c2, rfl⟩ := iv
      rw [Nat.sub_self, fsN] at ef
      walk_at "s"
      refine q _ _ ?_
      rw [ef]
      exact hS9.nonT
end Lw
namespace Ls
open PySem PySem.Spec PyProof.Rows L2 TL
def spLRead (K : PySem.W.Frag) (n : Nat) : Sp := fun vs H Q _ => ∃ (z : Str) (k : Nat) (L : List (As K)), vs = [.str z, .int (k + 1 : Nat)] ∧ k ≤ n ∧ n ≤ 10 ∧ Tx z ∧ Ls.Sep L H ∧ ∀ v H', Ls.Sep (im v (oT (lRead k z)) :: L) H' → Q v H'
def spLBent (K : PySem.W.Frag) : Sp := fun vs H Q _ => ∃ (d : Addr) (z : Str) (L : List (As K)), vs = [.ref d, .str z] ∧ Ls.Sep L H ∧ dr d ∈ L ∧ Asc z ∧ z.length ≤ 900 ∧ ∀ y H', Asc y → y.length ≤ z.length + 5 → Ls.Sep L H' → Q (.str y) H'
theorem hit_is (z w : Str) : (decide (cutS z none (some ((w.length : Int) + 1)) = w ++ ("(" : Str)) && decide (cutS z (some (-1)) none = (")" : Str))) = hitW z w := by
  have hz : (tl z).length = z.length := Array.length_toList
  have hw : (tl w).length = w.length := Array.length_toList
  have e : tl (w ++ ("(" : Str)) = tl w ++ [40] := tl_append _ _
  have e1 : decide (cutS z none (some ((w.length : Int) + 1)) = w ++ ("(" : Str)) = Txt.startswith z (w ++ ("(" : Str)) := by
    rw [Bool.eq_iff_iff, decide_eq_true_iff, starts_iff (by rw [e]; simp), pre_iff, e]
    have h1 : tl (cutS z none (some ((w.length : Int) + 1))) = (tl z).take (w.length + 1) := cutS_to z (w.length + 1)
    rw [List.length_append, hw]
    refine ⟨fun h => ?_, fun h => ext_tl ?_⟩
    · have := congrArg tl h
      rw [h1, e] at this
      exact this
    · rw [h1, e]
      exact h
  have h2 : tl (cutS z (some (-1)) none) = (tl z).drop (z.length - 1) := by
    show ((z.cps.toList.drop (HT.sIx z.length 0 (some (-1)))).take (z.length - HT.sIx z.length 0 (some (-1)))).toArray.toList = _
    have e2 : HT.sIx z.length 0 (some (-1)) = z.length - 1 := by
      show (if (-1 : Int) < 0 then ((-1 : Int) + (z.length : Int)).toNat else min (-1 : Int).toNat z.length) = z.length - 1
      rw [if_pos (by decide)]
      omega
    rw [e2, List.toList_toArray, List.take_of_length_le (by rw [List.length_drop]; show (tl z).length - _ ≤ _; omega)]
  have e2 : decide (cutS z (some (-1)) none = (")" : Str)) = Txt.endswith z (")" : Str) := by
    rcases Nat.eq_zero_or_pos z.length with h0 | h0
    · obtain rfl : z = ⟨#[]⟩ := ext_tl (List.length_eq_zero_iff.mp (hz.trans h0))
      decide +kernel
    · rw [Bool.eq_iff_iff, decide_eq_true_iff, ends_iff (by exact List.cons_ne_nil _ _) (by show 1 ≤ z.length; omega), pre_iff]
      show _ ↔ ((tl z).drop (z.length - 1)).take 1 = [41]
      rw [List.take_of_length_le (by rw [List.length_drop]; omega), ← h2]
      exact ⟨fun h => by rw [h]; rfl, fun h => ext_tl h⟩
  rw [e1, e2]
  rfl
theorem lHv_sub {w z : Str} (hz : Tx z) : (lHv w z).length ≤ 2 ∧ ∀ y ∈ lHv w z, Tx y := by
  unfold lHv
  split
  · exact ⟨by show 1 ≤ 2; decide, fun y hy => by rw [List.mem_singleton.mp hy]; exact hz⟩
  · unfold lHalves
    split
    · refine ⟨by show 2 ≤ 2; decide, fun y hy => ?_⟩
      simp only [List.mem_cons, List.not_mem_nil, or_false] at hy
      rcases hy with rfl | rfl <;> exact hz.cut _ _
    · exact ⟨Nat.zero_le _, fun y hy => by cases hy⟩
theorem lHv_len {w z : Str} (h : lHv w z ≠ []) : wordK w = some (lHv w z).length ∨ (w ≠ "not" ∧ w ≠ "and" ∧ w ≠ "or") := by
  by_cases h1 : w = ("not" : Str)
  · subst h1
    rw [lHv, if_pos rfl]
    exact .inl wordK_not
  · rw [lHv, if_neg h1] at h ⊢
    have h2 : (lHalves z).length = 2 := by
      unfold lHalves at h ⊢
      split at h
      · rfl
      · exact (h rfl).elim
    rw [h2]
    by_cases h3 : w = ("and" : Str)
    · subst h3; exact .inl wordK_and
    · by_cases h4 : w = ("or" : Str)
      · subst h4; exact .inl wordK_or
      · exact .inr ⟨h1, h3, h4⟩
theorem lRead_raw : ∀ {n : Nat} {z : Str} {t : Tst}, Tx z → lRead n z = some t → RawC 3 (n + 1) t.D := by
  have fld : ∀ {n : Nat} {z : Str} {t : Tst}, Tx z → lField z = some t → RawC 3 (n + 1) t.D := fun {n z t} hz h => by
    obtain ⟨k, _, _, hk⟩ := fsN_is h
    have go : ∀ {w : Str} {m : Int}, w.length ≤ 1000 ∧ PyData.strOk w = true → RawC 3 (n + 1) (.tuple [.str w, .str (cutS z none (some (k : Int))), .int m]) := fun hw => by
      refine raw_cons hw (by show 3 ≤ 3; decide) fun y hy => ?_
      simp only [List.mem_cons, List.not_mem_nil, or_false] at hy
      rcases hy with rfl | rfl
      · exact nm_rawS (hz.cut none (some (k : Int))).1 (hz.cut none (some (k : Int))).2
      · exact raw_int
    unfold fldL at hk
    split at hk
    · obtain ⟨m, _, rfl⟩ := Option.map_eq_some_iff.mp hk
      exact go (by decide +kernel)
    · split at hk
      · obtain ⟨m, _, rfl⟩ := Option.map_eq_some_iff.mp hk
        exact go (by decide +kernel)
      · cases hk
  have leaf : ∀ {n : Nat} {z : Str} {t : Tst}, Tx z → (if z = ("all" : Str) then some Tst.all else if cutS z none (some 3) = ("is:" : Str) then some (.is (cutS z (some 3) none)) else lField z) = some t → RawC 3 (n + 1) t.D := fun {n z t} hz h => by
    split at h
    · cases h
      exact raw_cons (by decide +kernel) (by show 1 ≤ 3; decide) fun y hy => by cases hy
    · split at h
      · cases h
        refine raw_cons (by decide +kernel) (by show 2 ≤ 3; decide) fun y hy => ?_
        rw [List.mem_singleton.mp hy]
        have := hz.cut (some 3) none
        exact nm_rawS this.1 this.2
      · exact fld hz h
  intro n
  induction n with
  | zero =>
    intro z t hz h
    rw [lRead] at h
    split at h
    · cases h
    · exact leaf hz h
  | succ n ih =>
    intro z t hz h
    rw [lRead] at h
    split at h
    · rename_i w hw
      split at h
      · cases h
      · obtain ⟨ts, h2, h3⟩ := Option.bind_eq_some_iff.mp h
        obtain ⟨e, hl⟩ := mkT_D h3
        rw [e]
        refine raw_cons (by rcases word_tx hw with rfl | rfl | rfl <;> decide +kernel) (by rw [List.length_map]; omega) fun y hy => ?_
        obtain ⟨u, hu, rfl⟩ := List.mem_map.mp hy
        obtain ⟨x, hx, ex⟩ := mapM_mem h2 u hu
        exact ih ((lHv_sub (hz.cut _ _)).2 x hx) ex
    · exact leaf hz h
theorem okd_oL {n : Nat} {z : Str} (hz : Tx z) : OkD (n + 1) (oT (lRead n z)) := by
  cases h : lRead n z with
  | none => trivial
  | some t => exact raw_okd (c := 3) (by decide) (lRead_raw hz h)
theorem asc_cut {z : Str} (h : Asc z) (lo hi : Option Int) : Asc (cutS z lo hi) := fun c hc => h c (cutS_sub z lo hi c hc)
theorem asc_app {x y : Str} (hx : Asc x) (hy : Asc y) : Asc (x ++ y) := fun c hc => by
  rw [show (x ++ y).cps.toList = tl x ++ tl y from tl_append _ _] at hc
  rcases List.mem_append.mp hc with h | h
  · exact hx c h
  · exact hy c h
theorem asc_rev {z : Str} (h : Asc z) : Asc (revS z) ∧ (revS z).length = z.length := by
  have e : (revS z).cps.toList = z.cps.toList.reverse := List.toList_toArray
  refine ⟨fun c hc => ?_, ?_⟩
  · rw [e] at hc
    exact h c (List.mem_reverse.mp hc)
  · show z.cps.toList.reverse.toArray.size = z.cps.size
    rw [List.size_toArray, List.length_reverse, Array.length_toList]
theorem app_len9 (x y : Str) : (x ++ y).length = x.length + y.length := by
  have len : ∀ z : Str, (tl z).length = z.length := fun z => Array.length_toList
  rw [← len, tl_append, List.length_append, len, len]
theorem cut_lens (z : Str) (i j : Nat) : (cutS z none (some (i : Int))).length = min i z.length ∧ (cutS z (some (i : Int)) none).length = z.length - i ∧ (cutS z (some (i : Int)) (some (j : Int))).length ≤ j - i := by
  have len : ∀ z : Str, (tl z).length = z.length := fun z => Array.length_toList
  refine ⟨by rw [← len, cutS_to, List.length_take, len], by rw [← len, cutS_from, List.length_drop, len], ?_⟩
  show ((z.cps.toList.drop (HT.sIx z.length 0 (some (i : Int)))).take (HT.sIx z.length z.length (some (j : Int)) - HT.sIx z.length 0 (some (i : Int)))).toArray.size ≤ _
  rw [List.size_toArray, List.length_take, HT.sIx_nat, HT.sIx_nat]
  omega
end Ls
namespace Lw
open PySem PySem.Spec PyProof.Rows L2 Ls TL
theorem ok__law_read {P : Program} {w : World} {K : PySem.W.Frag} {mg : Str → Option Value} {base : Heap} (E : Env K mg w) : ∀ n : Nat, FnOk P w K mg base CX0 (3 + n) E.a__law_read E.fd__law_read ["_law_text", "_law_deep_here"] (recSp (spLRead K) n) := by
  intro n
  induction n with
  | zero => exact E.F__law_read.ok sc__law_read (fun vs H Q E h => h.elim) (fun cdv A outer s H vs Q E' hr h => h.elim)
  | succ n ih =>
  replace ih : FnOk P w K mg base CX0 (3 + n) E.a__law_read E.fd__law_read ["_law_text", "_law_deep_here"] (recSp (spLRead K) n) := ih
  show FnOk P w K mg base CX0 (3 + n + 1) E.a__law_read E.fd__law_read ["_law_text", "_law_deep_here"] ((spLRead K) n)
  refine E.F__law_read.ok sc__law_read (fun vs H Q E h => ?_) (fun cdv A outer s H vs Q E' hr h => ?_)
  · walk_at "hl"
  · have hu := huOf hr
    have G__law_read_field := ok__law_read_field (P := P) (w := w) (base := base) E
    have hr__law_read_field := hr.mono (show 2 ≤ 3 + n by omega)
    have b__law_read_field := b__law_read_field E
    have G__law_halves := ok__law_halves (P := P) (w := w) (base := base) E
    have hr__law_halves := hr.mono (show 1 ≤ 3 + n by omega)
    have b__law_halves := b__law_halves E
    have G__law_read := ih
    have hr__law_read := hr
    have b__law_read := b__law_read E
    obtain ⟨z, k, L, rfl, hk, hn10, hz, hS, q⟩ := h
    refine ⟨_, PSs.nox (pss_cons (ps_for PassesOwn.never rfl (pi_seqU K rfl (pe_lst (pa_cons pe_str (pa_cons pe_str (pa_cons pe_str pa_nil))))) (pg_name (i := 2) sc__law_read.nd rfl (Or.inl rfl))
(pss_one (ps_if (PW.pt (pw_and (pt_cmpR (op_eqU K rfl hu) (pe_slice (sl_U K rfl) (pv 0) po_none (po_some (pe_op (op_addU K rfl) (pe_callB (call_lenU K rfl) (by rfl) E.n_len boot_len (pa_cons (pv 2) pa_nil)) pe_int))) (pe_op (op_addU K rfl) (pv 2) pe_str) (nomark _)) (pw_and1 (pt_cmpR (op_eqU K rfl hu) (pe_slice (sl_U K rfl) (pv 0) (po_some (pe_un un_neg pe_int)) po_none) pe_str (nomark _))))) (pss_cons (ps_set (i := 3) sc__law_read.nd rfl (Or.inl rfl) (pe_slice (sl_U K rfl) (pv 0) (po_some (pe_op (op_addU K rfl) (pe_callB (call_lenU K rfl) (by rfl) E.n_len boot_len (pa_cons (pv 2) pa_nil)) pe_int)) (po_some (pe_un un_neg pe_int))))
(pss_cons (ps_set (i := 4) sc__law_read.nd rfl (Or.inl rfl) (pe_join (pe_ifExp (pt_cmpR (op_eqU K rfl hu) (pv 2) pe_str (nomark _)) (pe_lst (pa_cons (pv 3) pa_nil)) (pe_call G__law_halves hr__law_halves rfl E.g__law_halves E.F__law_halves.kp b__law_halves .nil pass0 (pa_cons (pv 3) pa_nil)))))
(pss_cons (ps_if (PW.pt (pw_or (pt_cmpR (op_lt) (pv 1) pe_int (nomark _)) (pw_or1 (pt_cmpR (op_eqZ K rfl hu) (pv 4) (pe_lst pa_nil) (nomark _))))) (pss_one (ps_ret pe_non)) pss_nil)
(pss_cons (ps_setLc (i := 5) (own := [("_law_half", 6)]) rfl sc__law_read.nd rfl rfl (sw_true rfl rfl rfl (by decide +kernel)) (pi_seqU K rfl (pv 4)) (blkOk_by (N := ["_law_text", "_law_deep_here", "_law_word_here", "_law_inner", "_law_halves_here", "_law_found", "_law_half"]) (sc := defScope s__law_read) (by decide +kernel)) (fun _ _ _ _ _ => (pg_name (i := 6) sc__law_read.nd rfl (Or.inl rfl))) (fun _ _ _ _ _ => pts_nil) (fun _ _ _ _ _ => (pe_call G__law_read hr__law_read rfl E.g__law_read E.F__law_read.kp b__law_read .nil pass0 (pa_cons (pv 6) (pa_cons (pe_op op_sub (pv 1) pe_int) pa_nil)))))
(pss_one (ps_ret (pe_join (pe_ifExp (pt_cmpR (op_inU K rfl hu) pe_non (pv 5) (by with_unfolding_all rfl)) pe_non (pe_op (op_addU K rfl) (pe_tup (pa_cons (pv 2) pa_nil)) (pe_callTy (call_tupleU K rfl) (by rfl) E.n_tuple boot_tuple (pa_cons (pv 5) pa_nil))))))))))) pss_nil)))
(pss_cons (ps_if (pt_cmpR (op_eqU K rfl hu) (pv 0) pe_str (nomark _)) (pss_one (ps_ret (pe_tup (pa_cons pe_str pa_nil)))) pss_nil)
(pss_one (ps_ret (pe_join (pe_ifExp (pt_cmpR (op_eqU K rfl hu) (pe_slice (sl_U K rfl) (pv 0) po_none (po_some pe_int)) pe_str (nomark _)) (pe_tup (pa_cons pe_str (pa_cons (pe_slice (sl_U K rfl) (pv 0) (po_some pe_int) po_none) pa_nil))) (pe_call G__law_read_field hr__law_read_field rfl E.g__law_read_field E.F__law_read_field.kp b__law_read_field .nil pass0 (pa_cons (pv 0) pa_nil)))))))), ?_⟩
    refine k_body (s1 := some _ :: some _ :: [none, none, none, none, none]) rfl ?_
    have hz1 := hz.1
    walk_at "s"
    rename Addr => pw
    replace hS : Ls.Sep (Ls.ld pw (wordsR.map PyData.str) :: L) _ := hS
    have leaf : wordsR.find? (hitW z) = none → lRead k z = (if z = ("all" : Str) then some .all else if cutS z none (some 3) = ("is:" : Str) then some (.is (cutS z (some 3) none)) else lField z) := fun hf => by
      cases k <;> rw [lRead, hf]
    refine for_wk (n := wordsR.length) (fun i σ L' => L' = Ls.ld pw (wordsR.map PyData.str) :: L ∧ wordsR.find? (hitW z) = (wordsR.drop i).find? (hitW z) ∧ ∃ c1 c2 c3 c4 c5, σ = [some (.str z), some (.int (k + 1 : Nat)), c1, c2, c3, c4, c5]) (fun i σ L' e => by obtain ⟨rfl, _⟩ := e; exact wk_ldm (f := PyData.str) (by walk_at "mem")) hS ⟨rfl, rfl, _, _, _, _, _, rfl⟩ (fun i σ L' hi iv w hw => ?_) (fun σ L' H iv hS9 => ?_)
    · obtain ⟨rfl, er, c1, c2, c3, c4, c5, rfl⟩ := iv
      clear hS leaf
      walk_at "gi"
      walk_at "ns"
      have hwl : w = "not" ∨ w = "and" ∨ w = "or" := by simpa [wordsR] using (List.mem_of_getElem? hw : w ∈ wordsR)
      have hwlen : w.length ≤ 3 ∧ PyData.strOk w = true := by rcases hwl with rfl | rfl | rfl <;> decide +kernel
      have h1l : ("(" : Str).length = 1 := by decide +kernel
      have ed : wordsR.drop i = w :: wordsR.drop (i + 1) := by
        obtain ⟨h1, h2⟩ := List.getElem?_eq_some_iff.mp (hw : wordsR[i]? = some w)
        rw [← h2]
        exact List.drop_eq_getElem_cons h1
      rw [ed, List.find?_cons] at er
      have miss : hitW z w = false → wordsR.find? (hitW z) = (wordsR.drop (i + 1)).find? (hitW z) := fun h => by rw [er, h]
      have hhit := hit_is z w
      walk_at "s"
      refine k_lenS (by rw [sizeLine_eq]; omega) ?_
      walk_at "s"
      refine k_slStr (by rw [sizeLine_eq]; omega) ?_
      walk_at "s"
      refine k_addS (by rw [sizeLine_eq]; omega) ?_
      walk_at "s"
      by_cases h1 : cutS z none (some ((w.length : Int) + 1)) = w ++ ("(" : Str)
      case neg =>
        rw [decide_eq_false h1, Bool.false_and] at hhit
        rw [if_neg (by rw [decide_eq_false h1]; exact Bool.false_ne_true)]
        walk_at "s"
        exact ⟨_, ⟨rfl, miss hhit.symm, _, _, _, _, _, rfl⟩, Sub.ok (by walk_at "sub") hS⟩
      rw [decide_eq_true h1, Bool.true_and] at hhit
      rw [if_pos (decide_eq_true h1)]
      walk_at "s"
      refine k_slStr (by rw [sizeLine_eq]; omega) ?_
      walk_at "s"
      by_cases h2 : cutS z (some (-1)) none = (")" : Str)
      case neg =>
        rw [decide_eq_false h2] at hhit
        rw [if_neg (by rw [decide_eq_false h2]; exact Bool.false_ne_true)]
        walk_at "s"
        exact ⟨_, ⟨rfl, miss hhit.symm, _, _, _, _, _, rfl⟩, Sub.ok (by walk_at "sub") hS⟩
      rw [decide_eq_true h2] at hhit
      rw [if_pos (decide_eq_true h2)]
      rw [← hhit] at er
      clear miss hhit
      walk_at "s"
      refine k_lenS (by rw [sizeLine_eq]; omega) ?_
      walk_at "s"
      refine k_slStr (by rw [sizeLine_eq]; omega) ?_
      have hin : Tx (innerR w z) := hz.cut _ _
      rw [show cutS z (some ((w.length : Int) + 1)) (some (-1)) = innerR w z from rfl]
      walk_at "s"
      obtain ⟨hl2, htx⟩ := lHv_sub (w := w) hin
      refine k_joinS (fun v (M : List (As K)) => ∃ p, v = V.ref p ∧ M = Ls.ld p ((lHv w (innerR w z)).map .str) :: L) ?_ ?_
      · walk_at "s"
        by_cases hw1 : w = ("not" : Str)
        · rw [if_pos (decide_eq_true hw1)]
          walk_at "s"
          refine ⟨_, ⟨_, rfl, rfl⟩, ?_⟩
          rw [lHv, if_pos hw1]
          exact Sub.ok (by show Sub _ (Ls.ld _ [PyData.str (innerR w z)] :: L); walk_at "sub") hS
        · rw [if_neg (by rw [decide_eq_false hw1]; exact Bool.false_ne_true)]
          walk_at "s"
          refine ⟨_, _, rfl, hin, hS, fun p H hS => ⟨_, ⟨_, rfl, rfl⟩, ?_⟩⟩
          rw [lHv, if_neg hw1]
          exact Sub.ok (by walk_at "sub") hS
      clear hS
      rintro _ M H ⟨p1, rfl, rfl⟩ hS
      walk_at "s"
      cases k with
      | zero =>
        have et : lRead 0 z = none := by rw [lRead, er]
        rw [if_pos (by decide), if_pos rfl]
        walk_at "s"
        refine q _ _ ?_
        rw [et]
        exact Ls.Sep.nonT (Sub.ok (by walk_at "sub") hS)
      | succ k =>
        rw [if_neg (by rw [decide_eq_false (by omega)]; exact Bool.false_ne_true)]
        walk_at "s"
        by_cases h0 : lHv w (innerR w z) = []
        · have et : lRead (k + 1) z = none := by rw [lRead, er]; exact if_pos h0
          rw [if_pos (decide_eq_true (by rw [h0]; rfl))]
          walk_at "s"
          refine q _ _ ?_
          rw [et]
          exact Ls.Sep.nonT (Sub.ok (by walk_at "sub") hS)
        have et : lRead (k + 1) z = ((lHv w (innerR w z)).mapM (lRead k)).bind (mkT w) := by rw [lRead, er]; exact if_neg h0
        rw [if_neg (by rw [decide_eq_false fun e => h0 (List.map_eq_nil_iff.mp e)]; exact Bool.false_ne_true)]
        obtain ⟨n', rfl⟩ : ∃ n', n = n' + 1 := ⟨n - 1, by omega⟩
        have hwk : wordK w = some (lHv w (innerR w z)).length := by
          rcases lHv_len h0 with h | ⟨a1, a2, a3⟩
          · exact h
          · rcases hwl with h | h | h
            · exact (a1 h).elim
            · exact (a2 h).elim
            · exact (a3 h).elim
        generalize lHv w (innerR w z) = hs2 at *
        walk_at "s"
        rename Addr => pl
        refine lc_flat (zs := hs2) (fun y => [oT (lRead k y)]) hS (fun acc => wk_ldm (f := PyData.str) (by walk_at "mem")) (fun i c acc hc hk2 _ la H hS => ?_) (fun H hS => ?_)
        · walk_at "ls"
          rw [show ((k + 1 + 1 : Nat) : Int) - 1 = (k + 1 : Nat) by omega]
          refine ⟨_, k, _, rfl, by omega, by omega, htx c (List.mem_of_getElem? hc), hS, fun v H hS => ?_⟩
          refine lc_keep hS (.im (by walk_at "mem")) (by walk_at "sub") (by rw [sizeLine_eq]; have := (List.getElem?_eq_some_iff.mp hc).1; omega) (hk2 _ rfl)
        · rw [flat_map] at hS
          walk_at "s"
          refine k_nojoin ?_
          walk_at "s"
          refine k_inOT (n := k + 2) hS (by walk_at "mem") ⟨by rw [List.length_map]; omega, fun d hd => ?_⟩ (by omega) ?_
          · obtain ⟨y, hy, rfl⟩ := List.mem_map.mp hd
            exact okd_oL (htx y hy)
          refine ⟨_, rfl, ?_⟩
          rw [mapM_oT]
          cases hm : hs2.mapM (lRead k) with
          | none =>
            rw [hm] at et
            rw [if_pos (by rfl)]
            walk_at "s"
            refine q _ _ ?_
            rw [et]
            exact Ls.Sep.nonT (Sub.ok (by walk_at "sub") hS)
          | some ts =>
            rw [hm] at et
            obtain ⟨t, ht⟩ := mkT_some (z := w) (ts := ts) (by rw [hwk, mapM_len hm])
            obtain ⟨eD, hts⟩ := mkT_D ht
            rw [mapM_D hm] at hS
            rw [if_neg (by exact Bool.false_ne_true)]
            walk_at "s"
            refine k_addIA hS (by walk_at "mem") (by walk_at "mem") (by rw [List.length_map, sizeLine_eq]; show 1 + _ ≤ _; omega) fun p5 H hS => ?_
            refine q _ _ ?_
            rw [et]
            show Ls.Sep (im _ (oT (mkT w ts)) :: _) _
            rw [ht]
            show Ls.Sep (im _ t.D :: _) _
            rw [eD, show (PyData.str w :: ts.map Tst.D) = [PyData.str w] ++ ts.map Tst.D from rfl]
            exact Sub.ok (by walk_at "sub") hS
    · obtain ⟨rfl, er, c1, c2, c3, c4, c5, rfl⟩ := iv
      have el := leaf (er.trans rfl)
      have hS := hS9
      rw [el] at q
      walk_at "s"
      by_cases h1 : z = ("all" : Str)
      · rw [if_pos (decide_eq_true h1)]
        walk_at "s"
        refine q _ _ ?_
        rw [if_pos h1]
        exact Sub.ok (by show Sub _ (im (V.ref _) (PyData.tuple [.str "all"]) :: L); walk_at "sub") hS
      rw [if_neg (by rw [decide_eq_false h1]; exact Bool.false_ne_true)]
      rw [if_neg h1] at q
      walk_at "s"
      refine k_nojoin ?_
      walk_at "s"
      refine k_slStr (by rw [sizeLine_eq]; omega) ?_
      walk_at "s"
      by_cases h2 : cutS z none (some 3) = ("is:" : Str)
      · rw [if_pos (decide_eq_true h2)]
        rw [if_pos h2] at q
        walk_at "s"
        refine k_slStr (by rw [sizeLine_eq]; omega) ?_
        walk_at "s"
        exact q _ _ (Sub.ok (by show Sub _ (im (V.ref _) (PyData.tuple [.str "is", .str (cutS z (some 3) none)]) :: L); walk_at "sub") hS)
      rw [if_neg (by rw [decide_eq_false h2]; exact Bool.false_ne_true)]
      rw [if_neg h2] at q
      walk_at "s"
      refine ⟨_, _, rfl, hz, hS9, fun v H hS => ?_⟩
      exact q _ _ (Sub.ok (by walk_at "sub") hS)
end Lw
namespace Ls
open PySem PySem.Spec PyProof.Rows L2 TL
def bitsL : List Str := ["(", ")", ",", "all", "is:a", "a<5", "b=-3", "not(", "and(", " ", "0", "-", "<", "=", ":", "A", "99"]
theorem bits_ok : ∀ z ∈ bitsL, (∀ c ∈ z.cps.toList, c < 128) ∧ z.length ≤ 4 := by decide +kernel
theorem asc_lit1 : ∀ c ∈ ("not(" : Str).cps.toList, c < 128 := by decide +kernel
theorem asc_lit2 : ∀ c ∈ (")" : Str).cps.toList, c < 128 := by decide +kernel
end Ls
namespace Lw
open PySem PySem.Spec PyProof.Rows L2 Ls TL
theorem ok__law_bent_text {P : Program} {w : World} {K : PySem.W.Frag} {mg : Str → Option Value} {base : Heap} (E : Env K mg w) : FnOk P w K mg base CX0 3 E.a__law_bent_text E.fd__law_bent_text ["_law_d", "_law_text"] (spLBent K) := by
  refine E.F__law_bent_text.ok sc__law_bent_text (fun vs H Q E h => ?_) (fun cdv A outer s H vs Q E' hr h => ?_)
  · walk_at "hl"
  · have hu := huOf hr
    have G__law_of := ok__law_of E (ok__law_pick (P := P) (w := w) (base := base) E)
    have hr__law_of := hr.mono (show 2 ≤ 2 by decide)
    have b__law_of := b__law_of E
    have G__law_pick := ok__law_pick (P := P) (w := w) (base := base) E
    have hr__law_pick := hr.mono (show 1 ≤ 2 by decide)
    have b__law_pick := b__law_pick E
    obtain ⟨d, z, L, rfl, hS, hd, hz, hzl, q⟩ := h
    refine ⟨_, PSs.nox (pss_cons (ps_set (i := 2) sc__law_bent_text.nd rfl (Or.inl rfl) (pe_lst (pa_cons pe_str (pa_cons pe_str (pa_cons pe_str (pa_cons pe_str (pa_cons pe_str (pa_cons pe_str (pa_cons pe_str (pa_cons pe_str (pa_cons pe_str pa_nil)))))))))))
(pss_cons (ps_set (i := 2) sc__law_bent_text.nd rfl (Or.inl rfl) (pe_op (op_addU K rfl) (pv 2) (pe_lst (pa_cons pe_str (pa_cons pe_str (pa_cons pe_str (pa_cons pe_str (pa_cons pe_str (pa_cons pe_str (pa_cons pe_str (pa_cons pe_str pa_nil)))))))))))
(pss_cons (ps_set (i := 3) sc__law_bent_text.nd rfl (Or.inl rfl) (pe_call G__law_of hr__law_of rfl E.g__law_of E.F__law_of.kp b__law_of .nil pass0 (pa_cons (pv 0) (pa_cons (pv 2) pa_nil))))
(pss_cons (ps_set (i := 4) sc__law_bent_text.nd rfl (Or.inl rfl) (pe_call G__law_pick hr__law_pick rfl E.g__law_pick E.F__law_pick.kp b__law_pick .nil pass0 (pa_cons (pv 0) (pa_cons (pe_op (op_addU K rfl) (pe_callB (call_lenU K rfl) (by rfl) E.n_len boot_len (pa_cons (pv 1) pa_nil)) pe_int) pa_nil))))
(pss_cons (ps_set (i := 5) sc__law_bent_text.nd rfl (Or.inl rfl) (pe_call G__law_pick hr__law_pick rfl E.g__law_pick E.F__law_pick.kp b__law_pick .nil pass0 (pa_cons (pv 0) (pa_cons pe_int pa_nil))))
(pss_cons (ps_if (pt_cmpR (op_eqU K rfl hu) (pv 5) pe_int (nomark _)) (pss_one (ps_ret (pe_op (op_addU K rfl) (pe_op (op_addU K rfl) (pe_slice (sl_U K rfl) (pv 1) po_none (po_some (pv 4))) (pv 3)) (pe_slice (sl_U K rfl) (pv 1) (po_some (pv 4)) po_none)))) pss_nil)
(pss_cons (ps_if (pt_cmpR (op_eqU K rfl hu) (pv 5) pe_int (nomark _)) (pss_one (ps_ret (pe_op (op_addU K rfl) (pe_slice (sl_U K rfl) (pv 1) po_none (po_some (pv 4))) (pe_slice (sl_U K rfl) (pv 1) (po_some (pe_op (op_addU K rfl) (pv 4) pe_int)) po_none)))) pss_nil)
(pss_cons (ps_if (pt_cmpR (op_eqU K rfl hu) (pv 5) pe_int (nomark _)) (pss_one (ps_ret (pe_op (op_addU K rfl) (pe_op (op_addU K rfl) (pe_slice (sl_U K rfl) (pv 1) po_none (po_some (pv 4))) (pv 3)) (pe_slice (sl_U K rfl) (pv 1) (po_some (pe_op (op_addU K rfl) (pv 4) (pe_callB (call_lenU K rfl) (by rfl) E.n_len boot_len (pa_cons (pv 3) pa_nil)))) po_none)))) pss_nil)
(pss_cons (ps_if (pt_cmpR (op_eqU K rfl hu) (pv 5) pe_int (nomark _)) (pss_one (ps_ret (pe_join (pe_ifExp (pt_cmpR (op_eqU K rfl hu) (pe_call G__law_pick hr__law_pick rfl E.g__law_pick E.F__law_pick.kp b__law_pick .nil pass0 (pa_cons (pv 0) (pa_cons pe_int pa_nil))) pe_int (nomark _)) (pe_revS (pv 1)) (pe_upperR (pv 1)))))) pss_nil)
(pss_cons (ps_if (pt_cmpR (op_eqU K rfl hu) (pv 5) pe_int (nomark _)) (pss_one (ps_ret (pe_op (op_addU K rfl) (pe_op (op_addU K rfl) pe_str (pv 1)) pe_str))) pss_nil)
(pss_cons (ps_set (i := 6) sc__law_bent_text.nd rfl (Or.inl rfl) (pe_op (op_addU K rfl) (pe_slice (sl_U K rfl) (pv 1) (po_some (pe_op (op_addU K rfl) (pv 4) pe_int)) (po_some (pe_op (op_addU K rfl) (pv 4) pe_int))) (pe_slice (sl_U K rfl) (pv 1) (po_some (pv 4)) (po_some (pe_op (op_addU K rfl) (pv 4) pe_int)))))
(pss_one (ps_ret (pe_op (op_addU K rfl) (pe_op (op_addU K rfl) (pe_slice (sl_U K rfl) (pv 1) po_none (po_some (pv 4))) (pv 6)) (pe_slice (sl_U K rfl) (pv 1) (po_some (pe_op (op_addU K rfl) (pv 4) pe_int)) po_none))))))))))))))), ?_⟩
    refine k_body (s1 := some _ :: some _ :: [none, none, none, none, none]) rfl ?_
    walk_at "s"
    rename Addr => pb
    replace hS : Ls.Sep (Ls.ld pb (bitsL.map PyData.str) :: L) _ := Sub.ok (by show Sub _ (Ls.ld pb ([PyData.str _, _, _, _, _, _, _, _, _] ++ [_, _, _, _, _, _, _, _]) :: L); walk_at "sub") hS
    refine use_ofS hS (by walk_at "mem") (by walk_at "mem") (all_str _) (by decide) (by decide) fun b H hb hS => ?_
    obtain ⟨hba, hbl⟩ : Asc b ∧ b.length ≤ 4 := by
      obtain ⟨b2, hb2, e⟩ := List.mem_map.mp hb
      cases e
      exact bits_ok b hb2
    walk_at "s"
    refine k_lenS (by rw [sizeLine_eq]; omega) ?_
    walk_at "s"
    walk_at "pk"
    intro r H hS r0 r1
    obtain ⟨i, rfl⟩ := Int.eq_ofNat_of_zero_le r0
    have ei1 : ((i : Nat) : Int) + 1 = ((i + 1 : Nat) : Int) := by omega
    have ei2 : ((i : Nat) : Int) + 2 = ((i + 2 : Nat) : Int) := by omega
    have hl0 := cut_lens z i (i + 1)
    have hl1 := cut_lens z (i + 1) (i + 2)
    have hl2 := cut_lens z (i + 2) 0
    have hlb := cut_lens z (i + b.length) 0
    have big : ∀ {m : Nat}, m ≤ 5000 → m ≤ sizeLine := fun h => by rw [sizeLine_eq]; omega
    walk_at "s"
    walk_at "pk"
    intro w H hS w0 w1
    walk_at "s"
    by_cases e0 : w = 0
    · rw [if_pos (decide_eq_true e0)]
      walk_at "s"
      refine k_slStr (big (by omega)) ?_
      walk_at "s"
      refine k_addS (big (by omega)) ?_
      walk_at "s"
      refine k_slStr (big (by omega)) ?_
      walk_at "s"
      refine k_addS (big (by rw [app_len9]; omega)) ?_
      refine q _ _ (asc_app (asc_app (asc_cut hz _ _) hba) (asc_cut hz _ _)) ?_ (Sub.ok (by walk_at "sub") hS)
      rw [app_len9, app_len9]
      omega
    rw [if_neg (by rw [decide_eq_false e0]; exact Bool.false_ne_true)]
    walk_at "s"
    by_cases e1 : w = 1
    · rw [if_pos (decide_eq_true e1)]
      walk_at "s"
      refine k_slStr (big (by omega)) ?_
      walk_at "s"
      refine k_slStr (big (by omega)) ?_
      walk_at "s"
      rw [ei1]
      refine k_addS (big (by omega)) ?_
      refine q _ _ (asc_app (asc_cut hz _ _) (asc_cut hz _ _)) ?_ (Sub.ok (by walk_at "sub") hS)
      rw [app_len9]
      omega
    rw [if_neg (by rw [decide_eq_false e1]; exact Bool.false_ne_true)]
    walk_at "s"
    by_cases e2 : w = 2
    · rw [if_pos (decide_eq_true e2)]
      walk_at "s"
      refine k_slStr (big (by omega)) ?_
      walk_at "s"
      refine k_addS (big (by omega)) ?_
      walk_at "s"
      refine k_lenS (big (by omega)) ?_
      walk_at "s"
      refine k_slStr (big (by omega)) ?_
      walk_at "s"
      rw [show ((i : Nat) : Int) + (b.length : Nat) = ((i + b.length : Nat) : Int) by omega]
      refine k_addS (big (by rw [app_len9]; omega)) ?_
      refine q _ _ (asc_app (asc_app (asc_cut hz _ _) hba) (asc_cut hz _ _)) ?_ (Sub.ok (by walk_at "sub") hS)
      rw [app_len9, app_len9]
      omega
    rw [if_neg (by rw [decide_eq_false e2]; exact Bool.false_ne_true)]
    walk_at "s"
    by_cases e3 : w = 3
    · rw [if_pos (decide_eq_true e3)]
      walk_at "s"
      refine k_nojoin ?_
      walk_at "s"
      walk_at "pk"
      intro u H hS u0 u1
      walk_at "s"
      by_cases e : u = 0
      · rw [if_pos (decide_eq_true e)]
        refine k_revS ?_
        walk_at "s"
        refine ⟨big (by omega), ?_⟩
        have := asc_rev hz
        exact q _ _ this.1 (by omega) (Sub.ok (by walk_at "sub") hS)
      · rw [if_neg (by rw [decide_eq_false e]; exact Bool.false_ne_true)]
        refine k_m0 ?_
        walk_at "s"
        refine k_upper (by omega) ?_
        have := upper_asc hz
        exact q _ _ this.1 (by omega) (Sub.ok (by walk_at "sub") hS)
    rw [if_neg (by rw [decide_eq_false e3]; exact Bool.false_ne_true)]
    walk_at "s"
    by_cases e4 : w = 4
    · rw [if_pos (decide_eq_true e4)]
      have h4 : ("not(" : Str).length = 4 := by decide +kernel
      have h1 : (")" : Str).length = 1 := by decide +kernel
      walk_at "s"
      refine k_addS (big (by omega)) ?_
      walk_at "s"
      refine k_addS (big (by rw [app_len9]; omega)) ?_
      refine q _ _ (asc_app (asc_app asc_lit1 hz) asc_lit2) ?_ (Sub.ok (by walk_at "sub") hS)
      rw [app_len9, app_len9]
      omega
    rw [if_neg (by rw [decide_eq_false e4]; exact Bool.false_ne_true)]
    walk_at "s"
    refine k_slStr (big (by omega)) ?_
    walk_at "s"
    refine k_slStr (big (by omega)) ?_
    walk_at "s"
    rw [ei1, ei2]
    refine k_addS (big (by omega)) ?_
    walk_at "s"
    refine k_slStr (big (by omega)) ?_
    walk_at "s"
    refine k_addS (big (by rw [app_len9]; omega)) ?_
    walk_at "s"
    refine k_slStr (big (by omega)) ?_
    walk_at "s"
    rw [ei2]
    refine k_addS (big (by rw [app_len9, app_len9]; omega)) ?_
    refine q _ _ (asc_app (asc_app (asc_cut hz _ _) (asc_app (asc_cut hz _ _) (asc_cut hz _ _))) (asc_cut hz _ _)) ?_ (Sub.ok (by walk_at "sub") hS)
    rw [app_len9, app_len9, app_len9]
    omega
end Lw
namespace Ls
open PySem PySem.Spec PyProof.Rows L2 LamX
end Ls
namespace Lw
open PySem PySem.Spec PyProof.Rows L2 Ls LamX
theorem ok__law_is_name {P : Program} {w : World} {K : PySem.W.Frag} {mg : Str → Option Value} {base : Heap} (E : Env K mg w) : FnOk P w K mg base CX0 1 E.a__law_is_name E.fd__law_is_name ["_law_text"] (spIsName K) := by
  refine E.F__law_is_name.ok sc__law_is_name (fun vs H Q E h => ?_) (fun cdv A outer s H vs Q E' hr h => ?_)
  · walk_at "hl"
  · have hu := huOf hr
    obtain ⟨z, L, rfl, hz, hS, q⟩ := h
    refine ⟨_, PSs.nox (pss_one (ps_ret (pe_and (pe_chain op_le op_le pe_int (pe_callB (call_lenU K rfl) (by rfl) E.n_len boot_len (pa_cons (pv 0) pa_nil)) pe_int) (pe_one (pe_callB (cr_allU K rfl rfl) (by rfl) E.n_all boot_all (pa_cons (pe_lc (own := [("_law_sign", 1)]) rfl sc__law_is_name.nd (pi_str (pv 0)) (blkOk_by (N := ["_law_text", "_law_sign"]) (sc := defScope s__law_is_name) (by decide +kernel)) (fun _ _ _ _ _ => (pg_name (i := 1) sc__law_is_name.nd rfl (Or.inl rfl))) (fun _ _ _ _ _ => pts_nil) (fun _ _ _ _ _ => (pe_cmpR (op_inU K rfl hu) (pv 1) pe_str (by with_unfolding_all rfl)))) pa_nil)))))), ?_⟩
    refine k_body (s1 := some _ :: [none]) rfl ?_
    walk_at "s"
    refine k_lenS (by rw [sizeLine_eq]; omega) ?_
    walk_at "s"
    by_cases h1 : 1 ≤ z.length
    · walk_at "s"
      by_cases h2 : z.length ≤ 8
      · walk_at "s"
        refine lc_flat (zs := z.cps.toList) (fun c => [PyData.bool (decide (IsSg c))]) hS (fun acc => wk_str) (fun i c acc hc hk _ la H hS => ?_) (fun H hS => ?_)
        · walk_at "ls"
          have e : decide (c ∈ ("abcdefghijklmnopqrstuvwxyz" : Str).cps.toList) = decide (IsSg c) := by
            have : ∀ k : Fin 26, k.val + 97 ∈ ("abcdefghijklmnopqrstuvwxyz" : Str).cps.toList := by decide +kernel
            have h2 : ∀ c ∈ ("abcdefghijklmnopqrstuvwxyz" : Str).cps.toList, IsSg c := by decide +kernel
            refine decide_eq_decide.mpr ⟨h2 c, fun h => ?_⟩
            have := this ⟨c - 97, by omega⟩
            rwa [show c - 97 + 97 = c by omega] at this
          rw [e]
          refine lc_keep hS (.bl _) .refl ?_ (hk _ rfl)
          have := (List.getElem?_eq_some_iff.mp hc).1
          rw [sizeLine_eq]
          rw [← len_toList] at this
          omega
        · rw [flat_map] at hS
          refine k_allS hS List.mem_cons_self ?_
          have e : z.cps.toList.all (fun c => decide (IsSg c)) = decide (IsNm z) := by
            rw [Bool.eq_iff_iff, List.all_eq_true, decide_eq_true_eq]
            exact ⟨fun h => ⟨h1, h2, fun c hc => of_decide_eq_true (h c hc)⟩, fun h c hc => decide_eq_true (h.2.2 c hc)⟩
          rw [e]
          exact q _ hS.tail
      · have e : decide (IsNm z) = false := decide_eq_false fun h => h2 h.2.1
        rw [e] at q
        walk_at "s"
        exact q _ hS
    · have e : decide (IsNm z) = false := decide_eq_false fun h => h1 h.1
      rw [e] at q
      walk_at "s"
      exact q _ hS
end Lw
namespace Ls
open PySem PySem.Spec PyProof.Rows L2 TL
/-- a list of names -/
def NmsL {K : PySem.W.Frag} (p : Addr) (L : List (As K)) : Prop := ∃ zs : List Str, Ls.ld p (zs.map PyData.str) ∈ L ∧ 0 < zs.length ∧ zs.length ≤ 1000 ∧ ∀ z ∈ zs, IsNm z
def spLNum (K : PySem.W.Frag) : Sp := fun vs H Q _ => ∃ (d : Addr) (L : List (As K)), vs = [.ref d] ∧ Ls.Sep L H ∧ dr d ∈ L ∧ ∀ (n : Int) H', Lim n → Ls.Sep L H' → Q (.int n) H'
def spLLeaf (K : PySem.W.Frag) : Sp := fun vs H Q _ => ∃ (d pn pk : Addr) (L : List (As K)), vs = [.ref d, .ref pn, .ref pk] ∧ Ls.Sep L H ∧ dr d ∈ L ∧ NmsL pn L ∧ NmsL pk L ∧ ∀ p (t : Tst) H', t.ok → t.deep = 1 → Ls.Sep (im (.ref p) t.D :: L) H' → Q (.ref p) H'
def spLTree (K : PySem.W.Frag) (n : Nat) : Sp := fun vs H Q _ => ∃ (d pn pk : Addr) (k : Int) (L : List (As K)), vs = [.ref d, .int k, .ref pn, .ref pk] ∧ k ≤ n + 1 ∧ Ls.Sep L H ∧ dr d ∈ L ∧ NmsL pn L ∧ NmsL pk L ∧ ∀ p (t : Tst) H', t.ok → t.deep ≤ n + 1 → ((t.deep : Int) ≤ k ∨ t.deep = 1) → Ls.Sep (im (.ref p) t.D :: L) H' → Q (.ref p) H'
theorem NmsL.mono {K : PySem.W.Frag} {p : Addr} {L M : List (As K)} (h : NmsL p L) (s : ∀ A ∈ L, A ∈ M) : NmsL p M := by
  obtain ⟨zs, h1, h2⟩ := h
  exact ⟨zs, s _ h1, h2⟩
end Ls
namespace Lw
open PySem PySem.Spec PyProof.Rows L2 Ls
theorem ok__law_number {P : Program} {w : World} {K : PySem.W.Frag} {mg : Str → Option Value} {base : Heap} (E : Env K mg w) : FnOk P w K mg base CX0 3 E.a__law_number E.fd__law_number ["_law_d"] (spLNum K) := by
  refine E.F__law_number.ok sc__law_number (fun vs H Q E h => ?_) (fun cdv A outer s H vs Q E' hr h => ?_)
  · walk_at "hl"
  · have hu := huOf hr
    have G__law_of := ok__law_of E (ok__law_pick (P := P) (w := w) (base := base) E)
    have hr__law_of := hr.mono (show 2 ≤ 2 by decide)
    have b__law_of := b__law_of E
    have G__law_pick := ok__law_pick (P := P) (w := w) (base := base) E
    have hr__law_pick := hr.mono (show 1 ≤ 2 by decide)
    have b__law_pick := b__law_pick E
    obtain ⟨d, L, rfl, hS, hd, q⟩ := h
    refine ⟨_, PSs.nox (pss_one (ps_ret (pe_call G__law_of hr__law_of rfl E.g__law_of E.F__law_of.kp b__law_of .nil pass0 (pa_cons (pv 0) (pa_cons (pe_lst (pa_cons pe_int (pa_cons pe_int (pa_cons (pe_call G__law_pick hr__law_pick rfl E.g__law_pick E.F__law_pick.kp b__law_pick .nil pass0 (pa_cons (pv 0) (pa_cons pe_int pa_nil))) (pa_cons (pe_op op_sub (pe_call G__law_pick hr__law_pick rfl E.g__law_pick E.F__law_pick.kp b__law_pick .nil pass0 (pa_cons (pv 0) (pa_cons pe_int pa_nil))) pe_int) (pa_cons pe_int (pa_cons (pe_un un_neg pe_int) (pa_cons (pe_op op_sub (pe_call G__law_pick hr__law_pick rfl E.g__law_pick E.F__law_pick.kp b__law_pick .nil pass0 (pa_cons (pv 0) (pa_cons pe_int pa_nil))) pe_int) pa_nil)))))))) pa_nil))))), ?_⟩
    refine k_body (s1 := some _ :: []) rfl ?_
    walk_at "s"
    walk_at "pk"
    intro r H hS r0 r1
    walk_at "s"
    walk_at "pk"
    intro r2 H hS r20 r21
    walk_at "s"
    walk_at "pk"
    intro r3 H hS r30 r31
    walk_at "s"
    walk_at "ofI"
    intro n H hn hS
    refine q n _ ?_ (Sub.ok (by walk_at "sub") hS)
    simp only [List.mem_cons, List.not_mem_nil, or_false, PyData.int.injEq] at hn
    unfold Lim
    omega
theorem ok__law_leaf {P : Program} {w : World} {K : PySem.W.Frag} {mg : Str → Option Value} {base : Heap} (E : Env K mg w) : FnOk P w K mg base CX0 4 E.a__law_leaf E.fd__law_leaf ["_law_d", "_law_names", "_law_kinds"] (spLLeaf K) := by
  refine E.F__law_leaf.ok sc__law_leaf (fun vs H Q E h => ?_) (fun cdv A outer s H vs Q E' hr h => ?_)
  · walk_at "hl"
  · have hu := huOf hr
    have G__law_pick := ok__law_pick (P := P) (w := w) (base := base) E
    have hr__law_pick := hr.mono (show 1 ≤ 3 by decide)
    have b__law_pick := b__law_pick E
    have G__law_of := ok__law_of E (ok__law_pick (P := P) (w := w) (base := base) E)
    have hr__law_of := hr.mono (show 2 ≤ 3 by decide)
    have b__law_of := b__law_of E
    have G__law_number := ok__law_number (P := P) (w := w) (base := base) E
    have hr__law_number := hr.mono (show 3 ≤ 3 by decide)
    have b__law_number := b__law_number E
    obtain ⟨d, pn, pk, L, rfl, hS, hd, ⟨ns, hn, n0, n1, n2⟩, ⟨ks, hk, k0, k1, k2⟩, q⟩ := h
    refine ⟨_, PSs.nox (pss_cons (ps_set (i := 3) sc__law_leaf.nd rfl (Or.inl rfl) (pe_call G__law_pick hr__law_pick rfl E.g__law_pick E.F__law_pick.kp b__law_pick .nil pass0 (pa_cons (pv 0) (pa_cons pe_int pa_nil))))
(pss_cons (ps_if (pt_cmpR (op_eqU K rfl hu) (pv 3) pe_int (nomark _)) (pss_one (ps_ret (pe_tup (pa_cons pe_str pa_nil)))) pss_nil)
(pss_cons (ps_if (pt_cmpR (op_eqU K rfl hu) (pv 3) pe_int (nomark _)) (pss_one (ps_ret (pe_tup (pa_cons pe_str (pa_cons (pe_call G__law_of hr__law_of rfl E.g__law_of E.F__law_of.kp b__law_of .nil pass0 (pa_cons (pv 0) (pa_cons (pv 2) pa_nil))) pa_nil))))) pss_nil)
(pss_one (ps_ret (pe_tup (pa_cons (pe_ix (ix_U K rfl) (pe_lst (pa_cons pe_str (pa_cons pe_str pa_nil))) (pe_op op_mod (pv 3) pe_int) (fun _ _ => rfl)) (pa_cons (pe_call G__law_of hr__law_of rfl E.g__law_of E.F__law_of.kp b__law_of .nil pass0 (pa_cons (pv 0) (pa_cons (pv 1) pa_nil))) (pa_cons (pe_call G__law_number hr__law_number rfl E.g__law_number E.F__law_number.kp b__law_number .nil pass0 (pa_cons (pv 0) pa_nil)) pa_nil))))))))), ?_⟩
    refine k_body (s1 := some _ :: some _ :: some _ :: [none]) rfl ?_
    walk_at "s"
    walk_at "pk"
    intro r H hS r0 r1
    walk_at "s"
    by_cases e0 : r = 0
    · rw [if_pos (decide_eq_true e0)]
      walk_at "s"
      exact q _ .all _ trivial rfl hS
    · rw [if_neg (by rw [decide_eq_false e0]; exact Bool.false_ne_true)]
      walk_at "s"
      by_cases e1 : r = 1
      · rw [if_pos (decide_eq_true e1)]
        walk_at "s"
        refine use_ofS hS (by walk_at "mem") hk (all_str ks) (by rw [List.length_map]; exact k0) (by rw [List.length_map]; omega) fun z H hz hS => ?_
        obtain ⟨z', hz', e⟩ := List.mem_map.mp hz
        cases e
        walk_at "s"
        exact q _ (.is z) _ (k2 _ hz') rfl hS
      · rw [if_neg (by rw [decide_eq_false e1]; exact Bool.false_ne_true)]
        walk_at "s"
        have hm : atI [PyData.str "less", PyData.str "same"] (r % 2) = some (.str (if r % 2 = 0 then "less" else "same")) := by
          have : r % 2 = 0 ∨ r % 2 = 1 := by omega
          rcases this with e | e <;> rw [e] <;> rfl
        walk_at "s"
        refine use_ofS hS (by walk_at "mem") (List.mem_cons_of_mem _ hn) (all_str ns) (by rw [List.length_map]; exact n0) (by rw [List.length_map]; omega) fun z H hz hS => ?_
        obtain ⟨z', hz', e⟩ := List.mem_map.mp hz
        cases e
        walk_at "s"
        refine ⟨d, _, rfl, hS, by walk_at "mem", fun n H hn hS => ?_⟩
        walk_at "s"
        by_cases e2 : r % 2 = 0
        · rw [if_pos e2] at hS
          exact q _ (.less z n) _ ⟨n2 _ hz', hn⟩ rfl (Sub.ok (by show Sub _ (im (V.ref _) (PyData.tuple [.str "less", .str z, .int n]) :: L); walk_at "sub") hS)
        · rw [if_neg e2] at hS
          exact q _ (.same z n) _ ⟨n2 _ hz', hn⟩ rfl (Sub.ok (by show Sub _ (im (V.ref _) (PyData.tuple [.str "same", .str z, .int n]) :: L); walk_at "sub") hS)
theorem ok__law_tree {P : Program} {w : World} {K : PySem.W.Frag} {mg : Str → Option Value} {base : Heap} (E : Env K mg w) : ∀ n : Nat, FnOk P w K mg base CX0 (5 + n) E.a__law_tree E.fd__law_tree ["_law_d", "_law_deep_here", "_law_names", "_law_kinds"] (recSp (spLTree K) n) := by
  intro n
  induction n with
  | zero => exact E.F__law_tree.ok sc__law_tree (fun vs H Q E h => h.elim) (fun cdv A outer s H vs Q E' hr h => h.elim)
  | succ n ih =>
  replace ih : FnOk P w K mg base CX0 (5 + n) E.a__law_tree E.fd__law_tree ["_law_d", "_law_deep_here", "_law_names", "_law_kinds"] (recSp (spLTree K) n) := ih
  show FnOk P w K mg base CX0 (5 + n + 1) E.a__law_tree E.fd__law_tree ["_law_d", "_law_deep_here", "_law_names", "_law_kinds"] ((spLTree K) n)
  refine E.F__law_tree.ok sc__law_tree (fun vs H Q E h => ?_) (fun cdv A outer s H vs Q E' hr h => ?_)
  · walk_at "hl"
  · have hu := huOf hr
    have G__law_pick := ok__law_pick (P := P) (w := w) (base := base) E
    have hr__law_pick := hr.mono (show 1 ≤ 5 + n by omega)
    have b__law_pick := b__law_pick E
    have G__law_leaf := ok__law_leaf (P := P) (w := w) (base := base) E
    have hr__law_leaf := hr.mono (show 4 ≤ 5 + n by omega)
    have b__law_leaf := b__law_leaf E
    have G__law_tree := ih
    have hr__law_tree := hr
    have b__law_tree := b__law_tree E
    obtain ⟨d, pn, pk, k, L, rfl, hkn, hS, hd, hn, hk, q⟩ := h
    refine ⟨_, PSs.nox (pss_cons (ps_set (i := 4) sc__law_tree.nd rfl (Or.inl rfl) (pe_call G__law_pick hr__law_pick rfl E.g__law_pick E.F__law_pick.kp b__law_pick .nil pass0 (pa_cons (pv 0) (pa_cons pe_int pa_nil))))
(pss_cons (ps_if (PW.pt (pw_or (pt_cmpR (op_lt) (pv 1) pe_int (nomark _)) (pw_or1 (pt_cmpR (op_eqU K rfl hu) (pv 4) pe_int (nomark _))))) (pss_one (ps_ret (pe_call G__law_leaf hr__law_leaf rfl E.g__law_leaf E.F__law_leaf.kp b__law_leaf .nil pass0 (pa_cons (pv 0) (pa_cons (pv 2) (pa_cons (pv 3) pa_nil)))))) pss_nil)
(pss_cons (ps_if (pt_cmpR (op_eqU K rfl hu) (pv 4) pe_int (nomark _)) (pss_one (ps_ret (pe_tup (pa_cons pe_str (pa_cons (pe_call G__law_tree hr__law_tree rfl E.g__law_tree E.F__law_tree.kp b__law_tree .nil pass0 (pa_cons (pv 0) (pa_cons (pe_op op_sub (pv 1) pe_int) (pa_cons (pv 2) (pa_cons (pv 3) pa_nil))))) pa_nil))))) pss_nil)
(pss_cons (ps_set (i := 5) sc__law_tree.nd rfl (Or.inl rfl) (pe_ix (ix_U K rfl) (pe_lst (pa_cons pe_str (pa_cons pe_str pa_nil))) (pe_op op_mod (pv 4) pe_int) (fun _ _ => rfl)))
(pss_one (ps_ret (pe_tup (pa_cons (pv 5) (pa_cons (pe_call G__law_tree hr__law_tree rfl E.g__law_tree E.F__law_tree.kp b__law_tree .nil pass0 (pa_cons (pv 0) (pa_cons (pe_op op_sub (pv 1) pe_int) (pa_cons (pv 2) (pa_cons (pv 3) pa_nil))))) (pa_cons (pe_call G__law_tree hr__law_tree rfl E.g__law_tree E.F__law_tree.kp b__law_tree .nil pass0 (pa_cons (pv 0) (pa_cons (pe_op op_sub (pv 1) pe_int) (pa_cons (pv 2) (pa_cons (pv 3) pa_nil))))) pa_nil)))))))))), ?_⟩
    refine k_body (s1 := some _ :: some _ :: some _ :: some _ :: [none, none]) rfl ?_
    walk_at "s"
    walk_at "pk"
    intro r H hS r0 r1
    walk_at "s"
    by_cases h2 : k < 2
    · rw [if_pos (decide_eq_true h2)]
      walk_at "s"
      refine ⟨d, pn, pk, _, rfl, hS, hd, hn, hk, fun p t H ho h1 hS => ?_⟩
      exact q p t _ ho (by omega) (.inr h1) hS
    rw [if_neg (by rw [decide_eq_false h2]; exact Bool.false_ne_true)]
    walk_at "s"
    by_cases h0 : r = 0
    · rw [if_pos (decide_eq_true h0)]
      walk_at "s"
      refine ⟨d, pn, pk, _, rfl, hS, hd, hn, hk, fun p t H ho h1 hS => ?_⟩
      exact q p t _ ho (by omega) (.inr h1) hS
    rw [if_neg (by rw [decide_eq_false h0]; exact Bool.false_ne_true)]
    walk_at "s"
    obtain ⟨n', rfl⟩ : ∃ n', n = n' + 1 := ⟨n - 1, by omega⟩
    by_cases h1 : r = 1
    · rw [if_pos (decide_eq_true h1)]
      walk_at "s"
      refine ⟨d, pn, pk, k - 1, _, rfl, by omega, hS, hd, hn, hk, fun p t H ho hd1 hd2 hS => ?_⟩
      walk_at "s"
      refine q _ (.no t) _ ho (by show t.deep + 1 ≤ _; omega) (.inl (by show ((t.deep + 1 : Nat) : Int) ≤ k; omega)) (Sub.ok (by show Sub _ (im (V.ref _) (PyData.tuple [.str "not", t.D]) :: L); walk_at "sub") hS)
    rw [if_neg (by rw [decide_eq_false h1]; exact Bool.false_ne_true)]
    have hm : atI [PyData.str "and", PyData.str "or"] (r % 2) = some (.str (if r % 2 = 0 then "and" else "or")) := by
      have : r % 2 = 0 ∨ r % 2 = 1 := by omega
      rcases this with e | e <;> rw [e] <;> rfl
    walk_at "s"
    refine ⟨d, pn, pk, k - 1, _, rfl, by omega, hS, by walk_at "mem", hn.mono (fun A h => by walk_at "mem"), hk.mono (fun A h => by walk_at "mem"), fun p1 t1 H ho1 hd1 hd11 hS => ?_⟩
    walk_at "s"
    refine ⟨d, pn, pk, k - 1, _, rfl, by omega, hS, by walk_at "mem", hn.mono (fun A h => by walk_at "mem"), hk.mono (fun A h => by walk_at "mem"), fun p2 t2 H ho2 hd2 hd22 hS => ?_⟩
    walk_at "s"
    by_cases e2 : r % 2 = 0
    · rw [if_pos e2] at hS
      exact q _ (.an t1 t2) _ ⟨ho1, ho2⟩ (by show max _ _ + 1 ≤ _; omega) (.inl (by show ((max t1.deep t2.deep + 1 : Nat) : Int) ≤ k; omega)) (Sub.ok (by show Sub _ (im (V.ref _) (PyData.tuple [.str "and", t1.D, t2.D]) :: L); walk_at "sub") hS)
    · rw [if_neg e2] at hS
      exact q _ (.or t1 t2) _ ⟨ho1, ho2⟩ (by show max _ _ + 1 ≤ _; omega) (.inl (by show ((max t1.deep t2.deep + 1 : Nat) : Int) ≤ k; omega)) (Sub.ok (by show Sub _ (im (V.ref _) (PyData.tuple [.str "or", t1.D, t2.D]) :: L); walk_at "sub") hS)
end Lw
namespace Ls
open PySem PySem.Spec PyProof.Rows L2 TL
def spLParts (K : PySem.W.Frag) (n : Nat) : Sp := fun vs H Q _ => ∃ (a : Addr) (t : Tst) (L : List (As K)), vs = [.ref a] ∧ t.deep ≤ n + 1 ∧ Ls.Sep L H ∧ im (.ref a) t.D ∈ L ∧ ∀ H', Ls.Sep L H' → Q (.int t.parts) H'
def spLDeep (K : PySem.W.Frag) (n : Nat) : Sp := fun vs H Q _ => ∃ (a : Addr) (t : Tst) (L : List (As K)), vs = [.ref a] ∧ t.deep ≤ n + 1 ∧ Ls.Sep L H ∧ im (.ref a) t.D ∈ L ∧ ∀ H', Ls.Sep L H' → Q (.int t.deep) H'
def spLShape (K : PySem.W.Frag) (n : Nat) : Sp := fun vs H Q _ => ∃ (v : V) (d : PyData) (L : List (As K)), vs = [v] ∧ Ls.Sep L H ∧ im v d ∈ L ∧ Raw n d ∧ ∀ H', Ls.Sep L H' → Q (.bl (dec n d).isSome) H'
theorem word3 (z : Str) : decide (z ∈ [("not" : Str), "and", "or"]) = (wordK z).isSome := by
  unfold wordK
  by_cases h1 : z = ("not" : Str)
  · rw [if_pos h1, decide_eq_true (by rw [h1]; exact List.mem_cons_self)]
    rfl
  · rw [if_neg h1]
    by_cases h2 : z = ("and" : Str)
    · rw [if_pos h2, decide_eq_true (by rw [h2]; exact List.mem_cons_of_mem _ List.mem_cons_self)]
      rfl
    · rw [if_neg h2]
      by_cases h3 : z = ("or" : Str)
      · rw [if_pos h3, decide_eq_true (by rw [h3]; exact List.mem_cons_of_mem _ (List.mem_cons_of_mem _ List.mem_cons_self))]
        rfl
      · rw [if_neg h3, decide_eq_false fun m => by
          simp only [List.mem_cons, List.not_mem_nil, or_false] at m
          rcases m with m | m | m
          · exact h1 m
          · exact h2 m
          · exact h3 m]
        rfl
theorem parts_cast : ∀ ts : List Tst, (ts.map fun t => (t.parts : Int)).sum = (((ts.map Tst.parts).sum : Nat) : Int)
  | [] => rfl
  | t :: ts => by
    have := parts_cast ts
    simp only [List.map_cons, List.sum_cons, this]
    omega
theorem fmax {i : Nat} : ∀ (ds : List Nat) (a : Nat), (a = i ∨ i ∈ ds) → a ≤ i → (∀ k ∈ ds, k ≤ i) → ds.foldl max a = i
  | [], a, h, _, _ => by
    rcases h with h | h
    · exact h
    · cases h
  | d :: ds, a, h, ha, hk => by
    rw [List.foldl_cons]
    have hd := hk d List.mem_cons_self
    refine fmax ds (max a d) ?_ (by omega) fun k hm => hk k (List.mem_cons_of_mem _ hm)
    rcases h with h | h
    · exact .inl (by omega)
    · rcases List.mem_cons.mp h with h | h
      · exact .inl (by omega)
      · exact .inr h
theorem word2 (z : Str) : decide (z ∈ [("and" : Str), "or"]) = decide (wordK z = some 2) := by
  have e7 : ("not" : Str) ≠ "and" := by decide +kernel
  have e8 : ("not" : Str) ≠ "or" := by decide +kernel
  unfold wordK
  refine decide_eq_decide.mpr ⟨fun m => ?_, fun m => ?_⟩
  · simp only [List.mem_cons, List.not_mem_nil, or_false] at m
    rcases m with m | m
    · rw [if_neg fun h => e7 (h.symm.trans m), if_pos m]
    · rw [if_neg fun h => e8 (h.symm.trans m)]
      by_cases h2 : z = ("and" : Str)
      · rw [if_pos h2]
      · rw [if_neg h2, if_pos m]
  · split at m
    · cases m
    · split at m
      · rename_i h
        rw [h]
        exact List.mem_cons_self
      · split at m
        · rename_i h
          rw [h]
          exact List.mem_cons_of_mem _ List.mem_cons_self
        · cases m
theorem word1 (z : Str) : decide (z = ("not" : Str)) = decide (wordK z = some 1) := by
  unfold wordK
  refine decide_eq_decide.mpr ⟨fun m => by rw [if_pos m], fun m => ?_⟩
  split at m
  · rename_i h
    exact h
  · split at m
    · cases m
    · split at m <;> cases m
def two2 (n : Nat) (r : List PyData) : Bool := match r with
  | [x, y] => (dec n x).isSome && (dec n y).isSome
  | _ => false
def one1 (n : Nat) (r : List PyData) : Bool := match r with
  | [x] => (dec n x).isSome
  | _ => false
theorem dec_w2 {n : Nat} {z : Str} {r : List PyData} (hw : wordK z = some 2) : (dec (n + 1) (.tuple (.str z :: r))).isSome = two2 n r := by
  rw [dec_tup, hw]
  unfold two2
  show ((r.mapM (dec n)).bind (mkT z)).isSome = _
  split
  · rename_i x y
    rw [List.mapM_cons, List.mapM_cons]
    cases e1 : dec n x with
    | none => rfl
    | some t1 =>
      cases e2 : dec n y with
      | none => rfl
      | some t2 =>
        obtain ⟨t, ht⟩ := mkT_some (z := z) (ts := [t1, t2]) hw
        show (mkT z [t1, t2]).isSome = true
        rw [ht]
        rfl
  · rename_i hno
    cases e : r.mapM (dec n) with
    | none => rfl
    | some ts =>
      have hl := mapM_len e
      show (mkT z ts).isSome = false
      rw [mkT_none (fun y => by
        rw [hw] at y
        have y := Option.some.inj y
        match r, hl.symm.trans y.symm with
        | [x, y], _ => exact hno x y rfl)]
      rfl
theorem dec_w1 {n : Nat} {z : Str} {r : List PyData} (hw : wordK z = some 1) : (dec (n + 1) (.tuple (.str z :: r))).isSome = one1 n r := by
  rw [dec_tup, hw]
  unfold one1
  show ((r.mapM (dec n)).bind (mkT z)).isSome = _
  split
  · rename_i x
    rw [List.mapM_cons]
    cases e1 : dec n x with
    | none => rfl
    | some t1 =>
      obtain ⟨t, ht⟩ := mkT_some (z := z) (ts := [t1]) hw
      show (mkT z [t1]).isSome = true
      rw [ht]
      rfl
  · rename_i hno
    cases e : r.mapM (dec n) with
    | none => rfl
    | some ts =>
      have hl := mapM_len e
      show (mkT z ts).isSome = false
      rw [mkT_none (fun y => by
        rw [hw] at y
        have y := Option.some.inj y
        match r, hl.symm.trans y.symm with
        | [x], _ => exact hno x rfl)]
      rfl
def spLLeafOk (K : PySem.W.Frag) : Sp := fun vs H Q _ => ∃ (a : Addr) (z : Str) (r : List PyData) (N : Nat) (L : List (As K)), vs = [.ref a] ∧ Ls.Sep L H ∧ im (.ref a) (.tuple (.str z :: r)) ∈ L ∧ Raw N (.tuple (.str z :: r)) ∧ wordK z = none ∧ ∀ H', Ls.Sep L H' → Q (.bl (Ls.leafOf z r).isSome) H'
end Ls
namespace Lw
open PySem PySem.Spec PyProof.Rows L2 Ls
theorem ok__law_parts {P : Program} {w : World} {K : PySem.W.Frag} {mg : Str → Option Value} {base : Heap} (E : Env K mg w) : ∀ n : Nat, FnOk P w K mg base CX0 (1 + n) E.a__law_parts E.fd__law_parts ["_law_test"] (recSp (spLParts K) n) := by
  intro n
  induction n with
  | zero => exact E.F__law_parts.ok sc__law_parts (fun vs H Q E h => h.elim) (fun cdv A outer s H vs Q E' hr h => h.elim)
  | succ n ih =>
  replace ih : FnOk P w K mg base CX0 (1 + n) E.a__law_parts E.fd__law_parts ["_law_test"] (recSp (spLParts K) n) := ih
  show FnOk P w K mg base CX0 (1 + n + 1) E.a__law_parts E.fd__law_parts ["_law_test"] ((spLParts K) n)
  refine E.F__law_parts.ok sc__law_parts (fun vs H Q E h => ?_) (fun cdv A outer s H vs Q E' hr h => ?_)
  · walk_at "hl"
  · have hu := huOf hr
    have G__law_parts := ih
    have hr__law_parts := hr
    have b__law_parts := b__law_parts E
    obtain ⟨a, t, L, rfl, hd, hS, hm, q⟩ := h
    refine ⟨_, PSs.nox (pss_cons (ps_if (pt_cmpR (op_notinU K rfl hu) (pe_ix (ix_U K rfl) (pv 0) pe_int (fun _ _ => rfl)) (pe_tup (pa_cons pe_str (pa_cons pe_str (pa_cons pe_str pa_nil)))) (by with_unfolding_all rfl)) (pss_one (ps_ret pe_int)) pss_nil)
(pss_one (ps_ret (pe_op (op_addU K rfl) pe_int (pe_callB (cr_sumU K rfl rfl) (by rfl) E.n_sum boot_sum (pa_cons (pe_lc (own := [("_law_part", 1)]) rfl sc__law_parts.nd (pi_seqU K rfl (pe_slice (sl_U K rfl) (pv 0) (po_some pe_int) po_none)) (blkOk_by (N := ["_law_test", "_law_part"]) (sc := defScope s__law_parts) (by decide +kernel)) (fun _ _ _ _ _ => (pg_name (i := 1) sc__law_parts.nd rfl (Or.inl rfl))) (fun _ _ _ _ _ => pts_nil) (fun _ _ _ _ _ => (pe_call G__law_parts hr__law_parts rfl E.g__law_parts E.F__law_parts.kp b__law_parts .nil pass0 (pa_cons (pv 1) pa_nil)))) pa_nil)))))), ?_⟩
    refine k_body (s1 := some _ :: [none]) rfl ?_
    rcases t.view with ⟨z, r, ed, hw, el, hp1, _⟩ | ⟨z, ts, ed, hw, el, hpp, _, _, hlt, _⟩
    · rw [hp1] at q
      rw [ed] at hm
      walk_at "s"
      rw [word3, hw]
      walk_at "s"
      exact q _ (Sub.ok (by walk_at "sub") hS)
    · rw [ed] at hm
      have hl2 := wordK_le hw
      walk_at "s"
      rw [word3, hw, if_neg (by exact Bool.false_ne_true)]
      walk_at "s"
      rename_i ps _
      rw [cut1D] at hS
      refine lc_flat (zs := ts) (fun t => [PyData.int t.parts]) hS (fun acc => wk_imT (by walk_at "mem")) (fun j x acc hx hk _ la b => ?_) (fun H hS => ?_)
      · clear hS
        intro H hS
        have hxt := hlt x (List.mem_of_getElem? hx)
        have hj := (List.getElem?_eq_some_iff.mp hx).1
        obtain ⟨n', rfl⟩ : ∃ n', n = n' + 1 := ⟨n - 1, by have := deep_pos x; omega⟩
        walk_at "ls"
        refine ⟨b, x, _, rfl, by omega, hS, by walk_at "mem", fun H hS => ?_⟩
        exact lc_keep hS (d := .int x.parts) (.int _) (by walk_at "sub") (by rw [sizeLine_eq]; omega) (hk _ rfl)
      rw [flat_map (fun t : Tst => PyData.int t.parts)] at hS
      walk_at "s"
      refine k_sumS (zs := ts) (f := fun t => (t.parts : Int)) hS (by walk_at "mem") ?_
      walk_at "s"
      have e : (1 : Int) + (ts.map fun t => (t.parts : Int)).sum = t.parts := by
        rw [hpp]
        have := parts_cast ts
        omega
      rw [e]
      exact q _ (Sub.ok (by walk_at "sub") hS)
theorem ok__law_deep {P : Program} {w : World} {K : PySem.W.Frag} {mg : Str → Option Value} {base : Heap} (E : Env K mg w) : ∀ n : Nat, FnOk P w K mg base CX0 (1 + n) E.a__law_deep E.fd__law_deep ["_law_test"] (recSp (spLDeep K) n) := by
  intro n
  induction n with
  | zero => exact E.F__law_deep.ok sc__law_deep (fun vs H Q E h => h.elim) (fun cdv A outer s H vs Q E' hr h => h.elim)
  | succ n ih =>
  replace ih : FnOk P w K mg base CX0 (1 + n) E.a__law_deep E.fd__law_deep ["_law_test"] (recSp (spLDeep K) n) := ih
  show FnOk P w K mg base CX0 (1 + n + 1) E.a__law_deep E.fd__law_deep ["_law_test"] ((spLDeep K) n)
  refine E.F__law_deep.ok sc__law_deep (fun vs H Q E h => ?_) (fun cdv A outer s H vs Q E' hr h => ?_)
  · walk_at "hl"
  · have hu := huOf hr
    have G__law_deep := ih
    have hr__law_deep := hr
    have b__law_deep := b__law_deep E
    obtain ⟨a, t, L, rfl, hd, hS, hm, q⟩ := h
    refine ⟨_, PSs.nox (pss_cons (ps_if (pt_cmpR (op_notinU K rfl hu) (pe_ix (ix_U K rfl) (pv 0) pe_int (fun _ _ => rfl)) (pe_tup (pa_cons pe_str (pa_cons pe_str (pa_cons pe_str pa_nil)))) (by with_unfolding_all rfl)) (pss_one (ps_ret pe_int)) pss_nil)
(pss_one (ps_ret (pe_op (op_addU K rfl) pe_int (pe_callB (call_maxU K rfl rfl) (by rfl) E.n_max boot_max (pa_cons (pe_lc (own := [("_law_part", 1)]) rfl sc__law_deep.nd (pi_seqU K rfl (pe_slice (sl_U K rfl) (pv 0) (po_some pe_int) po_none)) (blkOk_by (N := ["_law_test", "_law_part"]) (sc := defScope s__law_deep) (by decide +kernel)) (fun _ _ _ _ _ => (pg_name (i := 1) sc__law_deep.nd rfl (Or.inl rfl))) (fun _ _ _ _ _ => pts_nil) (fun _ _ _ _ _ => (pe_call G__law_deep hr__law_deep rfl E.g__law_deep E.F__law_deep.kp b__law_deep .nil pass0 (pa_cons (pv 1) pa_nil)))) pa_nil)))))), ?_⟩
    refine k_body (s1 := some _ :: [none]) rfl ?_
    rcases t.view with ⟨z, r, ed, hw, el, hp1, hd1, _⟩ | ⟨z, ts, ed, hw, el, hpp, hdd, _, hlt, _⟩
    · rw [hd1] at q
      rw [ed] at hm
      walk_at "s"
      rw [word3, hw]
      walk_at "s"
      exact q _ (Sub.ok (by walk_at "sub") hS)
    · rw [ed] at hm
      have hl2 := wordK_le hw
      walk_at "s"
      rw [word3, hw, if_neg (by exact Bool.false_ne_true)]
      walk_at "s"
      rename_i ps _
      rw [cut1D] at hS
      refine lc_flat (zs := ts) (fun t => [PyData.int t.deep]) hS (fun acc => wk_imT (by walk_at "mem")) (fun j x acc hx hk _ la b => ?_) (fun H hS => ?_)
      · clear hS
        intro H hS
        have hxt := hlt x (List.mem_of_getElem? hx)
        have hj := (List.getElem?_eq_some_iff.mp hx).1
        obtain ⟨n', rfl⟩ : ∃ n', n = n' + 1 := ⟨n - 1, by have := deep_pos x; omega⟩
        walk_at "ls"
        refine ⟨b, x, _, rfl, by omega, hS, by walk_at "mem", fun H hS => ?_⟩
        exact lc_keep hS (d := .int x.deep) (.int _) (by walk_at "sub") (by rw [sizeLine_eq]; omega) (hk _ rfl)
      rw [flat_map (fun t : Tst => PyData.int t.deep), show (ts.map fun t : Tst => PyData.int t.deep) = (ts.map fun t => (t.deep : Int)).map PyData.int by rw [List.map_map]; rfl] at hS
      walk_at "s"
      refine k_maxI (ns := ts.map fun t => (t.deep : Int)) hS (by walk_at "mem") (by intro e; have := congrArg List.length e; rw [List.length_map] at this; exact absurd this (by show ts.length ≠ 0; omega)) fun i hi hk => ?_
      walk_at "s"
      obtain ⟨x, hx, rfl⟩ := List.mem_map.mp hi
      have e : (1 : Int) + x.deep = t.deep := by
        have := fmax (i := x.deep) (ts.map Tst.deep) 0 (.inr (List.mem_map_of_mem hx)) (Nat.zero_le _) fun k hm => by
          obtain ⟨y, hy, rfl⟩ := List.mem_map.mp hm
          have := hk y.deep (List.mem_map_of_mem (f := fun t : Tst => (t.deep : Int)) hy)
          omega
        omega
      rw [e]
      exact q _ (Sub.ok (by walk_at "sub") hS)
end Lw
namespace Ls
open PySem PySem.Spec PyProof.Rows L2 TL
def spLTestOk (K : PySem.W.Frag) : Sp := fun vs H Q _ => ∃ (a : Addr) (xs : List PyData) (n : Nat) (L : List (As K)), vs = [.ref a] ∧ n ≤ 8 ∧ Ls.Sep L H ∧ im (.ref a) (.tuple xs) ∈ L ∧ Raw n (.tuple xs) ∧ ∀ H', Ls.Sep L H' → Q (.bl (decide (IsT (.tuple xs)))) H'
end Ls
namespace Lw
open PySem PySem.Spec PyProof.Rows L2 Ls
theorem ok__law_leaf_ok {P : Program} {w : World} {K : PySem.W.Frag} {mg : Str → Option Value} {base : Heap} (E : Env K mg w) : FnOk P w K mg base CX0 2 E.a__law_leaf_ok E.fd__law_leaf_ok ["_law_test"] (spLLeafOk K) := by
  refine E.F__law_leaf_ok.ok sc__law_leaf_ok (fun vs H Q E h => ?_) (fun cdv A outer s H vs Q E' hr h => ?_)
  · walk_at "hl"
  · have hu := huOf hr
    have G__law_is_name := ok__law_is_name (P := P) (w := w) (base := base) E
    have hr__law_is_name := hr.mono (show 1 ≤ 1 by decide)
    have b__law_is_name := b__law_is_name E
    obtain ⟨a, z, r, N, L, rfl, hS, hm, hr', hw, q⟩ := h
    refine ⟨_, PSs.nox (pss_cons (ps_if (pt_cmpR (op_eqU K rfl hu) (pe_ix (ix_U K rfl) (pv 0) pe_int (fun _ _ => rfl)) pe_str (nomark _)) (pss_one (ps_ret (pe_cmpR (op_eqU K rfl hu) (pe_callB (call_lenU K rfl) (by rfl) E.n_len boot_len (pa_cons (pv 0) pa_nil)) pe_int (nomark _)))) pss_nil)
(pss_cons (ps_if (pt_cmpR (op_eqU K rfl hu) (pe_ix (ix_U K rfl) (pv 0) pe_int (fun _ _ => rfl)) pe_str (nomark _)) (pss_one (ps_ret (pe_and (pe_cmpR (op_eqU K rfl hu) (pe_callB (call_lenU K rfl) (by rfl) E.n_len boot_len (pa_cons (pv 0) pa_nil)) pe_int (nomark _)) (pe_and (pe_callB (call_isiU K rfl) (by rfl) E.n_isinstance boot_isinstance (pa_cons (pe_ix (ix_U K rfl) (pv 0) pe_int (fun _ _ => rfl)) (pa_cons (pe_ty "str" rfl E.n_str (by decide +kernel)) pa_nil))) (pe_one (pe_call G__law_is_name hr__law_is_name rfl E.g__law_is_name E.F__law_is_name.kp b__law_is_name .nil pass0 (pa_cons (pe_ix (ix_U K rfl) (pv 0) pe_int (fun _ _ => rfl)) pa_nil))))))) pss_nil)
(pss_cons (ps_if (PW.pt (pw_or (pt_cmpR (op_notinU K rfl hu) (pe_ix (ix_U K rfl) (pv 0) pe_int (fun _ _ => rfl)) (pe_tup (pa_cons pe_str (pa_cons pe_str pa_nil))) (by with_unfolding_all rfl)) (pw_or1 (pt_cmpR (op_neU K rfl hu) (pe_callB (call_lenU K rfl) (by rfl) E.n_len boot_len (pa_cons (pv 0) pa_nil)) pe_int (nomark _))))) (pss_one (ps_ret pe_bl)) pss_nil)
(pss_cons (ps_if (PW.pt (pw_or (pt_not (pt_val (pe_callB (call_isiU K rfl) (by rfl) E.n_isinstance boot_isinstance (pa_cons (pe_ix (ix_U K rfl) (pv 0) pe_int (fun _ _ => rfl)) (pa_cons (pe_ty "str" rfl E.n_str (by decide +kernel)) pa_nil))))) (pw_or1 (pt_not (pt_val (pe_call G__law_is_name hr__law_is_name rfl E.g__law_is_name E.F__law_is_name.kp b__law_is_name .nil pass0 (pa_cons (pe_ix (ix_U K rfl) (pv 0) pe_int (fun _ _ => rfl)) pa_nil))))))) (pss_one (ps_ret pe_bl)) pss_nil)
(pss_one (ps_ret (pe_and (pe_callB (call_isiU K rfl) (by rfl) E.n_isinstance boot_isinstance (pa_cons (pe_ix (ix_U K rfl) (pv 0) pe_int (fun _ _ => rfl)) (pa_cons (pe_ty "int" rfl E.n_int (by decide +kernel)) pa_nil))) (pe_one (pe_chain op_le op_le (pe_un un_neg pe_int) (pe_ix (ix_U K rfl) (pv 0) pe_int (fun _ _ => rfl)) pe_int))))))))), ?_⟩
    refine k_body (s1 := some _ :: []) rfl ?_
    walk_at "s"
    by_cases e1 : z = ("all" : Str)
    · rw [if_pos (decide_eq_true e1)]
      walk_at "s"
      have e : decide (((PyData.str z :: r).length : Int) = 1) = (Ls.leafOf z r).isSome := by
        unfold Ls.leafOf
        rw [if_pos e1]
        cases r with
        | nil => rfl
        | cons x r => exact decide_eq_false (by simp; omega)
      rw [e]
      exact q _ hS
    · rw [if_neg (by rw [decide_eq_false e1]; exact Bool.false_ne_true)]
      walk_at "s"
      by_cases e2 : z = ("is" : Str)
      · rw [if_pos (decide_eq_true e2)]
        walk_at "s"
        by_cases hl : ∃ x, r = [x]
        · obtain ⟨x, rfl⟩ := hl
          rw [if_pos (by rfl)]
          obtain ⟨m, rfl⟩ : ∃ m, N = m + 1 := by cases N with | zero => exact hr'.elim | succ m => exact ⟨m, rfl⟩
          have hx := hr'.2.2 x (List.mem_cons_of_mem _ List.mem_cons_self)
          rcases raw_d hx with ⟨s, rfl, hs⟩ | ⟨i, rfl⟩ | ⟨xs, k, rfl, _⟩
          · walk_at "s"
            have e : decide (IsNm s) = (Ls.leafOf z [.str s]).isSome := by
              unfold Ls.leafOf
              rw [if_neg e1, if_pos e2]
              by_cases hn : IsNm s
              · show _ = (if IsNm s then some (Tst.is s) else none).isSome
                rw [if_pos hn, decide_eq_true hn]
                rfl
              · show _ = (if IsNm s then some (Tst.is s) else none).isSome
                rw [if_neg hn, decide_eq_false hn]
                rfl
            refine ⟨s, _, rfl, by omega, hS, fun H hS => ?_⟩
            rw [e]
            exact q _ hS
          · have e : (Ls.leafOf z [.int i]).isSome = false := by
              unfold Ls.leafOf
              rw [if_neg e1, if_pos e2]
              rfl
            rw [e] at q
            walk_at "s"
            exact q _ hS
          · have e : (Ls.leafOf z [.tuple xs]).isSome = false := by
              unfold Ls.leafOf
              rw [if_neg e1, if_pos e2]
              rfl
            rw [e] at q
            walk_at "s"
            exact q _ (Sub.ok (by walk_at "sub") hS)
        · have e : (Ls.leafOf z r).isSome = false := by
            unfold Ls.leafOf
            rw [if_neg e1, if_pos e2]
            split
            · exact (hl ⟨_, rfl⟩).elim
            · rfl
          have e3 : decide (((PyData.str z :: r).length : Int) = 2) = false := decide_eq_false fun h => hl (by
            match r, h with
            | [x], _ => exact ⟨x, rfl⟩
            | [], h => simp at h
            | x :: y :: r, h => simp at h; omega)
          rw [e3, if_neg Bool.false_ne_true]
          rw [e] at q
          exact q _ hS
      · rw [if_neg (by rw [decide_eq_false e2]; exact Bool.false_ne_true)]
        walk_at "s"
        have en : ∀ y, ¬ z = ("less" : Str) → ¬ z = ("same" : Str) → (Ls.leafOf z y).isSome = false := fun y h3 h4 => by
          unfold Ls.leafOf
          rw [if_neg e1, if_neg e2, if_neg h3, if_neg h4]
          rfl
        by_cases hz : z = ("less" : Str) ∨ z = ("same" : Str)
        · rw [if_neg (by rw [decide_eq_true (by simp only [List.mem_cons, List.not_mem_nil, or_false]; exact hz)]; exact Bool.false_ne_true)]
          walk_at "s"
          by_cases hl : ∃ x y, r = [x, y]
          · obtain ⟨x, y, rfl⟩ := hl
            rw [if_neg (by show ¬(!decide ((3 : Int) = 3)) = true; decide)]
            obtain ⟨m, rfl⟩ : ∃ m, N = m + 1 := by cases N with | zero => exact hr'.elim | succ m => exact ⟨m, rfl⟩
            have hx := hr'.2.2 x (List.mem_cons_of_mem _ List.mem_cons_self)
            have hy := hr'.2.2 y (List.mem_cons_of_mem _ (List.mem_cons_of_mem _ List.mem_cons_self))
            have no : (∀ s i, ¬ ((x = .str s) ∧ y = .int i)) → (Ls.leafOf z [x, y]).isSome = false := fun h => by
              unfold Ls.leafOf
              rw [if_neg e1, if_neg e2]
              repeat' split
              all_goals first | rfl | (rename_i e _; exact (h _ _ (by cases e; exact ⟨rfl, rfl⟩)).elim)
            have ey : ∀ s i, (Ls.leafOf z [.str s, .int i]).isSome = decide (IsNm s ∧ Lim i) := fun s i => by
              unfold Ls.leafOf
              rw [if_neg e1, if_neg e2]
              by_cases h3 : z = ("less" : Str)
              · rw [if_pos h3]
                by_cases hn : IsNm s ∧ Lim i
                · show (if IsNm s ∧ Lim i then some (Tst.less s i) else none).isSome = _
                  rw [if_pos hn, decide_eq_true hn]
                  rfl
                · show (if IsNm s ∧ Lim i then some (Tst.less s i) else none).isSome = _
                  rw [if_neg hn, decide_eq_false hn]
                  rfl
              · rw [if_neg h3, if_pos (hz.resolve_left h3)]
                by_cases hn : IsNm s ∧ Lim i
                · show (if IsNm s ∧ Lim i then some (Tst.same s i) else none).isSome = _
                  rw [if_pos hn, decide_eq_true hn]
                  rfl
                · show (if IsNm s ∧ Lim i then some (Tst.same s i) else none).isSome = _
                  rw [if_neg hn, decide_eq_false hn]
                  rfl
            walk_at "s"
            rcases raw_d hx with ⟨s, rfl, hs⟩ | ⟨i, rfl⟩ | ⟨xs, k, rfl, _⟩
            · walk_at "s"
              refine ⟨s, _, rfl, by omega, hS, fun H hS => ?_⟩
              by_cases hn : IsNm s
              · rw [decide_eq_true hn]
                walk_at "s"
                rcases raw_d hy with ⟨s2, rfl, hs2⟩ | ⟨i, rfl⟩ | ⟨xs, k, rfl, _⟩
                · rw [no (by rintro s i ⟨_, h⟩; cases h)] at q
                  walk_at "s"
                  exact q _ (Sub.ok (by walk_at "sub") hS)
                · rw [ey] at q
                  walk_at "s"
                  by_cases h5 : -999999 ≤ i
                  · walk_at "s"
                    rw [show decide (i ≤ 999999) = decide (IsNm s ∧ Lim i) from decide_eq_decide.mpr ⟨fun h => ⟨hn, h5, h⟩, fun h => h.2.2⟩]
                    exact q _ (Sub.ok (by walk_at "sub") hS)
                  · rw [decide_eq_false fun h => h5 h.2.1] at q
                    walk_at "s"
                    exact q _ (Sub.ok (by walk_at "sub") hS)
                · rw [no (by rintro s i ⟨_, h⟩; cases h)] at q
                  walk_at "s"
                  exact q _ (Sub.ok (by walk_at "sub") hS)
              · have e9 : (Ls.leafOf z [.str s, y]).isSome = false := by
                  rcases raw_d hy with ⟨s2, rfl, hs2⟩ | ⟨i, rfl⟩ | ⟨xs, k, rfl, _⟩
                  · exact no (by rintro s i ⟨_, h⟩; cases h)
                  · rw [ey]
                    exact decide_eq_false fun h => hn h.1
                  · exact no (by rintro s i ⟨_, h⟩; cases h)
                rw [e9] at q
                rw [decide_eq_false hn]
                walk_at "s"
                exact q _ (Sub.ok (by walk_at "sub") hS)
            · rw [no (by rintro s i ⟨h, _⟩; cases h)] at q
              walk_at "s"
              exact q _ (Sub.ok (by walk_at "sub") hS)
            · rw [no (by rintro s i ⟨h, _⟩; cases h)] at q
              walk_at "s"
              exact q _ (Sub.ok (by walk_at "sub") hS)
          · have e : (Ls.leafOf z r).isSome = false := by
              unfold Ls.leafOf
              rw [if_neg e1, if_neg e2]
              repeat' split
              all_goals first | rfl | exact (hl ⟨_, _, rfl⟩).elim
            have e3 : decide (((PyData.str z :: r).length : Int) = 3) = false := decide_eq_false fun h => hl (by
              match r, h with
              | [x, y], _ => exact ⟨x, y, rfl⟩
              | [], h => simp at h
              | [x], h => simp at h
              | x :: y :: u :: r, h => simp at h; omega)
            rw [e3, if_pos (by rfl)]
            rw [e] at q
            walk_at "s"
            exact q _ (Sub.ok (by walk_at "sub") hS)
        · rw [if_pos (by rw [decide_eq_false (by simp only [List.mem_cons, List.not_mem_nil, or_false]; exact hz)]; rfl)]
          rw [en _ (fun h => hz (.inl h)) (fun h => hz (.inr h))] at q
          walk_at "s"
          exact q _ (Sub.ok (by walk_at "sub") hS)
theorem ok__law_shape_ok {P : Program} {w : World} {K : PySem.W.Frag} {mg : Str → Option Value} {base : Heap} (E : Env K mg w) : ∀ n : Nat, FnOk P w K mg base CX0 (3 + n) E.a__law_shape_ok E.fd__law_shape_ok ["_law_test"] (recSp (spLShape K) n) := by
  intro n
  induction n with
  | zero => exact E.F__law_shape_ok.ok sc__law_shape_ok (fun vs H Q E h => h.elim) (fun cdv A outer s H vs Q E' hr h => h.elim)
  | succ n ih =>
  replace ih : FnOk P w K mg base CX0 (3 + n) E.a__law_shape_ok E.fd__law_shape_ok ["_law_test"] (recSp (spLShape K) n) := ih
  show FnOk P w K mg base CX0 (3 + n + 1) E.a__law_shape_ok E.fd__law_shape_ok ["_law_test"] ((spLShape K) n)
  refine E.F__law_shape_ok.ok sc__law_shape_ok (fun vs H Q E h => ?_) (fun cdv A outer s H vs Q E' hr h => ?_)
  · walk_at "hl"
  · have hu := huOf hr
    have G__law_leaf_ok := ok__law_leaf_ok (P := P) (w := w) (base := base) E
    have hr__law_leaf_ok := hr.mono (show 2 ≤ 3 + n by omega)
    have b__law_leaf_ok := b__law_leaf_ok E
    have G__law_shape_ok := ih
    have hr__law_shape_ok := hr
    have b__law_shape_ok := b__law_shape_ok E
    obtain ⟨v, d, L, rfl, hS, hm, hr', q⟩ := h
    refine ⟨_, PSs.nox (pss_cons (ps_if (PW.pt (pw_or (pt_not (pt_val (pe_callB (call_isiU K rfl) (by rfl) E.n_isinstance boot_isinstance (pa_cons (pv 0) (pa_cons (pe_ty "tuple" rfl E.n_tuple (by decide +kernel)) pa_nil))))) (pw_or1 (pt_cmpR (op_eqU K rfl hu) (pe_callB (call_lenU K rfl) (by rfl) E.n_len boot_len (pa_cons (pv 0) pa_nil)) pe_int (nomark _))))) (pss_one (ps_ret pe_bl)) pss_nil)
(pss_cons (ps_if (pt_cmpR (op_inU K rfl hu) (pe_ix (ix_U K rfl) (pv 0) pe_int (fun _ _ => rfl)) (pe_tup (pa_cons pe_str (pa_cons pe_str pa_nil))) (by with_unfolding_all rfl)) (pss_one (ps_ret (pe_and (pe_cmpR (op_eqU K rfl hu) (pe_callB (call_lenU K rfl) (by rfl) E.n_len boot_len (pa_cons (pv 0) pa_nil)) pe_int (nomark _)) (pe_and (pe_call G__law_shape_ok hr__law_shape_ok rfl E.g__law_shape_ok E.F__law_shape_ok.kp b__law_shape_ok .nil pass0 (pa_cons (pe_ix (ix_U K rfl) (pv 0) pe_int (fun _ _ => rfl)) pa_nil)) (pe_one (pe_call G__law_shape_ok hr__law_shape_ok rfl E.g__law_shape_ok E.F__law_shape_ok.kp b__law_shape_ok .nil pass0 (pa_cons (pe_ix (ix_U K rfl) (pv 0) pe_int (fun _ _ => rfl)) pa_nil))))))) pss_nil)
(pss_cons (ps_if (pt_cmpR (op_eqU K rfl hu) (pe_ix (ix_U K rfl) (pv 0) pe_int (fun _ _ => rfl)) pe_str (nomark _)) (pss_one (ps_ret (pe_and (pe_cmpR (op_eqU K rfl hu) (pe_callB (call_lenU K rfl) (by rfl) E.n_len boot_len (pa_cons (pv 0) pa_nil)) pe_int (nomark _)) (pe_one (pe_call G__law_shape_ok hr__law_shape_ok rfl E.g__law_shape_ok E.F__law_shape_ok.kp b__law_shape_ok .nil pass0 (pa_cons (pe_ix (ix_U K rfl) (pv 0) pe_int (fun _ _ => rfl)) pa_nil)))))) pss_nil)
(pss_one (ps_ret (pe_call G__law_leaf_ok hr__law_leaf_ok rfl E.g__law_leaf_ok E.F__law_leaf_ok.kp b__law_leaf_ok .nil pass0 (pa_cons (pv 0) pa_nil))))))), ?_⟩
    refine k_body (s1 := some _ :: []) rfl ?_
    walk_at "s"
    rcases raw_d hr' with ⟨s, rfl, hs⟩ | ⟨i, rfl⟩ | ⟨xs, m, rfl, hN, hxl, hh, hx⟩
    · obtain rfl := im_isStr hS hm
      rw [dec_atom (fun xs h => by cases h)] at q
      walk_at "s"
      exact q _ hS
    · obtain rfl := im_isInt hS hm
      rw [dec_atom (fun xs h => by cases h)] at q
      walk_at "s"
      exact q _ hS
    · obtain ⟨a, rfl⟩ := im_isRef hS hm
      walk_at "s"
      cases xs with
      | nil =>
        rw [dec_nil] at q
        rw [if_pos (by rfl)]
        walk_at "s"
        exact q _ hS
      | cons x r =>
        obtain ⟨z, rfl⟩ := hh x r rfl
        obtain rfl : n = m + 1 := hN
        rw [if_neg (by rw [decide_eq_false (by simp; omega)]; exact Bool.false_ne_true)]
        walk_at "s"
        rw [word2]
        have rcl : ∀ (v : V) (x : PyData) (H : Hp) (Q : VK) (E : XK) (L' : List (As K)), Ls.Sep L' H → im v x ∈ L' → Raw m x → (∀ H', Ls.Sep L' H' → Q (.bl (dec m x).isSome) H') → recSp (spLShape K) (m + 1) [v] H Q E := fun v x H Q E L' hS hm hx q => ⟨v, x, L', rfl, hS, hm, hx, q⟩
        by_cases h2 : wordK z = some 2
        · rw [decide_eq_true h2]
          walk_at "s"
          rw [dec_w2 h2] at q
          by_cases hl : ∃ x y, r = [x, y]
          · obtain ⟨x, y, rfl⟩ := hl
            have h1x := hx x (List.mem_cons_of_mem _ List.mem_cons_self)
            have h1y := hx y (List.mem_cons_of_mem _ (List.mem_cons_of_mem _ List.mem_cons_self))
            rw [if_pos (by rfl)]
            replace q : ∀ H', Ls.Sep L H' → Q (.bl ((dec m x).isSome && (dec m y).isSome)) H' := q
            walk_at "s"
            refine k_ixG hS (by walk_at "mem") (at01 _ _ _) fun v hS => ?_
            walk_at "s"
            refine rcl v x _ _ _ _ hS (by walk_at "mem") h1x fun H hS => ?_
            cases ex : (dec m x).isSome with
            | false =>
              rw [show ((dec m x).isSome && (dec m y).isSome) = false by rw [ex]; rfl] at q
              walk_at "s"
              exact q _ (Sub.ok (by walk_at "sub") hS)
            | true =>
              rw [show ((dec m x).isSome && (dec m y).isSome) = (dec m y).isSome by rw [ex]; rfl] at q
              walk_at "s"
              refine k_ixG hS (by walk_at "mem") (at02 _ _ _ _) fun u hS => ?_
              walk_at "s"
              refine rcl u y _ _ _ _ hS (by walk_at "mem") h1y fun H hS => ?_
              exact q _ (Sub.ok (by walk_at "sub") hS)
          · have e3 : decide (((PyData.str z :: r).length : Int) = 3) = false := decide_eq_false fun h => hl (by
              match r, h with
              | [x, y], _ => exact ⟨x, y, rfl⟩
              | [], h => simp at h
              | [x], h => simp at h
              | x :: y :: u :: r, h => simp at h; omega)
            rw [e3, if_neg Bool.false_ne_true]
            have e4 : two2 m r = false := by
              unfold two2
              split
              · exact (hl ⟨_, _, rfl⟩).elim
              · rfl
            rw [e4] at q
            exact q _ (Sub.ok (by walk_at "sub") hS)
        · rw [decide_eq_false h2]
          walk_at "s"
          rw [word1]
          by_cases h1 : wordK z = some 1
          · rw [decide_eq_true h1]
            walk_at "s"
            rw [dec_w1 h1] at q
            by_cases hl : ∃ x, r = [x]
            · obtain ⟨x, rfl⟩ := hl
              have h1x := hx x (List.mem_cons_of_mem _ List.mem_cons_self)
              rw [if_pos (by rfl)]
              walk_at "s"
              refine k_ixG hS (by walk_at "mem") (at01 _ _ _) fun v hS => ?_
              walk_at "s"
              refine rcl v x _ _ _ _ hS (by walk_at "mem") h1x fun H hS => ?_
              exact q _ (Sub.ok (by walk_at "sub") hS)
            · have e3 : decide (((PyData.str z :: r).length : Int) = 2) = false := decide_eq_false fun h => hl (by
                match r, h with
                | [x], _ => exact ⟨x, rfl⟩
                | [], h => simp at h
                | x :: y :: r, h => simp at h; omega)
              rw [e3, if_neg Bool.false_ne_true]
              have e4 : one1 m r = false := by
                unfold one1
                split
                · exact (hl ⟨_, rfl⟩).elim
                · rfl
              rw [e4] at q
              exact q _ (Sub.ok (by walk_at "sub") hS)
          · have h0 : wordK z = none := by
              cases hw : wordK z with
              | none => rfl
              | some k =>
                have := wordK_le hw
                rcases (show k = 1 ∨ k = 2 by omega) with rfl | rfl
                · exact (h1 hw).elim
                · exact (h2 hw).elim
            rw [decide_eq_false h1]
            walk_at "s"
            refine ⟨a, z, r, m + 1, _, rfl, hS, by walk_at "mem", ⟨hxl, hh, hx⟩, h0, fun H hS => ?_⟩
            have e : dec (m + 1) (.tuple (.str z :: r)) = Ls.leafOf z r := by
              rw [dec_tup, h0]
            rw [e] at q
            exact q _ (Sub.ok (by walk_at "sub") hS)
theorem ok__law_test_ok {P : Program} {w : World} {K : PySem.W.Frag} {mg : Str → Option Value} {base : Heap} (E : Env K mg w) : FnOk P w K mg base CX0 13 E.a__law_test_ok E.fd__law_test_ok ["_law_test"] (spLTestOk K) := by
  refine E.F__law_test_ok.ok sc__law_test_ok (fun vs H Q E h => ?_) (fun cdv A outer s H vs Q E' hr h => ?_)
  · walk_at "hl"
  · have hu := huOf hr
    have G__law_shape_ok := ok__law_shape_ok (P := P) (w := w) (base := base) E 9
    have hr__law_shape_ok := hr.mono (show 12 ≤ 12 by decide)
    have b__law_shape_ok := b__law_shape_ok E
    have G__law_deep := ok__law_deep (P := P) (w := w) (base := base) E 9
    have hr__law_deep := hr.mono (show 10 ≤ 12 by decide)
    have b__law_deep := b__law_deep E
    have G__law_parts := ok__law_parts (P := P) (w := w) (base := base) E 9
    have hr__law_parts := hr.mono (show 10 ≤ 12 by decide)
    have b__law_parts := b__law_parts E
    obtain ⟨a, xs, n, L, rfl, hn, hS, hm, hr', q⟩ := h
    refine ⟨_, PSs.nox (pss_one (ps_ret (pe_and (pe_call G__law_shape_ok hr__law_shape_ok rfl E.g__law_shape_ok E.F__law_shape_ok.kp b__law_shape_ok .nil pass0 (pa_cons (pv 0) pa_nil)) (pe_and (pe_cmpR (op_le) (pe_call G__law_deep hr__law_deep rfl E.g__law_deep E.F__law_deep.kp b__law_deep .nil pass0 (pa_cons (pv 0) pa_nil)) pe_int (nomark _)) (pe_one (pe_cmpR (op_le) (pe_call G__law_parts hr__law_parts rfl E.g__law_parts E.F__law_parts.kp b__law_parts .nil pass0 (pa_cons (pv 0) pa_nil)) pe_int (nomark _))))))), ?_⟩
    refine k_body (s1 := some _ :: []) rfl ?_
    walk_at "s"
    refine ⟨.ref a, .tuple xs, _, rfl, hS, hm, hr'.mono (Nat.le_refl _) hn, fun H hS => ?_⟩
    cases e : dec 8 (.tuple xs) with
    | none =>
      have hi : ¬ IsT (.tuple xs) := fun h => by
        obtain ⟨t, h1, h2, h3, h4⟩ := isT_is h
        have := dec_of (n := 8) h2 (by omega)
        rw [h1, e] at this
        cases this
      rw [decide_eq_false hi] at q
      walk_at "s"
      rw [if_neg (by exact Bool.false_ne_true)]
      exact q _ hS
    | some t =>
      obtain ⟨ho, ed, h8⟩ := dec_ok e
      rw [← ed] at hm
      walk_at "s"
      rw [if_pos (by rfl)]
      walk_at "s"
      refine ⟨a, t, _, rfl, by show t.deep ≤ 9; omega, hS, hm, fun H hS => ?_⟩
      walk_at "s"
      by_cases h5 : t.deep ≤ 5
      · rw [if_pos (decide_eq_true (by omega))]
        walk_at "s"
        refine ⟨a, t, _, rfl, by show t.deep ≤ 9; omega, hS, hm, fun H hS => ?_⟩
        walk_at "s"
        rw [show decide ((t.parts : Int) ≤ 15) = decide (IsT (.tuple xs)) from decide_eq_decide.mpr ⟨fun h => ed ▸ isT_of ho h5 (by omega), fun h => by
          obtain ⟨t', h1, h2, h3, h4⟩ := isT_is h
          have := dec_of (n := 8) h2 (by omega)
          rw [h1, e] at this
          cases this
          omega⟩]
        exact q _ hS
      · have hi : ¬ IsT (.tuple xs) := fun h => by
          obtain ⟨t', h1, h2, h3, h4⟩ := isT_is h
          have := dec_of (n := 8) h2 (by omega)
          rw [h1, e] at this
          cases this
          exact h5 h3
        rw [decide_eq_false hi] at q
        rw [if_neg (by rw [decide_eq_false (by omega)]; exact Bool.false_ne_true)]
        exact q _ hS
end Lw
namespace Ls
open PySem PySem.Spec PyProof.Rows L2 TL
def spLText (K : PySem.W.Frag) (n : Nat) : Sp := fun vs H Q _ => ∃ (a : Addr) (t : Tst) (L : List (As K)), vs = [.ref a] ∧ t.ok ∧ t.deep ≤ n + 1 ∧ n ≤ 10 ∧ Ls.Sep L H ∧ im (.ref a) t.D ∈ L ∧ ∀ H', Ls.Sep L H' → Q (.str t.text) H'
end Ls
namespace Lw
open PySem PySem.Spec PyProof.Rows L2 Ls
theorem ok__law_test_text {P : Program} {w : World} {K : PySem.W.Frag} {mg : Str → Option Value} {base : Heap} (E : Env K mg w) : ∀ n : Nat, FnOk P w K mg base CX0 (1 + n) E.a__law_test_text E.fd__law_test_text ["_law_test"] (recSp (spLText K) n) := by
  intro n
  induction n with
  | zero => exact E.F__law_test_text.ok sc__law_test_text (fun vs H Q E h => h.elim) (fun cdv A outer s H vs Q E' hr h => h.elim)
  | succ n ih =>
  replace ih : FnOk P w K mg base CX0 (1 + n) E.a__law_test_text E.fd__law_test_text ["_law_test"] (recSp (spLText K) n) := ih
  show FnOk P w K mg base CX0 (1 + n + 1) E.a__law_test_text E.fd__law_test_text ["_law_test"] ((spLText K) n)
  refine E.F__law_test_text.ok sc__law_test_text (fun vs H Q E h => ?_) (fun cdv A outer s H vs Q E' hr h => ?_)
  · walk_at "hl"
  · have hu := huOf hr
    have G__law_test_text := ih
    have hr__law_test_text := hr
    have b__law_test_text := b__law_test_text E
    obtain ⟨a, t, L, rfl, ho, hd, hn, hS, hm, q⟩ := h
    refine ⟨_, PSs.nox (pss_cons (ps_if (pt_cmpR (op_eqU K rfl hu) (pe_ix (ix_U K rfl) (pv 0) pe_int (fun _ _ => rfl)) pe_str (nomark _)) (pss_one (ps_ret pe_str)) pss_nil)
(pss_cons (ps_if (pt_cmpR (op_eqU K rfl hu) (pe_ix (ix_U K rfl) (pv 0) pe_int (fun _ _ => rfl)) pe_str (nomark _)) (pss_one (ps_ret (pe_op (op_addU K rfl) pe_str (pe_ix (ix_U K rfl) (pv 0) pe_int (fun _ _ => rfl))))) pss_nil)
(pss_cons (ps_if (pt_cmpR (op_inU K rfl hu) (pe_ix (ix_U K rfl) (pv 0) pe_int (fun _ _ => rfl)) (pe_tup (pa_cons pe_str (pa_cons pe_str pa_nil))) (by with_unfolding_all rfl)) (pss_one (ps_ret (pe_op (op_addU K rfl) (pe_op (op_addU K rfl) (pe_ix (ix_U K rfl) (pv 0) pe_int (fun _ _ => rfl)) (pe_dget (hu1 hu) (pe_disp (pps_cons pe_str pe_str (pps_cons pe_str pe_str pps_nil)) (by rfl) (by rfl) (by simp) (by decide)) (pe_ix (ix_U K rfl) (pv 0) pe_int (fun _ _ => rfl)) (fun _ _ => rfl))) (pe_callTy (call_str_int) (by rfl) E.n_str boot_str (pa_cons (pe_ix (ix_U K rfl) (pv 0) pe_int (fun _ _ => rfl)) pa_nil))))) pss_nil)
(pss_one (ps_ret (pe_op (op_addU K rfl) (pe_op (op_addU K rfl) (pe_op (op_addU K rfl) (pe_ix (ix_U K rfl) (pv 0) pe_int (fun _ _ => rfl)) pe_str) (pe_joinU K rfl pe_str (pe_lc (own := [("_law_part", 1)]) rfl sc__law_test_text.nd (pi_seqU K rfl (pe_slice (sl_U K rfl) (pv 0) (po_some pe_int) po_none)) (blkOk_by (N := ["_law_test", "_law_part"]) (sc := defScope s__law_test_text) (by decide +kernel)) (fun _ _ _ _ _ => (pg_name (i := 1) sc__law_test_text.nd rfl (Or.inl rfl))) (fun _ _ _ _ _ => pts_nil) (fun _ _ _ _ _ => (pe_call G__law_test_text hr__law_test_text rfl E.g__law_test_text E.F__law_test_text.kp b__law_test_text .nil pass0 (pa_cons (pv 1) pa_nil)))))) pe_str)))))), ?_⟩
    refine k_body (s1 := some _ :: [none]) rfl ?_
    rcases t.view with ⟨z, r, ed, hw, el, hp1, hd1, _⟩ | ⟨z, ts, ed, hw, el, hpp, _, hok, hlt, hmk⟩
    · cases t with
      | all =>
        dsimp only [Tst.D] at hm
        walk_at "s"
        rw [if_pos (by decide +kernel)]
        walk_at "s"
        exact q _ (Sub.ok (by walk_at "sub") hS)
      | is n =>
        dsimp only [Tst.D] at hm
        have hn : IsNm n := ho
        have hnl := hn.2.1
        have li : ("is:" : Str).length = 3 := by decide +kernel
        walk_at "s"
        rw [if_neg (by decide +kernel)]
        walk_at "s"
        rw [if_pos (by decide +kernel)]
        walk_at "s"
        refine k_addS (by rw [li, sizeLine_eq]; omega) ?_
        exact q _ (Sub.ok (by walk_at "sub") hS)
      | less f k =>
        dsimp only [Tst.D] at hm
        have hn : IsNm f := ho.1
        have hnl := hn.2.1
        have hk : k.natAbs < 10 ^ 100 := lim_big ho.2
        have hkl := lim_len ho.2
        have li : ("<" : Str).length = 1 := by decide +kernel
        walk_at "s"
        rw [if_neg (by decide +kernel)]
        walk_at "s"
        rw [if_neg (by decide +kernel)]
        walk_at "s"
        rw [if_pos (by decide +kernel)]
        walk_at "s"
        rename Addr => pd
        obtain ⟨kvs, ek⟩ : ∃ kvs : List (Key × V), kvs = [(.inr "less", .str "<"), (.inr "same", .str "=")] := ⟨_, rfl⟩
        refine ⟨hS.obm (by walk_at "mem"), kvs, by rw [ek]; rfl, by rw [ek]; exact Nat.le_of_ble_eq_true rfl, andThen (hS.disp kvs (by walk_at "rep")) ?_⟩
        generalize (upd _ _ (HO.dK (mergeK [] kvs))) = H2
        clear hS
        intro hS
        have em : mergeK [] kvs = kvs := by rw [ek]; rfl
        rw [em] at hS
        subst ek
        walk_at "s"
        show rAddU K (V.str f) (V.str "<") H2 _
        refine k_addS (by rw [li, sizeLine_eq]; omega) ?_
        walk_at "s"
        refine ⟨k, rfl, log_lt hk, ?_⟩
        refine k_addS (y := numS k) (by rw [sapT, li, sizeLine_eq]; omega) ?_
        exact q _ (Sub.ok (by walk_at "sub") hS)
      | same f k =>
        dsimp only [Tst.D] at hm
        have hn : IsNm f := ho.1
        have hnl := hn.2.1
        have hk : k.natAbs < 10 ^ 100 := lim_big ho.2
        have hkl := lim_len ho.2
        have li : ("=" : Str).length = 1 := by decide +kernel
        walk_at "s"
        rw [if_neg (by decide +kernel)]
        walk_at "s"
        rw [if_neg (by decide +kernel)]
        walk_at "s"
        rw [if_pos (by decide +kernel)]
        walk_at "s"
        rename Addr => pd
        obtain ⟨kvs, ek⟩ : ∃ kvs : List (Key × V), kvs = [(.inr "less", .str "<"), (.inr "same", .str "=")] := ⟨_, rfl⟩
        refine ⟨hS.obm (by walk_at "mem"), kvs, by rw [ek]; rfl, by rw [ek]; exact Nat.le_of_ble_eq_true rfl, andThen (hS.disp kvs (by walk_at "rep")) ?_⟩
        generalize (upd _ _ (HO.dK (mergeK [] kvs))) = H2
        clear hS
        intro hS
        have em : mergeK [] kvs = kvs := by rw [ek]; rfl
        rw [em] at hS
        subst ek
        walk_at "s"
        show rAddU K (V.str f) (V.str "=") H2 _
        refine k_addS (by rw [li, sizeLine_eq]; omega) ?_
        walk_at "s"
        refine ⟨k, rfl, log_lt hk, ?_⟩
        refine k_addS (y := numS k) (by rw [sapT, li, sizeLine_eq]; omega) ?_
        exact q _ (Sub.ok (by walk_at "sub") hS)
      | no a => exact absurd hd1 (by show a.deep + 1 ≠ 1; have := deep_pos a; omega)
      | an a b => exact absurd hd1 (by show max a.deep b.deep + 1 ≠ 1; have := deep_pos a; omega)
      | or a b => exact absurd hd1 (by show max a.deep b.deep + 1 ≠ 1; have := deep_pos a; omega)
    · rw [ed] at hm
      have hl2 := wordK_le hw
      have hz : z = ("not" : Str) ∨ z = ("and" : Str) ∨ z = ("or" : Str) := wordK_is hw
      have nz : ∀ x : Str, x ≠ ("not" : Str) → x ≠ ("and" : Str) → x ≠ ("or" : Str) → (decide (z = x)) = false := fun x h1 h2 h3 => decide_eq_false fun e => by
        rcases hz with h | h | h
        · exact h1 (e.symm.trans h)
        · exact h2 (e.symm.trans h)
        · exact h3 (e.symm.trans h)
      have htl := text_len ho
      have hts := text_sum (hok ho)
      have hpd := parts_deep t
      have hp11 : 2 ^ t.deep ≤ 2 ^ 11 := Nat.pow_le_pow_right (by decide) (by omega)
      have htx := text_mk hmk
      have lp : ("(" : Str).length = 1 := by decide +kernel
      have lq : (")" : Str).length = 1 := by decide +kernel
      have lc : ("," : Str).length = 1 := by decide +kernel
      have hzl : z.length ≤ 3 := by
        rcases hz with rfl | rfl | rfl <;> decide +kernel
      walk_at "s"
      rw [nz _ (by decide +kernel) (by decide +kernel) (by decide +kernel), if_neg Bool.false_ne_true]
      walk_at "s"
      rw [nz _ (by decide +kernel) (by decide +kernel) (by decide +kernel), if_neg Bool.false_ne_true]
      walk_at "s"
      rw [if_neg (by rw [decide_eq_false (by
        simp only [List.mem_cons, List.not_mem_nil, or_false]
        rintro (h | h)
        · rcases hz with e | e | e <;> exact absurd (h.symm.trans e) (by decide +kernel)
        · rcases hz with e | e | e <;> exact absurd (h.symm.trans e) (by decide +kernel))]; exact Bool.false_ne_true)]
      walk_at "s"
      refine k_addS (by rw [lp, sizeLine_eq]; omega) ?_
      walk_at "s"
      rw [cut1D] at hS
      refine lc_flat (zs := ts) (fun t => [PyData.str t.text]) hS (fun acc => wk_imT (by walk_at "mem")) (fun j x acc hx hk _ la b => ?_) (fun H hS => ?_)
      · clear hS
        intro H hS
        have hxt := hlt x (List.mem_of_getElem? hx)
        have hj := (List.getElem?_eq_some_iff.mp hx).1
        obtain ⟨n', rfl⟩ : ∃ n', n = n' + 1 := ⟨n - 1, by have := deep_pos x; omega⟩
        walk_at "ls"
        refine ⟨b, x, _, rfl, hok ho x (List.mem_of_getElem? hx), by omega, by omega, hS, by walk_at "mem", fun H hS => ?_⟩
        exact lc_keep hS (d := .str x.text) (.str _) (by walk_at "sub") (by rw [sizeLine_eq]; omega) (hk _ rfl)
      rw [flat_map (fun t : Tst => PyData.str t.text), show (ts.map fun t : Tst => PyData.str t.text) = (ts.map Tst.text).map PyData.str by rw [List.map_map]; rfl] at hS
      walk_at "s"
      refine k_glueS hS (by walk_at "mem") (by rw [lc, List.length_map]; omega) ?_
      have hjl : (Txt.join "," (ts.map Tst.text)).length ≤ t.text.length := by
        rw [htx, sapT, sapT, sapT]
        omega
      refine k_addS (by rw [sapT, lp, sizeLine_eq]; omega) ?_
      walk_at "s"
      refine k_addS (by rw [sapT, sapT, lp, lq, sizeLine_eq]; omega) ?_
      rw [← htx]
      exact q _ (Sub.ok (by walk_at "sub") hS)
end Lw
namespace Ls
open PySem PySem.Spec PyProof.Rows L2 LamX TL
theorem nm3 : ∀ z ∈ ([("is" : Str), "all", "not"] : List Str), IsNm z := by decide +kernel
theorem asc_nm {z : Str} (h : IsNm z) : Asc z := fun c hc => by have := h.2.2 c hc; omega
theorem asc_num (k : Int) : Asc (numS k) := fun c hc => by
  rcases numS_sg k c hc with h | h
  · subst h; decide
  · have := h.2; omega
theorem asc_of {z : Str} (h : ∀ c ∈ z.cps.toList, c < 128) : Asc z := h
theorem text_size : ∀ {t : Tst}, t.ok → t.text.length + 6 ≤ 11 * 2 ^ t.deep ∧ Asc t.text := by
  have len : ∀ z : Str, (tl z).length = z.length := fun z => Array.length_toList
  have num : ∀ {k : Int}, Lim k → (numS k).length ≤ 7 := fun h => numS_len (k := 6) (by decide) (by have := h.1; have := h.2; show _ < 1000000; omega)
  have st : ∀ {x y : Str} {m : List Nat}, tl x = tl y ++ 40 :: (m ++ [41]) → Asc y → (∀ c ∈ m, c < 128) → Asc x := fun {x y m} e hy hm => fun c hc => by
    replace hc : c ∈ tl x := hc
    rw [e] at hc
    rcases List.mem_append.mp hc with hc | hc
    · exact hy c hc
    · rcases List.mem_cons.mp hc with rfl | hc
      · decide
      · rcases List.mem_append.mp hc with hc | hc
        · exact hm c hc
        · rw [List.mem_singleton.mp hc]; decide
  have two : ∀ {x y : Str} (c : Nat), Asc x → Asc y → c ∈ tl x ++ 44 :: tl y → c < 128 := fun c hx hy hc => by
    rcases List.mem_append.mp hc with hc | hc
    · exact hx c hc
    · rcases List.mem_cons.mp hc with rfl | hc
      · decide
      · exact hy c hc
  intro t
  induction t with
  | all => intro _; exact ⟨by decide +kernel, asc_of (by decide +kernel)⟩
  | is n =>
    intro h
    refine ⟨?_, asc_app (x := "is:") (asc_of (by decide +kernel)) (asc_nm h)⟩
    rw [show (Tst.is n).text = ("is:" : Str) ++ n from rfl, app_len9, show ("is:" : Str).length = 3 by decide +kernel]
    have := h.2.1
    show 3 + n.length + 6 ≤ 11 * 2 ^ 1
    omega
  | less f k =>
    intro h
    refine ⟨?_, asc_app (asc_app (asc_nm h.1) (y := "<") (asc_of (by decide +kernel))) (asc_num k)⟩
    rw [show (Tst.less f k).text = f ++ ("<" : Str) ++ numS k from rfl, app_len9, app_len9, show ("<" : Str).length = 1 by decide +kernel]
    have := h.1.2.1
    have := num h.2
    show f.length + 1 + (numS k).length + 6 ≤ 11 * 2 ^ 1
    omega
  | same f k =>
    intro h
    refine ⟨?_, asc_app (asc_app (asc_nm h.1) (y := "=") (asc_of (by decide +kernel))) (asc_num k)⟩
    rw [show (Tst.same f k).text = f ++ ("=" : Str) ++ numS k from rfl, app_len9, app_len9, show ("=" : Str).length = 1 by decide +kernel]
    have := h.1.2.1
    have := num h.2
    show f.length + 1 + (numS k).length + 6 ≤ 11 * 2 ^ 1
    omega
  | no a ih =>
    intro h
    obtain ⟨i1, i2⟩ := ih h
    refine ⟨?_, st (tl_no a) (asc_of (z := "not") (by decide +kernel)) i2⟩
    rw [← len, tl_no]
    simp only [List.length_append, List.length_cons, List.length_nil, len]
    show ("not" : Str).length + (a.text.length + 1 + 1) + 6 ≤ 11 * 2 ^ (a.deep + 1)
    rw [show ("not" : Str).length = 3 by decide +kernel, Nat.pow_succ]
    have : 1 ≤ 2 ^ a.deep := Nat.one_le_two_pow
    omega
  | an a b i1 i2 =>
    intro h
    obtain ⟨a1, a2⟩ := i1 h.1
    obtain ⟨b1, b2⟩ := i2 h.2
    refine ⟨?_, st (tl_an a b) (asc_of (z := "and") (by decide +kernel)) fun c hc => two c a2 b2 hc⟩
    rw [← len, tl_an]
    simp only [List.length_append, List.length_cons, List.length_nil, len]
    show ("and" : Str).length + (a.text.length + (b.text.length + 1) + 1 + 1) + 6 ≤ 11 * 2 ^ (max a.deep b.deep + 1)
    rw [show ("and" : Str).length = 3 by decide +kernel, Nat.pow_succ]
    have h1 : 2 ^ a.deep ≤ 2 ^ max a.deep b.deep := Nat.pow_le_pow_right (by decide) (Nat.le_max_left ..)
    have h2 : 2 ^ b.deep ≤ 2 ^ max a.deep b.deep := Nat.pow_le_pow_right (by decide) (Nat.le_max_right ..)
    omega
  | or a b i1 i2 =>
    intro h
    obtain ⟨a1, a2⟩ := i1 h.1
    obtain ⟨b1, b2⟩ := i2 h.2
    refine ⟨?_, st (tl_or a b) (asc_of (z := "or") (by decide +kernel)) fun c hc => two c a2 b2 hc⟩
    rw [← len, tl_or]
    simp only [List.length_append, List.length_cons, List.length_nil, len]
    show ("or" : Str).length + (a.text.length + (b.text.length + 1) + 1 + 1) + 6 ≤ 11 * 2 ^ (max a.deep b.deep + 1)
    rw [show ("or" : Str).length = 2 by decide +kernel, Nat.pow_succ]
    have h1 : 2 ^ a.deep ≤ 2 ^ max a.deep b.deep := Nat.pow_le_pow_right (by decide) (Nat.le_max_left ..)
    have h2 : 2 ^ b.deep ≤ 2 ^ max a.deep b.deep := Nat.pow_le_pow_right (by decide) (Nat.le_max_right ..)
    omega
theorem tx_asc {z : Str} (h : Asc z) (k : z.length ≤ 1000) : Tx z := ⟨k, by
  unfold PyData.strOk
  rw [← Array.all_toList, List.all_eq_true]
  exact fun c hc => by
    have := h c hc
    exact decide_eq_true (by omega)⟩
theorem read_empty : readR "" = none := by
  cases e : readR "" with
  | none => rfl
  | some t =>
    obtain ⟨h1, h2⟩ := readR_is e
    have h3 := (testR_back h1).1
    have h4 : (leafR "").isNone = true := by decide +kernel
    have h5 : testR 5 "" = leafR "" := rfl
    rw [h1] at h5
    rw [← h5] at h4
    cases h4
theorem okd_two9 {n : Nat} {d e : PyData} (h1 : OkD n d) (h2 : OkD n e) : OkD (n + 1) (.list [d, e]) := by
  refine ⟨by show 2 ≤ 100000; decide, fun x hx => ?_⟩
  rcases List.mem_cons.mp hx with rfl | hx
  · exact h1
  · rw [List.mem_singleton.mp hx]
    exact h2
theorem tx_empty : Tx "" := ⟨by decide +kernel, by decide +kernel⟩
def wordR (z : Str) : Str := if (readR z).isNone then "badtest" else ""
end Ls
namespace Lw
open PySem PySem.Spec PyProof.Rows L2 Ls LamX
theorem ok_law {P : Program} {w : World} {K : PySem.W.Frag} {mg : Str → Option Value} {base : Heap} (E : Env K mg w) {c Pt : Addr} {T : List (Addr × Str)} (hc : E.fd_law.code = .ref c) (TB : LamX.TabB base mg c Pt) (hmT : (Pt, lq_law ++ ("<lambda>" : Str)) ∈ T) (huT : ∀ p ∈ T, p.1 = Pt → p.2 = lq_law ++ ("<lambda>" : Str)) : FnOk P w K mg base (L2.CX P w) 20 E.a_law E.fd_law ["_law_script"] (spLaw K T) := by
  obtain ⟨oc, od, dV, kV, doc, pm, an, cdv, ct, osl, e, lk, hcd, _, _⟩ := E.F_law.ex
  rw [e] at lk hc ⊢
  change cdv = .ref c at hc
  subst hc
  refine fn_of lk hcd sc_law (fun vs H Q E h => ?_) (fun A outer s H vs Q E' hr h => ?_)
  · walk_at "hl"
  · have hu := huOf hr
    have G__law_begin := ok__law_begin (P := P) (w := w) (base := base) E
    have hr__law_begin := hr.mono (show 1 ≤ 19 by decide)
    have b__law_begin := b__law_begin E
    have G__law_tree := ok__law_tree (P := P) (w := w) (base := base) E 6
    have hr__law_tree := hr.mono (show 11 ≤ 19 by decide)
    have b__law_tree := b__law_tree E
    have G__law_test_text := ok__law_test_text (P := P) (w := w) (base := base) E 7
    have hr__law_test_text := hr.mono (show 8 ≤ 19 by decide)
    have b__law_test_text := b__law_test_text E
    have G__law_read := ok__law_read (P := P) (w := w) (base := base) E 6
    have hr__law_read := hr.mono (show 9 ≤ 19 by decide)
    have b__law_read := b__law_read E
    have G__law_words := ok__law_words (P := P) (w := w) (base := base) E
    have hr__law_words := hr.mono (show 4 ≤ 19 by decide)
    have b__law_words := b__law_words E
    have G__law_pick := ok__law_pick (P := P) (w := w) (base := base) E
    have hr__law_pick := hr.mono (show 1 ≤ 19 by decide)
    have b__law_pick := b__law_pick E
    have G__law_bent_text := ok__law_bent_text (P := P) (w := w) (base := base) E
    have hr__law_bent_text := hr.mono (show 3 ≤ 19 by decide)
    have b__law_bent_text := b__law_bent_text E
    have G__law_same := ok__law_same (P := P) (w := w) (base := base) E 8
    have hr__law_same := hr.mono (show 9 ≤ 19 by decide)
    have b__law_same := b__law_same E
    have G__law_test_ok := ok__law_test_ok (P := P) (w := w) (base := base) E
    have hr__law_test_ok := hr.mono (show 13 ≤ 19 by decide)
    have b__law_test_ok := b__law_test_ok E
    have G_read_test := okX_read_test (P := P) (w := w) (base := base) E
    have hr_read_test := hr.mono (show 14 ≤ 19 by decide)
    have b_read_test := b_read_test E
    have G_test_text := ok_test_text (P := P) (w := w) (base := base) E
    have hr_test_text := hr.mono (show 12 ≤ 19 by decide)
    have b_test_text := b_test_text E
    obtain ⟨a, ns, rfl, hT, hs, hl, q⟩ := h
    refine ⟨_, PSs.nox (pss_cons (ps_set (i := 1) sc_law.nd rfl (Or.inl rfl) (pe_call G__law_begin hr__law_begin rfl E.g__law_begin E.F__law_begin.kp b__law_begin .nil pass0 (pa_cons (pv 0) pa_nil)))
(pss_cons (ps_for PassesOwn.never rfl (pi_range1 rfl E.n_range (pa_cons pe_int pa_nil)) (pg_name (i := 2) sc_law.nd rfl (Or.inl rfl))
(pss_cons (ps_set (i := 3) sc_law.nd rfl (Or.inl rfl) (pe_op (op_addU K rfl) (pe_call G__law_words hr__law_words rfl E.g__law_words E.F__law_words.kp b__law_words .nil pass0 (pa_cons (pv 1) (pa_cons pe_int pa_nil))) (pe_lst (pa_cons pe_str (pa_cons pe_str (pa_cons pe_str pa_nil))))))
(pss_cons (ps_set (i := 4) sc_law.nd rfl (Or.inl rfl) (pe_op (op_addU K rfl) pe_int (pe_call G__law_pick hr__law_pick rfl E.g__law_pick E.F__law_pick.kp b__law_pick .nil pass0 (pa_cons (pv 1) (pa_cons pe_int pa_nil)))))
(pss_cons (ps_set (i := 5) sc_law.nd rfl (Or.inl rfl) (pe_call G__law_tree hr__law_tree rfl E.g__law_tree E.F__law_tree.kp b__law_tree .nil pass0 (pa_cons (pv 1) (pa_cons (pv 4) (pa_cons (pv 3) (pa_cons (pv 3) pa_nil))))))
(pss_cons (ps_set (i := 6) sc_law.nd rfl (Or.inr rfl) (pe_call G__law_test_text hr__law_test_text rfl E.g__law_test_text E.F__law_test_text.kp b__law_test_text .nil pass0 (pa_cons (pv 5) pa_nil)))
(pss_cons (ps_for PassesOwn.never rfl (pi_range1 rfl E.n_range (pa_cons (pe_call G__law_pick hr__law_pick rfl E.g__law_pick E.F__law_pick.kp b__law_pick .nil pass0 (pa_cons (pv 1) (pa_cons pe_int pa_nil))) pa_nil)) (pg_name (i := 7) sc_law.nd rfl (Or.inl rfl))
(pss_one (ps_set (i := 6) sc_law.nd rfl (Or.inr rfl) (pe_call G__law_bent_text hr__law_bent_text rfl E.g__law_bent_text E.F__law_bent_text.kp b__law_bent_text .nil pass0 (pa_cons (pv 1) (pa_cons (pv 6) pa_nil))))))
(pss_cons (ps_set (i := 8) sc_law.nd rfl (Or.inl rfl) (pe_call G__law_read hr__law_read rfl E.g__law_read E.F__law_read.kp b__law_read .nil pass0 (pa_cons (pv 6) (pa_cons pe_int pa_nil))))
(pss_cut (ps_if (PW.pt (pw_and (pt_cmpR (op_isnotU) (pv 8) pe_non (nomark _)) (pw_and1 (pt_not (pt_val (pe_call G__law_test_ok hr__law_test_ok rfl E.g__law_test_ok E.F__law_test_ok.kp b__law_test_ok .nil pass0 (pa_cons (pv 8) pa_nil))))))) (pss_one (ps_set (i := 8) sc_law.nd rfl (Or.inl rfl) pe_non)) pss_nil)
(pss_cons (ps_set (i := 9) sc_law.nd rfl (Or.inl rfl) (pe_askT E rfl rfl (q := lq_law) rfl TB rfl hmT huT hr (lamS_by rfl) rfl (fun _ _ _ _ _ => rfl) (fun A outer s H E' f c' hr' => (pe_call G_read_test (hr'.mono (show 14 ≤ 17 by decide)) rfl E.g_read_test E.F_read_test.kp b_read_test .nil (passes_call (takes_of rfl rfl rfl rfl) fun _ _ _ _ h => h) (pa_cons (pv 6) pa_nil)))))
(pss_cons (ps_set (i := 10) sc_law.nd rfl (Or.inl rfl) (pe_join (pe_ifExp (pt_cmpR (op_isU) (pv 8) pe_non (nomark _)) pe_str pe_str)))
(pss_cons (ps_if (pt_not (pt_val (pe_call G__law_same hr__law_same rfl E.g__law_same E.F__law_same.kp b__law_same .nil pass0 (pa_cons (pv 9) (pa_cons (pe_lst (pa_cons (pv 10) (pa_cons (pv 8) pa_nil))) pa_nil))))) (pss_one (ps_ret pe_bl)) pss_nil)
(pss_one (ps_if (PW.pt (pw_and (pt_cmpR (op_isnotU) (pv 8) pe_non (nomark _)) (pw_and1 (pt_cmpR (op_neU K rfl hu) (pe_call G_test_text hr_test_text rfl E.g_test_text E.F_test_text.kp b_test_text .nil pass0 (pa_cons (pe_ix (ix_U K rfl) (pv 9) pe_int (fun _ _ => rfl)) pa_nil)) (pv 6) (nomark _))))) (pss_one (ps_ret pe_bl)) pss_nil)))))))))))))
(pss_one (ps_ret (pe_cmpR (op_eqU K rfl hu) (pe_ix (ix_U K rfl) (pe_askT E rfl rfl (q := lq_law) rfl TB rfl hmT huT hr (lamS_by rfl) rfl (fun _ _ _ _ _ => rfl) (fun A outer s H E' f c' hr' => (pe_call G_read_test (hr'.mono (show 14 ≤ 17 by decide)) rfl E.g_read_test E.F_read_test.kp b_read_test .nil (passes_call (takes_of rfl rfl rfl rfl) fun _ _ _ _ h => h) (pa_cons pe_str pa_nil)))) pe_int (fun _ _ => rfl)) pe_str (nomark _)))))), ?_⟩
    refine k_body (s1 := some _ :: [none, none, none, none, none, none, none, none, none, none]) rfl ?_
    have hS := Sep.tabs0 (K := K) hT
    walk_at "s"
    refine use_beginS (L := [tabsA T]) hS hs hl (fun d H hS => ?_)
    walk_at "s"
    refine for_wk (n := (6 : Int).toNat) (fun i σ L' => L' = [dr d, tabsA T] ∧ ∃ c2 c3 c4 c5 c6 c7 c8 c9 c10, σ = [some (.ref a), some (.ref d), c2, c3, c4, c5, c6, c7, c8, c9, c10]) (fun i σ L' _ => wk_rng) hS ⟨rfl, _, _, _, _, _, _, _, _, _, rfl⟩ (fun i σ L' hi iv => ?_) (fun σ L' H iv hS9 => ?_)
    · obtain ⟨rfl, c2, c3, c4, c5, c6, c7, c8, c9, c10, rfl⟩ := iv
      clear hS
      intro H hS
      walk_at "ns"
      walk_at "s"
      refine ⟨d, 3, _, rfl, by decide, hS, by walk_at "mem", fun pn zs H hzl hnd hnm hS => ?_⟩
      walk_at "s"
      obtain ⟨ws, ews, hwl, hwm⟩ : ∃ ws : List Str, zs.map PyData.str ++ [PyData.str "is", PyData.str "all", PyData.str "not"] = ws.map PyData.str ∧ ws.length = 6 ∧ ∀ z ∈ ws, IsNm z := ⟨zs ++ ([("is" : Str), "all", "not"] : List Str), by rw [List.map_append]; rfl, by rw [List.length_append, hzl]; rfl, fun z hz => by
        rcases List.mem_append.mp hz with hz | hz
        · exact hnm z hz
        · exact nm3 z hz⟩
      rw [ews] at hS
      replace hS : Ls.Sep (Ls.ld p (ws.map PyData.str) :: [dr d, tabsA T]) _ := Sub.ok (by walk_at "sub") hS
      walk_at "pk"
      intro r H hS r0 r1
      walk_at "s"
      have hN : NmsL (K := K) p (Ls.ld p (ws.map PyData.str) :: [dr d, tabsA T]) := ⟨ws, List.mem_cons_self, by omega, by omega, hwm⟩
      refine ⟨d, p, p, 1 + r, _, rfl, by show 1 + r ≤ (5 : Nat) + 1; omega, hS, by walk_at "mem", hN, hN, fun p1 t H ho hd _ hS => ?_⟩
      clear hN
      replace hd : t.deep ≤ 6 := hd
      obtain ⟨htl, hta⟩ := text_size ho
      replace htl : t.text.length ≤ 698 := by
        have : 2 ^ t.deep ≤ 2 ^ 6 := Nat.pow_le_pow_right (by decide) hd
        omega
      walk_at "s"
      refine ⟨p1, t, _, rfl, ho, Nat.le_trans hd (by decide), by decide, hS, by walk_at "mem", fun H hS => ?_⟩
      replace hS : Ls.Sep (K := K) [dr d, tabsA T] H := Sub.ok (by walk_at "sub") hS
      walk_at "s"
      walk_at "pk"
      intro u H hS u0 u1
      walk_at "s"
      refine for_wk (n := u.toNat) (fun j σ L' => L' = [dr d, tabsA T] ∧ ∃ y cy, σ = [some (.ref a), some (.ref d), some (.int (0 + i)), some (.ref p), some (.int (1 + r)), some (.ref p1), some (.str y), cy, c8, c9, c10] ∧ Asc y ∧ y.length ≤ 698 + 5 * j) (fun i σ L' _ => wk_rng) hS ⟨rfl, _, _, rfl, hta, by omega⟩ (fun j σ L' hj iv => ?_) (fun σ L' H iv hS9 => ?_)
      · obtain ⟨rfl, y, cy, rfl, hya, hyl⟩ := iv
        clear hS
        intro H hS
        walk_at "ns"
        walk_at "s"
        refine ⟨d, y, _, rfl, hS, by walk_at "mem", hya, by omega, fun y2 H hya2 hyl2 hS => ?_⟩
        walk_at "s"
        exact ⟨_, ⟨rfl, _, _, rfl, hya2, by omega⟩, Sub.ok (by walk_at "sub") hS⟩
      obtain ⟨rfl, z, cy, rfl, hza, hzl2⟩ := iv
      have hS := hS9
      have hz : Tx z := tx_asc hza (by omega)
      clear hta htl ho hd hza hzl2
      walk_at "s"
      refine ⟨z, 5, _, rfl, by decide, by decide, hz, hS, fun v H hS => ?_⟩
      walk_at "s"
      have hli := lRead_is z
      have hns : ∀ {t : Tst} {b : Bool}, decide (IsT t.D) = b → (some t : Option Tst).filter (fun t => decide (IsT t.D)) = if b = true then some t else none := fun h => by rw [Option.filter_some, h]
      refine k_cutS (fun σ (L' : List (As K)) => ∃ v2, σ = [some (.ref a), some (.ref d), some (.int (0 + i)), some (.ref p), some (.int (1 + r)), some (.ref p1), some (.str z), cy, some v2, c9, c10] ∧ L' = [im v2 (oT (readR z)), dr d, tabsA T]) ?_ ?_
      · walk_at "s"
        cases e : lRead 5 z with
        | none =>
          rw [e] at hS hli
          obtain ⟨hv, hS2⟩ := Sep.im_iff.mp hS
          cases im_non hv
          rw [if_neg (by decide)]
          walk_at "s"
          refine ⟨_, ⟨_, rfl, rfl⟩, ?_⟩
          rw [← hli]
          exact Sub.ok (by show Sub _ (im .non (oT none) :: [dr d, tabsA T]); walk_at "sub") hS
        | some t =>
          have hraw := lRead_raw hz e
          rw [e] at hS hli
          obtain ⟨xs, ed⟩ := t.D_tup
          replace hS : Ls.Sep (im v t.D :: _) H := hS
          have hns2 := @hns t
          rw [ed] at hS hraw hns2
          obtain ⟨p2, rfl⟩ := im_isRef hS (by walk_at "mem")
          rw [if_pos (by simp)]
          walk_at "s"
          refine ⟨p2, xs, 6, _, rfl, by decide, hS, by walk_at "mem", hraw.mono (by decide) (Nat.le_refl _), fun H hS => ?_⟩
          by_cases hi : IsT (.tuple xs)
          · rw [hns2 (decide_eq_true hi), if_pos rfl] at hli
            rw [decide_eq_true hi]
            walk_at "s"
            refine ⟨_, ⟨_, rfl, rfl⟩, ?_⟩
            rw [← hli]
            show Ls.Sep (im _ t.D :: _) _
            rw [ed]
            exact Sub.ok (by walk_at "sub") hS
          · rw [hns2 (decide_eq_false hi), if_neg Bool.false_ne_true] at hli
            rw [decide_eq_false hi]
            walk_at "s"
            refine ⟨_, ⟨_, rfl, rfl⟩, ?_⟩
            rw [← hli]
            exact Ls.Sep.nonT (Sub.ok (by walk_at "sub") hS)
      clear hS hli hns
      rintro _ _ H ⟨v2, rfl, rfl⟩ hS
      walk_at "s"
      refine k_lamS hS (by walk_at "rem") ?_
      clear hS
      intro H hS
      have ok2 : OkD 7 (oT (readR z)) := by
        cases e : readR z with
        | none => trivial
        | some t => exact raw_okd (c := 3) (by decide) ((testR_raw hz (readR_is e).1).mono (m := 7) (Nat.le_refl _) (by decide))
      refine task_by (fun v w H => w = wordR z ∧ Ls.Sep (K := K) [im v (oT (readR z)), im v2 (oT (readR z)), dr d, tabsA T] H) ?_ ?_
      · clear hS
        rintro v w H ⟨rfl, hS⟩ pf hp
        have hob : OkD 8 (.list [.str (wordR z), oT (readR z)]) := okd_two9 (show PyData.strOk _ = true by unfold wordR; split <;> decide +kernel) ok2
        have hS2 : Ls.Sep (Ls.ld pf [.str (wordR z), oT (readR z)] :: im v (oT (readR z)) :: [im v2 (oT (readR z)), dr d, tabsA T]) (upd H pf (.lst [.str (wordR z), v])) := hS.newD (p := pf) hp (.cons (.str _) (.cons (.im List.mem_cons_self) .nil))
        clear hS
        have hS := hS2
        clear hS2
        walk_at "s"
        refine k_joinS (fun v (M : List (As K)) => v = V.str (wordR z) ∧ M = [Ls.ld pf [.str (wordR z), oT (readR z)], im v2 (oT (readR z)), dr d, tabsA T]) ?_ ?_
        · walk_at "s"
          cases e : readR z with
          | none =>
            rw [e] at hS
            obtain ⟨hv, _⟩ := Sep.im_iff.mp (Ls.Sep.tail (Ls.Sep.tail hS))
            cases im_non hv
            rw [if_pos (by decide)]
            walk_at "s"
            exact ⟨_, ⟨by unfold wordR; rw [e]; rfl, rfl⟩, Sub.ok (by walk_at "sub") hS⟩
          | some t =>
            rw [e] at hS
            obtain ⟨xs, ed⟩ := t.D_tup
            have hS2 := hS
            rw [show oT (some t) = t.D from rfl, ed] at hS2
            obtain ⟨p2, rfl⟩ := im_isRef (v := v2) hS2 (by walk_at "mem")
            rw [if_neg (by simp)]
            walk_at "s"
            exact ⟨_, ⟨by unfold wordR; rw [e]; rfl, rfl⟩, Sub.ok (by walk_at "sub") hS⟩
        clear hS
        rintro _ M H ⟨rfl, rfl⟩ hS
        walk_at "s"
        refine use_sameD hS (.ld (by walk_at "mem")) (.ld (by walk_at "mem")) hob fun H hS => ?_
        refine ⟨_, rfl, ?_⟩
        rw [if_neg (by decide)]
        walk_at "s"
        cases e : readR z with
        | none =>
          rw [e] at hS
          obtain ⟨hv, _⟩ := Sep.im_iff.mp (Ls.Sep.tail (Ls.Sep.tail hS))
          cases im_non hv
          rw [if_neg (by decide)]
          walk_at "s"
          exact ⟨_, ⟨rfl, _, _, _, _, _, _, _, _, _, rfl⟩, Sub.ok (by walk_at "sub") hS⟩
        | some t =>
          obtain ⟨e1, e2⟩ := readR_is e
          obtain ⟨t', et, ho, hd, hp15⟩ := isT_is e2
          obtain rfl := D_inj0 et
          have ez := (testR_back e1).1
          rw [e, show oT (some t') = t'.D from rfl] at hS
          obtain ⟨xs, ed⟩ := t'.D_tup
          have hS2 := hS
          rw [ed] at hS2
          obtain ⟨p2, rfl⟩ := im_isRef (v := v2) hS2 (by walk_at "mem")
          clear hS2
          rw [if_pos (by simp)]
          walk_at "s"
          refine k_ixD hS (by walk_at "mem") (at01 _ _ _) ?_
          refine gv_T t' fun b1 (hS : Ls.Sep _ _) => ?_
          walk_at "ns"
          walk_at "s"
          refine ⟨b1, t', _, rfl, hS, by walk_at "mem", ho, hd, hp15, fun H hS => ?_⟩
          walk_at "s"
          rw [if_neg (by rw [ez]; simp)]
          walk_at "s"
          exact ⟨_, ⟨rfl, _, _, _, _, _, _, _, _, _, rfl⟩, Sub.ok (by walk_at "sub") hS⟩
      · intro E' Q' qO qS qM qV
        walk_at "s"
        refine ⟨z, _, rfl, hz, hS, fun t e p3 H hS => ?_, fun e => ?_⟩
        · refine qO _ _ ⟨by unfold wordR; rw [e]; rfl, ?_⟩
          rw [e] at hS ⊢
          exact Sub.ok (by show Sub _ [im (V.ref p3) t.D, im v2 (oT (some t)), dr d, tabsA T]; walk_at "sub") hS
        · refine qS _ _ _ E.e_BadTest_BadValue E.e_BadTest_ScribeError E.x_BadTest E.w_BadTest fun H hS => ⟨by unfold wordR; rw [e]; rfl, ?_⟩
          rw [e] at hS ⊢
          exact Ls.Sep.nonT (Sub.ok (by walk_at "sub") hS)
    · obtain ⟨rfl, c2, c3, c4, c5, c6, c7, c8, c9, c10, rfl⟩ := iv
      have hS := hS9
      walk_at "s"
      refine k_lamS hS (by walk_at "rem") ?_
      clear hS
      intro H hS
      refine task_by (fun v w H => w = "badtest" ∧ v = .non ∧ Ls.Sep (K := K) [tabsA T, dr d] H) ?_ ?_
      · clear hS
        rintro v w H ⟨rfl, rfl, hS⟩ pf hp
        replace hS := hS.newD (p := pf) (xs := [.str "badtest", .non]) (ds := [.str "badtest", .none]) hp (.cons (.str _) (.cons .non .nil))
        walk_at "s"
        rw [show decide (("badtest" : Str) = "badtest") = true by decide]
        exact q _
      · intro E' Q' qO qS qM qV
        walk_at "s"
        refine ⟨"", _, rfl, tx_empty, hS, fun t e => ?_, fun _ => ?_⟩
        · rw [read_empty] at e
          cases e
        · exact qS _ _ _ E.e_BadTest_BadValue E.e_BadTest_ScribeError E.x_BadTest E.w_BadTest fun H hS => ⟨rfl, rfl, Sub.ok (by walk_at "sub") hS⟩
end Lw
theorem PySem.Challenge.cw_lanescribe_k05_texts_read_as_tests_holds : PySem.Challenge.rw_lanescribe_k05_texts_read_as_tests.Holds :=
  Lw.head_of @Lw.ok_law
