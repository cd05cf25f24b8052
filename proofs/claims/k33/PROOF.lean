import PyProof.Rows.All
import Wide.All
import OpenK.AllK
import Wide.FinOn
import PySem.Challenge.RW_lanescribe_k33_dumps_bent_and_mended
import HandS.Head0
import HandS.Head1
import HandS.Head2
import HandS.HeadEnd
import HandS.HeadHook1
import HandS.HeadHook2
import HandS.HeadHook3
import HandS.HeadHook4
import HandS.HeadWalk
import HandS.EndTab
import KE.KNestM
import KE.KStateDown
import HandS.ForMost
import HandS.Exc
import HandS.TryOnly
import HandS.TryMany
import HandS.WordsExc
import HandS.Flow
import HandS.Style
import HandS.DictComp
import HandS.Deep
import HandS.Wide
import HandS.Defaults
import HandS.MakeKwOnly
import HandS.Zip
import HandS.TupAny
import HandS.TupLe
import HandS.IsInst
import HandS.Walk
import HandS.EndBits
import HandS.ClsMeth
import HandS.ExcInit
import HandS.ExcField
import HandS.Lambda
import HandS.ExcOwn
import KE.GoesMore
import HandS.Codes
import HandS.MakeKw
import HandS.OwnEq
import HandS.NamedTupGet
import OpenK.KOps
import KE.KDictZip
import HandS.Dict
import HandS.SetFor
import HandS.FStr
import KE.SortKeyHeap
import HandS.SortKw
import HandS.ExcValue
import KE.DataMinMax
import HandS.Strs
import HandS.Conv
import PyProof.WalksMore
import PyProof.CollectIter
import PyProof.InstNe
import HandS.More
import HandS.RaiseMore
import HandS.SortInts
import HandS.Text
import KE.KxText
import KE.IntTextLaws
import PyProof.Rows.StrRev
import PyProof.Rows.StrCountLaw
import KE.KStrOpen
import PyProof.StrBlock2
set_option Elab.async false
set_option linter.all false
set_option maxRecDepth 100000
set_option maxHeartbeats 4000000
open PySem PySem.Spec PyProof.Rows L2
namespace Ls
end Ls
open Ls
namespace Lw
open PySem PySem.Spec PyProof.Rows L2 Ls
def top (i : Nat) : Stmt := PySem.Challenge.pw_lanescribe_k33_dumps_bent_and_mended.main.body.getD i (.Pass ⟨0, 0, 0, 0⟩)
abbrev s_law : Stmt := top 35
theorem sc_law : FnScope ["_law_script", "_law_d", "_law_whole", "_law_turn", "_law_text", "_law_step", "_law_found", "_law_wrong"] ["_law_script"] (defScope s_law) := ⟨rfl, rfl, rfl, by decide +kernel, rfl, by decide +kernel, by decide +kernel⟩
abbrev s__law_begin : Stmt := top 19
theorem sc__law_begin : FnScope ["_law_script", "_law_seed", "_law_cell"] ["_law_script"] (defScope s__law_begin) := ⟨rfl, rfl, rfl, by decide +kernel, rfl, by decide +kernel, by decide +kernel⟩
abbrev s__law_dump : Stmt := top 29
theorem sc__law_dump : FnScope ["_law_told", "_law_thing"] ["_law_told"] (defScope s__law_dump) := ⟨rfl, rfl, rfl, by decide +kernel, rfl, by decide +kernel, by decide +kernel⟩
abbrev s__law_same : Stmt := top 23
theorem sc__law_same : FnScope ["_law_found", "_law_due", "_law_k"] ["_law_found", "_law_due"] (defScope s__law_same) := ⟨rfl, rfl, rfl, by decide +kernel, rfl, by decide +kernel, by decide +kernel⟩
abbrev s__law_dump_told : Stmt := top 30
theorem sc__law_dump_told : FnScope ["_law_d", "_law_told", "_law_place", "_law_time", "_law_step", "_law_values", "_law_at"] ["_law_d"] (defScope s__law_dump_told) := ⟨rfl, rfl, rfl, by decide +kernel, rfl, by decide +kernel, by decide +kernel⟩
abbrev s__law_dump_read : Stmt := top 32
theorem sc__law_dump_read : FnScope ["_law_text", "_law_rows", "_law_found", "_law_place", "_law_time", "_law_at", "_law_thing"] ["_law_text"] (defScope s__law_dump_read) := ⟨rfl, rfl, rfl, by decide +kernel, rfl, by decide +kernel, by decide +kernel⟩
abbrev s__law_bent_dump : Stmt := top 33
theorem sc__law_bent_dump : FnScope ["_law_d", "_law_text", "_law_rows", "_law_at", "_law_to", "_law_words", "_law_one", "_law_bits", "_law_way", "_law_more", "_law_spot"] ["_law_d", "_law_text"] (defScope s__law_bent_dump) := ⟨rfl, rfl, rfl, by decide +kernel, rfl, by decide +kernel, by decide +kernel⟩
abbrev s__law_ask_dump : Stmt := top 34
theorem sc__law_ask_dump : FnScope ["_law_text", "_law_told", "e"] ["_law_text"] (defScope s__law_ask_dump) := ⟨rfl, rfl, rfl, by decide +kernel, rfl, by decide +kernel, by decide +kernel⟩
abbrev s__law_pick : Stmt := top 20
theorem sc__law_pick : FnScope ["_law_d", "_law_many", "_law_cell", "_law_digit", "_law_one"] ["_law_d", "_law_many"] (defScope s__law_pick) := ⟨rfl, rfl, rfl, by decide +kernel, rfl, by decide +kernel, by decide +kernel⟩
abbrev s_mended : Stmt := top 17
theorem sc_mended : FnScope ["text"] ["text"] (defScope s_mended) := ⟨rfl, rfl, rfl, by decide +kernel, rfl, by decide +kernel, by decide +kernel⟩
abbrev s__law_thing_row : Stmt := top 28
theorem sc__law_thing_row : FnScope ["_law_thing", "_law_part", "_law_number"] ["_law_thing"] (defScope s__law_thing_row) := ⟨rfl, rfl, rfl, by decide +kernel, rfl, by decide +kernel, by decide +kernel⟩
abbrev s__law_of : Stmt := top 21
theorem sc__law_of : FnScope ["_law_d", "_law_things"] ["_law_d", "_law_things"] (defScope s__law_of) := ⟨rfl, rfl, rfl, by decide +kernel, rfl, by decide +kernel, by decide +kernel⟩
abbrev s__law_far : Stmt := top 22
theorem sc__law_far : FnScope ["_law_d", "_law_number"] ["_law_d"] (defScope s__law_far) := ⟨rfl, rfl, rfl, by decide +kernel, rfl, by decide +kernel, by decide +kernel⟩
abbrev s__law_word : Stmt := top 24
theorem sc__law_word : FnScope ["_law_d", "_law_letters", "_law_first", "_law_size", "_law_some", "_law_k"] ["_law_d"] (defScope s__law_word) := ⟨rfl, rfl, rfl, by decide +kernel, rfl, by decide +kernel, by decide +kernel⟩
abbrev s__law_bound : Stmt := top 25
theorem sc__law_bound : FnScope ["_law_d", "_law_near"] ["_law_d"] (defScope s__law_bound) := ⟨rfl, rfl, rfl, by decide +kernel, rfl, by decide +kernel, by decide +kernel⟩
abbrev s__law_thing_in : Stmt := top 31
theorem sc__law_thing_in : FnScope ["_law_line", "_law_words", "_law_number", "_law_numbers", "_law_word_here"] ["_law_line"] (defScope s__law_thing_in) := ⟨rfl, rfl, rfl, by decide +kernel, rfl, by decide +kernel, by decide +kernel⟩
abbrev s_read_dump : Stmt := top 16
theorem sc_read_dump : FnScope ["text", "found", "wrong"] ["text"] (defScope s_read_dump) := ⟨rfl, rfl, rfl, by decide +kernel, rfl, by decide +kernel, by decide +kernel⟩
abbrev s_rows_read : Stmt := top 15
theorem sc_rows_read : FnScope ["text", "rows", "found", "due", "at", "line", "thing", "wrong"] ["text"] (defScope s_rows_read) := ⟨rfl, rfl, rfl, by decide +kernel, rfl, by decide +kernel, by decide +kernel⟩
abbrev s__law_number_in : Stmt := top 27
theorem sc__law_number_in : FnScope ["_law_text", "_law_most", "_law_figures", "_law_sign"] ["_law_text", "_law_most"] (defScope s__law_number_in) := ⟨rfl, rfl, rfl, by decide +kernel, rfl, by decide +kernel, by decide +kernel⟩
abbrev s__law_is_name : Stmt := top 26
theorem sc__law_is_name : FnScope ["_law_text", "_law_sign"] ["_law_text"] (defScope s__law_is_name) := ⟨rfl, rfl, rfl, by decide +kernel, rfl, by decide +kernel, by decide +kernel⟩
abbrev s_thing_in : Stmt := top 13
theorem sc_thing_in : FnScope ["line", "word", "things", "found", "thing", "numbers", "place", "time", "values"] ["line"] (defScope s_thing_in) := ⟨rfl, rfl, rfl, by decide +kernel, rfl, by decide +kernel, by decide +kernel⟩
abbrev s_fits : Stmt := top 14
theorem sc_fits : FnScope ["thing", "ahead", "due", "times", "one"] ["thing", "ahead", "due"] (defScope s_fits) := ⟨rfl, rfl, rfl, by decide +kernel, rfl, by decide +kernel, by decide +kernel⟩
abbrev s_number_in : Stmt := top 10
theorem sc_number_in : FnScope ["text", "most", "figures", "sign"] ["text", "most"] (defScope s_number_in) := ⟨rfl, rfl, rfl, by decide +kernel, rfl, by decide +kernel, by decide +kernel⟩
abbrev s_is_name : Stmt := top 6
theorem sc_is_name : FnScope ["text", "sign"] ["text"] (defScope s_is_name) := ⟨rfl, rfl, rfl, by decide +kernel, rfl, by decide +kernel, by decide +kernel⟩
abbrev s_ScribeError___init__ : Stmt := inClass (top 1) 0
theorem sc_ScribeError___init__ : FnScope ["self", "word"] ["self", "word"] (defScope s_ScribeError___init__) := ⟨rfl, rfl, rfl, by decide +kernel, rfl, by decide +kernel, by decide +kernel⟩
abbrev s_BadDump___init__ : Stmt := inClass (top 2) 0
theorem sc_BadDump___init__ : FnScope ["self", "row"] ["self", "row"] (defScope s_BadDump___init__) := ⟨rfl, rfl, rfl, by decide +kernel, rfl, by decide +kernel, by decide +kernel⟩
end Lw
namespace Ls
open PySem PySem.Spec PyProof.Rows L2
section
variable {X : Cx}
def rAddU (K : PySem.W.Frag) : R2 := fun x y H Q => (∃ i j, x = .int i ∧ y = .int j ∧ Q (.int (i + j)) H) ∨ (∃ i j, x = .str i ∧ y = .str j ∧ i.length + j.length ≤ sizeLine ∧ Q (.str (i ++ j)) H) ∨ rCat x y H Q ∨ rCatA K x y H Q
theorem op_addU0 : OpR X (binaryOp .Add) (rAddU X.K) := OpR.or op_add (OpR.or op_add_str (OpR.or op_cat op_catA))
def rEqU (K : PySem.W.Frag) : R2 := fun x y H Q => rEq x y H Q ∨ rEqD K x y H Q
def rNeU (K : PySem.W.Frag) : R2 := fun x y H Q => rNe x y H Q ∨ rNeD K x y H Q
theorem op_eqU0 (hu : X.A.units + 66 < cLine) : OpR X (compareOp .Eq) (rEqU X.K) := OpR.or op_eq (op_eqD (by omega))
theorem op_neU0 (hu : X.A.units + 66 < cLine) : OpR X (compareOp .NotEq) (rNeU X.K) := OpR.or op_ne (op_neD (by omega))
def rIsU : R2 := fun x y H Q => (y = .non ∧ Q (.bl (decide (x = .non))) H) ∨ (∃ a b, x = .bl a ∧ y = .bl b ∧ Q (.bl (decide (a = b))) H)
def rIsNotU : R2 := fun x y H Q => (y = .non ∧ Q (.bl (!decide (x = .non))) H) ∨ (∃ a b, x = .bl a ∧ y = .bl b ∧ Q (.bl (!decide (a = b))) H)
theorem op_isU : OpR X (compareOp .Is) rIsU := OpR.or op_isN op_is_bl
theorem op_isnotU : OpR X (compareOp .IsNot) rIsNotU := OpR.or op_notN op_isnot_bl
def rInSg : R2 := fun x y H Q => ∃ (c : Nat) (z : Str), x = .str ⟨#[c]⟩ ∧ y = .str z ∧ Q (.bl (decide (c ∈ z.cps.toList))) H
def rNotInSg : R2 := fun x y H Q => ∃ (c : Nat) (z : Str), x = .str ⟨#[c]⟩ ∧ y = .str z ∧ Q (.bl (!decide (c ∈ z.cps.toList))) H
def rInU (K : PySem.W.Frag) : R2 := fun x y H Q => rIn K false x y H Q ∨ rInD K x y H Q ∨ rInSg x y H Q
def rNotInU (K : PySem.W.Frag) : R2 := fun x y H Q => rIn K true x y H Q ∨ rNotInD K x y H Q ∨ rNotInSg x y H Q
theorem op_inU0 (hu : X.A.units + 66 < cLine) : OpR X (compareOp .In) (rInU X.K) := OpR.or op_in_seq (OpR.or (op_inD (by omega)) op_in_sign)
def rLenU (K : PySem.W.Frag) : List V → Hp → VK → Prop := fun xs H Q => (∃ p ys, xs = [.ref p] ∧ (SqL K H p ys ∨ SqT K H p ys) ∧ Q (.int ys.length) H) ∨ (∃ z, xs = [.str z] ∧ z.length ≤ sizeLine ∧ Q (.int z.length) H) ∨ (∃ a kvs, xs = [V.ref a] ∧ H a = some (.dK kvs) ∧ Q (.int kvs.length) H)
theorem call_lenU0 : CallR X (.builtin "len") (rLenU X.K) := CallR.or call_len_seq (CallR.or call_len_str call_lenD)
def rSlU (K : PySem.W.Frag) : V → Option Int → Option Int → Hp → VK → Prop := fun x lo hi H Q => rSlL K x lo hi H Q ∨ rSlA K x lo hi H Q ∨ rSlS x lo hi H Q
theorem sl_U0 : SlR X (rSlU X.K) := SlR.or sl_list (SlR.or sl_tupA sl_str)
def rMaxU (K : PySem.W.Frag) : List V → Hp → VK → Prop := fun vs H Q => (∃ i j, vs = [.int i, .int j] ∧ Q (.int (if j > i then j else i)) H) ∨ rMax K vs H Q
def rMinU (K : PySem.W.Frag) : List V → Hp → VK → Prop := fun vs H Q => (∃ i j, vs = [.int i, .int j] ∧ Q (.int (if j < i then j else i)) H) ∨ rMin K vs H Q
end
section
variable {X : Cx}
theorem op_addU (K : PySem.W.Frag) (hK : X.K = K)  : OpR X (binaryOp .Add) (rAddU K) := by
  subst hK
  exact op_addU0
theorem op_eqU (K : PySem.W.Frag) (hK : X.K = K) (hu : X.A.units + 66 < cLine) : OpR X (compareOp .Eq) (rEqU K) := by
  subst hK
  exact op_eqU0 hu
theorem op_neU (K : PySem.W.Frag) (hK : X.K = K) (hu : X.A.units + 66 < cLine) : OpR X (compareOp .NotEq) (rNeU K) := by
  subst hK
  exact op_neU0 hu
theorem op_inU (K : PySem.W.Frag) (hK : X.K = K) (hu : X.A.units + 66 < cLine) : OpR X (compareOp .In) (rInU K) := by
  subst hK
  exact op_inU0 hu
theorem call_lenU (K : PySem.W.Frag) (hK : X.K = K)  : CallR X (.builtin "len") (rLenU K) := by
  subst hK
  exact call_lenU0
theorem sl_U (K : PySem.W.Frag) (hK : X.K = K)  : SlR X (rSlU K) := by
  subst hK
  exact sl_U0
def rListU (K : PySem.W.Frag) : List V → Hp → VK → Prop := fun xs H Q => ∃ p ys, xs = [V.ref p] ∧ (SqL K H p ys ∨ SqT K H p ys) ∧ ∀ l, H l = none → Q (.ref l) (upd H l (.lst ys))
def rTupleU (K : PySem.W.Frag) : List V → Hp → VK → Prop := fun xs H Q => ∃ p ys, xs = [.ref p] ∧ ((SqL K H p ys ∧ ∀ l, H l = none → Q (.ref l) (upd H l (.tup ys))) ∨ (SqT K H p ys ∧ Q (.ref p) H))
theorem call_listU (K : PySem.W.Frag) (hK : X.K = K) : CallR X (.type "list") (rListU K) := by
  subst hK
  exact call_list_of
theorem call_tupleU (K : PySem.W.Frag) (hK : X.K = K) : CallR X (.type "tuple") (rTupleU K) := by
  subst hK
  exact call_tuple_of
theorem cr_allU (K : PySem.W.Frag) (hK : X.K = K) (hc : X.calm = true) : CallR X (.builtin "all") (rAll K) := by
  subst hK
  exact cr_all hc
theorem call_isiU (K : PySem.W.Frag) (hK : X.K = K) : CallR X (.builtin "isinstance") (rIsi K) := by
  subst hK
  exact call_isi
theorem call_isiTU (K : PySem.W.Frag) (hK : X.K = K) : CallR X (.builtin "isinstance") (rIsiT K) := by
  subst hK
  exact call_isiT
theorem ix_U (K : PySem.W.Frag) (hK : X.K = K) : IxR X (rIx K) := by
  subst hK
  exact ix_seq
theorem kBM {e : Expr} {T : String} {r : V → List V → Hp → VK → Prop} {to : TE} {t : TA} (K : PySem.W.Frag) (hK : X.K = K) (h : PE X e (tBM X.K T r to t)) : PE X e (tBM K T r to t) := hK ▸ h
theorem kGTup {e : Expr} {n : Nat} {t : TGs} (K : PySem.W.Frag) (hK : X.K = K) (h : PG X e (gTup X.K n t)) : PG X e (gTup K n t) := hK ▸ h
theorem kIL {tg l : Expr} {tl : TE} (K : PySem.W.Frag) (hK : X.K = K) (h : PI X tg l (iList X.K tl)) : PI X tg l (iList K tl) := hK ▸ h
end
theorem huOf {A : Around} {k : Nat} (hr : Room k A) : A.units + 66 < cLine := by
  have := hr.un
  omega
end Ls
namespace Ls
open PySem PySem.Spec PyProof.Rows L2
/-- tuples stay (they always do) -/
def Tp (K : PySem.W.Frag) (H H' : Hp) : Prop := ∀ a xs, SqT K H a xs → SqT K H' a xs
/-- all but the object at d stays -/
def Keep (d : Addr) (H H' : Hp) : Prop := ∀ b o, b ≠ d → H b = some o → H' b = some o
theorem same_new {H : Hp} {p : Addr} {o : HO} (h : H p = none) : Same H (upd H p o) := fun b x e => by
  rw [upd_ne (ne_of_none e h)]
  exact e
theorem rd_same {H H' : Hp} {a : Addr} {u : HO} (e : Same H H') (h : Rd H a u) : Rd H' a u := by
  rcases h with h | ⟨o, h⟩
  · exact .inl (e _ _ h)
  · exact .inr ⟨o, e _ _ h⟩
theorem sqt_same {K : PySem.W.Frag} {H H' : Hp} {a : Addr} {xs : List V} (e : Same H H') (h : SqT K H a xs) : SqT K H' a xs := by
  rcases h with h | h
  · exact .inl (rd_same e h)
  · exact .inr h
theorem Tp.refl {K : PySem.W.Frag} {H : Hp} : Tp K H H := fun _ _ h => h
theorem Tp.trans {K : PySem.W.Frag} {H H1 H2 : Hp} (a : Tp K H H1) (b : Tp K H1 H2) : Tp K H H2 := fun x xs h => b x xs (a x xs h)
theorem Tp.same {K : PySem.W.Frag} {H H' : Hp} (e : Same H H') : Tp K H H' := fun _ _ h => sqt_same e h
theorem Tp.new {K : PySem.W.Frag} {H : Hp} {p : Addr} {o : HO} (h : H p = none) : Tp K H (upd H p o) := Tp.same (same_new h)
/-- an object that is no tuple (nor a locked one) -/
def NoT : HO → Bool
  | .tup _ => false
  | .frz _ _ => false
  | _ => true
theorem keep_tp {K : PySem.W.Frag} {d : Addr} {H H' : Hp} {o : HO} (k : Keep d H H') (h : H d = some o) (n : NoT o = true) : Tp K H H' := fun a xs q => by
  have ne : ∀ u, NoT u = false → H a = some u → a ≠ d := fun u hu e z => by
    rw [z, h] at e
    cases e
    rw [n] at hu
    cases hu
  rcases q with (q | ⟨u, q⟩) | q
  · exact .inl (.inl (k _ _ (ne _ rfl q) q))
  · exact .inl (.inr ⟨u, k _ _ (ne _ rfl q) q⟩)
  · exact .inr q
theorem Keep.refl {d : Addr} {H : Hp} : Keep d H H := fun _ _ _ h => h
theorem Keep.trans {d : Addr} {H H1 H2 : Hp} (a : Keep d H H1) (b : Keep d H1 H2) : Keep d H H2 := fun c o n h => b c o n (a c o n h)
theorem Keep.same {d : Addr} {H H' : Hp} (e : Same H H') : Keep d H H' := fun b o _ h => e b o h
theorem Keep.new {d p : Addr} {H H' : Hp} {o : HO} (k : Keep d H H') (h : H' p = none) : Keep d H (upd H' p o) := fun b u n e => same_new h _ _ (k b u n e)
theorem Keep.put {d : Addr} {H H' : Hp} {o : HO} (k : Keep d H H') : Keep d H (upd H' d o) := fun b u n e => by
  rw [upd_ne n]
  exact k b u n e
/-- a write to what did not stand there at first -/
theorem Keep.wr {d p : Addr} {H H' : Hp} {o : HO} (k : Keep d H H') (h : H p = none) : Keep d H (upd H' p o) := fun b u n e => by
  rw [upd_ne (ne_of_none e h)]
  exact k b u n e
theorem Same.wr {p : Addr} {H H' : Hp} {o : HO} (k : Same H H') (h : H p = none) : Same H (upd H' p o) := fun b u e => by
  rw [upd_ne (ne_of_none e h)]
  exact k b u e
theorem Keep.free {d p : Addr} {H H' : Hp} {o : HO} (k : Keep d H H') (hd : H' d = some o) (h : H' p = none) : H p = none := by
  cases q : H p with
  | none => rfl
  | some u =>
    by_cases e : p = d
    · rw [e, hd] at h
      cases h
    · rw [k p u e q] at h
      cases h
theorem sql_same {K : PySem.W.Frag} {H H' : Hp} {a : Addr} {xs : List V} (e : Same H H') (h : SqL K H a xs) : SqL K H' a xs := e.seq h
theorem sql_keep {K : PySem.W.Frag} {d : Addr} {H H' : Hp} {a : Addr} {xs : List V} {kvs : List (Key × V)} (k : Keep d H H') (hd : H d = some (.dK kvs)) (h : SqL K H a xs) : SqL K H' a xs := by
  have ne : ∀ u, (∀ ks, u ≠ .dK ks) → H a = some u → a ≠ d := fun u hu e z => by
    rw [z, hd] at e
    exact hu _ (Option.some.inj e).symm
  rcases h with (q | ⟨u, q⟩) | q
  · exact .inl (.inl (k _ _ (ne _ (fun _ z => by cases z) q) q))
  · exact .inl (.inr ⟨u, k _ _ (ne _ (fun _ z => by cases z) q) q⟩)
  · exact .inr q
mutual
inductive Im (K : PySem.W.Frag) (H : Hp) : V → PyData → Prop
  | non : Im K H .non .none
  | bl (b : Bool) : Im K H (.bl b) (.bool b)
  | int (i : Int) : Im K H (.int i) (.int i)
  | str (x : Str) : Im K H (.str x) (.str x)
  | tup {a : Addr} {xs : List V} {ds : List PyData} : SqT K H a xs → ImAll K H xs ds → Im K H (.ref a) (.tuple ds)
inductive ImAll (K : PySem.W.Frag) (H : Hp) : List V → List PyData → Prop
  | nil : ImAll K H [] []
  | cons {v : V} {vs : List V} {d : PyData} {ds : List PyData} : Im K H v d → ImAll K H vs ds → ImAll K H (v :: vs) (d :: ds)
end
section
variable {K : PySem.W.Frag} {H H' : Hp}
mutual
theorem Im.mono (t : Tp K H H') : ∀ {v : V} {d : PyData}, Im K H v d → Im K H' v d
  | _, _, .non => .non
  | _, _, .bl b => .bl b
  | _, _, .int i => .int i
  | _, _, .str x => .str x
  | _, _, .tup h hs => .tup (t _ _ h) (ImAll.mono t hs)
theorem ImAll.mono (t : Tp K H H') : ∀ {vs : List V} {ds : List PyData}, ImAll K H vs ds → ImAll K H' vs ds
  | _, _, .nil => .nil
  | _, _, .cons h hs => .cons (Im.mono t h) (ImAll.mono t hs)
end
mutual
theorem Im.dp : ∀ {v : V} {d : PyData}, Im K H v d → Dp K H v d
  | _, _, .non => .non
  | _, _, .bl b => .bl b
  | _, _, .int i => .int i
  | _, _, .str x => .str x
  | _, _, .tup h hs => .tup h (ImAll.dp hs)
theorem ImAll.dp : ∀ {vs : List V} {ds : List PyData}, ImAll K H vs ds → DpAll K H vs ds
  | _, _, .nil => .nil
  | _, _, .cons h hs => .cons (Im.dp h) (ImAll.dp hs)
end
theorem ImAll.length : ∀ {vs : List V} {ds : List PyData}, ImAll K H vs ds → vs.length = ds.length
  | _, _, .nil => rfl
  | _, _, .cons _ hs => congrArg Nat.succ (ImAll.length hs)
theorem ImAll.app : ∀ {vs ws : List V} {ds es : List PyData}, ImAll K H vs ds → ImAll K H ws es → ImAll K H (vs ++ ws) (ds ++ es)
  | _, _, _, _, .nil, h => h
  | _, _, _, _, .cons a b, h => .cons a (ImAll.app b h)
theorem ImAll.snoc {vs : List V} {ds : List PyData} {v : V} {d : PyData} (h : ImAll K H vs ds) (a : Im K H v d) : ImAll K H (vs ++ [v]) (ds ++ [d]) := h.app (.cons a .nil)
theorem ImAll.get : ∀ {vs : List V} {ds : List PyData} {i : Nat} {v : V}, ImAll K H vs ds → vs[i]? = some v → ∃ d, ds[i]? = some d ∧ Im K H v d
  | _, _, i, _, .nil, e => by simp at e
  | _, _, 0, _, .cons a _, e => by
    simp at e
    subst e
    exact ⟨_, rfl, a⟩
  | _, _, i + 1, v, .cons _ b, e => by
    obtain ⟨d, h1, h2⟩ := ImAll.get (i := i) (v := v) b (by simpa using e)
    exact ⟨d, by simpa using h1, h2⟩
theorem ImAll.getD : ∀ {vs : List V} {ds : List PyData} {i : Nat} {d : PyData}, ImAll K H vs ds → ds[i]? = some d → ∃ v, vs[i]? = some v ∧ Im K H v d
  | _, _, i, _, .nil, e => by simp at e
  | _, _, 0, _, .cons a _, e => by
    simp at e
    subst e
    exact ⟨_, rfl, a⟩
  | _, _, i + 1, d, .cons _ b, e => by
    obtain ⟨v, h1, h2⟩ := ImAll.getD (i := i) (d := d) b (by simpa using e)
    exact ⟨v, by simpa using h1, h2⟩
theorem ImAll.take : ∀ {vs : List V} {ds : List PyData} (n : Nat), ImAll K H vs ds → ImAll K H (vs.take n) (ds.take n)
  | _, _, 0, _ => by simp only [List.take_zero]; exact .nil
  | _, _, n + 1, .nil => by simp only [List.take_nil]; exact .nil
  | _, _, n + 1, .cons a b => .cons a (ImAll.take n b)
theorem ImAll.drop : ∀ {vs : List V} {ds : List PyData} (n : Nat), ImAll K H vs ds → ImAll K H (vs.drop n) (ds.drop n)
  | _, _, 0, h => h
  | _, _, n + 1, .nil => by simp only [List.drop_nil]; exact .nil
  | _, _, n + 1, .cons a b => ImAll.drop n b
theorem im_int {v : V} {i : Int} (h : Im K H v (.int i)) : v = .int i := by cases h; rfl
theorem im_str {v : V} {x : Str} (h : Im K H v (.str x)) : v = .str x := by cases h; rfl
theorem im_bl {v : V} {b : Bool} (h : Im K H v (.bool b)) : v = .bl b := by cases h; rfl
theorem im_non {v : V} (h : Im K H v .none) : v = .non := by cases h; rfl
theorem im_tup {v : V} {ds : List PyData} (h : Im K H v (.tuple ds)) : ∃ a xs, v = .ref a ∧ SqT K H a xs ∧ ImAll K H xs ds := by
  cases h with
  | tup h hs => exact ⟨_, _, rfl, h, hs⟩
theorem ImAll.strs : ∀ (ns : List Str), ImAll K H (ns.map V.str) (ns.map PyData.str)
  | [] => .nil
  | n :: r => .cons (.str n) (ImAll.strs r)
end
theorem sqt_of {K : PySem.W.Frag} {H : Hp} {p : Addr} {xs : List V} (h : H p = some (.tup xs)) : SqT K H p xs := .inl (.inl h)
theorem sql_of {K : PySem.W.Frag} {H : Hp} {p : Addr} {xs : List V} (h : H p = some (.lst xs)) : SqL K H p xs := .inl (.inl h)
end Ls
namespace Ls
open PySem PySem.Spec PyProof.Rows L2
section
variable {K : PySem.W.Frag} {σ : L2.St} {H : Hp} {Q : VK} {D : Ends} {ta tb tc te td ty tv : TE} {tt tu : TT} {t u : TS} {tl : TA} {x y z v : V} {i j : Int} {b c : Bool} {a p l : Addr} {xs ys : List V}
theorem k_seq (h : t { D with nx := u D } σ H) : tSeq t u D σ H := h
theorem k_next (h : D.nx σ H) : tNext D σ H := h
theorem k_brk (h : D.bk σ H) : tBreak D σ H := h
theorem k_cont (h : D.ct σ H) : tCont D σ H := h
theorem k_drop (h : te σ H fun _ H1 => D.nx σ H1) : tDrop te D σ H := h
theorem k_ret (h : te σ H D.rt) : tRet te D σ H := h
theorem k_retN (h : D.rt .non H) : tRetN D σ H := h
theorem k_if (h : tt σ H fun b H1 => if b = true then t D σ H1 else u D σ H1) : tIfS tt t u D σ H := h
theorem k_asg {g : TG} (h : te σ H fun x H1 => g x σ H1 D.nx) : tAsg te g D σ H := h
theorem k_par {i j : Nat} (h : tl σ H fun vs H1 => ∃ v w, vs = [v, w] ∧ D.nx ((σ.set i (some v)).set j (some w)) H1) : tPar i j tl D σ H := h
theorem k_par2 {Q : V → V → Prop} (h : Q x y) : ∃ v w, [x, y] = [v, w] ∧ Q v w := ⟨x, y, rfl, h⟩
theorem k_gtup {n : Nat} {tg : TGs} {R : L2.St → Hp → Prop} (h1 : SqT K H a xs) (h2 : xs.length = n) (h : tg xs σ H R) : gTup K n tg (.ref a) σ H R := ⟨a, xs, rfl, h1, h2, h⟩
theorem k_gcons {tg : TG} {ug : TGs} {R : L2.St → Hp → Prop} (h : tg x σ H fun σ' H' => ug xs σ' H' R) : gCons tg ug (x :: xs) σ H R := ⟨x, xs, rfl, h⟩
theorem k_gnil {R : L2.St → Hp → Prop} (h : R σ H) : gNil [] σ H R := ⟨rfl, h⟩
theorem k_c (q : Q v H) : tC v σ H Q := q
theorem k_op {r : R2} (h : ta σ H fun x H1 => tb σ H1 fun y H2 => r x y H2 Q) : tOp r ta tb σ H Q := h
theorem k_un {r : V → Hp → VK → Prop} (h : ta σ H fun x H1 => r x H1 Q) : tUn r ta σ H Q := h
theorem k_cb {r : List V → Hp → VK → Prop} (h : tl σ H fun vs H1 => r vs H1 Q) : tCB r tl σ H Q := h
theorem k_nil {R : List V → Hp → Prop} (h : R [] H) : tNil σ H R := h
theorem k_cons {R : List V → Hp → Prop} (h : ta σ H fun x H1 => tl σ H1 fun xs H2 => R (x :: xs) H2) : tCons ta tl σ H R := h
theorem k_call {sp : Sp} {dvs : List V} {E : XK} (h : tl σ H fun vs H1 => sp (vs ++ dvs) H1 Q E) : tCall sp dvs E tl σ H Q := h
theorem k_callN {n m : Nat} {sp : Sp} {gV : List V → List V → List V} {E : XK} {tk : TA} (h : tl σ H fun vs H1 => tk σ H1 fun zs H2 => vs.length = n ∧ zs.length = m ∧ sp (gV vs zs) H2 Q E) : tCallN n m sp gV E tl tk σ H Q := h
theorem k_tup (h : tl σ H fun xs H1 => xs.length ≤ sizeLine ∧ ∀ p, H1 p = none → Q (.ref p) (upd H1 p (.tup xs))) : tTup tl σ H Q := h
theorem k_lst (h : tl σ H fun xs H1 => xs.length ≤ sizeLine ∧ ∀ p, H1 p = none → Q (.ref p) (upd H1 p (.lst xs))) : tLst tl σ H Q := h
theorem k_new {P : Prop} (h1 : xs.length ≤ sizeLine) (h : P) : xs.length ≤ sizeLine ∧ P := ⟨h1, h⟩
theorem k_test {R : Bool → Hp → Prop} (h : te σ H fun x H' => ∃ k, x = .bl k ∧ R k H') : tTest te σ H R := h
theorem k_B {R : Bool → Hp → Prop} (h : te σ H fun x H' => ∃ k, x = .bl k ∧ R k H') : tB te σ H R := h
theorem k_bl {R : Bool → Prop} (h : R b) : ∃ k, V.bl b = .bl k ∧ R k := ⟨b, rfl, h⟩
theorem k_and {R : Bool → Hp → Prop} (h : tt σ H fun c H1 => if c = true then tu σ H1 R else R false H1) : tAnd tt tu σ H R := h
theorem k_or {R : Bool → Hp → Prop} (h : tt σ H fun c H1 => if c = true then R true H1 else tu σ H1 R) : tOr tt tu σ H R := h
theorem k_not {R : Bool → Hp → Prop} (h : tt σ H fun c H1 => R (!c) H1) : tNot tt σ H R := h
theorem k_andV (h : ta σ H fun x H1 => ∃ c, x = .bl c ∧ if c = true then tb σ H1 Q else Q (.bl false) H1) : tAndV ta tb σ H Q := h
theorem k_orV (h : ta σ H fun x H1 => ∃ c, x = .bl c ∧ if c = true then Q (.bl true) H1 else tb σ H1 Q) : tOrV ta tb σ H Q := h
theorem k_notV (h : ta σ H fun x H1 => ∃ c, x = .bl c ∧ Q (.bl (!c)) H1) : tNotV ta σ H Q := h
theorem k_ifE (h : tt σ H fun c H1 => if c = true then ta σ H1 Q else tb σ H1 Q) : tIf tt ta tb σ H Q := h
theorem k_yes {R : Bool → Hp → Prop} (h : R true H) : tYes σ H R := h
theorem k_chain {r r' : R2} (h : ta σ H fun x H1 => tb σ H1 fun y H2 => r x y H2 fun z H3 => ∃ k, z = .bl k ∧ (if k = true then tc σ H3 fun w' H4 => r' y w' H4 Q else Q (.bl false) H3)) : tChain r r' ta tb tc σ H Q := h
theorem k_dget (h : td σ H fun x H1 => ty σ H1 fun y H2 => ∃ a v, x = .ref a ∧ DGet H2 a y (some v) ∧ Q v H2) : tDGet td ty σ H Q := h
theorem k_dput (h : tv σ H fun v H1 => td σ H1 fun x H2 => ty σ H2 fun y H3 => ∃ a H4, x = .ref a ∧ DPut H3 a y v H4 ∧ D.nx σ H4) : sDPut td ty tv D σ H := h
theorem k_din (h : ty σ H fun y H1 => td σ H1 fun x H2 => ∃ a o, x = .ref a ∧ DGet H2 a y o ∧ Q (.bl o.isSome) H2) : tDIn ty td σ H Q := h
theorem k_dnotin (h : ty σ H fun y H1 => td σ H1 fun x H2 => ∃ a o, x = .ref a ∧ DGet H2 a y o ∧ Q (.bl (!o.isSome)) H2) : tDNotIn ty td σ H Q := h
theorem k_getS {kvs : List (Key × V)} {R : V → Prop} {k : Str} (h1 : H a = some (.dK kvs)) (h2 : valV kvs (.inr k) = some v) (h : R v) : ∃ b w, V.ref a = .ref b ∧ DGet H b (.str k) (some w) ∧ R w :=
  ⟨a, v, rfl, .inl ⟨kvs, .inr k, .inl h1, rfl, h2.symm⟩, h⟩
theorem k_putS {kvs : List (Key × V)} {R : Hp → Prop} {k : Str} (h1 : H a = some (.dK kvs)) (h2 : kvs.length < sizeLine) (h : R (upd H a (.dK (putK kvs (.inr k) v)))) : ∃ b H4, V.ref a = .ref b ∧ DPut H b (.str k) v H4 ∧ R H4 :=
  ⟨a, _, rfl, .inl ⟨kvs, .inr k, h1, rfl, h2, rfl⟩, h⟩
theorem k_addI (q : Q (.int (i + j)) H) : rAddU K (.int i) (.int j) H Q := .inl ⟨i, j, rfl, rfl, q⟩
theorem k_addS {x y : Str} (h : x.length + y.length ≤ sizeLine) (q : Q (.str (x ++ y)) H) : rAddU K (.str x) (.str y) H Q := .inr (.inl ⟨x, y, rfl, rfl, h, q⟩)
theorem k_addL (h1 : H a = some (.lst xs)) (h2 : H l = some (.lst ys)) (h3 : xs.length + ys.length ≤ sizeLine) (q : ∀ p, H p = none → Q (.ref p) (upd H p (.lst (xs ++ ys)))) : rAddU K (.ref a) (.ref l) H Q := .inr (.inr (.inl ⟨a, l, xs, ys, rfl, rfl, h1, h2, h3, q⟩))
theorem k_sub (q : Q (.int (i - j)) H) : rI0 (fun i j => .int (i - j)) (.int i) (.int j) H Q := ⟨i, j, rfl, rfl, q⟩
theorem k_mulR (h : -(2 ^ 64) < j ∧ j < 2 ^ 64) (q : Q (.int (i * j)) H) : rI CMul (fun i j => .int (i * j)) (.int i) (.int j) H Q := ⟨i, j, rfl, rfl, .inr h, q⟩
theorem k_mulL (h : -(2 ^ 64) < i ∧ i < 2 ^ 64) (q : Q (.int (i * j)) H) : rI CMul (fun i j => .int (i * j)) (.int i) (.int j) H Q := ⟨i, j, rfl, rfl, .inl h, q⟩
theorem k_mod (h : 0 < j) (q : Q (.int (i % j)) H) : rI (fun _ j => 0 < j) (fun i j => .int (i % j)) (.int i) (.int j) H Q := ⟨i, j, rfl, rfl, h, q⟩
theorem k_fdiv (h : 0 < j) (h2 : j < 2 ^ 200) (q : Q (.int (i / j)) H) : rI CDivW (fun i j => .int (i / j)) (.int i) (.int j) H Q := ⟨i, j, rfl, rfl, wide_div h (b := 200) (by omega) (by decide) (by decide), q⟩
theorem k_neg (q : Q (.int (-i)) H) : rU (fun i => .int (-i)) (.int i) H Q := ⟨i, rfl, q⟩
theorem k_lt (q : Q (.bl (decide (i < j))) H) : rI0 (fun i j => .bl (decide (i < j))) (.int i) (.int j) H Q := ⟨i, j, rfl, rfl, q⟩
theorem k_le (q : Q (.bl (decide (i ≤ j))) H) : rI0 (fun i j => .bl (decide (i ≤ j))) (.int i) (.int j) H Q := ⟨i, j, rfl, rfl, q⟩
theorem k_gt (q : Q (.bl (decide (j < i))) H) : rI0 (fun i j => .bl (decide (j < i))) (.int i) (.int j) H Q := ⟨i, j, rfl, rfl, q⟩
theorem k_ge (q : Q (.bl (decide (j ≤ i))) H) : rI0 (fun i j => .bl (decide (j ≤ i))) (.int i) (.int j) H Q := ⟨i, j, rfl, rfl, q⟩
theorem dec_eqI : decide (V.int i = V.int j) = decide (i = j) := by
  by_cases h : i = j
  · subst h; simp
  · rw [decide_eq_false h]; exact decide_eq_false fun e => h (V.int.inj e)
theorem dec_eqS {x y : Str} : decide (V.str x = V.str y) = decide (x = y) := by
  by_cases h : x = y
  · subst h; simp
  · rw [decide_eq_false h]; exact decide_eq_false fun e => h (V.str.inj e)
theorem k_eqI (q : Q (.bl (decide (i = j))) H) : rEqU K (.int i) (.int j) H Q := .inl ⟨rfl, by rw [dec_eqI]; exact q⟩
theorem k_neI (q : Q (.bl (!decide (i = j))) H) : rNeU K (.int i) (.int j) H Q := .inl ⟨rfl, by rw [dec_eqI]; exact q⟩
theorem k_eqS {x y : Str} (q : Q (.bl (decide (x = y))) H) : rEqU K (.str x) (.str y) H Q := .inl ⟨rfl, by rw [dec_eqS]; exact q⟩
theorem k_neS {x y : Str} (q : Q (.bl (!decide (x = y))) H) : rNeU K (.str x) (.str y) H Q := .inl ⟨rfl, by rw [dec_eqS]; exact q⟩
theorem k_eqB (q : Q (.bl (decide (b = c))) H) : rEqU K (.bl b) (.bl c) H Q := .inl ⟨rfl, by
  have e : decide (V.bl b = V.bl c) = decide (b = c) := by cases b <;> cases c <;> decide
  rw [e]; exact q⟩
theorem k_neB (q : Q (.bl (!decide (b = c))) H) : rNeU K (.bl b) (.bl c) H Q := .inl ⟨rfl, by
  have e : decide (V.bl b = V.bl c) = decide (b = c) := by cases b <;> cases c <;> decide
  rw [e]; exact q⟩
theorem k_isN (q : Q (.bl (decide (x = .non))) H) : rIsU x .non H Q := .inl ⟨rfl, q⟩
theorem k_isnotN (q : Q (.bl (!decide (x = .non))) H) : rIsNotU x .non H Q := .inl ⟨rfl, q⟩
theorem k_lenL (h : SqL K H a xs) (q : Q (.int xs.length) H) : rLenU K [.ref a] H Q := .inl ⟨a, xs, rfl, .inl h, q⟩
theorem k_lenT (h : SqT K H a xs) (q : Q (.int xs.length) H) : rLenU K [.ref a] H Q := .inl ⟨a, xs, rfl, .inr h, q⟩
theorem k_lenS {w : Str} (h : w.length ≤ sizeLine) (q : Q (.int w.length) H) : rLenU K [.str w] H Q := .inr (.inl ⟨w, rfl, h, q⟩)
theorem k_ixL (h : SqL K H a xs) (h2 : atI xs i = some v) (q : Q v H) : rIx K (.ref a) (.int i) H Q := .inl ⟨a, xs, i, v, rfl, rfl, h, h2, q⟩
theorem k_ixT (h : SqT K H a xs) (h2 : atI xs i = some v) (q : Q v H) : rIx K (.ref a) (.int i) H Q := .inr (.inl ⟨a, xs, i, v, rfl, rfl, h, h2, q⟩)
theorem k_ixS {w : Str} {c : Nat} (h : w.length ≤ sizeLine) (h2 : atI w.cps.toList i = some c) (q : Q (.str ⟨#[c]⟩) H) : rIx K (.str w) (.int i) H Q := .inr (.inr ⟨w, i, c, rfl, rfl, h, h2, q⟩)
theorem k_bm {T : String} {r : V → List V → Hp → VK → Prop} (h : ta σ H fun x H1 => tyV K T x H1 ∧ tl σ H1 fun xs H2 => r x xs H2 Q) : tBM K T r ta tl σ H Q := h
theorem k_bm0 {T : String} {r : V → List V → Hp → VK → Prop} (h : ta σ H fun x H1 => tyV K T x H1 ∧ r x [] H1 Q) : tBM0 K T r ta σ H Q := h
theorem k_tyL {P : Prop} (h : SqL K H a xs) (q : P) : tyV K "list" (.ref a) H ∧ P := ⟨.inl ⟨rfl, _, h⟩, q⟩
theorem k_app (h : H a = some (.lst xs)) (hl : xs.length < sizeLine) (q : Q .non (upd H a (.lst (xs ++ [x])))) : rAppend (.ref a) [x] H Q := ⟨a, xs, x, rfl, rfl, h, hl, q⟩
theorem k_sl {r : V → Option Int → Option Int → Hp → VK → Prop} {tlo thi : TO} (h : te σ H fun x H1 => tlo σ H1 fun l H2 => thi σ H2 fun u H3 => r x l u H3 Q) : tSl r te tlo thi σ H Q := h
theorem k_nop {R : Option Int → Hp → Prop} (h : R none H) : tNoPart σ H R := h
theorem k_part {R : Option Int → Hp → Prop} (h : te σ H fun x H1 => ∃ i, x = .int i ∧ R (some i) H1) : tPart te σ H R := h
theorem k_partI {R : Int → Prop} (h : R i) : ∃ k, V.int i = .int k ∧ R k := ⟨i, rfl, h⟩
theorem k_slL {lo hi : Option Int} (h : SqL K H a xs) (q : ∀ p, H p = none → Q (.ref p) (upd H p (.lst (cutV xs lo hi)))) : rSlU K (.ref a) lo hi H Q := .inl ⟨a, xs, rfl, h, q⟩
theorem k_list (h : SqL K H a xs) (q : ∀ p, H p = none → Q (.ref p) (upd H p (.lst xs))) : rListU K [V.ref a] H Q := ⟨a, xs, rfl, .inl h, q⟩
theorem k_for {wi : TI} {g : TG} {tb : TS} (h : wi σ H fun J H1 => ∃ W : Nat → Nat → L2.St → Hp → Prop, (∃ m, W 0 m σ H1) ∧ ∀ i m σ H, W i m σ H → (J.stop i H ∧ D.nx σ H) ∨ (J.go i H ∧ ∃ N : L2.St → Hp → Prop, (∀ σ' H', N σ' H' → ∃ m', m' < m ∧ W (i + 1) m' σ' H') ∧ ∀ x H', J.yld i H x H' → g x σ H' fun σ2 H2 => tb { D with nx := N, ct := N, bk := D.nx } σ2 H2)) : tFor wi g tb D σ H := h
theorem k_itL {R : It → Hp → Prop} (h : te σ H fun x H1 => ∃ a, x = .ref a ∧ (∃ xs, SqL K H1 a xs) ∧ R (Itl K a) H1) : iList K te σ H R := h
theorem k_itl {R : Addr → Prop} (h1 : SqL K H a xs) (h : R a) : ∃ b, V.ref a = .ref b ∧ (∃ xs, SqL K H b xs) ∧ R b := ⟨a, rfl, ⟨xs, h1⟩, h⟩
theorem k_itT {R : It → Hp → Prop} (h : te σ H fun x H1 => ∃ a, x = .ref a ∧ (∃ xs, SqT K H1 a xs) ∧ R (Itt K a) H1) : iTup K te σ H R := h
theorem k_itR1 {R : It → Hp → Prop} (h : tl σ H fun vs H1 => ∃ j : Int, vs = [.int j] ∧ -(2 ^ 62) ≤ j ∧ j < 2 ^ 62 ∧ R (Itr 0 j.toNat) H1) : iRng1 tl σ H R := h
theorem k_itr1 {R : Int → Prop} (h1 : -(2 ^ 62) ≤ j ∧ j < 2 ^ 62) (h : R j) : ∃ k : Int, [V.int j] = [.int k] ∧ -(2 ^ 62) ≤ k ∧ k < 2 ^ 62 ∧ R k := ⟨j, rfl, h1.1, h1.2, h⟩
theorem k_itR2 {R : It → Hp → Prop} (h : tl σ H fun vs H1 => ∃ i j : Int, vs = [.int i, .int j] ∧ (-(2 ^ 62) ≤ i ∧ i < 2 ^ 62 ∧ -(2 ^ 62) ≤ j ∧ j < 2 ^ 62) ∧ R (Itr i (j - i).toNat) H1) : iRng2 tl σ H R := h
end
theorem k_ite {b : Bool} {A B : Prop} (h1 : b = true → A) (h2 : b = false → B) : if b = true then A else B := by
  cases b with
  | true => rw [if_pos rfl]; exact h1 rfl
  | false => rw [if_neg Bool.false_ne_true]; exact h2 rfl
theorem k_itd {p A B : Prop} [Decidable p] (h1 : p → A) (h2 : ¬ p → B) : if decide p = true then A else B := k_ite (fun h => h1 (of_decide_eq_true h)) fun h => h2 (of_decide_eq_false h)
theorem k_itn {p A B : Prop} [Decidable p] (h1 : ¬ p → A) (h2 : p → B) : if (!decide p) = true then A else B := k_ite (fun h => h1 (of_decide_eq_false (by simpa using h))) fun h => h2 (of_decide_eq_true (by simpa using h))
theorem k_pos {p A B : Prop} [Decidable p] (hp : p) (h1 : A) : if decide p = true then A else B := k_itd (fun _ => h1) fun h => absurd hp h
theorem k_neg' {p A B : Prop} [Decidable p] (hp : ¬ p) (h1 : B) : if decide p = true then A else B := k_itd (fun h => absurd h hp) fun _ => h1
theorem k_npos {p A B : Prop} [Decidable p] (hp : ¬ p) (h1 : A) : if (!decide p) = true then A else B := k_itn (fun _ => h1) fun h => absurd h hp
theorem k_nneg {p A B : Prop} [Decidable p] (hp : p) (h1 : B) : if (!decide p) = true then A else B := k_itn (fun h => absurd hp h) fun _ => h1
theorem k_tt {A B : Prop} (h : A) : if true = true then A else B := by rw [if_pos rfl]; exact h
theorem k_ff {A B : Prop} (h : B) : if false = true then A else B := by rw [if_neg Bool.false_ne_true]; exact h
theorem up_new {H : Hp} {a p : Addr} {o u : HO} (hp : H p = none) (h : H a = some o) : upd H p u a = some o := same_new hp _ _ h
theorem up_ne {H : Hp} {a p : Addr} {o u : HO} (n : a ≠ p) (h : H a = some o) : upd H p u a = some o := by rw [upd_ne n]; exact h
theorem Keep.at {d a : Addr} {H H' : Hp} {o : HO} (k : Keep d H H') (n : a ≠ d) (h : H a = some o) : H' a = some o := k a o n h
end Ls
namespace Ls
theorem hu1 {n : Nat} (h : n + 66 < PySem.cLine) : n + 1 < PySem.cLine := by omega
end Ls
namespace Ls
open PySem PySem.Spec PyProof.Rows L2
theorem k_body {t : TS} {D : Ends} {s0 s1 : L2.St} {H : Hp} (e : s0 = s1) (h : t D s1 H) : t D s0 H := e ▸ h
end Ls
namespace Ls
open PySem PySem.Spec PyProof.Rows L2
/-- a statement, then the rest, the ways joined between: M what holds there -/
def tCut (t u : TS) : TS := fun D σ H => ∃ M : L2.St → Hp → Prop, t { D with nx := M } σ H ∧ ∀ σ' H', M σ' H' → u D σ' H'
theorem k_cut {t u : TS} {D : Ends} {σ : L2.St} {H : Hp} (M : L2.St → Hp → Prop) (h1 : t { D with nx := M } σ H) (h2 : ∀ σ' H', M σ' H' → u D σ' H') : tCut t u D σ H := ⟨M, h1, h2⟩
end Ls
namespace Ls
open PySem PySem.Spec PyProof.Rows L2
theorem pss_cut {X : Cx} {st : Stmt} {rest : List Stmt} {t u : TS} (h1 : PS X st t) (h2 : PSs X rest u) : PSs X (st :: rest) (tCut t u) := by
  refine ⟨fun pins s σ H D I h => ?_⟩
  obtain ⟨M, hm, hu⟩ := h
  refine wpAny_execs_cons (thn (h1.run pins s σ H { D with nx := M } I hm) fun f s1 q => ?_)
  cases f with
  | next =>
    obtain ⟨σ', H', I', q⟩ := q
    exact h2.run pins s1 σ' H' D I' (hu σ' H' q)
  | ret v => exact q
  | brk => exact q
  | cont => exact q
theorem k_powL {H : Hp} {Q : VK} {i j v : Int} (h1 : 0 ≤ j ∧ j ≤ 1000000) (h3 : i.natAbs < 2 ^ 64) (e : i ^ j.toNat = v) (q : Q (.int v) H) : rI CPow (fun i j => .int (i ^ j.toNat)) (.int i) (.int j) H Q := ⟨i, j, rfl, rfl, ⟨h1.1, h1.2, h3⟩, by
  show Q (.int (i ^ j.toNat)) H
  rw [e]
  exact q⟩
end Ls
namespace Ls
open PySem PySem.Spec PyProof.Rows L2
theorem pe_ty {X : Cx} {x : Str} {pos : Pos} (T : String) (hg : Gl X x) (hm : X.mg x = none) (hv : bootBuiltins x = some (.type T)) (hn : x ≠ "__name__" := by decide) (hd : (x == ("__debug__" : Str)) = false := by decide) : PE X (.Name x pos) (tC (.ty T)) := pe_bltn (v := .ty T) hg hm hv rfl hn hd
end Ls
namespace Ls
open PySem PySem.Spec PyProof.Rows L2
theorem pe_gc {X : Cx} {x : Str} {pos : Pos} {v : V} (hg : Gl X x) (h : ∃ u, X.mg x = some u ∧ RelV v u) (hd : (x == ("__debug__" : Str)) = false := by decide) : PE X (.Name x pos) (tC v) := by
  obtain ⟨u, h1, h2⟩ := h
  exact pe_glob hg h1 h2 hd
end Ls
namespace Ls
theorem k_nt {A B : Prop} (h : B) : if (!true) = true then A else B := by rw [if_neg (by decide)]; exact h
theorem k_nf {A B : Prop} (h : A) : if (!false) = true then A else B := by rw [if_pos (by decide)]; exact h
end Ls
namespace Ls
open PySem PySem.Spec PyProof.Rows L2
section
variable {H : Hp} {Q : VK} {D : Ends} {te : TE} {v x : V} {s : L2.St} {R : L2.St → Hp → Prop} {o0 o1 o2 o3 o4 o5 o6 o7 o8 o9 o10 o11 o12 o13 o14 o15 o16 o17 o18 o19 o20 o21 o22 o23 o24 o25 o26 o27 o28 o29 o30 o31 o32 o33 o34 o35 o36 o37 o38 o39 o40 o41 o42 o43 : Option V}
theorem k_v0 (q : Q v H) : tVar 0 (some v :: s) H Q := ⟨v, rfl, q⟩
theorem k_s0 (q : te (o0 :: s) H fun x H1 => D.nx (some x :: s) H1) : tAsg te (gName 0) D (o0 :: s) H := q
theorem k_g0 (q : R (some x :: s) H) : gName 0 x (o0 :: s) H R := q
theorem k_v1 (q : Q v H) : tVar 1 (o0 :: some v :: s) H Q := ⟨v, rfl, q⟩
theorem k_s1 (q : te (o0 :: o1 :: s) H fun x H1 => D.nx (o0 :: some x :: s) H1) : tAsg te (gName 1) D (o0 :: o1 :: s) H := q
theorem k_g1 (q : R (o0 :: some x :: s) H) : gName 1 x (o0 :: o1 :: s) H R := q
theorem k_v2 (q : Q v H) : tVar 2 (o0 :: o1 :: some v :: s) H Q := ⟨v, rfl, q⟩
theorem k_s2 (q : te (o0 :: o1 :: o2 :: s) H fun x H1 => D.nx (o0 :: o1 :: some x :: s) H1) : tAsg te (gName 2) D (o0 :: o1 :: o2 :: s) H := q
theorem k_g2 (q : R (o0 :: o1 :: some x :: s) H) : gName 2 x (o0 :: o1 :: o2 :: s) H R := q
theorem k_v3 (q : Q v H) : tVar 3 (o0 :: o1 :: o2 :: some v :: s) H Q := ⟨v, rfl, q⟩
theorem k_s3 (q : te (o0 :: o1 :: o2 :: o3 :: s) H fun x H1 => D.nx (o0 :: o1 :: o2 :: some x :: s) H1) : tAsg te (gName 3) D (o0 :: o1 :: o2 :: o3 :: s) H := q
theorem k_g3 (q : R (o0 :: o1 :: o2 :: some x :: s) H) : gName 3 x (o0 :: o1 :: o2 :: o3 :: s) H R := q
theorem k_v4 (q : Q v H) : tVar 4 (o0 :: o1 :: o2 :: o3 :: some v :: s) H Q := ⟨v, rfl, q⟩
theorem k_s4 (q : te (o0 :: o1 :: o2 :: o3 :: o4 :: s) H fun x H1 => D.nx (o0 :: o1 :: o2 :: o3 :: some x :: s) H1) : tAsg te (gName 4) D (o0 :: o1 :: o2 :: o3 :: o4 :: s) H := q
theorem k_g4 (q : R (o0 :: o1 :: o2 :: o3 :: some x :: s) H) : gName 4 x (o0 :: o1 :: o2 :: o3 :: o4 :: s) H R := q
theorem k_v5 (q : Q v H) : tVar 5 (o0 :: o1 :: o2 :: o3 :: o4 :: some v :: s) H Q := ⟨v, rfl, q⟩
theorem k_s5 (q : te (o0 :: o1 :: o2 :: o3 :: o4 :: o5 :: s) H fun x H1 => D.nx (o0 :: o1 :: o2 :: o3 :: o4 :: some x :: s) H1) : tAsg te (gName 5) D (o0 :: o1 :: o2 :: o3 :: o4 :: o5 :: s) H := q
theorem k_g5 (q : R (o0 :: o1 :: o2 :: o3 :: o4 :: some x :: s) H) : gName 5 x (o0 :: o1 :: o2 :: o3 :: o4 :: o5 :: s) H R := q
theorem k_v6 (q : Q v H) : tVar 6 (o0 :: o1 :: o2 :: o3 :: o4 :: o5 :: some v :: s) H Q := ⟨v, rfl, q⟩
theorem k_s6 (q : te (o0 :: o1 :: o2 :: o3 :: o4 :: o5 :: o6 :: s) H fun x H1 => D.nx (o0 :: o1 :: o2 :: o3 :: o4 :: o5 :: some x :: s) H1) : tAsg te (gName 6) D (o0 :: o1 :: o2 :: o3 :: o4 :: o5 :: o6 :: s) H := q
theorem k_g6 (q : R (o0 :: o1 :: o2 :: o3 :: o4 :: o5 :: some x :: s) H) : gName 6 x (o0 :: o1 :: o2 :: o3 :: o4 :: o5 :: o6 :: s) H R := q
theorem k_v7 (q : Q v H) : tVar 7 (o0 :: o1 :: o2 :: o3 :: o4 :: o5 :: o6 :: some v :: s) H Q := ⟨v, rfl, q⟩
theorem k_s7 (q : te (o0 :: o1 :: o2 :: o3 :: o4 :: o5 :: o6 :: o7 :: s) H fun x H1 => D.nx (o0 :: o1 :: o2 :: o3 :: o4 :: o5 :: o6 :: some x :: s) H1) : tAsg te (gName 7) D (o0 :: o1 :: o2 :: o3 :: o4 :: o5 :: o6 :: o7 :: s) H := q
theorem k_g7 (q : R (o0 :: o1 :: o2 :: o3 :: o4 :: o5 :: o6 :: some x :: s) H) : gName 7 x (o0 :: o1 :: o2 :: o3 :: o4 :: o5 :: o6 :: o7 :: s) H R := q
theorem k_v8 (q : Q v H) : tVar 8 (o0 :: o1 :: o2 :: o3 :: o4 :: o5 :: o6 :: o7 :: some v :: s) H Q := ⟨v, rfl, q⟩
theorem k_s8 (q : te (o0 :: o1 :: o2 :: o3 :: o4 :: o5 :: o6 :: o7 :: o8 :: s) H fun x H1 => D.nx (o0 :: o1 :: o2 :: o3 :: o4 :: o5 :: o6 :: o7 :: some x :: s) H1) : tAsg te (gName 8) D (o0 :: o1 :: o2 :: o3 :: o4 :: o5 :: o6 :: o7 :: o8 :: s) H := q
theorem k_g8 (q : R (o0 :: o1 :: o2 :: o3 :: o4 :: o5 :: o6 :: o7 :: some x :: s) H) : gName 8 x (o0 :: o1 :: o2 :: o3 :: o4 :: o5 :: o6 :: o7 :: o8 :: s) H R := q
theorem k_v9 (q : Q v H) : tVar 9 (o0 :: o1 :: o2 :: o3 :: o4 :: o5 :: o6 :: o7 :: o8 :: some v :: s) H Q := ⟨v, rfl, q⟩
theorem k_s9 (q : te (o0 :: o1 :: o2 :: o3 :: o4 :: o5 :: o6 :: o7 :: o8 :: o9 :: s) H fun x H1 => D.nx (o0 :: o1 :: o2 :: o3 :: o4 :: o5 :: o6 :: o7 :: o8 :: some x :: s) H1) : tAsg te (gName 9) D (o0 :: o1 :: o2 :: o3 :: o4 :: o5 :: o6 :: o7 :: o8 :: o9 :: s) H := q
theorem k_g9 (q : R (o0 :: o1 :: o2 :: o3 :: o4 :: o5 :: o6 :: o7 :: o8 :: some x :: s) H) : gName 9 x (o0 :: o1 :: o2 :: o3 :: o4 :: o5 :: o6 :: o7 :: o8 :: o9 :: s) H R := q
theorem k_v10 (q : Q v H) : tVar 10 (o0 :: o1 :: o2 :: o3 :: o4 :: o5 :: o6 :: o7 :: o8 :: o9 :: some v :: s) H Q := ⟨v, rfl, q⟩
theorem k_s10 (q : te (o0 :: o1 :: o2 :: o3 :: o4 :: o5 :: o6 :: o7 :: o8 :: o9 :: o10 :: s) H fun x H1 => D.nx (o0 :: o1 :: o2 :: o3 :: o4 :: o5 :: o6 :: o7 :: o8 :: o9 :: some x :: s) H1) : tAsg te (gName 10) D (o0 :: o1 :: o2 :: o3 :: o4 :: o5 :: o6 :: o7 :: o8 :: o9 :: o10 :: s) H := q
theorem k_g10 (q : R (o0 :: o1 :: o2 :: o3 :: o4 :: o5 :: o6 :: o7 :: o8 :: o9 :: some x :: s) H) : gName 10 x (o0 :: o1 :: o2 :: o3 :: o4 :: o5 :: o6 :: o7 :: o8 :: o9 :: o10 :: s) H R := q
theorem k_v11 (q : Q v H) : tVar 11 (o0 :: o1 :: o2 :: o3 :: o4 :: o5 :: o6 :: o7 :: o8 :: o9 :: o10 :: some v :: s) H Q := ⟨v, rfl, q⟩
theorem k_s11 (q : te (o0 :: o1 :: o2 :: o3 :: o4 :: o5 :: o6 :: o7 :: o8 :: o9 :: o10 :: o11 :: s) H fun x H1 => D.nx (o0 :: o1 :: o2 :: o3 :: o4 :: o5 :: o6 :: o7 :: o8 :: o9 :: o10 :: some x :: s) H1) : tAsg te (gName 11) D (o0 :: o1 :: o2 :: o3 :: o4 :: o5 :: o6 :: o7 :: o8 :: o9 :: o10 :: o11 :: s) H := q
theorem k_g11 (q : R (o0 :: o1 :: o2 :: o3 :: o4 :: o5 :: o6 :: o7 :: o8 :: o9 :: o10 :: some x :: s) H) : gName 11 x (o0 :: o1 :: o2 :: o3 :: o4 :: o5 :: o6 :: o7 :: o8 :: o9 :: o10 :: o11 :: s) H R := q
theorem k_v12 (q : Q v H) : tVar 12 (o0 :: o1 :: o2 :: o3 :: o4 :: o5 :: o6 :: o7 :: o8 :: o9 :: o10 :: o11 :: some v :: s) H Q := ⟨v, rfl, q⟩
theorem k_s12 (q : te (o0 :: o1 :: o2 :: o3 :: o4 :: o5 :: o6 :: o7 :: o8 :: o9 :: o10 :: o11 :: o12 :: s) H fun x H1 => D.nx (o0 :: o1 :: o2 :: o3 :: o4 :: o5 :: o6 :: o7 :: o8 :: o9 :: o10 :: o11 :: some x :: s) H1) : tAsg te (gName 12) D (o0 :: o1 :: o2 :: o3 :: o4 :: o5 :: o6 :: o7 :: o8 :: o9 :: o10 :: o11 :: o12 :: s) H := q
theorem k_g12 (q : R (o0 :: o1 :: o2 :: o3 :: o4 :: o5 :: o6 :: o7 :: o8 :: o9 :: o10 :: o11 :: some x :: s) H) : gName 12 x (o0 :: o1 :: o2 :: o3 :: o4 :: o5 :: o6 :: o7 :: o8 :: o9 :: o10 :: o11 :: o12 :: s) H R := q
theorem k_v13 (q : Q v H) : tVar 13 (o0 :: o1 :: o2 :: o3 :: o4 :: o5 :: o6 :: o7 :: o8 :: o9 :: o10 :: o11 :: o12 :: some v :: s) H Q := ⟨v, rfl, q⟩
theorem k_s13 (q : te (o0 :: o1 :: o2 :: o3 :: o4 :: o5 :: o6 :: o7 :: o8 :: o9 :: o10 :: o11 :: o12 :: o13 :: s) H fun x H1 => D.nx (o0 :: o1 :: o2 :: o3 :: o4 :: o5 :: o6 :: o7 :: o8 :: o9 :: o10 :: o11 :: o12 :: some x :: s) H1) : tAsg te (gName 13) D (o0 :: o1 :: o2 :: o3 :: o4 :: o5 :: o6 :: o7 :: o8 :: o9 :: o10 :: o11 :: o12 :: o13 :: s) H := q
theorem k_g13 (q : R (o0 :: o1 :: o2 :: o3 :: o4 :: o5 :: o6 :: o7 :: o8 :: o9 :: o10 :: o11 :: o12 :: some x :: s) H) : gName 13 x (o0 :: o1 :: o2 :: o3 :: o4 :: o5 :: o6 :: o7 :: o8 :: o9 :: o10 :: o11 :: o12 :: o13 :: s) H R := q
theorem k_v14 (q : Q v H) : tVar 14 (o0 :: o1 :: o2 :: o3 :: o4 :: o5 :: o6 :: o7 :: o8 :: o9 :: o10 :: o11 :: o12 :: o13 :: some v :: s) H Q := ⟨v, rfl, q⟩
theorem k_s14 (q : te (o0 :: o1 :: o2 :: o3 :: o4 :: o5 :: o6 :: o7 :: o8 :: o9 :: o10 :: o11 :: o12 :: o13 :: o14 :: s) H fun x H1 => D.nx (o0 :: o1 :: o2 :: o3 :: o4 :: o5 :: o6 :: o7 :: o8 :: o9 :: o10 :: o11 :: o12 :: o13 :: some x :: s) H1) : tAsg te (gName 14) D (o0 :: o1 :: o2 :: o3 :: o4 :: o5 :: o6 :: o7 :: o8 :: o9 :: o10 :: o11 :: o12 :: o13 :: o14 :: s) H := q
theorem k_g14 (q : R (o0 :: o1 :: o2 :: o3 :: o4 :: o5 :: o6 :: o7 :: o8 :: o9 :: o10 :: o11 :: o12 :: o13 :: some x :: s) H) : gName 14 x (o0 :: o1 :: o2 :: o3 :: o4 :: o5 :: o6 :: o7 :: o8 :: o9 :: o10 :: o11 :: o12 :: o13 :: o14 :: s) H R := q
theorem k_v15 (q : Q v H) : tVar 15 (o0 :: o1 :: o2 :: o3 :: o4 :: o5 :: o6 :: o7 :: o8 :: o9 :: o10 :: o11 :: o12 :: o13 :: o14 :: some v :: s) H Q := ⟨v, rfl, q⟩
theorem k_s15 (q : te (o0 :: o1 :: o2 :: o3 :: o4 :: o5 :: o6 :: o7 :: o8 :: o9 :: o10 :: o11 :: o12 :: o13 :: o14 :: o15 :: s) H fun x H1 => D.nx (o0 :: o1 :: o2 :: o3 :: o4 :: o5 :: o6 :: o7 :: o8 :: o9 :: o10 :: o11 :: o12 :: o13 :: o14 :: some x :: s) H1) : tAsg te (gName 15) D (o0 :: o1 :: o2 :: o3 :: o4 :: o5 :: o6 :: o7 :: o8 :: o9 :: o10 :: o11 :: o12 :: o13 :: o14 :: o15 :: s) H := q
theorem k_g15 (q : R (o0 :: o1 :: o2 :: o3 :: o4 :: o5 :: o6 :: o7 :: o8 :: o9 :: o10 :: o11 :: o12 :: o13 :: o14 :: some x :: s) H) : gName 15 x (o0 :: o1 :: o2 :: o3 :: o4 :: o5 :: o6 :: o7 :: o8 :: o9 :: o10 :: o11 :: o12 :: o13 :: o14 :: o15 :: s) H R := q
theorem k_v16 (q : Q v H) : tVar 16 (o0 :: o1 :: o2 :: o3 :: o4 :: o5 :: o6 :: o7 :: o8 :: o9 :: o10 :: o11 :: o12 :: o13 :: o14 :: o15 :: some v :: s) H Q := ⟨v, rfl, q⟩
theorem k_s16 (q : te (o0 :: o1 :: o2 :: o3 :: o4 :: o5 :: o6 :: o7 :: o8 :: o9 :: o10 :: o11 :: o12 :: o13 :: o14 :: o15 :: o16 :: s) H fun x H1 => D.nx (o0 :: o1 :: o2 :: o3 :: o4 :: o5 :: o6 :: o7 :: o8 :: o9 :: o10 :: o11 :: o12 :: o13 :: o14 :: o15 :: some x :: s) H1) : tAsg te (gName 16) D (o0 :: o1 :: o2 :: o3 :: o4 :: o5 :: o6 :: o7 :: o8 :: o9 :: o10 :: o11 :: o12 :: o13 :: o14 :: o15 :: o16 :: s) H := q
theorem k_g16 (q : R (o0 :: o1 :: o2 :: o3 :: o4 :: o5 :: o6 :: o7 :: o8 :: o9 :: o10 :: o11 :: o12 :: o13 :: o14 :: o15 :: some x :: s) H) : gName 16 x (o0 :: o1 :: o2 :: o3 :: o4 :: o5 :: o6 :: o7 :: o8 :: o9 :: o10 :: o11 :: o12 :: o13 :: o14 :: o15 :: o16 :: s) H R := q
theorem k_v17 (q : Q v H) : tVar 17 (o0 :: o1 :: o2 :: o3 :: o4 :: o5 :: o6 :: o7 :: o8 :: o9 :: o10 :: o11 :: o12 :: o13 :: o14 :: o15 :: o16 :: some v :: s) H Q := ⟨v, rfl, q⟩
theorem k_s17 (q : te (o0 :: o1 :: o2 :: o3 :: o4 :: o5 :: o6 :: o7 :: o8 :: o9 :: o10 :: o11 :: o12 :: o13 :: o14 :: o15 :: o16 :: o17 :: s) H fun x H1 => D.nx (o0 :: o1 :: o2 :: o3 :: o4 :: o5 :: o6 :: o7 :: o8 :: o9 :: o10 :: o11 :: o12 :: o13 :: o14 :: o15 :: o16 :: some x :: s) H1) : tAsg te (gName 17) D (o0 :: o1 :: o2 :: o3 :: o4 :: o5 :: o6 :: o7 :: o8 :: o9 :: o10 :: o11 :: o12 :: o13 :: o14 :: o15 :: o16 :: o17 :: s) H := q
theorem k_g17 (q : R (o0 :: o1 :: o2 :: o3 :: o4 :: o5 :: o6 :: o7 :: o8 :: o9 :: o10 :: o11 :: o12 :: o13 :: o14 :: o15 :: o16 :: some x :: s) H) : gName 17 x (o0 :: o1 :: o2 :: o3 :: o4 :: o5 :: o6 :: o7 :: o8 :: o9 :: o10 :: o11 :: o12 :: o13 :: o14 :: o15 :: o16 :: o17 :: s) H R := q
theorem k_v18 (q : Q v H) : tVar 18 (o0 :: o1 :: o2 :: o3 :: o4 :: o5 :: o6 :: o7 :: o8 :: o9 :: o10 :: o11 :: o12 :: o13 :: o14 :: o15 :: o16 :: o17 :: some v :: s) H Q := ⟨v, rfl, q⟩
theorem k_s18 (q : te (o0 :: o1 :: o2 :: o3 :: o4 :: o5 :: o6 :: o7 :: o8 :: o9 :: o10 :: o11 :: o12 :: o13 :: o14 :: o15 :: o16 :: o17 :: o18 :: s) H fun x H1 => D.nx (o0 :: o1 :: o2 :: o3 :: o4 :: o5 :: o6 :: o7 :: o8 :: o9 :: o10 :: o11 :: o12 :: o13 :: o14 :: o15 :: o16 :: o17 :: some x :: s) H1) : tAsg te (gName 18) D (o0 :: o1 :: o2 :: o3 :: o4 :: o5 :: o6 :: o7 :: o8 :: o9 :: o10 :: o11 :: o12 :: o13 :: o14 :: o15 :: o16 :: o17 :: o18 :: s) H := q
theorem k_g18 (q : R (o0 :: o1 :: o2 :: o3 :: o4 :: o5 :: o6 :: o7 :: o8 :: o9 :: o10 :: o11 :: o12 :: o13 :: o14 :: o15 :: o16 :: o17 :: some x :: s) H) : gName 18 x (o0 :: o1 :: o2 :: o3 :: o4 :: o5 :: o6 :: o7 :: o8 :: o9 :: o10 :: o11 :: o12 :: o13 :: o14 :: o15 :: o16 :: o17 :: o18 :: s) H R := q
theorem k_v19 (q : Q v H) : tVar 19 (o0 :: o1 :: o2 :: o3 :: o4 :: o5 :: o6 :: o7 :: o8 :: o9 :: o10 :: o11 :: o12 :: o13 :: o14 :: o15 :: o16 :: o17 :: o18 :: some v :: s) H Q := ⟨v, rfl, q⟩
theorem k_s19 (q : te (o0 :: o1 :: o2 :: o3 :: o4 :: o5 :: o6 :: o7 :: o8 :: o9 :: o10 :: o11 :: o12 :: o13 :: o14 :: o15 :: o16 :: o17 :: o18 :: o19 :: s) H fun x H1 => D.nx (o0 :: o1 :: o2 :: o3 :: o4 :: o5 :: o6 :: o7 :: o8 :: o9 :: o10 :: o11 :: o12 :: o13 :: o14 :: o15 :: o16 :: o17 :: o18 :: some x :: s) H1) : tAsg te (gName 19) D (o0 :: o1 :: o2 :: o3 :: o4 :: o5 :: o6 :: o7 :: o8 :: o9 :: o10 :: o11 :: o12 :: o13 :: o14 :: o15 :: o16 :: o17 :: o18 :: o19 :: s) H := q
theorem k_g19 (q : R (o0 :: o1 :: o2 :: o3 :: o4 :: o5 :: o6 :: o7 :: o8 :: o9 :: o10 :: o11 :: o12 :: o13 :: o14 :: o15 :: o16 :: o17 :: o18 :: some x :: s) H) : gName 19 x (o0 :: o1 :: o2 :: o3 :: o4 :: o5 :: o6 :: o7 :: o8 :: o9 :: o10 :: o11 :: o12 :: o13 :: o14 :: o15 :: o16 :: o17 :: o18 :: o19 :: s) H R := q
theorem k_v20 (q : Q v H) : tVar 20 (o0 :: o1 :: o2 :: o3 :: o4 :: o5 :: o6 :: o7 :: o8 :: o9 :: o10 :: o11 :: o12 :: o13 :: o14 :: o15 :: o16 :: o17 :: o18 :: o19 :: some v :: s) H Q := ⟨v, rfl, q⟩
theorem k_s20 (q : te (o0 :: o1 :: o2 :: o3 :: o4 :: o5 :: o6 :: o7 :: o8 :: o9 :: o10 :: o11 :: o12 :: o13 :: o14 :: o15 :: o16 :: o17 :: o18 :: o19 :: o20 :: s) H fun x H1 => D.nx (o0 :: o1 :: o2 :: o3 :: o4 :: o5 :: o6 :: o7 :: o8 :: o9 :: o10 :: o11 :: o12 :: o13 :: o14 :: o15 :: o16 :: o17 :: o18 :: o19 :: some x :: s) H1) : tAsg te (gName 20) D (o0 :: o1 :: o2 :: o3 :: o4 :: o5 :: o6 :: o7 :: o8 :: o9 :: o10 :: o11 :: o12 :: o13 :: o14 :: o15 :: o16 :: o17 :: o18 :: o19 :: o20 :: s) H := q
theorem k_g20 (q : R (o0 :: o1 :: o2 :: o3 :: o4 :: o5 :: o6 :: o7 :: o8 :: o9 :: o10 :: o11 :: o12 :: o13 :: o14 :: o15 :: o16 :: o17 :: o18 :: o19 :: some x :: s) H) : gName 20 x (o0 :: o1 :: o2 :: o3 :: o4 :: o5 :: o6 :: o7 :: o8 :: o9 :: o10 :: o11 :: o12 :: o13 :: o14 :: o15 :: o16 :: o17 :: o18 :: o19 :: o20 :: s) H R := q
theorem k_v21 (q : Q v H) : tVar 21 (o0 :: o1 :: o2 :: o3 :: o4 :: o5 :: o6 :: o7 :: o8 :: o9 :: o10 :: o11 :: o12 :: o13 :: o14 :: o15 :: o16 :: o17 :: o18 :: o19 :: o20 :: some v :: s) H Q := ⟨v, rfl, q⟩
theorem k_s21 (q : te (o0 :: o1 :: o2 :: o3 :: o4 :: o5 :: o6 :: o7 :: o8 :: o9 :: o10 :: o11 :: o12 :: o13 :: o14 :: o15 :: o16 :: o17 :: o18 :: o19 :: o20 :: o21 :: s) H fun x H1 => D.nx (o0 :: o1 :: o2 :: o3 :: o4 :: o5 :: o6 :: o7 :: o8 :: o9 :: o10 :: o11 :: o12 :: o13 :: o14 :: o15 :: o16 :: o17 :: o18 :: o19 :: o20 :: some x :: s) H1) : tAsg te (gName 21) D (o0 :: o1 :: o2 :: o3 :: o4 :: o5 :: o6 :: o7 :: o8 :: o9 :: o10 :: o11 :: o12 :: o13 :: o14 :: o15 :: o16 :: o17 :: o18 :: o19 :: o20 :: o21 :: s) H := q
theorem k_g21 (q : R (o0 :: o1 :: o2 :: o3 :: o4 :: o5 :: o6 :: o7 :: o8 :: o9 :: o10 :: o11 :: o12 :: o13 :: o14 :: o15 :: o16 :: o17 :: o18 :: o19 :: o20 :: some x :: s) H) : gName 21 x (o0 :: o1 :: o2 :: o3 :: o4 :: o5 :: o6 :: o7 :: o8 :: o9 :: o10 :: o11 :: o12 :: o13 :: o14 :: o15 :: o16 :: o17 :: o18 :: o19 :: o20 :: o21 :: s) H R := q
theorem k_v22 (q : Q v H) : tVar 22 (o0 :: o1 :: o2 :: o3 :: o4 :: o5 :: o6 :: o7 :: o8 :: o9 :: o10 :: o11 :: o12 :: o13 :: o14 :: o15 :: o16 :: o17 :: o18 :: o19 :: o20 :: o21 :: some v :: s) H Q := ⟨v, rfl, q⟩
theorem k_s22 (q : te (o0 :: o1 :: o2 :: o3 :: o4 :: o5 :: o6 :: o7 :: o8 :: o9 :: o10 :: o11 :: o12 :: o13 :: o14 :: o15 :: o16 :: o17 :: o18 :: o19 :: o20 :: o21 :: o22 :: s) H fun x H1 => D.nx (o0 :: o1 :: o2 :: o3 :: o4 :: o5 :: o6 :: o7 :: o8 :: o9 :: o10 :: o11 :: o12 :: o13 :: o14 :: o15 :: o16 :: o17 :: o18 :: o19 :: o20 :: o21 :: some x :: s) H1) : tAsg te (gName 22) D (o0 :: o1 :: o2 :: o3 :: o4 :: o5 :: o6 :: o7 :: o8 :: o9 :: o10 :: o11 :: o12 :: o13 :: o14 :: o15 :: o16 :: o17 :: o18 :: o19 :: o20 :: o21 :: o22 :: s) H := q
theorem k_g22 (q : R (o0 :: o1 :: o2 :: o3 :: o4 :: o5 :: o6 :: o7 :: o8 :: o9 :: o10 :: o11 :: o12 :: o13 :: o14 :: o15 :: o16 :: o17 :: o18 :: o19 :: o20 :: o21 :: some x :: s) H) : gName 22 x (o0 :: o1 :: o2 :: o3 :: o4 :: o5 :: o6 :: o7 :: o8 :: o9 :: o10 :: o11 :: o12 :: o13 :: o14 :: o15 :: o16 :: o17 :: o18 :: o19 :: o20 :: o21 :: o22 :: s) H R := q
theorem k_v23 (q : Q v H) : tVar 23 (o0 :: o1 :: o2 :: o3 :: o4 :: o5 :: o6 :: o7 :: o8 :: o9 :: o10 :: o11 :: o12 :: o13 :: o14 :: o15 :: o16 :: o17 :: o18 :: o19 :: o20 :: o21 :: o22 :: some v :: s) H Q := ⟨v, rfl, q⟩
theorem k_s23 (q : te (o0 :: o1 :: o2 :: o3 :: o4 :: o5 :: o6 :: o7 :: o8 :: o9 :: o10 :: o11 :: o12 :: o13 :: o14 :: o15 :: o16 :: o17 :: o18 :: o19 :: o20 :: o21 :: o22 :: o23 :: s) H fun x H1 => D.nx (o0 :: o1 :: o2 :: o3 :: o4 :: o5 :: o6 :: o7 :: o8 :: o9 :: o10 :: o11 :: o12 :: o13 :: o14 :: o15 :: o16 :: o17 :: o18 :: o19 :: o20 :: o21 :: o22 :: some x :: s) H1) : tAsg te (gName 23) D (o0 :: o1 :: o2 :: o3 :: o4 :: o5 :: o6 :: o7 :: o8 :: o9 :: o10 :: o11 :: o12 :: o13 :: o14 :: o15 :: o16 :: o17 :: o18 :: o19 :: o20 :: o21 :: o22 :: o23 :: s) H := q
theorem k_g23 (q : R (o0 :: o1 :: o2 :: o3 :: o4 :: o5 :: o6 :: o7 :: o8 :: o9 :: o10 :: o11 :: o12 :: o13 :: o14 :: o15 :: o16 :: o17 :: o18 :: o19 :: o20 :: o21 :: o22 :: some x :: s) H) : gName 23 x (o0 :: o1 :: o2 :: o3 :: o4 :: o5 :: o6 :: o7 :: o8 :: o9 :: o10 :: o11 :: o12 :: o13 :: o14 :: o15 :: o16 :: o17 :: o18 :: o19 :: o20 :: o21 :: o22 :: o23 :: s) H R := q
theorem k_v24 (q : Q v H) : tVar 24 (o0 :: o1 :: o2 :: o3 :: o4 :: o5 :: o6 :: o7 :: o8 :: o9 :: o10 :: o11 :: o12 :: o13 :: o14 :: o15 :: o16 :: o17 :: o18 :: o19 :: o20 :: o21 :: o22 :: o23 :: some v :: s) H Q := ⟨v, rfl, q⟩
theorem k_s24 (q : te (o0 :: o1 :: o2 :: o3 :: o4 :: o5 :: o6 :: o7 :: o8 :: o9 :: o10 :: o11 :: o12 :: o13 :: o14 :: o15 :: o16 :: o17 :: o18 :: o19 :: o20 :: o21 :: o22 :: o23 :: o24 :: s) H fun x H1 => D.nx (o0 :: o1 :: o2 :: o3 :: o4 :: o5 :: o6 :: o7 :: o8 :: o9 :: o10 :: o11 :: o12 :: o13 :: o14 :: o15 :: o16 :: o17 :: o18 :: o19 :: o20 :: o21 :: o22 :: o23 :: some x :: s) H1) : tAsg te (gName 24) D (o0 :: o1 :: o2 :: o3 :: o4 :: o5 :: o6 :: o7 :: o8 :: o9 :: o10 :: o11 :: o12 :: o13 :: o14 :: o15 :: o16 :: o17 :: o18 :: o19 :: o20 :: o21 :: o22 :: o23 :: o24 :: s) H := q
theorem k_g24 (q : R (o0 :: o1 :: o2 :: o3 :: o4 :: o5 :: o6 :: o7 :: o8 :: o9 :: o10 :: o11 :: o12 :: o13 :: o14 :: o15 :: o16 :: o17 :: o18 :: o19 :: o20 :: o21 :: o22 :: o23 :: some x :: s) H) : gName 24 x (o0 :: o1 :: o2 :: o3 :: o4 :: o5 :: o6 :: o7 :: o8 :: o9 :: o10 :: o11 :: o12 :: o13 :: o14 :: o15 :: o16 :: o17 :: o18 :: o19 :: o20 :: o21 :: o22 :: o23 :: o24 :: s) H R := q
theorem k_v25 (q : Q v H) : tVar 25 (o0 :: o1 :: o2 :: o3 :: o4 :: o5 :: o6 :: o7 :: o8 :: o9 :: o10 :: o11 :: o12 :: o13 :: o14 :: o15 :: o16 :: o17 :: o18 :: o19 :: o20 :: o21 :: o22 :: o23 :: o24 :: some v :: s) H Q := ⟨v, rfl, q⟩
theorem k_s25 (q : te (o0 :: o1 :: o2 :: o3 :: o4 :: o5 :: o6 :: o7 :: o8 :: o9 :: o10 :: o11 :: o12 :: o13 :: o14 :: o15 :: o16 :: o17 :: o18 :: o19 :: o20 :: o21 :: o22 :: o23 :: o24 :: o25 :: s) H fun x H1 => D.nx (o0 :: o1 :: o2 :: o3 :: o4 :: o5 :: o6 :: o7 :: o8 :: o9 :: o10 :: o11 :: o12 :: o13 :: o14 :: o15 :: o16 :: o17 :: o18 :: o19 :: o20 :: o21 :: o22 :: o23 :: o24 :: some x :: s) H1) : tAsg te (gName 25) D (o0 :: o1 :: o2 :: o3 :: o4 :: o5 :: o6 :: o7 :: o8 :: o9 :: o10 :: o11 :: o12 :: o13 :: o14 :: o15 :: o16 :: o17 :: o18 :: o19 :: o20 :: o21 :: o22 :: o23 :: o24 :: o25 :: s) H := q
theorem k_g25 (q : R (o0 :: o1 :: o2 :: o3 :: o4 :: o5 :: o6 :: o7 :: o8 :: o9 :: o10 :: o11 :: o12 :: o13 :: o14 :: o15 :: o16 :: o17 :: o18 :: o19 :: o20 :: o21 :: o22 :: o23 :: o24 :: some x :: s) H) : gName 25 x (o0 :: o1 :: o2 :: o3 :: o4 :: o5 :: o6 :: o7 :: o8 :: o9 :: o10 :: o11 :: o12 :: o13 :: o14 :: o15 :: o16 :: o17 :: o18 :: o19 :: o20 :: o21 :: o22 :: o23 :: o24 :: o25 :: s) H R := q
theorem k_v26 (q : Q v H) : tVar 26 (o0 :: o1 :: o2 :: o3 :: o4 :: o5 :: o6 :: o7 :: o8 :: o9 :: o10 :: o11 :: o12 :: o13 :: o14 :: o15 :: o16 :: o17 :: o18 :: o19 :: o20 :: o21 :: o22 :: o23 :: o24 :: o25 :: some v :: s) H Q := ⟨v, rfl, q⟩
theorem k_s26 (q : te (o0 :: o1 :: o2 :: o3 :: o4 :: o5 :: o6 :: o7 :: o8 :: o9 :: o10 :: o11 :: o12 :: o13 :: o14 :: o15 :: o16 :: o17 :: o18 :: o19 :: o20 :: o21 :: o22 :: o23 :: o24 :: o25 :: o26 :: s) H fun x H1 => D.nx (o0 :: o1 :: o2 :: o3 :: o4 :: o5 :: o6 :: o7 :: o8 :: o9 :: o10 :: o11 :: o12 :: o13 :: o14 :: o15 :: o16 :: o17 :: o18 :: o19 :: o20 :: o21 :: o22 :: o23 :: o24 :: o25 :: some x :: s) H1) : tAsg te (gName 26) D (o0 :: o1 :: o2 :: o3 :: o4 :: o5 :: o6 :: o7 :: o8 :: o9 :: o10 :: o11 :: o12 :: o13 :: o14 :: o15 :: o16 :: o17 :: o18 :: o19 :: o20 :: o21 :: o22 :: o23 :: o24 :: o25 :: o26 :: s) H := q
theorem k_g26 (q : R (o0 :: o1 :: o2 :: o3 :: o4 :: o5 :: o6 :: o7 :: o8 :: o9 :: o10 :: o11 :: o12 :: o13 :: o14 :: o15 :: o16 :: o17 :: o18 :: o19 :: o20 :: o21 :: o22 :: o23 :: o24 :: o25 :: some x :: s) H) : gName 26 x (o0 :: o1 :: o2 :: o3 :: o4 :: o5 :: o6 :: o7 :: o8 :: o9 :: o10 :: o11 :: o12 :: o13 :: o14 :: o15 :: o16 :: o17 :: o18 :: o19 :: o20 :: o21 :: o22 :: o23 :: o24 :: o25 :: o26 :: s) H R := q
theorem k_v27 (q : Q v H) : tVar 27 (o0 :: o1 :: o2 :: o3 :: o4 :: o5 :: o6 :: o7 :: o8 :: o9 :: o10 :: o11 :: o12 :: o13 :: o14 :: o15 :: o16 :: o17 :: o18 :: o19 :: o20 :: o21 :: o22 :: o23 :: o24 :: o25 :: o26 :: some v :: s) H Q := ⟨v, rfl, q⟩
theorem k_s27 (q : te (o0 :: o1 :: o2 :: o3 :: o4 :: o5 :: o6 :: o7 :: o8 :: o9 :: o10 :: o11 :: o12 :: o13 :: o14 :: o15 :: o16 :: o17 :: o18 :: o19 :: o20 :: o21 :: o22 :: o23 :: o24 :: o25 :: o26 :: o27 :: s) H fun x H1 => D.nx (o0 :: o1 :: o2 :: o3 :: o4 :: o5 :: o6 :: o7 :: o8 :: o9 :: o10 :: o11 :: o12 :: o13 :: o14 :: o15 :: o16 :: o17 :: o18 :: o19 :: o20 :: o21 :: o22 :: o23 :: o24 :: o25 :: o26 :: some x :: s) H1) : tAsg te (gName 27) D (o0 :: o1 :: o2 :: o3 :: o4 :: o5 :: o6 :: o7 :: o8 :: o9 :: o10 :: o11 :: o12 :: o13 :: o14 :: o15 :: o16 :: o17 :: o18 :: o19 :: o20 :: o21 :: o22 :: o23 :: o24 :: o25 :: o26 :: o27 :: s) H := q
theorem k_g27 (q : R (o0 :: o1 :: o2 :: o3 :: o4 :: o5 :: o6 :: o7 :: o8 :: o9 :: o10 :: o11 :: o12 :: o13 :: o14 :: o15 :: o16 :: o17 :: o18 :: o19 :: o20 :: o21 :: o22 :: o23 :: o24 :: o25 :: o26 :: some x :: s) H) : gName 27 x (o0 :: o1 :: o2 :: o3 :: o4 :: o5 :: o6 :: o7 :: o8 :: o9 :: o10 :: o11 :: o12 :: o13 :: o14 :: o15 :: o16 :: o17 :: o18 :: o19 :: o20 :: o21 :: o22 :: o23 :: o24 :: o25 :: o26 :: o27 :: s) H R := q
theorem k_v28 (q : Q v H) : tVar 28 (o0 :: o1 :: o2 :: o3 :: o4 :: o5 :: o6 :: o7 :: o8 :: o9 :: o10 :: o11 :: o12 :: o13 :: o14 :: o15 :: o16 :: o17 :: o18 :: o19 :: o20 :: o21 :: o22 :: o23 :: o24 :: o25 :: o26 :: o27 :: some v :: s) H Q := ⟨v, rfl, q⟩
theorem k_s28 (q : te (o0 :: o1 :: o2 :: o3 :: o4 :: o5 :: o6 :: o7 :: o8 :: o9 :: o10 :: o11 :: o12 :: o13 :: o14 :: o15 :: o16 :: o17 :: o18 :: o19 :: o20 :: o21 :: o22 :: o23 :: o24 :: o25 :: o26 :: o27 :: o28 :: s) H fun x H1 => D.nx (o0 :: o1 :: o2 :: o3 :: o4 :: o5 :: o6 :: o7 :: o8 :: o9 :: o10 :: o11 :: o12 :: o13 :: o14 :: o15 :: o16 :: o17 :: o18 :: o19 :: o20 :: o21 :: o22 :: o23 :: o24 :: o25 :: o26 :: o27 :: some x :: s) H1) : tAsg te (gName 28) D (o0 :: o1 :: o2 :: o3 :: o4 :: o5 :: o6 :: o7 :: o8 :: o9 :: o10 :: o11 :: o12 :: o13 :: o14 :: o15 :: o16 :: o17 :: o18 :: o19 :: o20 :: o21 :: o22 :: o23 :: o24 :: o25 :: o26 :: o27 :: o28 :: s) H := q
theorem k_g28 (q : R (o0 :: o1 :: o2 :: o3 :: o4 :: o5 :: o6 :: o7 :: o8 :: o9 :: o10 :: o11 :: o12 :: o13 :: o14 :: o15 :: o16 :: o17 :: o18 :: o19 :: o20 :: o21 :: o22 :: o23 :: o24 :: o25 :: o26 :: o27 :: some x :: s) H) : gName 28 x (o0 :: o1 :: o2 :: o3 :: o4 :: o5 :: o6 :: o7 :: o8 :: o9 :: o10 :: o11 :: o12 :: o13 :: o14 :: o15 :: o16 :: o17 :: o18 :: o19 :: o20 :: o21 :: o22 :: o23 :: o24 :: o25 :: o26 :: o27 :: o28 :: s) H R := q
theorem k_v29 (q : Q v H) : tVar 29 (o0 :: o1 :: o2 :: o3 :: o4 :: o5 :: o6 :: o7 :: o8 :: o9 :: o10 :: o11 :: o12 :: o13 :: o14 :: o15 :: o16 :: o17 :: o18 :: o19 :: o20 :: o21 :: o22 :: o23 :: o24 :: o25 :: o26 :: o27 :: o28 :: some v :: s) H Q := ⟨v, rfl, q⟩
theorem k_s29 (q : te (o0 :: o1 :: o2 :: o3 :: o4 :: o5 :: o6 :: o7 :: o8 :: o9 :: o10 :: o11 :: o12 :: o13 :: o14 :: o15 :: o16 :: o17 :: o18 :: o19 :: o20 :: o21 :: o22 :: o23 :: o24 :: o25 :: o26 :: o27 :: o28 :: o29 :: s) H fun x H1 => D.nx (o0 :: o1 :: o2 :: o3 :: o4 :: o5 :: o6 :: o7 :: o8 :: o9 :: o10 :: o11 :: o12 :: o13 :: o14 :: o15 :: o16 :: o17 :: o18 :: o19 :: o20 :: o21 :: o22 :: o23 :: o24 :: o25 :: o26 :: o27 :: o28 :: some x :: s) H1) : tAsg te (gName 29) D (o0 :: o1 :: o2 :: o3 :: o4 :: o5 :: o6 :: o7 :: o8 :: o9 :: o10 :: o11 :: o12 :: o13 :: o14 :: o15 :: o16 :: o17 :: o18 :: o19 :: o20 :: o21 :: o22 :: o23 :: o24 :: o25 :: o26 :: o27 :: o28 :: o29 :: s) H := q
theorem k_g29 (q : R (o0 :: o1 :: o2 :: o3 :: o4 :: o5 :: o6 :: o7 :: o8 :: o9 :: o10 :: o11 :: o12 :: o13 :: o14 :: o15 :: o16 :: o17 :: o18 :: o19 :: o20 :: o21 :: o22 :: o23 :: o24 :: o25 :: o26 :: o27 :: o28 :: some x :: s) H) : gName 29 x (o0 :: o1 :: o2 :: o3 :: o4 :: o5 :: o6 :: o7 :: o8 :: o9 :: o10 :: o11 :: o12 :: o13 :: o14 :: o15 :: o16 :: o17 :: o18 :: o19 :: o20 :: o21 :: o22 :: o23 :: o24 :: o25 :: o26 :: o27 :: o28 :: o29 :: s) H R := q
theorem k_v30 (q : Q v H) : tVar 30 (o0 :: o1 :: o2 :: o3 :: o4 :: o5 :: o6 :: o7 :: o8 :: o9 :: o10 :: o11 :: o12 :: o13 :: o14 :: o15 :: o16 :: o17 :: o18 :: o19 :: o20 :: o21 :: o22 :: o23 :: o24 :: o25 :: o26 :: o27 :: o28 :: o29 :: some v :: s) H Q := ⟨v, rfl, q⟩
theorem k_s30 (q : te (o0 :: o1 :: o2 :: o3 :: o4 :: o5 :: o6 :: o7 :: o8 :: o9 :: o10 :: o11 :: o12 :: o13 :: o14 :: o15 :: o16 :: o17 :: o18 :: o19 :: o20 :: o21 :: o22 :: o23 :: o24 :: o25 :: o26 :: o27 :: o28 :: o29 :: o30 :: s) H fun x H1 => D.nx (o0 :: o1 :: o2 :: o3 :: o4 :: o5 :: o6 :: o7 :: o8 :: o9 :: o10 :: o11 :: o12 :: o13 :: o14 :: o15 :: o16 :: o17 :: o18 :: o19 :: o20 :: o21 :: o22 :: o23 :: o24 :: o25 :: o26 :: o27 :: o28 :: o29 :: some x :: s) H1) : tAsg te (gName 30) D (o0 :: o1 :: o2 :: o3 :: o4 :: o5 :: o6 :: o7 :: o8 :: o9 :: o10 :: o11 :: o12 :: o13 :: o14 :: o15 :: o16 :: o17 :: o18 :: o19 :: o20 :: o21 :: o22 :: o23 :: o24 :: o25 :: o26 :: o27 :: o28 :: o29 :: o30 :: s) H := q
theorem k_g30 (q : R (o0 :: o1 :: o2 :: o3 :: o4 :: o5 :: o6 :: o7 :: o8 :: o9 :: o10 :: o11 :: o12 :: o13 :: o14 :: o15 :: o16 :: o17 :: o18 :: o19 :: o20 :: o21 :: o22 :: o23 :: o24 :: o25 :: o26 :: o27 :: o28 :: o29 :: some x :: s) H) : gName 30 x (o0 :: o1 :: o2 :: o3 :: o4 :: o5 :: o6 :: o7 :: o8 :: o9 :: o10 :: o11 :: o12 :: o13 :: o14 :: o15 :: o16 :: o17 :: o18 :: o19 :: o20 :: o21 :: o22 :: o23 :: o24 :: o25 :: o26 :: o27 :: o28 :: o29 :: o30 :: s) H R := q
theorem k_v31 (q : Q v H) : tVar 31 (o0 :: o1 :: o2 :: o3 :: o4 :: o5 :: o6 :: o7 :: o8 :: o9 :: o10 :: o11 :: o12 :: o13 :: o14 :: o15 :: o16 :: o17 :: o18 :: o19 :: o20 :: o21 :: o22 :: o23 :: o24 :: o25 :: o26 :: o27 :: o28 :: o29 :: o30 :: some v :: s) H Q := ⟨v, rfl, q⟩
theorem k_s31 (q : te (o0 :: o1 :: o2 :: o3 :: o4 :: o5 :: o6 :: o7 :: o8 :: o9 :: o10 :: o11 :: o12 :: o13 :: o14 :: o15 :: o16 :: o17 :: o18 :: o19 :: o20 :: o21 :: o22 :: o23 :: o24 :: o25 :: o26 :: o27 :: o28 :: o29 :: o30 :: o31 :: s) H fun x H1 => D.nx (o0 :: o1 :: o2 :: o3 :: o4 :: o5 :: o6 :: o7 :: o8 :: o9 :: o10 :: o11 :: o12 :: o13 :: o14 :: o15 :: o16 :: o17 :: o18 :: o19 :: o20 :: o21 :: o22 :: o23 :: o24 :: o25 :: o26 :: o27 :: o28 :: o29 :: o30 :: some x :: s) H1) : tAsg te (gName 31) D (o0 :: o1 :: o2 :: o3 :: o4 :: o5 :: o6 :: o7 :: o8 :: o9 :: o10 :: o11 :: o12 :: o13 :: o14 :: o15 :: o16 :: o17 :: o18 :: o19 :: o20 :: o21 :: o22 :: o23 :: o24 :: o25 :: o26 :: o27 :: o28 :: o29 :: o30 :: o31 :: s) H := q
theorem k_g31 (q : R (o0 :: o1 :: o2 :: o3 :: o4 :: o5 :: o6 :: o7 :: o8 :: o9 :: o10 :: o11 :: o12 :: o13 :: o14 :: o15 :: o16 :: o17 :: o18 :: o19 :: o20 :: o21 :: o22 :: o23 :: o24 :: o25 :: o26 :: o27 :: o28 :: o29 :: o30 :: some x :: s) H) : gName 31 x (o0 :: o1 :: o2 :: o3 :: o4 :: o5 :: o6 :: o7 :: o8 :: o9 :: o10 :: o11 :: o12 :: o13 :: o14 :: o15 :: o16 :: o17 :: o18 :: o19 :: o20 :: o21 :: o22 :: o23 :: o24 :: o25 :: o26 :: o27 :: o28 :: o29 :: o30 :: o31 :: s) H R := q
theorem k_v32 (q : Q v H) : tVar 32 (o0 :: o1 :: o2 :: o3 :: o4 :: o5 :: o6 :: o7 :: o8 :: o9 :: o10 :: o11 :: o12 :: o13 :: o14 :: o15 :: o16 :: o17 :: o18 :: o19 :: o20 :: o21 :: o22 :: o23 :: o24 :: o25 :: o26 :: o27 :: o28 :: o29 :: o30 :: o31 :: some v :: s) H Q := ⟨v, rfl, q⟩
theorem k_s32 (q : te (o0 :: o1 :: o2 :: o3 :: o4 :: o5 :: o6 :: o7 :: o8 :: o9 :: o10 :: o11 :: o12 :: o13 :: o14 :: o15 :: o16 :: o17 :: o18 :: o19 :: o20 :: o21 :: o22 :: o23 :: o24 :: o25 :: o26 :: o27 :: o28 :: o29 :: o30 :: o31 :: o32 :: s) H fun x H1 => D.nx (o0 :: o1 :: o2 :: o3 :: o4 :: o5 :: o6 :: o7 :: o8 :: o9 :: o10 :: o11 :: o12 :: o13 :: o14 :: o15 :: o16 :: o17 :: o18 :: o19 :: o20 :: o21 :: o22 :: o23 :: o24 :: o25 :: o26 :: o27 :: o28 :: o29 :: o30 :: o31 :: some x :: s) H1) : tAsg te (gName 32) D (o0 :: o1 :: o2 :: o3 :: o4 :: o5 :: o6 :: o7 :: o8 :: o9 :: o10 :: o11 :: o12 :: o13 :: o14 :: o15 :: o16 :: o17 :: o18 :: o19 :: o20 :: o21 :: o22 :: o23 :: o24 :: o25 :: o26 :: o27 :: o28 :: o29 :: o30 :: o31 :: o32 :: s) H := q
theorem k_g32 (q : R (o0 :: o1 :: o2 :: o3 :: o4 :: o5 :: o6 :: o7 :: o8 :: o9 :: o10 :: o11 :: o12 :: o13 :: o14 :: o15 :: o16 :: o17 :: o18 :: o19 :: o20 :: o21 :: o22 :: o23 :: o24 :: o25 :: o26 :: o27 :: o28 :: o29 :: o30 :: o31 :: some x :: s) H) : gName 32 x (o0 :: o1 :: o2 :: o3 :: o4 :: o5 :: o6 :: o7 :: o8 :: o9 :: o10 :: o11 :: o12 :: o13 :: o14 :: o15 :: o16 :: o17 :: o18 :: o19 :: o20 :: o21 :: o22 :: o23 :: o24 :: o25 :: o26 :: o27 :: o28 :: o29 :: o30 :: o31 :: o32 :: s) H R := q
theorem k_v33 (q : Q v H) : tVar 33 (o0 :: o1 :: o2 :: o3 :: o4 :: o5 :: o6 :: o7 :: o8 :: o9 :: o10 :: o11 :: o12 :: o13 :: o14 :: o15 :: o16 :: o17 :: o18 :: o19 :: o20 :: o21 :: o22 :: o23 :: o24 :: o25 :: o26 :: o27 :: o28 :: o29 :: o30 :: o31 :: o32 :: some v :: s) H Q := ⟨v, rfl, q⟩
theorem k_s33 (q : te (o0 :: o1 :: o2 :: o3 :: o4 :: o5 :: o6 :: o7 :: o8 :: o9 :: o10 :: o11 :: o12 :: o13 :: o14 :: o15 :: o16 :: o17 :: o18 :: o19 :: o20 :: o21 :: o22 :: o23 :: o24 :: o25 :: o26 :: o27 :: o28 :: o29 :: o30 :: o31 :: o32 :: o33 :: s) H fun x H1 => D.nx (o0 :: o1 :: o2 :: o3 :: o4 :: o5 :: o6 :: o7 :: o8 :: o9 :: o10 :: o11 :: o12 :: o13 :: o14 :: o15 :: o16 :: o17 :: o18 :: o19 :: o20 :: o21 :: o22 :: o23 :: o24 :: o25 :: o26 :: o27 :: o28 :: o29 :: o30 :: o31 :: o32 :: some x :: s) H1) : tAsg te (gName 33) D (o0 :: o1 :: o2 :: o3 :: o4 :: o5 :: o6 :: o7 :: o8 :: o9 :: o10 :: o11 :: o12 :: o13 :: o14 :: o15 :: o16 :: o17 :: o18 :: o19 :: o20 :: o21 :: o22 :: o23 :: o24 :: o25 :: o26 :: o27 :: o28 :: o29 :: o30 :: o31 :: o32 :: o33 :: s) H := q
theorem k_g33 (q : R (o0 :: o1 :: o2 :: o3 :: o4 :: o5 :: o6 :: o7 :: o8 :: o9 :: o10 :: o11 :: o12 :: o13 :: o14 :: o15 :: o16 :: o17 :: o18 :: o19 :: o20 :: o21 :: o22 :: o23 :: o24 :: o25 :: o26 :: o27 :: o28 :: o29 :: o30 :: o31 :: o32 :: some x :: s) H) : gName 33 x (o0 :: o1 :: o2 :: o3 :: o4 :: o5 :: o6 :: o7 :: o8 :: o9 :: o10 :: o11 :: o12 :: o13 :: o14 :: o15 :: o16 :: o17 :: o18 :: o19 :: o20 :: o21 :: o22 :: o23 :: o24 :: o25 :: o26 :: o27 :: o28 :: o29 :: o30 :: o31 :: o32 :: o33 :: s) H R := q
theorem k_v34 (q : Q v H) : tVar 34 (o0 :: o1 :: o2 :: o3 :: o4 :: o5 :: o6 :: o7 :: o8 :: o9 :: o10 :: o11 :: o12 :: o13 :: o14 :: o15 :: o16 :: o17 :: o18 :: o19 :: o20 :: o21 :: o22 :: o23 :: o24 :: o25 :: o26 :: o27 :: o28 :: o29 :: o30 :: o31 :: o32 :: o33 :: some v :: s) H Q := ⟨v, rfl, q⟩
theorem k_s34 (q : te (o0 :: o1 :: o2 :: o3 :: o4 :: o5 :: o6 :: o7 :: o8 :: o9 :: o10 :: o11 :: o12 :: o13 :: o14 :: o15 :: o16 :: o17 :: o18 :: o19 :: o20 :: o21 :: o22 :: o23 :: o24 :: o25 :: o26 :: o27 :: o28 :: o29 :: o30 :: o31 :: o32 :: o33 :: o34 :: s) H fun x H1 => D.nx (o0 :: o1 :: o2 :: o3 :: o4 :: o5 :: o6 :: o7 :: o8 :: o9 :: o10 :: o11 :: o12 :: o13 :: o14 :: o15 :: o16 :: o17 :: o18 :: o19 :: o20 :: o21 :: o22 :: o23 :: o24 :: o25 :: o26 :: o27 :: o28 :: o29 :: o30 :: o31 :: o32 :: o33 :: some x :: s) H1) : tAsg te (gName 34) D (o0 :: o1 :: o2 :: o3 :: o4 :: o5 :: o6 :: o7 :: o8 :: o9 :: o10 :: o11 :: o12 :: o13 :: o14 :: o15 :: o16 :: o17 :: o18 :: o19 :: o20 :: o21 :: o22 :: o23 :: o24 :: o25 :: o26 :: o27 :: o28 :: o29 :: o30 :: o31 :: o32 :: o33 :: o34 :: s) H := q
theorem k_g34 (q : R (o0 :: o1 :: o2 :: o3 :: o4 :: o5 :: o6 :: o7 :: o8 :: o9 :: o10 :: o11 :: o12 :: o13 :: o14 :: o15 :: o16 :: o17 :: o18 :: o19 :: o20 :: o21 :: o22 :: o23 :: o24 :: o25 :: o26 :: o27 :: o28 :: o29 :: o30 :: o31 :: o32 :: o33 :: some x :: s) H) : gName 34 x (o0 :: o1 :: o2 :: o3 :: o4 :: o5 :: o6 :: o7 :: o8 :: o9 :: o10 :: o11 :: o12 :: o13 :: o14 :: o15 :: o16 :: o17 :: o18 :: o19 :: o20 :: o21 :: o22 :: o23 :: o24 :: o25 :: o26 :: o27 :: o28 :: o29 :: o30 :: o31 :: o32 :: o33 :: o34 :: s) H R := q
theorem k_v35 (q : Q v H) : tVar 35 (o0 :: o1 :: o2 :: o3 :: o4 :: o5 :: o6 :: o7 :: o8 :: o9 :: o10 :: o11 :: o12 :: o13 :: o14 :: o15 :: o16 :: o17 :: o18 :: o19 :: o20 :: o21 :: o22 :: o23 :: o24 :: o25 :: o26 :: o27 :: o28 :: o29 :: o30 :: o31 :: o32 :: o33 :: o34 :: some v :: s) H Q := ⟨v, rfl, q⟩
theorem k_s35 (q : te (o0 :: o1 :: o2 :: o3 :: o4 :: o5 :: o6 :: o7 :: o8 :: o9 :: o10 :: o11 :: o12 :: o13 :: o14 :: o15 :: o16 :: o17 :: o18 :: o19 :: o20 :: o21 :: o22 :: o23 :: o24 :: o25 :: o26 :: o27 :: o28 :: o29 :: o30 :: o31 :: o32 :: o33 :: o34 :: o35 :: s) H fun x H1 => D.nx (o0 :: o1 :: o2 :: o3 :: o4 :: o5 :: o6 :: o7 :: o8 :: o9 :: o10 :: o11 :: o12 :: o13 :: o14 :: o15 :: o16 :: o17 :: o18 :: o19 :: o20 :: o21 :: o22 :: o23 :: o24 :: o25 :: o26 :: o27 :: o28 :: o29 :: o30 :: o31 :: o32 :: o33 :: o34 :: some x :: s) H1) : tAsg te (gName 35) D (o0 :: o1 :: o2 :: o3 :: o4 :: o5 :: o6 :: o7 :: o8 :: o9 :: o10 :: o11 :: o12 :: o13 :: o14 :: o15 :: o16 :: o17 :: o18 :: o19 :: o20 :: o21 :: o22 :: o23 :: o24 :: o25 :: o26 :: o27 :: o28 :: o29 :: o30 :: o31 :: o32 :: o33 :: o34 :: o35 :: s) H := q
theorem k_g35 (q : R (o0 :: o1 :: o2 :: o3 :: o4 :: o5 :: o6 :: o7 :: o8 :: o9 :: o10 :: o11 :: o12 :: o13 :: o14 :: o15 :: o16 :: o17 :: o18 :: o19 :: o20 :: o21 :: o22 :: o23 :: o24 :: o25 :: o26 :: o27 :: o28 :: o29 :: o30 :: o31 :: o32 :: o33 :: o34 :: some x :: s) H) : gName 35 x (o0 :: o1 :: o2 :: o3 :: o4 :: o5 :: o6 :: o7 :: o8 :: o9 :: o10 :: o11 :: o12 :: o13 :: o14 :: o15 :: o16 :: o17 :: o18 :: o19 :: o20 :: o21 :: o22 :: o23 :: o24 :: o25 :: o26 :: o27 :: o28 :: o29 :: o30 :: o31 :: o32 :: o33 :: o34 :: o35 :: s) H R := q
theorem k_v36 (q : Q v H) : tVar 36 (o0 :: o1 :: o2 :: o3 :: o4 :: o5 :: o6 :: o7 :: o8 :: o9 :: o10 :: o11 :: o12 :: o13 :: o14 :: o15 :: o16 :: o17 :: o18 :: o19 :: o20 :: o21 :: o22 :: o23 :: o24 :: o25 :: o26 :: o27 :: o28 :: o29 :: o30 :: o31 :: o32 :: o33 :: o34 :: o35 :: some v :: s) H Q := ⟨v, rfl, q⟩
theorem k_s36 (q : te (o0 :: o1 :: o2 :: o3 :: o4 :: o5 :: o6 :: o7 :: o8 :: o9 :: o10 :: o11 :: o12 :: o13 :: o14 :: o15 :: o16 :: o17 :: o18 :: o19 :: o20 :: o21 :: o22 :: o23 :: o24 :: o25 :: o26 :: o27 :: o28 :: o29 :: o30 :: o31 :: o32 :: o33 :: o34 :: o35 :: o36 :: s) H fun x H1 => D.nx (o0 :: o1 :: o2 :: o3 :: o4 :: o5 :: o6 :: o7 :: o8 :: o9 :: o10 :: o11 :: o12 :: o13 :: o14 :: o15 :: o16 :: o17 :: o18 :: o19 :: o20 :: o21 :: o22 :: o23 :: o24 :: o25 :: o26 :: o27 :: o28 :: o29 :: o30 :: o31 :: o32 :: o33 :: o34 :: o35 :: some x :: s) H1) : tAsg te (gName 36) D (o0 :: o1 :: o2 :: o3 :: o4 :: o5 :: o6 :: o7 :: o8 :: o9 :: o10 :: o11 :: o12 :: o13 :: o14 :: o15 :: o16 :: o17 :: o18 :: o19 :: o20 :: o21 :: o22 :: o23 :: o24 :: o25 :: o26 :: o27 :: o28 :: o29 :: o30 :: o31 :: o32 :: o33 :: o34 :: o35 :: o36 :: s) H := q
theorem k_g36 (q : R (o0 :: o1 :: o2 :: o3 :: o4 :: o5 :: o6 :: o7 :: o8 :: o9 :: o10 :: o11 :: o12 :: o13 :: o14 :: o15 :: o16 :: o17 :: o18 :: o19 :: o20 :: o21 :: o22 :: o23 :: o24 :: o25 :: o26 :: o27 :: o28 :: o29 :: o30 :: o31 :: o32 :: o33 :: o34 :: o35 :: some x :: s) H) : gName 36 x (o0 :: o1 :: o2 :: o3 :: o4 :: o5 :: o6 :: o7 :: o8 :: o9 :: o10 :: o11 :: o12 :: o13 :: o14 :: o15 :: o16 :: o17 :: o18 :: o19 :: o20 :: o21 :: o22 :: o23 :: o24 :: o25 :: o26 :: o27 :: o28 :: o29 :: o30 :: o31 :: o32 :: o33 :: o34 :: o35 :: o36 :: s) H R := q
theorem k_v37 (q : Q v H) : tVar 37 (o0 :: o1 :: o2 :: o3 :: o4 :: o5 :: o6 :: o7 :: o8 :: o9 :: o10 :: o11 :: o12 :: o13 :: o14 :: o15 :: o16 :: o17 :: o18 :: o19 :: o20 :: o21 :: o22 :: o23 :: o24 :: o25 :: o26 :: o27 :: o28 :: o29 :: o30 :: o31 :: o32 :: o33 :: o34 :: o35 :: o36 :: some v :: s) H Q := ⟨v, rfl, q⟩
theorem k_s37 (q : te (o0 :: o1 :: o2 :: o3 :: o4 :: o5 :: o6 :: o7 :: o8 :: o9 :: o10 :: o11 :: o12 :: o13 :: o14 :: o15 :: o16 :: o17 :: o18 :: o19 :: o20 :: o21 :: o22 :: o23 :: o24 :: o25 :: o26 :: o27 :: o28 :: o29 :: o30 :: o31 :: o32 :: o33 :: o34 :: o35 :: o36 :: o37 :: s) H fun x H1 => D.nx (o0 :: o1 :: o2 :: o3 :: o4 :: o5 :: o6 :: o7 :: o8 :: o9 :: o10 :: o11 :: o12 :: o13 :: o14 :: o15 :: o16 :: o17 :: o18 :: o19 :: o20 :: o21 :: o22 :: o23 :: o24 :: o25 :: o26 :: o27 :: o28 :: o29 :: o30 :: o31 :: o32 :: o33 :: o34 :: o35 :: o36 :: some x :: s) H1) : tAsg te (gName 37) D (o0 :: o1 :: o2 :: o3 :: o4 :: o5 :: o6 :: o7 :: o8 :: o9 :: o10 :: o11 :: o12 :: o13 :: o14 :: o15 :: o16 :: o17 :: o18 :: o19 :: o20 :: o21 :: o22 :: o23 :: o24 :: o25 :: o26 :: o27 :: o28 :: o29 :: o30 :: o31 :: o32 :: o33 :: o34 :: o35 :: o36 :: o37 :: s) H := q
theorem k_g37 (q : R (o0 :: o1 :: o2 :: o3 :: o4 :: o5 :: o6 :: o7 :: o8 :: o9 :: o10 :: o11 :: o12 :: o13 :: o14 :: o15 :: o16 :: o17 :: o18 :: o19 :: o20 :: o21 :: o22 :: o23 :: o24 :: o25 :: o26 :: o27 :: o28 :: o29 :: o30 :: o31 :: o32 :: o33 :: o34 :: o35 :: o36 :: some x :: s) H) : gName 37 x (o0 :: o1 :: o2 :: o3 :: o4 :: o5 :: o6 :: o7 :: o8 :: o9 :: o10 :: o11 :: o12 :: o13 :: o14 :: o15 :: o16 :: o17 :: o18 :: o19 :: o20 :: o21 :: o22 :: o23 :: o24 :: o25 :: o26 :: o27 :: o28 :: o29 :: o30 :: o31 :: o32 :: o33 :: o34 :: o35 :: o36 :: o37 :: s) H R := q
theorem k_v38 (q : Q v H) : tVar 38 (o0 :: o1 :: o2 :: o3 :: o4 :: o5 :: o6 :: o7 :: o8 :: o9 :: o10 :: o11 :: o12 :: o13 :: o14 :: o15 :: o16 :: o17 :: o18 :: o19 :: o20 :: o21 :: o22 :: o23 :: o24 :: o25 :: o26 :: o27 :: o28 :: o29 :: o30 :: o31 :: o32 :: o33 :: o34 :: o35 :: o36 :: o37 :: some v :: s) H Q := ⟨v, rfl, q⟩
theorem k_s38 (q : te (o0 :: o1 :: o2 :: o3 :: o4 :: o5 :: o6 :: o7 :: o8 :: o9 :: o10 :: o11 :: o12 :: o13 :: o14 :: o15 :: o16 :: o17 :: o18 :: o19 :: o20 :: o21 :: o22 :: o23 :: o24 :: o25 :: o26 :: o27 :: o28 :: o29 :: o30 :: o31 :: o32 :: o33 :: o34 :: o35 :: o36 :: o37 :: o38 :: s) H fun x H1 => D.nx (o0 :: o1 :: o2 :: o3 :: o4 :: o5 :: o6 :: o7 :: o8 :: o9 :: o10 :: o11 :: o12 :: o13 :: o14 :: o15 :: o16 :: o17 :: o18 :: o19 :: o20 :: o21 :: o22 :: o23 :: o24 :: o25 :: o26 :: o27 :: o28 :: o29 :: o30 :: o31 :: o32 :: o33 :: o34 :: o35 :: o36 :: o37 :: some x :: s) H1) : tAsg te (gName 38) D (o0 :: o1 :: o2 :: o3 :: o4 :: o5 :: o6 :: o7 :: o8 :: o9 :: o10 :: o11 :: o12 :: o13 :: o14 :: o15 :: o16 :: o17 :: o18 :: o19 :: o20 :: o21 :: o22 :: o23 :: o24 :: o25 :: o26 :: o27 :: o28 :: o29 :: o30 :: o31 :: o32 :: o33 :: o34 :: o35 :: o36 :: o37 :: o38 :: s) H := q
theorem k_g38 (q : R (o0 :: o1 :: o2 :: o3 :: o4 :: o5 :: o6 :: o7 :: o8 :: o9 :: o10 :: o11 :: o12 :: o13 :: o14 :: o15 :: o16 :: o17 :: o18 :: o19 :: o20 :: o21 :: o22 :: o23 :: o24 :: o25 :: o26 :: o27 :: o28 :: o29 :: o30 :: o31 :: o32 :: o33 :: o34 :: o35 :: o36 :: o37 :: some x :: s) H) : gName 38 x (o0 :: o1 :: o2 :: o3 :: o4 :: o5 :: o6 :: o7 :: o8 :: o9 :: o10 :: o11 :: o12 :: o13 :: o14 :: o15 :: o16 :: o17 :: o18 :: o19 :: o20 :: o21 :: o22 :: o23 :: o24 :: o25 :: o26 :: o27 :: o28 :: o29 :: o30 :: o31 :: o32 :: o33 :: o34 :: o35 :: o36 :: o37 :: o38 :: s) H R := q
theorem k_v39 (q : Q v H) : tVar 39 (o0 :: o1 :: o2 :: o3 :: o4 :: o5 :: o6 :: o7 :: o8 :: o9 :: o10 :: o11 :: o12 :: o13 :: o14 :: o15 :: o16 :: o17 :: o18 :: o19 :: o20 :: o21 :: o22 :: o23 :: o24 :: o25 :: o26 :: o27 :: o28 :: o29 :: o30 :: o31 :: o32 :: o33 :: o34 :: o35 :: o36 :: o37 :: o38 :: some v :: s) H Q := ⟨v, rfl, q⟩
theorem k_s39 (q : te (o0 :: o1 :: o2 :: o3 :: o4 :: o5 :: o6 :: o7 :: o8 :: o9 :: o10 :: o11 :: o12 :: o13 :: o14 :: o15 :: o16 :: o17 :: o18 :: o19 :: o20 :: o21 :: o22 :: o23 :: o24 :: o25 :: o26 :: o27 :: o28 :: o29 :: o30 :: o31 :: o32 :: o33 :: o34 :: o35 :: o36 :: o37 :: o38 :: o39 :: s) H fun x H1 => D.nx (o0 :: o1 :: o2 :: o3 :: o4 :: o5 :: o6 :: o7 :: o8 :: o9 :: o10 :: o11 :: o12 :: o13 :: o14 :: o15 :: o16 :: o17 :: o18 :: o19 :: o20 :: o21 :: o22 :: o23 :: o24 :: o25 :: o26 :: o27 :: o28 :: o29 :: o30 :: o31 :: o32 :: o33 :: o34 :: o35 :: o36 :: o37 :: o38 :: some x :: s) H1) : tAsg te (gName 39) D (o0 :: o1 :: o2 :: o3 :: o4 :: o5 :: o6 :: o7 :: o8 :: o9 :: o10 :: o11 :: o12 :: o13 :: o14 :: o15 :: o16 :: o17 :: o18 :: o19 :: o20 :: o21 :: o22 :: o23 :: o24 :: o25 :: o26 :: o27 :: o28 :: o29 :: o30 :: o31 :: o32 :: o33 :: o34 :: o35 :: o36 :: o37 :: o38 :: o39 :: s) H := q
theorem k_g39 (q : R (o0 :: o1 :: o2 :: o3 :: o4 :: o5 :: o6 :: o7 :: o8 :: o9 :: o10 :: o11 :: o12 :: o13 :: o14 :: o15 :: o16 :: o17 :: o18 :: o19 :: o20 :: o21 :: o22 :: o23 :: o24 :: o25 :: o26 :: o27 :: o28 :: o29 :: o30 :: o31 :: o32 :: o33 :: o34 :: o35 :: o36 :: o37 :: o38 :: some x :: s) H) : gName 39 x (o0 :: o1 :: o2 :: o3 :: o4 :: o5 :: o6 :: o7 :: o8 :: o9 :: o10 :: o11 :: o12 :: o13 :: o14 :: o15 :: o16 :: o17 :: o18 :: o19 :: o20 :: o21 :: o22 :: o23 :: o24 :: o25 :: o26 :: o27 :: o28 :: o29 :: o30 :: o31 :: o32 :: o33 :: o34 :: o35 :: o36 :: o37 :: o38 :: o39 :: s) H R := q
theorem k_v40 (q : Q v H) : tVar 40 (o0 :: o1 :: o2 :: o3 :: o4 :: o5 :: o6 :: o7 :: o8 :: o9 :: o10 :: o11 :: o12 :: o13 :: o14 :: o15 :: o16 :: o17 :: o18 :: o19 :: o20 :: o21 :: o22 :: o23 :: o24 :: o25 :: o26 :: o27 :: o28 :: o29 :: o30 :: o31 :: o32 :: o33 :: o34 :: o35 :: o36 :: o37 :: o38 :: o39 :: some v :: s) H Q := ⟨v, rfl, q⟩
theorem k_s40 (q : te (o0 :: o1 :: o2 :: o3 :: o4 :: o5 :: o6 :: o7 :: o8 :: o9 :: o10 :: o11 :: o12 :: o13 :: o14 :: o15 :: o16 :: o17 :: o18 :: o19 :: o20 :: o21 :: o22 :: o23 :: o24 :: o25 :: o26 :: o27 :: o28 :: o29 :: o30 :: o31 :: o32 :: o33 :: o34 :: o35 :: o36 :: o37 :: o38 :: o39 :: o40 :: s) H fun x H1 => D.nx (o0 :: o1 :: o2 :: o3 :: o4 :: o5 :: o6 :: o7 :: o8 :: o9 :: o10 :: o11 :: o12 :: o13 :: o14 :: o15 :: o16 :: o17 :: o18 :: o19 :: o20 :: o21 :: o22 :: o23 :: o24 :: o25 :: o26 :: o27 :: o28 :: o29 :: o30 :: o31 :: o32 :: o33 :: o34 :: o35 :: o36 :: o37 :: o38 :: o39 :: some x :: s) H1) : tAsg te (gName 40) D (o0 :: o1 :: o2 :: o3 :: o4 :: o5 :: o6 :: o7 :: o8 :: o9 :: o10 :: o11 :: o12 :: o13 :: o14 :: o15 :: o16 :: o17 :: o18 :: o19 :: o20 :: o21 :: o22 :: o23 :: o24 :: o25 :: o26 :: o27 :: o28 :: o29 :: o30 :: o31 :: o32 :: o33 :: o34 :: o35 :: o36 :: o37 :: o38 :: o39 :: o40 :: s) H := q
theorem k_g40 (q : R (o0 :: o1 :: o2 :: o3 :: o4 :: o5 :: o6 :: o7 :: o8 :: o9 :: o10 :: o11 :: o12 :: o13 :: o14 :: o15 :: o16 :: o17 :: o18 :: o19 :: o20 :: o21 :: o22 :: o23 :: o24 :: o25 :: o26 :: o27 :: o28 :: o29 :: o30 :: o31 :: o32 :: o33 :: o34 :: o35 :: o36 :: o37 :: o38 :: o39 :: some x :: s) H) : gName 40 x (o0 :: o1 :: o2 :: o3 :: o4 :: o5 :: o6 :: o7 :: o8 :: o9 :: o10 :: o11 :: o12 :: o13 :: o14 :: o15 :: o16 :: o17 :: o18 :: o19 :: o20 :: o21 :: o22 :: o23 :: o24 :: o25 :: o26 :: o27 :: o28 :: o29 :: o30 :: o31 :: o32 :: o33 :: o34 :: o35 :: o36 :: o37 :: o38 :: o39 :: o40 :: s) H R := q
theorem k_v41 (q : Q v H) : tVar 41 (o0 :: o1 :: o2 :: o3 :: o4 :: o5 :: o6 :: o7 :: o8 :: o9 :: o10 :: o11 :: o12 :: o13 :: o14 :: o15 :: o16 :: o17 :: o18 :: o19 :: o20 :: o21 :: o22 :: o23 :: o24 :: o25 :: o26 :: o27 :: o28 :: o29 :: o30 :: o31 :: o32 :: o33 :: o34 :: o35 :: o36 :: o37 :: o38 :: o39 :: o40 :: some v :: s) H Q := ⟨v, rfl, q⟩
theorem k_s41 (q : te (o0 :: o1 :: o2 :: o3 :: o4 :: o5 :: o6 :: o7 :: o8 :: o9 :: o10 :: o11 :: o12 :: o13 :: o14 :: o15 :: o16 :: o17 :: o18 :: o19 :: o20 :: o21 :: o22 :: o23 :: o24 :: o25 :: o26 :: o27 :: o28 :: o29 :: o30 :: o31 :: o32 :: o33 :: o34 :: o35 :: o36 :: o37 :: o38 :: o39 :: o40 :: o41 :: s) H fun x H1 => D.nx (o0 :: o1 :: o2 :: o3 :: o4 :: o5 :: o6 :: o7 :: o8 :: o9 :: o10 :: o11 :: o12 :: o13 :: o14 :: o15 :: o16 :: o17 :: o18 :: o19 :: o20 :: o21 :: o22 :: o23 :: o24 :: o25 :: o26 :: o27 :: o28 :: o29 :: o30 :: o31 :: o32 :: o33 :: o34 :: o35 :: o36 :: o37 :: o38 :: o39 :: o40 :: some x :: s) H1) : tAsg te (gName 41) D (o0 :: o1 :: o2 :: o3 :: o4 :: o5 :: o6 :: o7 :: o8 :: o9 :: o10 :: o11 :: o12 :: o13 :: o14 :: o15 :: o16 :: o17 :: o18 :: o19 :: o20 :: o21 :: o22 :: o23 :: o24 :: o25 :: o26 :: o27 :: o28 :: o29 :: o30 :: o31 :: o32 :: o33 :: o34 :: o35 :: o36 :: o37 :: o38 :: o39 :: o40 :: o41 :: s) H := q
theorem k_g41 (q : R (o0 :: o1 :: o2 :: o3 :: o4 :: o5 :: o6 :: o7 :: o8 :: o9 :: o10 :: o11 :: o12 :: o13 :: o14 :: o15 :: o16 :: o17 :: o18 :: o19 :: o20 :: o21 :: o22 :: o23 :: o24 :: o25 :: o26 :: o27 :: o28 :: o29 :: o30 :: o31 :: o32 :: o33 :: o34 :: o35 :: o36 :: o37 :: o38 :: o39 :: o40 :: some x :: s) H) : gName 41 x (o0 :: o1 :: o2 :: o3 :: o4 :: o5 :: o6 :: o7 :: o8 :: o9 :: o10 :: o11 :: o12 :: o13 :: o14 :: o15 :: o16 :: o17 :: o18 :: o19 :: o20 :: o21 :: o22 :: o23 :: o24 :: o25 :: o26 :: o27 :: o28 :: o29 :: o30 :: o31 :: o32 :: o33 :: o34 :: o35 :: o36 :: o37 :: o38 :: o39 :: o40 :: o41 :: s) H R := q
theorem k_v42 (q : Q v H) : tVar 42 (o0 :: o1 :: o2 :: o3 :: o4 :: o5 :: o6 :: o7 :: o8 :: o9 :: o10 :: o11 :: o12 :: o13 :: o14 :: o15 :: o16 :: o17 :: o18 :: o19 :: o20 :: o21 :: o22 :: o23 :: o24 :: o25 :: o26 :: o27 :: o28 :: o29 :: o30 :: o31 :: o32 :: o33 :: o34 :: o35 :: o36 :: o37 :: o38 :: o39 :: o40 :: o41 :: some v :: s) H Q := ⟨v, rfl, q⟩
theorem k_s42 (q : te (o0 :: o1 :: o2 :: o3 :: o4 :: o5 :: o6 :: o7 :: o8 :: o9 :: o10 :: o11 :: o12 :: o13 :: o14 :: o15 :: o16 :: o17 :: o18 :: o19 :: o20 :: o21 :: o22 :: o23 :: o24 :: o25 :: o26 :: o27 :: o28 :: o29 :: o30 :: o31 :: o32 :: o33 :: o34 :: o35 :: o36 :: o37 :: o38 :: o39 :: o40 :: o41 :: o42 :: s) H fun x H1 => D.nx (o0 :: o1 :: o2 :: o3 :: o4 :: o5 :: o6 :: o7 :: o8 :: o9 :: o10 :: o11 :: o12 :: o13 :: o14 :: o15 :: o16 :: o17 :: o18 :: o19 :: o20 :: o21 :: o22 :: o23 :: o24 :: o25 :: o26 :: o27 :: o28 :: o29 :: o30 :: o31 :: o32 :: o33 :: o34 :: o35 :: o36 :: o37 :: o38 :: o39 :: o40 :: o41 :: some x :: s) H1) : tAsg te (gName 42) D (o0 :: o1 :: o2 :: o3 :: o4 :: o5 :: o6 :: o7 :: o8 :: o9 :: o10 :: o11 :: o12 :: o13 :: o14 :: o15 :: o16 :: o17 :: o18 :: o19 :: o20 :: o21 :: o22 :: o23 :: o24 :: o25 :: o26 :: o27 :: o28 :: o29 :: o30 :: o31 :: o32 :: o33 :: o34 :: o35 :: o36 :: o37 :: o38 :: o39 :: o40 :: o41 :: o42 :: s) H := q
theorem k_g42 (q : R (o0 :: o1 :: o2 :: o3 :: o4 :: o5 :: o6 :: o7 :: o8 :: o9 :: o10 :: o11 :: o12 :: o13 :: o14 :: o15 :: o16 :: o17 :: o18 :: o19 :: o20 :: o21 :: o22 :: o23 :: o24 :: o25 :: o26 :: o27 :: o28 :: o29 :: o30 :: o31 :: o32 :: o33 :: o34 :: o35 :: o36 :: o37 :: o38 :: o39 :: o40 :: o41 :: some x :: s) H) : gName 42 x (o0 :: o1 :: o2 :: o3 :: o4 :: o5 :: o6 :: o7 :: o8 :: o9 :: o10 :: o11 :: o12 :: o13 :: o14 :: o15 :: o16 :: o17 :: o18 :: o19 :: o20 :: o21 :: o22 :: o23 :: o24 :: o25 :: o26 :: o27 :: o28 :: o29 :: o30 :: o31 :: o32 :: o33 :: o34 :: o35 :: o36 :: o37 :: o38 :: o39 :: o40 :: o41 :: o42 :: s) H R := q
theorem k_v43 (q : Q v H) : tVar 43 (o0 :: o1 :: o2 :: o3 :: o4 :: o5 :: o6 :: o7 :: o8 :: o9 :: o10 :: o11 :: o12 :: o13 :: o14 :: o15 :: o16 :: o17 :: o18 :: o19 :: o20 :: o21 :: o22 :: o23 :: o24 :: o25 :: o26 :: o27 :: o28 :: o29 :: o30 :: o31 :: o32 :: o33 :: o34 :: o35 :: o36 :: o37 :: o38 :: o39 :: o40 :: o41 :: o42 :: some v :: s) H Q := ⟨v, rfl, q⟩
theorem k_s43 (q : te (o0 :: o1 :: o2 :: o3 :: o4 :: o5 :: o6 :: o7 :: o8 :: o9 :: o10 :: o11 :: o12 :: o13 :: o14 :: o15 :: o16 :: o17 :: o18 :: o19 :: o20 :: o21 :: o22 :: o23 :: o24 :: o25 :: o26 :: o27 :: o28 :: o29 :: o30 :: o31 :: o32 :: o33 :: o34 :: o35 :: o36 :: o37 :: o38 :: o39 :: o40 :: o41 :: o42 :: o43 :: s) H fun x H1 => D.nx (o0 :: o1 :: o2 :: o3 :: o4 :: o5 :: o6 :: o7 :: o8 :: o9 :: o10 :: o11 :: o12 :: o13 :: o14 :: o15 :: o16 :: o17 :: o18 :: o19 :: o20 :: o21 :: o22 :: o23 :: o24 :: o25 :: o26 :: o27 :: o28 :: o29 :: o30 :: o31 :: o32 :: o33 :: o34 :: o35 :: o36 :: o37 :: o38 :: o39 :: o40 :: o41 :: o42 :: some x :: s) H1) : tAsg te (gName 43) D (o0 :: o1 :: o2 :: o3 :: o4 :: o5 :: o6 :: o7 :: o8 :: o9 :: o10 :: o11 :: o12 :: o13 :: o14 :: o15 :: o16 :: o17 :: o18 :: o19 :: o20 :: o21 :: o22 :: o23 :: o24 :: o25 :: o26 :: o27 :: o28 :: o29 :: o30 :: o31 :: o32 :: o33 :: o34 :: o35 :: o36 :: o37 :: o38 :: o39 :: o40 :: o41 :: o42 :: o43 :: s) H := q
theorem k_g43 (q : R (o0 :: o1 :: o2 :: o3 :: o4 :: o5 :: o6 :: o7 :: o8 :: o9 :: o10 :: o11 :: o12 :: o13 :: o14 :: o15 :: o16 :: o17 :: o18 :: o19 :: o20 :: o21 :: o22 :: o23 :: o24 :: o25 :: o26 :: o27 :: o28 :: o29 :: o30 :: o31 :: o32 :: o33 :: o34 :: o35 :: o36 :: o37 :: o38 :: o39 :: o40 :: o41 :: o42 :: some x :: s) H) : gName 43 x (o0 :: o1 :: o2 :: o3 :: o4 :: o5 :: o6 :: o7 :: o8 :: o9 :: o10 :: o11 :: o12 :: o13 :: o14 :: o15 :: o16 :: o17 :: o18 :: o19 :: o20 :: o21 :: o22 :: o23 :: o24 :: o25 :: o26 :: o27 :: o28 :: o29 :: o30 :: o31 :: o32 :: o33 :: o34 :: o35 :: o36 :: o37 :: o38 :: o39 :: o40 :: o41 :: o42 :: o43 :: s) H R := q
end
end Ls
namespace Ls
open PySem PySem.Spec PyProof.Rows L2
def dd (c : Addr) (n r s : Int) : List (Key × V) := [(.inr ("cells" : Str), .ref c), (.inr ("at" : Str), .int n), (.inr ("rest" : Str), .int r), (.inr ("seed" : Str), .int s)]
theorem kne {a b : Str} (h : ¬ a = b) : ¬ (Sum.inr a : Key) = Sum.inr b := fun e => h (Sum.inr.inj e)
theorem n_ca : ¬ ("cells" : Str) = "at" := by decide +kernel
theorem n_cr : ¬ ("cells" : Str) = "rest" := by decide +kernel
theorem n_cs : ¬ ("cells" : Str) = "seed" := by decide +kernel
theorem n_ar : ¬ ("at" : Str) = "rest" := by decide +kernel
theorem n_as : ¬ ("at" : Str) = "seed" := by decide +kernel
theorem n_rs : ¬ ("rest" : Str) = "seed" := by decide +kernel
section
variable {c : Addr} {n r s m : Int}
theorem dd_cells : valV (dd c n r s) (.inr ("cells" : Str)) = some (.ref c) := valV_pos rfl
theorem dd_at : valV (dd c n r s) (.inr ("at" : Str)) = some (.int n) := (valV_neg (kne n_ca)).trans (valV_pos rfl)
theorem dd_rest : valV (dd c n r s) (.inr ("rest" : Str)) = some (.int r) := (valV_neg (kne n_cr)).trans ((valV_neg (kne n_ar)).trans (valV_pos rfl))
theorem dd_seed : valV (dd c n r s) (.inr ("seed" : Str)) = some (.int s) := (valV_neg (kne n_cs)).trans ((valV_neg (kne n_as)).trans ((valV_neg (kne n_rs)).trans (valV_pos rfl)))
theorem dd_len : (dd c n r s).length < sizeLine := by show 4 < sizeLine; decide
theorem put_of {kvs : List (Key × V)} {k : Key} {v w : V} (h : valV kvs k = some w) : putK kvs k v = kvs.map (fun kv => if kv.1 = k then (kv.1, v) else kv) := by
  unfold putK
  rw [valV_any, h]
  rfl
theorem dd_put_at : putK (dd c n r s) (.inr ("at" : Str)) (.int m) = dd c m r s := by
  rw [put_of dd_at]
  simp only [dd, List.map_cons, List.map_nil, if_neg (kne n_ca), if_neg (kne (fun e => n_ar e.symm)), if_neg (kne (fun e => n_as e.symm)), if_true]
theorem dd_put_rest : putK (dd c n r s) (.inr ("rest" : Str)) (.int m) = dd c n m s := by
  rw [put_of dd_rest]
  simp only [dd, List.map_cons, List.map_nil, if_neg (kne n_cr), if_neg (kne n_ar), if_neg (kne (fun e => n_rs e.symm)), if_true]
theorem dd_put_seed : putK (dd c n r s) (.inr ("seed" : Str)) (.int m) = dd c n r m := by
  rw [put_of dd_seed]
  simp only [dd, List.map_cons, List.map_nil, if_neg (kne n_cs), if_neg (kne n_as), if_neg (kne n_rs), if_true]
end
/-- the draws' dict: any state of it -/
def Draw (K : PySem.W.Frag) (H : Hp) (d c : Addr) : Prop := ∃ (n r s : Int) (ns : List Int), H d = some (.dK (dd c n r s)) ∧ H c = some (.lst (ns.map V.int)) ∧ 0 ≤ n ∧ 0 ≤ r ∧ 0 ≤ s ∧ s < 2305843009213693951
theorem Draw.keeps {K : PySem.W.Frag} {H H' : Hp} {d c : Addr} (h : Draw K H d c) (k : Same H H') : Draw K H' d c := by
  obtain ⟨n, r, s, ns, h1, h2, h3⟩ := h
  exact ⟨n, r, s, ns, k _ _ h1, k _ _ h2, h3⟩
theorem Draw.is {K : PySem.W.Frag} {H : Hp} {d c : Addr} (h : Draw K H d c) : ∃ kvs, H d = some (.dK kvs) := by
  obtain ⟨n, r, s, ns, h1, _⟩ := h
  exact ⟨_, h1⟩
theorem Draw.ne {K : PySem.W.Frag} {H : Hp} {d c a : Addr} {o : HO} (h : Draw K H d c) (e : H a = some o) (n : ∀ kvs, o ≠ .dK kvs) : a ≠ d := by
  obtain ⟨kvs, h1⟩ := h.is
  exact ne_of e h1 (n kvs)
theorem Draw.free {K : PySem.W.Frag} {H : Hp} {d c p : Addr} (h : Draw K H d c) (e : H p = none) : p ≠ d := by
  obtain ⟨kvs, h1⟩ := h.is
  exact fun z => by
    rw [z, h1] at e
    cases e
theorem Draw.tp {K : PySem.W.Frag} {H H' : Hp} {d c : Addr} (h : Draw K H d c) (k : Keep d H H') : Tp K H H' := by
  obtain ⟨kvs, h1⟩ := h.is
  exact keep_tp k h1 rfl
theorem Draw.sql {K : PySem.W.Frag} {H H' : Hp} {d c a : Addr} {xs : List V} (h : Draw K H d c) (k : Keep d H H') (q : SqL K H a xs) : SqL K H' a xs := by
  obtain ⟨kvs, h1⟩ := h.is
  exact sql_keep k h1 q
/-- a write to a list that the draws do not hold -/
theorem Draw.new {K : PySem.W.Frag} {H : Hp} {d c p : Addr} {o : HO} (h : Draw K H d c) (e : H p = none) : Draw K (upd H p o) d c := h.keeps (same_new e)
def spBegin (K : PySem.W.Frag) : Sp := fun vs H Q _ => ∃ (a : Addr) (ns : List Int), vs = [.ref a] ∧ SqL K H a (ns.map V.int) ∧ ns.length ≤ 63 ∧ ∀ d c H', H d = none → H c = none → Same H H' → Draw K H' d c → Q (.ref d) H'
def spPick (K : PySem.W.Frag) : Sp := fun vs H Q _ => ∃ (d c : Addr) (many : Int), vs = [.ref d, .int many] ∧ Draw K H d c ∧ 0 < many ∧ many < 2 ^ 200 ∧ ∀ r H', Keep d H H' → Draw K H' d c → 0 ≤ r → r < many → Q (.int r) H'
theorem use_pick {K : PySem.W.Frag} {d c : Addr} {many : Int} {H : Hp} {Q : VK} {E : XK} (hD : Draw K H d c) (h1 : 0 < many) (h2 : many < 2 ^ 200) (q : ∀ r H', Keep d H H' → Draw K H' d c → 0 ≤ r → r < many → Q (.int r) H') : spPick K ([.ref d, .int many] ++ []) H Q E := ⟨d, c, many, rfl, hD, h1, h2, q⟩
end Ls
namespace Ls
open PySem PySem.Spec PyProof.Rows L2
/-- data of at most this depth, its lists not too long -/
def OkD : Nat → PyData → Prop
  | _, .none => True
  | _, .bool _ => True
  | _, .int _ => True
  | _, .str x => PyData.strOk x = true
  | n + 1, .list xs => xs.length ≤ 100000 ∧ ∀ d ∈ xs, OkD n d
  | n + 1, .tuple xs => xs.length ≤ 100000 ∧ ∀ d ∈ xs, OkD n d
  | _, _ => False
theorem OkD.mono : ∀ {n m : Nat} {d : PyData}, n ≤ m → OkD n d → OkD m d
  | n, m, .none, _, _ => by cases m <;> trivial
  | n, m, .bool _, _, _ => by cases m <;> trivial
  | n, m, .int _, _, _ => by cases m <;> trivial
  | n, m, .str x, _, h => by cases n <;> cases m <;> exact h
  | n + 1, m + 1, .list xs, hl, h => ⟨h.1, fun d hd => OkD.mono (Nat.le_of_succ_le_succ hl) (h.2 d hd)⟩
  | n + 1, m + 1, .tuple xs, hl, h => ⟨h.1, fun d hd => OkD.mono (Nat.le_of_succ_le_succ hl) (h.2 d hd)⟩
  | 0, _, .list _, _, h => (show False from h).elim
  | 0, _, .tuple _, _, h => (show False from h).elim
  | n + 1, 0, .list _, hl, _ => absurd hl (by omega)
  | n + 1, 0, .tuple _, hl, _ => absurd hl (by omega)
  | n, m, .dict _, _, h => by cases n <;> exact (show False from h).elim
theorem kt_bool_bool : kitB "bool" "bool" = some true := by decide +kernel
theorem kt_int_bool : kitB "int" "bool" = some false := by decide +kernel
theorem kt_int_int : kitB "int" "int" = some true := by decide +kernel
theorem kt_int_str : kitB "int" "str" = some false := by decide +kernel
theorem kt_str_bool : kitB "str" "bool" = some false := by decide +kernel
theorem kt_str_int : kitB "str" "int" = some false := by decide +kernel
theorem kt_str_str : kitB "str" "str" = some true := by decide +kernel
theorem kt_list_bool : kitB "list" "bool" = some false := by decide +kernel
theorem kt_list_int : kitB "list" "int" = some false := by decide +kernel
theorem kt_list_str : kitB "list" "str" = some false := by decide +kernel
theorem kt_list_list : kitB "list" "list" = some true := by decide +kernel
theorem kt_list_tuple : kitB "list" "tuple" = some false := by decide +kernel
theorem kt_tuple_bool : kitB "tuple" "bool" = some false := by decide +kernel
theorem kt_tuple_int : kitB "tuple" "int" = some false := by decide +kernel
theorem kt_tuple_str : kitB "tuple" "str" = some false := by decide +kernel
theorem kt_tuple_list : kitB "tuple" "list" = some false := by decide +kernel
theorem kt_tuple_tuple : kitB "tuple" "tuple" = some true := by decide +kernel
/-- a datum's type -/
def tyn : PyData → String
  | .none => "NoneType"
  | .bool _ => "bool"
  | .int _ => "int"
  | .str _ => "str"
  | .list _ => "list"
  | .tuple _ => "tuple"
  | .dict _ => "dict"
section
variable {K : PySem.W.Frag} {H H' : Hp} {Q : VK} {x : V} {d : PyData} {b : Bool}
theorem sql_ty {a : Addr} {xs : List V} (h : SqL K H a xs) : TyX K H (.ref a) (.type "list") := by
  rcases h with (h | ⟨o, h⟩) | ⟨o, its, n, h1, h2, _⟩
  · exact .base (.lst h)
  · exact .base (.frz h)
  · exact .kList h1 h2
theorem sqt_ty {a : Addr} {xs : List V} (h : SqT K H a xs) : TyX K H (.ref a) (.type "tuple") := by
  rcases h with (h | ⟨o, h⟩) | ⟨o, its, n, h1, h2, _⟩
  · exact .base (.tup h)
  · exact .fTuple h
  · exact .kTuple h1 h2
theorem dp_ty (h : Dp K H x d) : TyX K H x (.type (tyn d)) := by
  cases h with
  | non => exact .base .non
  | bl b => exact .base (.bl b)
  | int i => exact .base (.int i)
  | str x => exact .base (.str x)
  | lst h _ => exact sql_ty h
  | tup h _ => exact sqt_ty h
theorem k_isi {T U : String} (h : Dp K H x d) (e0 : tyn d = U) (e : kitB U T = some b) (q : Q (.bl b) H) : rIsi K [x, .ty T] H Q := ⟨x, .ty T, _, _, b, rfl, .ty T, dp_ty h, kit_ty (by rw [e0]; exact e), q⟩
theorem k_isi2 {T U W : String} {b1 b2 b : Bool} {tp : Addr} (h : Dp K H x d) (ht : H tp = some (.tup [.ty T, .ty U])) (e0 : tyn d = W) (e1 : kitB W T = some b1) (e2 : kitB W U = some b2) (eb : (b1 || b2) = b) (q : Q (.bl b) H) : rIsiT K [x, .ref tp] H Q :=
  ⟨x, tp, _, _, [.type T, .type U], b1 || b2, rfl, ht, .cons (.ty T) (.cons (.ty U) .nil), dp_ty h, by
    subst e0
    refine kitAny_cons (kit_ty e1) (fun h1 => ?_) fun h1 => by rw [h1]; rfl
    rw [h1, Bool.false_or]
    refine kitAny_cons (kit_ty e2) (fun h2 => by rw [h2]; rfl) fun h2 => h2, by rw [eb]; exact q⟩
theorem k_all {a : Addr} {bs : List Bool} (h : SqL K H a (bs.map V.bl)) (q : Q (.bl (bs.all id)) H) : rAll K [.ref a] H Q := ⟨a, bs, rfl, h, q⟩
theorem k_lc {wi : TI} {g : TG} {tt : TT} {te : TE} {vs : List Nat} {σ : L2.St} (h : wi σ H fun J H1 => ∀ D, H1 D = none → ∃ W : Nat → Nat → Hp → Prop, (∃ m, W 0 m (upd H1 D (.lst []))) ∧ ∀ i m H, W i m H →
  (J.stop i H ∧ Q (.ref D) H) ∨ (J.go i H ∧ ∃ Nx : Hp → Prop, (∀ H', Nx H' → ∃ m', m' < m ∧ W (i + 1) m' H') ∧ ∀ x H', J.yld i H x H' → g x (wipe σ vs) H' fun σ2 H2 => wipe σ2 vs = wipe σ vs ∧ tt σ2 H2 fun b H3 =>
    if b = true then te σ2 H3 fun y H4 => ∃ acc, H4 D = some (.lst acc) ∧ acc.length < sizeLine ∧ Nx (upd H4 D (.lst (acc ++ [y]))) else Nx H3)) : tLc wi g tt te vs σ H Q := h
theorem k_lenE {a : Addr} {xs : List V} (h : SqL K H a xs ∨ SqT K H a xs) (q : Q (.int xs.length) H) : rLenU K [.ref a] H Q := .inl ⟨a, xs, rfl, h, q⟩
theorem k_ixE {a : Addr} {xs : List V} {v : V} {i : Int} (h : SqL K H a xs ∨ SqT K H a xs) (h2 : atI xs i = some v) (q : Q v H) : rIx K (.ref a) (.int i) H Q := by
  rcases h with h | h
  · exact k_ixL h h2 q
  · exact k_ixT h h2 q
theorem seq_same {a : Addr} {xs : List V} (e : Same H H') (h : SqL K H a xs ∨ SqT K H a xs) : SqL K H' a xs ∨ SqT K H' a xs := by
  rcases h with h | h
  · exact .inl (e.seq h)
  · exact .inr (sqt_same e h)
theorem dp_same (e : Same H H') : ∀ {x : V} {d : PyData}, Dp K H x d → Dp K H' x d := by
  intro x d h
  induction h using Dp.rec (motive_2 := fun vs ds _ => DpAll K H' vs ds) with
  | non => exact .non
  | bl b => exact .bl b
  | int i => exact .int i
  | str x => exact .str x
  | lst h _ ih => exact .lst (e.seq h) ih
  | tup h _ ih => exact .tup (sqt_same e h) ih
  | nil => exact .nil
  | cons _ _ h1 h2 => exact .cons h1 h2
theorem DpAll.length' : ∀ {vs : List V} {ds : List PyData}, DpAll K H vs ds → vs.length = ds.length
  | _, _, .nil => rfl
  | _, _, .cons _ hs => congrArg Nat.succ (DpAll.length' hs)
theorem DpAll.getD' : ∀ {vs : List V} {ds : List PyData} {i : Nat} {d : PyData}, DpAll K H vs ds → ds[i]? = some d → ∃ v, vs[i]? = some v ∧ Dp K H v d
  | _, _, i, _, .nil, e => by simp at e
  | _, _, 0, _, .cons a _, e => by
    simp at e
    subst e
    exact ⟨_, rfl, a⟩
  | _, _, i + 1, d, .cons _ b, e => by
    obtain ⟨v, h1, h2⟩ := DpAll.getD' (i := i) (d := d) b (by simpa using e)
    exact ⟨v, by simpa using h1, h2⟩
end
def spSame (K : PySem.W.Frag) (n : Nat) : Sp := fun vs H Q _ => ∃ (x y : V) (d : PyData), vs = [x, y] ∧ Dp K H x d ∧ Dp K H y d ∧ OkD n d ∧ ∀ H', Same H H' → Q (.bl true) H'
theorem use_same {K : PySem.W.Frag} {n : Nat} {x y : V} {d : PyData} {H : Hp} {Q : VK} {E : XK} (h1 : Dp K H x d) (h2 : Dp K H y d) (h3 : OkD n d) (q : ∀ H', Same H H' → Q (.bl true) H') : spSame K n ([x, y] ++ []) H Q E := ⟨x, y, d, rfl, h1, h2, h3, q⟩
end Ls
namespace Ls
open PySem PySem.Spec PyProof.Rows L2
section
variable {σ : L2.St} {H : Hp} {Q : VK} {tk tv : TE} {r : List (TE × TE)}
theorem k_disp {trs : List (TE × TE)} (q : ∀ p, H p = none → tPairs trs σ (upd H p (.dK [])) fun ps H2 => H2 p = some (.dK []) ∧ ∃ kvs : List (Key × V), ps = kvs.map (fun kv => (kV kv.1, kv.2)) ∧ kvs.length ≤ 15 ∧ Q (.ref p) (upd H2 p (.dK (mergeK [] kvs)))) : tDisp trs σ H Q := q
theorem k_prs {R : List (V × V) → Hp → Prop} (h : tk σ H fun x H1 => tv σ H1 fun y H2 => tPairs r σ H2 fun ps H3 => R ((x, y) :: ps) H3) : tPairs ((tk, tv) :: r) σ H R := h
theorem k_prn {R : List (V × V) → Hp → Prop} (h : R [] H) : tPairs [] σ H R := h
theorem cut_to {xs : List V} {i : Int} (h : 0 ≤ i) : cutV xs none (some i) = xs.take i.toNat := by
  obtain ⟨k, rfl⟩ := Int.eq_ofNat_of_zero_le h
  show (xs.drop 0).take (HT.sIx xs.length xs.length (some (k : Int)) - 0) = _
  rw [HT.sIx_nat, List.drop_zero, Nat.sub_zero, Int.toNat_natCast]
  by_cases hk : k ≤ xs.length
  · rw [Nat.min_eq_left hk]
  · rw [Nat.min_eq_right (by omega), List.take_of_length_le (Nat.le_refl _), List.take_of_length_le (by omega)]
theorem cut_all {xs : List V} {i : Int} (h : (xs.length : Int) ≤ i) : cutV xs none (some i) = xs := by
  rw [cut_to (by omega), List.take_of_length_le (by omega)]
theorem put_none {kvs : List (Key × V)} {k : Key} {v : V} (h : valV kvs k = none) : putK kvs k v = kvs ++ [(k, v)] := by
  unfold putK
  rw [valV_any, h]
  rfl
theorem dd_merge {c : Addr} {n r s : Int} : mergeK [] (dd c n r s) = dd c n r s := by
  show putK (putK (putK (putK ([] : List (Key × V)) (Sum.inr ("cells" : Str) : Key) (V.ref c)) (Sum.inr ("at" : Str) : Key) (V.int n)) (Sum.inr ("rest" : Str) : Key) (V.int r)) (Sum.inr ("seed" : Str) : Key) (V.int s) = _
  rw [put_none (kvs := []) rfl]
  rw [put_none (kvs := [] ++ _) ((valV_neg (kne n_ca)).trans rfl)]
  rw [put_none (kvs := [] ++ _ ++ _) ((valV_neg (kne n_cr)).trans ((valV_neg (kne n_ar)).trans rfl))]
  rw [put_none (kvs := [] ++ _ ++ _ ++ _) ((valV_neg (kne n_cs)).trans ((valV_neg (kne n_as)).trans ((valV_neg (kne n_rs)).trans rfl)))]
  rfl
end
/-- some element of a list -/
def spOf (K : PySem.W.Frag) : Sp := fun vs H Q _ => ∃ (d c l : Addr) (xs : List V), vs = [.ref d, .ref l] ∧ Draw K H d c ∧ SqL K H l xs ∧ 0 < xs.length ∧ xs.length < 2 ^ 100 ∧ ∀ x H', Keep d H H' → Draw K H' d c → x ∈ xs → Q x H'
theorem use_of {K : PySem.W.Frag} {d c l : Addr} {xs : List V} {H : Hp} {Q : VK} {E : XK} (hD : Draw K H d c) (h : SqL K H l xs) (h1 : 0 < xs.length) (h2 : xs.length < 2 ^ 100) (q : ∀ x H', Keep d H H' → Draw K H' d c → x ∈ xs → Q x H') : spOf K ([.ref d, .ref l] ++ []) H Q E := ⟨d, c, l, xs, rfl, hD, h, h1, h2, q⟩
end Ls
namespace Lm
abbrev Tie := Int × Int × Int
structure S where
  row : Int → Int
  way : Int → Option Tie
  last : Option Int
end Lm
namespace Lm
/-- the tie that pushed a place, when there is one -/
def wy (w : Int → Option Tie) (v : Int) : Tie := (w v).getD (0, 0, 0)
def nx (w : Int → Option Tie) (v : Int) : Int := (wy w v).2.1
def go (w : Int → Option Tie) : Nat → Int → Int
  | 0, v => v
  | k + 1, v => nx w (go w k v)
end Lm
namespace Ls
open PySem PySem.Spec PyProof.Rows L2
abbrev Tie := Lm.Tie
def tieD (t : Tie) : PyData := .tuple [.int t.1, .int t.2.1, .int t.2.2]
/-- a list of ties -/
def TieL (K : PySem.W.Frag) (H : Hp) (vs : List V) (ts : List Tie) : Prop := ImAll K H vs (ts.map tieD)
theorem TieL.mono {K : PySem.W.Frag} {H H' : Hp} {vs : List V} {ts : List Tie} (t : Tp K H H') (h : TieL K H vs ts) : TieL K H' vs ts := ImAll.mono t h
theorem TieL.len {K : PySem.W.Frag} {H : Hp} {vs : List V} {ts : List Tie} (h : TieL K H vs ts) : vs.length = ts.length := by
  have := ImAll.length h
  rwa [List.length_map] at this
theorem TieL.snoc {K : PySem.W.Frag} {H : Hp} {vs : List V} {ts : List Tie} {p : Addr} {a b c : Int} (h : TieL K H vs ts) (hp : SqT K H p [.int a, .int b, .int c]) : TieL K H (vs ++ [.ref p]) (ts ++ [(a, b, c)]) := by
  unfold TieL
  rw [List.map_append]
  exact ImAll.snoc h (.tup hp (.cons (.int a) (.cons (.int b) (.cons (.int c) .nil))))
theorem TieL.app {K : PySem.W.Frag} {H : Hp} {vs us : List V} {ts ss : List Tie} (h : TieL K H vs ts) (h2 : TieL K H us ss) : TieL K H (vs ++ us) (ts ++ ss) := by
  unfold TieL
  rw [List.map_append]
  exact ImAll.app h h2
theorem tie_of {K : PySem.W.Frag} {H : Hp} {v : V} {t : Tie} (h : Im K H v (tieD t)) : ∃ a, v = .ref a ∧ SqT K H a [.int t.1, .int t.2.1, .int t.2.2] := by
  obtain ⟨a, xs, rfl, h1, h2⟩ := im_tup h
  refine ⟨a, rfl, ?_⟩
  cases h2 with
  | cons a1 r1 =>
    cases r1 with
    | cons a2 r2 =>
      cases r2 with
      | cons a3 r3 =>
        cases r3
        cases im_int a1
        cases im_int a2
        cases im_int a3
        exact h1
theorem TieL.get {K : PySem.W.Frag} {H : Hp} {vs : List V} {ts : List Tie} {i : Nat} {v : V} (h : TieL K H vs ts) (e : vs[i]? = some v) : ∃ t a, ts[i]? = some t ∧ v = .ref a ∧ SqT K H a [.int t.1, .int t.2.1, .int t.2.2] := by
  obtain ⟨d, h1, h2⟩ := ImAll.get h e
  rw [List.getElem?_map] at h1
  obtain ⟨t, ht, rfl⟩ := Option.map_eq_some_iff.mp h1
  obtain ⟨a, rfl, h3⟩ := tie_of h2
  exact ⟨t, a, ht, rfl, h3⟩
theorem TieL.take {K : PySem.W.Frag} {H : Hp} {vs : List V} {ts : List Tie} (n : Nat) (h : TieL K H vs ts) : TieL K H (vs.take n) (ts.take n) := by
  unfold TieL
  rw [List.map_take]
  exact ImAll.take n h
theorem TieL.drop {K : PySem.W.Frag} {H : Hp} {vs : List V} {ts : List Tie} (n : Nat) (h : TieL K H vs ts) : TieL K H (vs.drop n) (ts.drop n) := by
  unfold TieL
  rw [List.map_drop]
  exact ImAll.drop n h
end Ls
namespace Ls
open PySem PySem.Spec PyProof.Rows L2
/-- all but the objects at d and e stays -/
def Keep2 (d e : Addr) (H H' : Hp) : Prop := ∀ b o, b ≠ d → b ≠ e → H b = some o → H' b = some o
theorem Keep2.refl {d e : Addr} {H : Hp} : Keep2 d e H H := fun _ _ _ _ h => h
theorem Keep2.trans {d e : Addr} {H H1 H2 : Hp} (a : Keep2 d e H H1) (b : Keep2 d e H1 H2) : Keep2 d e H H2 := fun c o n m h => b c o n m (a c o n m h)
theorem Keep2.same {d e : Addr} {H H' : Hp} (k : Same H H') : Keep2 d e H H' := fun b o _ _ h => k b o h
theorem Keep2.tp {K : PySem.W.Frag} {d e : Addr} {H H' : Hp} {o u : HO} (k : Keep2 d e H H') (h1 : H d = some o) (n1 : NoT o = true) (h2 : H e = some u) (n2 : NoT u = true) : Tp K H H' := fun a xs q => by
  have ne : ∀ z, NoT z = false → H a = some z → a ≠ d := fun z hz e y => by
    rw [y, h1] at e
    cases e
    rw [n1] at hz
    cases hz
  have ne2 : ∀ z, NoT z = false → H a = some z → a ≠ e := fun z hz f y => by
    rw [y, h2] at f
    cases f
    rw [n2] at hz
    cases hz
  rcases q with (q | ⟨z, q⟩) | q
  · exact .inl (.inl (k _ _ (ne _ rfl q) (ne2 _ rfl q) q))
  · exact .inl (.inr ⟨z, k _ _ (ne _ rfl q) (ne2 _ rfl q) q⟩)
  · exact .inr q
theorem Keep2.free {d e p : Addr} {H H' : Hp} {o u : HO} (k : Keep2 d e H H') (hd : H' d = some o) (he : H' e = some u) (h : H' p = none) : H p = none := by
  cases q : H p with
  | none => rfl
  | some z =>
    by_cases a : p = d
    · rw [a, hd] at h; cases h
    · by_cases b : p = e
      · rw [b, he] at h; cases h
      · rw [k p z a b q] at h; cases h
theorem k_dc {wi : TI} {g : TG} {tt : TT} {tk tv : TE} {vs : List Nat} {σ : L2.St} {H : Hp} {Q : VK} (h : wi σ H fun J H1 => ∀ D, H1 D = none → ∃ W : Nat → Nat → Hp → Prop, (∃ m, W 0 m (upd H1 D (.dK []))) ∧ ∀ i m H, W i m H →
  (J.stop i H ∧ Q (.ref D) H) ∨ (J.go i H ∧ ∃ Nx : Hp → Prop, (∀ H', Nx H' → ∃ m', m' < m ∧ W (i + 1) m' H') ∧ ∀ x H', J.yld i H x H' → g x (wipe σ vs) H' fun σ2 H2 => wipe σ2 vs = wipe σ vs ∧ tt σ2 H2 fun b H3 =>
    if b = true then tk σ2 H3 fun y H4 => tv σ2 H4 fun z H5 => ∃ kvs k, y = kV k ∧ H5 D = some (.dK kvs) ∧ kvs.length < sizeLine ∧ Nx (upd H5 D (.dK (putK kvs k z))) else Nx H3)) : tDc wi g tt tk tv vs σ H Q := h
/-- the ties that pushed places, in a dict -/
def WayK (K : PySem.W.Frag) (H : Hp) (kvs : List (Key × V)) (w : Int → Option Tie) : Prop := ∀ p, (w p = none → valV kvs (.inl p) = none) ∧ ∀ t, w p = some t → ∃ a, valV kvs (.inl p) = some (.ref a) ∧ SqT K H a [.int t.1, .int t.2.1, .int t.2.2]
theorem WayK.mono {K : PySem.W.Frag} {H H' : Hp} {kvs : List (Key × V)} {w : Int → Option Tie} (h : WayK K H kvs w) (t : Tp K H H') : WayK K H' kvs w := fun p => ⟨(h p).1, fun u hu => by
  obtain ⟨a, h1, h2⟩ := (h p).2 u hu
  exact ⟨a, h1, t _ _ h2⟩⟩
/-- nothing pushed yet -/
def s0 : Lm.S := ⟨fun _ => 0, fun _ => none, none⟩
end Ls
namespace Ls
open PySem PySem.Spec PyProof.Rows L2
end Ls
namespace Ls
open PySem PySem.Spec PyProof.Rows L2
/-- an object that is no tuple -/
def Nt : HO → Bool
  | .tup _ => false
  | .frz _ _ => false
  | .ext _ => false
  | _ => true
/-- .. nor a table: what may be frozen -/
def Fr : HO → Bool
  | .tbl _ => false
  | o => Nt o
theorem fr_nt {o : HO} (h : Fr o = true) : Nt o = true := by
  cases o <;> first | exact h | rfl
/-- tuples stay, and what is told of from outside -/
def Tq (K : PySem.W.Frag) (H H' : Hp) : Prop := Tp K H H' ∧ ∀ a f, H a = some (.ext f) → H' a = some (.ext f)
theorem Tq.refl {K : PySem.W.Frag} {H : Hp} : Tq K H H := ⟨Tp.refl, fun _ _ h => h⟩
theorem Tq.same {K : PySem.W.Frag} {H H' : Hp} (e : Same H H') : Tq K H H' := ⟨Tp.same e, fun _ _ h => e _ _ h⟩
theorem Tq.new {K : PySem.W.Frag} {H : Hp} {p : Addr} {o : HO} (h : H p = none) : Tq K H (upd H p o) := Tq.same (same_new h)
theorem nt_tp {K : PySem.W.Frag} {H H' : Hp} (h : ∀ a o, H a = some o → Nt o = false → H' a = some o) : Tq K H H' := ⟨fun a xs q => by
  rcases q with (q | ⟨u, q⟩) | q
  · exact .inl (.inl (h _ _ q rfl))
  · exact .inl (.inr ⟨u, h _ _ q rfl⟩)
  · exact .inr q, fun a f e => h a _ e rfl⟩
theorem tp_upd {K : PySem.W.Frag} {H : Hp} {a : Addr} {o u : HO} (h : H a = some o) (n : Nt o = true) : Tq K H (upd H a u) := nt_tp fun b x e nb => by
  have : b ≠ a := fun z => by
    rw [z, h] at e
    cases e
    rw [n] at nb
    cases nb
  rw [upd_ne this]
  exact e
/-- what is frozen: it stands, and never changes -/
abbrev Fz := Addr → HO → Prop
structure As (K : PySem.W.Frag) where
  ok : Fz → (Addr → Prop) → Hp → Prop
  st : ∀ {W : Fz} {s : Addr → Prop} {H H' : Hp}, ok W s H → (∀ a, s a → H' a = H a) → Tq K H H' → ok W s H'
  al : ∀ {W : Fz} {s : Addr → Prop} {H : Hp}, ok W s H → ∀ a, s a → ∃ o, H a = some o ∧ Nt o = true
  mo : ∀ {W W' : Fz} {s : Addr → Prop} {H : Hp}, ok W s H → (∀ a o, W a o → W' a o) → ok W' s H
section
variable {K : PySem.W.Frag} {A B C : As K} {L L' M : List (As K)} {s t r : Addr → Prop} {H H' : Hp} {W W' : Fz}
def Hld (W : Fz) : List (As K) → (Addr → Prop) → Hp → Prop
  | [], s, _ => ∀ a, ¬ s a
  | A :: L, s, H => ∃ s1 s2, (∀ a, s1 a → s2 a → False) ∧ (∀ a, s a ↔ s1 a ∨ s2 a) ∧ A.ok W s1 H ∧ Hld W L s2 H
theorem Hld.st : ∀ {L : List (As K)} {s : Addr → Prop}, Hld W L s H → (∀ a, s a → H' a = H a) → Tq K H H' → Hld W L s H'
  | [], _, h, _, _ => h
  | _ :: _, _, ⟨s1, s2, d, u, h1, h2⟩, e, t => ⟨s1, s2, d, u, As.st _ h1 (fun a z => e a ((u a).mpr (.inl z))) t, Hld.st h2 (fun a z => e a ((u a).mpr (.inr z))) t⟩
theorem Hld.al : ∀ {L : List (As K)} {s : Addr → Prop}, Hld W L s H → ∀ a, s a → ∃ o, H a = some o ∧ Nt o = true
  | [], _, h, a, z => (h a z).elim
  | _ :: _, _, ⟨s1, s2, d, u, h1, h2⟩, a, z => ((u a).mp z).elim (As.al _ h1 a) (Hld.al h2 a)
theorem Hld.mo (k : ∀ a o, W a o → W' a o) : ∀ {L : List (As K)} {s : Addr → Prop}, Hld W L s H → Hld W' L s H
  | [], _, h => h
  | _ :: _, _, ⟨s1, s2, d, u, h1, h2⟩ => ⟨s1, s2, d, u, As.mo _ h1 k, Hld.mo k h2⟩
theorem Hld.cg (h : Hld W L s H) (e : ∀ a, s a ↔ t a) : Hld W L t H := by
  have : s = t := funext fun a => propext (e a)
  exact this ▸ h
theorem Hld.swap (h : Hld W (A :: B :: L) s H) : Hld W (B :: A :: L) s H := by
  obtain ⟨s1, s2, d, u, h1, t1, t2, d2, u2, h2, h3⟩ := h
  refine ⟨t1, fun a => s1 a ∨ t2 a, fun a x y => ?_, fun a => ?_, h2, s1, t2, fun a x y => d a x ((u2 a).mpr (.inr y)), fun a => Iff.rfl, h1, h3⟩
  · rcases y with y | y
    · exact d a y ((u2 a).mpr (.inl x))
    · exact d2 a x y
  · rw [u a, u2 a]
    constructor
    · rintro (x | x | x)
      · exact .inr (.inl x)
      · exact .inl x
      · exact .inr (.inr x)
    · rintro (x | x | x)
      · exact .inr (.inl x)
      · exact .inl x
      · exact .inr (.inr x)
/-- the frozen ones stand apart from what is owned -/
def FzOk (W : Fz) (s : Addr → Prop) (H : Hp) : Prop := ∀ a o, W a o → H a = some o ∧ Fr o = true ∧ ¬ s a
/-- the assertions of a list hold, each of addresses of its own -/
def Sep (L : List (As K)) (H : Hp) : Prop := ∃ W s, FzOk W s H ∧ Hld W L s H
theorem Hld.perm (p : L.Perm L') : ∀ {s : Addr → Prop}, Hld W L s H → Hld W L' s H := by
  induction p with
  | nil => exact id
  | cons x _ ih =>
    rintro s ⟨s1, s2, d, u, h1, h2⟩
    exact ⟨s1, s2, d, u, h1, ih h2⟩
  | swap x y l => exact fun h => h.swap
  | trans _ _ a b => exact fun h => b (a h)
theorem Sep.perm (h : Sep L H) (p : L.Perm L') : Sep L' H := by
  obtain ⟨W, s, f, h⟩ := h
  exact ⟨W, s, f, h.perm p⟩
theorem FzOk.less (f : FzOk W s H) (k : ∀ a, t a → s a) : FzOk W t H := fun a o h => ⟨(f a o h).1, (f a o h).2.1, fun z => (f a o h).2.2 (k a z)⟩
theorem Sep.tail (h : Sep (A :: L) H) : Sep L H := by
  obtain ⟨W, s, f, s1, s2, d, u, h1, h2⟩ := h
  exact ⟨W, s2, f.less fun a z => (u a).mpr (.inr z), h2⟩
theorem Sep.nil : Sep ([] : List (As K)) H := ⟨fun _ _ => False, fun _ => False, fun _ _ z => z.elim, fun _ z => z⟩
theorem Sep.same (h : Sep L H) (e : Same H H') : Sep L H' := by
  obtain ⟨W, s, f, h⟩ := h
  refine ⟨W, s, fun a o z => ⟨e _ _ (f a o z).1, (f a o z).2⟩, h.st (fun a z => ?_) (Tq.same e)⟩
  obtain ⟨o, ho, _⟩ := h.al a z
  rw [e _ _ ho, ho]
/-- the first one, and what it takes to put another in its place -/
theorem Sep.hd (h : Sep (A :: L) H) : ∃ (W : Fz) (s r : Addr → Prop), A.ok W s H ∧ (∀ a, s a → r a → False) ∧ (∀ a, r a → ∃ o, H a = some o ∧ Nt o = true) ∧
    ∀ {B : As K} {s' : Addr → Prop} {H' : Hp}, B.ok W s' H' → (∀ a, s' a → r a → False) → (∀ a, r a → H' a = H a) → Tq K H H' → Sep (B :: L) H' := by
  obtain ⟨W, s, f, s1, s2, d, u, h1, h2⟩ := h
  refine ⟨W, s1, fun a => s2 a ∨ ∃ o, W a o, h1, fun a x y => ?_, fun a y => ?_, fun {B s' H'} hB dj e t => ⟨W, fun a => s' a ∨ s2 a, fun a o z => ⟨?_, (f a o z).2.1, fun y => ?_⟩, s', s2, fun a x y => dj a x (.inl y), fun a => Iff.rfl, hB, h2.st (fun a z => e a (.inl z)) t⟩⟩
  · rcases y with y | ⟨o, y⟩
    · exact d a x y
    · exact (f a o y).2.2 ((u a).mpr (.inl x))
  · rcases y with y | ⟨o, y⟩
    · exact h2.al a y
    · exact ⟨o, (f a o y).1, fr_nt (f a o y).2.1⟩
  · rw [e a (.inr ⟨o, z⟩)]
    exact (f a o z).1
  · rcases y with y | y
    · exact dj a y (.inr ⟨o, z⟩)
    · exact (f a o z).2.2 ((u a).mpr (.inr y))
inductive Rep : List (As K) → As K → As K → List (As K) → Prop
  | here {A B : As K} {L} : Rep (A :: L) A B (B :: L)
  | there {A B C : As K} {L M} : Rep L A B M → Rep (C :: L) A B (C :: M)
inductive Rem : List (As K) → As K → List (As K) → Prop
  | here {A : As K} {L} : Rem (A :: L) A L
  | there {A C : As K} {L M} : Rem L A M → Rem (C :: L) A (C :: M)
theorem Rem.perm (r : Rem L A M) : L.Perm (A :: M) := by
  induction r with
  | here => exact .refl _
  | there _ ih => exact (List.Perm.cons _ ih).trans (.swap _ _ _)
theorem Rep.rem (r : Rep L A B M) : ∃ N, L.Perm (A :: N) ∧ M.Perm (B :: N) := by
  induction r with
  | here => exact ⟨_, .refl _, .refl _⟩
  | there _ ih =>
    obtain ⟨N, h1, h2⟩ := ih
    exact ⟨_, (List.Perm.cons _ h1).trans (.swap _ _ _), (List.Perm.cons _ h2).trans (.swap _ _ _)⟩
theorem Rem.of_mem : A ∈ L → ∃ M, Rem L A M := by
  intro h
  induction L with
  | nil => cases h
  | cons C L ih =>
    by_cases e : A = C
    · subst e
      exact ⟨_, .here⟩
    · obtain ⟨M, hM⟩ := ih (by
        rcases List.mem_cons.mp h with z | z
        · exact (e z).elim
        · exact z)
      exact ⟨_, .there hM⟩
theorem Sep.rem (h : Sep L H) (r : Rem L A M) : Sep (A :: M) H := h.perm r.perm
/-- a call that changes the first one and lets the rest stand -/
theorem Sep.rep (r : Rep L A B M) : ∃ N, (∀ H, Sep L H → Sep (A :: N) H) ∧ (∀ H, Sep (B :: N) H → Sep M H) := by
  obtain ⟨N, h1, h2⟩ := r.rem
  exact ⟨N, fun H h => h.perm h1, fun H h => h.perm h2.symm⟩
/-- one of them, and how all stand again behind a change of it -/
theorem Sep.at (h : Sep L H) (m : A ∈ L) : ∃ (W : Fz) (s r : Addr → Prop), A.ok W s H ∧ (∀ a, s a → r a → False) ∧ (∀ a, r a → ∃ o, H a = some o ∧ Nt o = true) ∧
    ∀ {s' : Addr → Prop} {H' : Hp}, A.ok W s' H' → (∀ a, s' a → r a → False) → (∀ a, r a → H' a = H a) → Tq K H H' → Sep L H' := by
  obtain ⟨M, hM⟩ := Rem.of_mem m
  obtain ⟨W, s, r, h1, h2, h3, h4⟩ := (h.rem hM).hd
  exact ⟨W, s, r, h1, h2, h3, fun a b c d => (h4 a b c d).perm hM.perm.symm⟩
theorem Sep.the (h : Sep L H) (m : A ∈ L) : ∃ W s, A.ok W s H ∧ FzOk W (fun _ => False) H := by
  obtain ⟨M, hM⟩ := Rem.of_mem m
  obtain ⟨W, s, f, s1, s2, d, u, h1, h2⟩ := h.rem hM
  exact ⟨W, s1, h1, f.less fun _ z => z.elim⟩
end
section
variable {K : PySem.W.Frag}
/-- a fact that stays, of the frozen ones and the heap -/
def persW (P : Fz → Hp → Prop) (h : ∀ W H H', Tq K H H' → P W H → P W H') (k : ∀ (W W' : Fz) H, (∀ a o, W a o → W' a o) → P W H → P W' H) : As K := ⟨fun W s H => (∀ a, ¬ s a) ∧ P W H, fun ⟨a, b⟩ _ t => ⟨a, h _ _ _ t b⟩, fun ⟨a, _⟩ b z => (a b z).elim, fun ⟨a, b⟩ e => ⟨a, k _ _ _ e b⟩⟩
/-- a fact that stays -/
def pers (P : Hp → Prop) (h : ∀ H H', Tq K H H' → P H → P H') : As K := persW (fun _ => P) (fun _ => h) fun _ _ _ _ b => b
def im (v : V) (d : PyData) : As K := pers (fun H => Im K H v d) fun _ _ t h => h.mono t.1
def ims (vs : List V) (ds : List PyData) : As K := pers (fun H => ImAll K H vs ds) fun _ _ t h => h.mono t.1
def tu (a : Addr) (xs : List V) : As K := pers (fun H => SqT K H a xs) fun _ _ t h => t.1 _ _ h
def pr (P : Prop) : As K := pers (fun _ => P) fun _ _ _ h => h
/-- an object that never changes any more -/
def fzn (a : Addr) (o : HO) : As K := persW (fun W _ => W a o) (fun _ _ _ _ h => h) fun _ _ _ e h => e _ _ h
/-- an object of one's own -/
def ob (a : Addr) (o : HO) : As K := ⟨fun _ s H => (∀ b, s b ↔ b = a) ∧ H a = some o ∧ Nt o = true, fun ⟨e, h, n⟩ k _ => ⟨e, (k a ((e a).mpr rfl)).trans h, n⟩, fun ⟨e, h, n⟩ b z => by
  obtain rfl := (e b).mp z
  exact ⟨o, h, n⟩, fun h _ => h⟩
/-- there is an x .. -/
def ex {α : Type} (f : α → As K) : As K := ⟨fun W s H => ∃ x, (f x).ok W s H, fun ⟨x, h⟩ e t => ⟨x, (f x).st h e t⟩, fun ⟨x, h⟩ => (f x).al h, fun ⟨x, h⟩ e => ⟨x, (f x).mo h e⟩⟩
/-- all of a list as one -/
def all (L : List (As K)) : As K := ⟨fun W => Hld W L, fun h e t => Hld.st h e t, fun h => Hld.al h, fun h e => Hld.mo e h⟩
variable {A B : As K} {L L' M : List (As K)} {H H' : Hp} {a p : Addr} {o u : HO} {v : V} {d : PyData} {vs xs : List V} {ds : List PyData} {W : Fz}
theorem Sep.pers_iff {P : Hp → Prop} {h : ∀ H H', Tq K H H' → P H → P H'} : Sep (pers P h :: L) H ↔ P H ∧ Sep L H := by
  constructor
  · intro z
    refine ⟨?_, z.tail⟩
    obtain ⟨W, s, ⟨_, h1⟩, _⟩ := z.the List.mem_cons_self
    exact h1
  · rintro ⟨p, W, s, f, q⟩
    exact ⟨W, s, f, fun _ => False, s, fun _ z => z.elim, fun a => ⟨.inr, fun z => z.elim False.elim id⟩, ⟨fun _ z => z, p⟩, q⟩
theorem Sep.im_iff : Sep (im v d :: L) H ↔ Im K H v d ∧ Sep L H := Sep.pers_iff
theorem Sep.tu_iff : Sep (tu a xs :: L) H ↔ SqT K H a xs ∧ Sep L H := Sep.pers_iff
theorem Sep.pr_iff {P : Prop} : Sep (pr P :: L) H ↔ P ∧ Sep L H := Sep.pers_iff
theorem Hld.app : ∀ {L L' : List (As K)} {s : Addr → Prop}, Hld W (L ++ L') s H ↔ ∃ s1 s2, (∀ a, s1 a → s2 a → False) ∧ (∀ a, s a ↔ s1 a ∨ s2 a) ∧ Hld W L s1 H ∧ Hld W L' s2 H
  | [], L', s => by
    constructor
    · intro h
      exact ⟨fun _ => False, s, fun _ z => z.elim, fun a => ⟨.inr, fun z => z.elim False.elim id⟩, fun _ z => z, h⟩
    · rintro ⟨s1, s2, d, u, h1, h2⟩
      exact h2.cg fun a => ⟨fun z => (u a).mpr (.inr z), fun z => ((u a).mp z).elim (fun y => (h1 a y).elim) id⟩
  | A :: L, L', s => by
    constructor
    · rintro ⟨s1, s2, d, u, h1, h2⟩
      obtain ⟨t1, t2, d', u', h3, h4⟩ := Hld.app.mp h2
      refine ⟨fun a => s1 a ∨ t1 a, t2, fun a x y => ?_, fun a => ?_, ⟨s1, t1, fun a x y => d a x ((u' a).mpr (.inl y)), fun a => Iff.rfl, h1, h3⟩, h4⟩
      · rcases x with x | x
        · exact d a x ((u' a).mpr (.inr y))
        · exact d' a x y
      · rw [u a, u' a, or_assoc]
    · rintro ⟨s1, s2, d, u, ⟨t1, t2, d', u', h1, h3⟩, h2⟩
      refine ⟨t1, fun a => t2 a ∨ s2 a, fun a x y => ?_, fun a => ?_, h1, Hld.app.mpr ⟨t2, s2, fun a x y => d a ((u' a).mpr (.inr x)) y, fun a => Iff.rfl, h3, h2⟩⟩
      · rcases y with y | y
        · exact d' a x y
        · exact d a ((u' a).mpr (.inl x)) y
      · rw [u a, u' a, or_assoc]
theorem Sep.all_iff : Sep (all L :: L') H ↔ Sep (L ++ L') H := by
  constructor
  · rintro ⟨W, s, f, s1, s2, d, u, h1, h2⟩
    exact ⟨W, s, f, Hld.app.mpr ⟨s1, s2, d, u, h1, h2⟩⟩
  · rintro ⟨W, s, f, h⟩
    obtain ⟨s1, s2, d, u, h1, h2⟩ := Hld.app.mp h
    exact ⟨W, s, f, s1, s2, d, u, h1, h2⟩
theorem Sep.obm (h : Sep L H) (m : ob a o ∈ L) : H a = some o := by
  obtain ⟨W, s, ⟨_, h1, _⟩, _⟩ := h.the m
  exact h1
theorem Sep.imm (h : Sep L H) (m : im v d ∈ L) : Im K H v d := by
  obtain ⟨W, s, ⟨_, h1⟩, _⟩ := h.the m
  exact h1
theorem Sep.imsm (h : Sep L H) (m : ims vs ds ∈ L) : ImAll K H vs ds := by
  obtain ⟨W, s, ⟨_, h1⟩, _⟩ := h.the m
  exact h1
theorem Sep.tum (h : Sep L H) (m : tu a xs ∈ L) : SqT K H a xs := by
  obtain ⟨W, s, ⟨_, h1⟩, _⟩ := h.the m
  exact h1
theorem Sep.set (h : Sep (ob a o :: L) H) (n : Nt u = true) : Sep (ob a u :: L) (upd H a u) := by
  obtain ⟨W, s, r, ⟨e, h1, n1⟩, d, _, k⟩ := h.hd
  refine k (s' := s) ⟨e, upd_same, n⟩ d (fun b z => upd_ne fun y => d b ((e b).mpr y) z) (tp_upd h1 n1)
theorem Sep.setR (h : Sep L H) (r : Rep L (ob a o) (ob a u) M) (n : Nt u = true) : Sep M (upd H a u) := by
  obtain ⟨N, h1, h2⟩ := Sep.rep r
  exact h2 _ ((h1 _ h).set n)
theorem Sep.new (h : Sep L H) (hp : H p = none) (n : Nt o = true) : Sep (ob p o :: L) (upd H p o) := by
  obtain ⟨W, s, f, h⟩ := h
  have ne : ∀ b, s b → b ≠ p := fun b z y => by
    obtain ⟨x, hx, _⟩ := h.al b z
    rw [y, hp] at hx
    cases hx
  have nw : ∀ b x, W b x → b ≠ p := fun b x z y => by
    have := (f b x z).1
    rw [y, hp] at this
    cases this
  exact ⟨W, fun b => b = p ∨ s b, fun b x z => ⟨by rw [upd_ne (nw b x z)]; exact (f b x z).1, (f b x z).2.1, fun y => y.elim (nw b x z) (f b x z).2.2⟩, fun b => b = p, s, fun b x y => ne b y x, fun b => Iff.rfl, ⟨fun b => Iff.rfl, upd_same, n⟩, h.st (fun b z => upd_ne (ne b z)) (Tq.new hp)⟩
theorem Sep.newT (h : Sep L H) (hp : H p = none) : Sep (tu p xs :: L) (upd H p (.tup xs)) := Sep.tu_iff.mpr ⟨sqt_of upd_same, h.same (same_new hp)⟩
end
/-- what may be told as often as one likes -/
class Dup {K : PySem.W.Frag} (A : As K) : Prop where
  no : ∀ {W : Fz} {s : Addr → Prop} {H : Hp}, A.ok W s H → ∀ a, ¬ s a
instance {K : PySem.W.Frag} {P : Fz → Hp → Prop} {h k} : Dup (persW (K := K) P h k) := ⟨fun z => z.1⟩
instance {K : PySem.W.Frag} {v d} : Dup (im (K := K) v d) := ⟨fun z => z.1⟩
instance {K : PySem.W.Frag} {v d} : Dup (ims (K := K) v d) := ⟨fun z => z.1⟩
instance {K : PySem.W.Frag} {v d} : Dup (tu (K := K) v d) := ⟨fun z => z.1⟩
instance {K : PySem.W.Frag} {P} : Dup (pr (K := K) P) := ⟨fun z => z.1⟩
instance {K : PySem.W.Frag} {a o} : Dup (fzn (K := K) a o) := ⟨fun z => z.1⟩
instance {K : PySem.W.Frag} {α : Type} {f : α → As K} [h : ∀ x, Dup (f x)] : Dup (ex f) := ⟨fun ⟨x, z⟩ => (h x).no z⟩
end Ls
open PySem PySem.Spec PyProof.Rows L2
namespace Ls
end Ls
open Ls
namespace Ls
open PySem PySem.Spec PyProof.Rows L2
def stepV (xs : List V) (k : Int) : List V := (sliceRange 0 (xs.length : Int) k).filterMap (xs[·]?)
def tStepL (K : PySem.W.Frag) (te : TE) (k : Int) : TE := fun σ H Q => te σ H fun x H1 => ∃ a xs, x = .ref a ∧ SqL K H1 a xs ∧ ∀ p, H1 p = none → Q (.ref p) (upd H1 p (.lst (stepV xs k)))
section
variable {K : PySem.W.Frag} {σ : L2.St} {H : Hp} {Q : VK} {te : TE} {k : Int}
theorem k_step (h : te σ H fun x H1 => ∃ a xs, x = .ref a ∧ SqL K H1 a xs ∧ ∀ p, H1 p = none → Q (.ref p) (upd H1 p (.lst (stepV xs k)))) : tStepL K te k σ H Q := h
theorem k_lenset (h : te σ H fun x H1 => ∃ (l : Addr) (ns : List Int), x = V.ref l ∧ SqL K H1 l (ns.map V.int) ∧ ns.Nodup ∧ ns.length ≤ 4000 ∧ Q (.int ns.length) H1) : RZ.tLenSetI K te σ H Q := h
end
def tJ (te : TE) : TE := fun σ H Q => ∃ M : VK, te σ H M ∧ ∀ v H', M v H' → Q v H'
theorem pe_join {X : Cx} {e : Expr} {te : TE} (h : PE X e te) : PE X e (tJ te) := by
  refine ⟨fun pins s σ H Q I ⟨M, hm, k⟩ => ?_⟩
  exact thn (h.run pins s σ H M I hm) fun v s1 ⟨x, H1, I1, r1, q1⟩ => ⟨x, H1, I1, r1, k _ _ q1⟩
theorem k_join {te : TE} {σ : L2.St} {H : Hp} {Q : VK} (M : VK) (h : te σ H M) (k : ∀ v H', M v H' → Q v H') : tJ te σ H Q := ⟨M, h, k⟩
theorem k_nojoin {te : TE} {σ : L2.St} {H : Hp} {Q : VK} (h : te σ H Q) : tJ te σ H Q := ⟨Q, h, fun _ _ h => h⟩
end Ls
namespace Ls
open PySem PySem.Spec PyProof.Rows L2
def tCFn (C : Addr) (sp : Sp) (E : XK) (ta : TE) (t : TA) : TE := fun σ H Q => ta σ H fun x H1 => x = .ref C ∧ t σ H1 fun vs H2 => sp (vs ++ []) H2 Q E
theorem pe_cfn {X : Cx} {CX : CXT} {k : Nat} {C f : Addr} {mc : Value} {fd : FuncData} {ps : List Str} {sp : Sp} {E : XK} {o e : Expr} {es : List Expr} {m : Str} {pos apos : Pos} {ta : TE} {t : TA} {pl : Sem Bool}
    (he : PE X o ta) (r : ClX.CRead X.K C mc) (c : ClX.CVal X.K C mc m (.ref f) (.ref f)) (kp : PySem.W.keepIn X.K (.ref f) = true) (F : FnOk X.prog X.w X.K X.mg X.base CX k f fd ps sp) (hr : Room k X.A) (hb : Binds X.K fd ps []) (hx : Passes CX X E) (ha : PA X (e :: es) t)
    (hst : starEach (e :: es) X.env = (false, eval e X.env) :: starEach es X.env := by rfl) (hpl : (backTo pos (starEach es X.env)).any (·.1) = false := by rfl)
    (ht : eval (.Call (.Attribute o m apos) (e :: es) [] pos) X.env = (do
      let ov ← eval o X.env
      standAt apos.atName
      let (f, first) ← holding [ov] (getMethod ov m pl)
      callWith pos f first (backTo pos (starEach (e :: es) X.env)) (backToKw pos (keywordEach [] X.env))) := by rfl) :
    PE X (.Call (.Attribute o m apos) (e :: es) [] pos) (tCFn C sp E ta t) := by
  refine ⟨fun pins s σ H Q I h => PySem.W.methodCall_KW (pl := pl) (thn (he.run pins s σ H _ I h) fun u s1 ⟨x, H1, I1, rx, ex, q⟩ => ?_) ht⟩
  subst ex
  obtain rfl : u = Value.ref C := rx
  refine PySem.W.method_cls I1.kIn r.ga (ClX.getcval_ok I1 r c fun s2 I2 => ?_)
  exact PySem.W.callWith_K (h₀ := X.base) I2.ok.mod.kin kp (thn (ha.run pos pins s2 σ H1 _ I2 q) fun us s3 ⟨vs, H2, I3, rv, q2⟩ => ⟨I3.kIn, run_fn F hr hb .nil hx I3 rv q2⟩) hst hpl
def tXfA (K : PySem.W.Frag) (a : Addr) (cls : Value) (d : Option Addr) (f : Str) (te : TE) : TE := fun σ H Q => ∃ C : Addr, XfC K C ∧ PySem.W.findIn K (.ref C) f = some none ∧ tXf a cls d C f te σ H Q
theorem pe_xfA {X : Cx} {a : Addr} {oe : Obj} {cls : Value} {d : Option Addr} {pn : List (Addr × Obj)} {e : Expr} {te : TE} {pos : Pos} {n : Str} (K : PySem.W.Frag) (hK : X.K = K) (hz : Zc cls d oe) (hf : ∃ vs, oe.data = .fields vs) (he : PE (X.suite a ((a, oe) :: pn)) e te)
    (hb : attributeBase e n X.env (eval e X.env) = eval e X.env := by rfl) : PE (X.suite a ((a, oe) :: pn)) (.Attribute e n pos) (tXfA K a cls d n te) := by
  subst hK
  exact ⟨fun pins s σ H Q I ⟨C, T, no, h⟩ => (pe_xf (C := C) T no hz hf he hb).run pins s σ H Q I h⟩
def gone (D : Ends) (i : Nat) : Ends := { nx := fun σ' H' => D.nx (σ'.set i none) H', rt := D.rt, bk := fun σ' H' => D.bk (σ'.set i none) H', ct := fun σ' H' => D.ct (σ'.set i none) H' }
abbrev Cla := Value × Nat × (Addr → Value → Option Addr → TS)
/-- what the clauses wish of an exception of the body -/
def wCl (K : PySem.W.Frag) (Wout : WX) (D : Ends) : List Cla → WX
  | [] => Wout
  | k :: r => fun cls d σ H => ∃ b, PySem.W.exmOne K cls k.1 = some b ∧ (b = true → ∀ a, H a = none → k.2.2 a cls d (gone D k.2.1) (σ.set k.2.1 (some (.ref a))) H) ∧ (b = false → wCl K Wout D r cls d σ H)
inductive ClOk (X : Cx) : List ExceptHandler → List Cla → Prop
  | nil : ClOk X [] []
  | cons {x n : Str} {c : Value} {i : Nat} {ts : Addr → Value → Option Addr → TS} {b0 : Stmt} {su : List Stmt} {np po : Pos} {hds : List ExceptHandler} {l : List Cla} (hc : Names X x c) (hi : X.N[i]? = some n) (hln : X.env.kindOf n = some .local)
      (hsu : ∀ (a : Addr) (oe : Obj) (cls : Value) (d : Option Addr) (pn : List (Addr × Obj)), Zc cls d oe → (∃ vs, oe.data = .fields vs) → PSs (X.suite a ((a, oe) :: pn)) (b0 :: su) (ts a cls d)) (r : ClOk X hds l) :
      ClOk X (.ExceptHandler (some (.Name x np)) (some n) (b0 :: su) po :: hds) ((c, i, ts) :: l)
theorem ps_try_cl {X : Cx} {body : List Stmt} {h0 : ExceptHandler} {hds : List ExceptHandler} {l : List Cla} {pos : Pos} {tb : WX → TS} {Wout : WX} (hst : X.stack = X.env :: X.outer) (hfl : X.env.frame = some X.env.locals) (hN : X.N.Nodup) (tk : Takes X Wout)
    (hb : ∀ (W : WX) (pn : List (Addr × Obj)) (xe : Value → Shared → Prop), Takes (X.tr pn xe) W → PassesOwn (model X.prog X.w) X.A X.env xe → PSs (X.tr pn xe) body (tb W)) (hh : ClOk X (h0 :: hds) l) :
    PS X (.Try body (h0 :: hds) [] [] pos) (fun D σ H => tb (wCl X.K Wout D l) D σ H) := by
  refine ⟨fun pins s σ H D I h => ?_⟩
  have OK := I.ok
  have FR : X.A.frames = some (X.env :: X.outer) := OK.frames.trans (congrArg some hst)
  let caught : Value → Shared → Prop := fun e u => wpAny (model X.prog X.w) X.A (noteFrame e X.env) (fun _ u2 => wpAny (model X.prog X.w) X.A (setFlight e none) (fun _ u3 => wpAny (model X.prog X.w) X.A (handleBy e X.env (h0 :: hds)) (SP X pins D) X.xe u3) X.xe u2) X.xe u
  refine wpAny_Try_except (wpAny_mono ((hb (wCl X.K Wout D l) (X.pn ++ pins) caught (fun u t y => ?_) PassesOwn.looking).run [] s σ H D (I.toTry _) h) (fun fl t y => ?_) fun e t z => z)
  · obtain ⟨a, B, t0, pins2, σ2, H2, cls, d, rfl, J2, nb, up, sk, na, os, ag, wish⟩ := y
    have J : Inv X pins σ2 H2 t0 := J2.ofTry OK
    have SK : Sky B (X.env :: X.outer) a (Zc cls d) X.env.locals t.heap := hst ▸ sk
    show wpAny (model X.prog X.w) X.A (noteFrame (.ref a) X.env) _ _ _
    refine Sky.land Zc.steady FR hfl SK fun g la ug => ?_
    have Jg : Inv X pins σ2 H2 { t with heap := g } := J.landed nb la.1 (up.trans ug) os ag
    obtain ⟨og, vg, eg, zg, dg⟩ := la.there
    have out : a ∉ frs (X.env :: X.outer) := fun m => by
      obtain ⟨_, o2, e2, n2⟩ := la.2.2.1.mem m
      rw [eg] at e2
      cases e2
      exact n2 _ dg
    have nLoc : a ≠ X.env.locals := fun z => out (List.mem_filterMap.mpr ⟨X.env, List.mem_cons_self, by rw [hfl, z]⟩)
    have nFs : a ∉ X.fs := fun m => by
      obtain ⟨e2, m2, q2⟩ := List.mem_filterMap.mp m
      exact out (List.mem_filterMap.mpr ⟨e2, List.mem_cons_of_mem _ m2, q2⟩)
    have Sg := Jg.suite eg dg na nLoc nFs
    have all : ∀ {hs2 : List ExceptHandler} {l2 : List Cla}, ClOk X hs2 l2 → wCl X.K Wout D l2 cls d σ2 H2 → wpAny (model X.prog X.w) X.A (handleBy (.ref a) X.env hs2) (SP X pins D) X.xe { t with heap := g } := by
      intro hs2 l2 ok2
      induction ok2 with
      | nil =>
        intro wish2
        obtain ⟨k1, k2, k3, o3, v3, T, oT, t3, e3, z3, d3, i3, r3⟩ := id la
        refine wpAny_handleBy_nil ?_
        unfold PySem.passOn
        refine wpAny_bind (wpAny_field e3 d3 i3 ?_)
        rw [if_neg (by simp : ¬ ((Value.ref T == Value.none) = true))]
        have last : wpAny (model X.prog X.w) X.A (setFlight (.ref a) X.env.frame) (fun _ u => wpAny (model X.prog X.w) X.A (throw (.ref a) : Sem Flow) (SP X pins D) X.xe u) X.xe { t with heap := g } := by
          rw [hfl]
          exact HandSPX.setFlight_upZ la fun g2 hg2 ug2 => wpAny_throw (tk _ _ ⟨a, B, t0, pins, σ2, H2, cls, d, rfl, J, nb, (up.trans ug).trans ug2, .inr (.inr (by rw [hst]; exact hg2)), na, os, ag, wish2⟩)
        first | exact wpAny_bind (wpAny_pure (wpAny_bind last)) | exact wpAny_bind last
      | @cons x n c i ts b0 su np po hds2 l3 hc hi hln hsu r ih =>
        rintro ⟨b, eb, yes, no⟩
        have lt : PySem.W.Looks (model X.prog X.w) g (typeOf (.ref a)) cls := fun A Q E u k q => wpAny_typeOf_ref (k _ _ eg) (zg.1.symm ▸ q)
        have lm := PySem.W.exm_one (M := model X.prog X.w) Jg.kIn lt eb
        have named : ∀ {Q : Value → Shared → Prop} {E : Value → Shared → Prop}, Q c { t with heap := g } → wpAny (model X.prog X.w) (X.A.mark (some (.ref a))) (eval (.Name x np) X.env) Q E { t with heap := g } := by
          intro Q E q
          obtain ⟨hg, hd, hm | ⟨hm, hv, hnn⟩⟩ := hc
          · exact ld_glob (X := X.suite a ((a, og) :: (X.pn ++ pins))) Sg hg hm q hd
          · exact ld_blt (X := X.suite a ((a, og) :: (X.pn ++ pins))) Sg hg hm hv q hnn hd
        refine wpAny_handleBy_cons (codeAny_handlers_test (named (lm.here ?_))) (by intro q; cases q)
        cases b with
        | false => exact ih (no rfl)
        | true =>
          refine codeAny_handlers_suite_as (HandSPX.lands_againZ la fun g2 la2 ug2 => ?_)
          have Jh : Inv X pins σ2 H2 { t with heap := g2 } := J.landed nb la2.1 ((up.trans ug).trans ug2) os ag
          obtain ⟨o4, v4, e4, z4, d4⟩ := la2.there
          have Sh := Jh.suite e4 d4 na nLoc nFs
          refine store_ok (X := X.suite a ((a, o4) :: (X.pn ++ pins))) (v := .ref a) Sh hN hi (.inl hln) rfl (fun u5 S5 => ?_) (.inr hln)
          refine wpAny_mono ((hsu a o4 cls d (X.pn ++ pins) z4 ⟨_, d4⟩).run [] u5 _ H2 _ S5 (yes rfl a na)) (fun fl6 u6 y6 => ?_) fun _ _ z => False.elim z
          have off : ∀ {σ6 : L2.St} {H6 : Hp} {R : Shared → Prop}, Inv (X.suite a ((a, o4) :: (X.pn ++ pins))) [] σ6 H6 u6 → (∀ u7, Inv X pins (σ6.set i none) H6 u7 → R u7) → wpAny (model X.prog X.w) X.A (do bindName X.env n .none; unbindBehindTheSuite X.env n po) (fun _ u7 => R u7) X.xe u6 :=
            fun S6 hq => gone_ok (S6.unsuite OK) hN hi hln hq
          cases fl6 with
          | ret u8 =>
            obtain ⟨v8, σ8, H8, S8, r8, q8⟩ := y6
            exact off S8 fun u7 J7 => ⟨_, _, _, J7, r8, q8⟩
          | next =>
            obtain ⟨σ8, H8, S8, q8⟩ := y6
            exact off S8 fun u7 J7 => ⟨_, _, J7, q8⟩
          | brk =>
            obtain ⟨σ8, H8, S8, q8⟩ := y6
            exact off S8 fun u7 J7 => ⟨_, _, J7, q8⟩
          | cont =>
            obtain ⟨σ8, H8, S8, q8⟩ := y6
            exact off S8 fun u7 J7 => ⟨_, _, J7, q8⟩
    exact all hh wish
  · cases fl with
    | ret u8 =>
      obtain ⟨v8, σ8, H8, J8, r8, q8⟩ := y
      exact ⟨v8, σ8, H8, J8.ofTry OK, r8, q8⟩
    | next =>
      obtain ⟨σ8, H8, J8, q8⟩ := y
      exact wpAny_execs_nil ⟨σ8, H8, J8.ofTry OK, q8⟩
    | brk =>
      obtain ⟨σ8, H8, J8, q8⟩ := y
      exact ⟨σ8, H8, J8.ofTry OK, q8⟩
    | cont =>
      obtain ⟨σ8, H8, J8, q8⟩ := y
      exact ⟨σ8, H8, J8.ofTry OK, q8⟩
end Ls
namespace Ls
open PySem PySem.Spec PyProof.Rows L2
end Ls
namespace Ls
open PySem PySem.Spec PyProof.Rows L2
def eqO (a b : Option (Option Value)) : Bool := decide (a = b)
def oexC (K : PySem.W.Frag) (C : Addr) : Bool := match K.lookup C with
  | some ⟨.type "type", _, .cls cd, sl⟩ => (match cd.mro, sl.toList with
    | .ref D :: bm, [_, _, _, _, some (.builtin n), _] => decide (D = C) && (decide (n = "ValueError.__new__") && (cd.hasDict && (!cd.hasDel && PySem.HandSPX.refsVE bm)))
    | _, _ => false)
  | _ => false
def oexB (K : PySem.W.Frag) (C : Addr) : Bool := oexC K C && (eqO (PySem.W.findIn K (.ref C) "__setattr__") (some (some (.builtin "object.__setattr__"))) && (decide (PySem.W.subIn K (.ref C) (.type "BaseException") = some true) && (decide (PySem.W.typeIn K (.ref C) = some (.type "type")) && PySem.W.keepIn K (.ref C))))
theorem ba2 {a b : Bool} (h : (a && b) = true) : a = true ∧ b = true := Bool.and_eq_true_iff.mp h
theorem oexB_ok {K : PySem.W.Frag} {C : Addr} (h : oexB K C = true) : OexC K C := by
  obtain ⟨h1, h⟩ := ba2 h
  obtain ⟨h2, h⟩ := ba2 h
  obtain ⟨h3, h⟩ := ba2 h
  obtain ⟨h4, h5⟩ := ba2 h
  refine ⟨?_, of_decide_eq_true h2, of_decide_eq_true h3, of_decide_eq_true h4, h5⟩
  unfold oexC at h1
  split at h1
  · rename_i dd cd sl ho
    split at h1
    · rename_i D bm k0 k1 k2 k3 n k5 hm hs
      obtain ⟨a1, h1⟩ := ba2 h1
      obtain ⟨a2, h1⟩ := ba2 h1
      obtain ⟨a3, h1⟩ := ba2 h1
      obtain ⟨a4, a5⟩ := ba2 h1
      obtain rfl := of_decide_eq_true a1
      obtain rfl := of_decide_eq_true a2
      obtain ⟨nm, bs, mro, ns, qn, hd, sn, sub, ab, col, del⟩ := cd
      dsimp only at hm a3 a4
      subst hm a3
      have a4 : del = false := by simpa using a4
      subst a4
      obtain ⟨sl⟩ := sl
      dsimp only at hs
      subst hs
      exact ⟨nm, qn, ns, bs, bm, sn, sub, ab, col, dd, k0, k1, k2, k3, k5, ho, a5⟩
    · cases h1
  · cases h1
/-- C.__init__ is the def at ma K C "__init__" -/
def iniB (K : PySem.W.Frag) (C : Addr) : Bool := eqO (PySem.W.findIn K (.ref C) "__init__") (some (some (.ref (He.ma K C "__init__")))) && decide (PySem.W.typeIn K (.ref (He.ma K C "__init__")) = some (.type "function"))
theorem iniB_ok {K : PySem.W.Frag} {C : Addr} (h : iniB K C = true) : PySem.W.findIn K (.ref C) "__init__" = some (some (.ref (He.ma K C "__init__"))) ∧ PySem.W.typeIn K (.ref (He.ma K C "__init__")) = some (.type "function") := by
  obtain ⟨h1, h2⟩ := ba2 h
  exact ⟨of_decide_eq_true h1, of_decide_eq_true h2⟩
/-- C.__init__ read by the class -/
def crdB (K : PySem.W.Frag) (C : Addr) : Bool := PySem.W.readsIn K C (.type "type") && eqO (PySem.W.specialIn K (.ref C) "__getattribute__") (some (some (.builtin "type.__getattribute__")))
theorem crdB_ok {K : PySem.W.Frag} {C : Addr} (h : crdB K C = true) : ClX.CRead K C (.type "type") := by
  obtain ⟨h1, h2⟩ := ba2 h
  exact ⟨h1, of_decide_eq_true h2⟩
def cviB (K : PySem.W.Frag) (C : Addr) : Bool := (match PySem.W.findCls K (.ref C) (.type "type") "__init__" with
  | some (.val (.ref f)) => decide (f = He.ma K C "__init__")
  | _ => false)
theorem cviB_ok {K : PySem.W.Frag} {C : Addr} (h : cviB K C = true) : ClX.CVal K C (.type "type") "__init__" (.ref (He.ma K C "__init__")) (.ref (He.ma K C "__init__")) := by
  refine ⟨?_, rfl⟩
  unfold cviB at h
  split at h
  · rename_i f hf
    rw [of_decide_eq_true h] at hf
    exact hf
  · cases h
def veiB (K : PySem.W.Frag) : Bool := (match PySem.W.findCls K (.type "ValueError") (.type "type") "__init__" with
  | some (.val (.builtin n)) => decide (n = "ValueError.__init__")
  | _ => false)
theorem veiB_ok {K : PySem.W.Frag} (h : veiB K = true) : PySem.W.findCls K (.type "ValueError") (.type "type") "__init__" = some (.val (.builtin "ValueError.__init__")) := by
  unfold veiB at h
  split at h
  · rename_i n hn
    rw [of_decide_eq_true h] at hn
    exact hn
  · cases h
def noFB (K : PySem.W.Frag) (C : Addr) (f : Str) : Bool := eqO (PySem.W.findIn K (.ref C) f) (some none)
theorem noFB_ok {K : PySem.W.Frag} {C : Addr} {f : Str} (h : noFB K C f = true) : PySem.W.findIn K (.ref C) f = some none := of_decide_eq_true h
def exmB (K : PySem.W.Frag) (C D : Addr) (b : Bool) : Bool := decide (PySem.W.exmOne K (.ref C) (.ref D) = some b)
theorem exmB_ok {K : PySem.W.Frag} {C D : Addr} {b : Bool} (h : exmB K C D b = true) : PySem.W.exmOne K (.ref C) (.ref D) = some b := of_decide_eq_true h
end Ls
namespace Ls
open PySem PySem.Spec PyProof.Rows L2
/-- the base's __init__(self, word) -/
def spInit1 (K : PySem.W.Frag) : Sp := fun vs H Q _ => ∃ (a C : Addr) (w : Str), vs = [.ref a, .str w] ∧ OexC K C ∧ PySem.W.findIn K (.ref C) "word" = some none ∧ H a = some (exo a C none) ∧ ∀ dx, H dx = none → dx ≠ a → Q .non (upd (upd H dx (exd dx [("word", .str w)])) a (exo a C (some dx)))
section
variable {K : PySem.W.Frag} {σ : L2.St} {H : Hp} {D : Ends} {C : Addr} {w : Str}
theorem k_vei {Q : VK} {ta : TA} (h : ta σ H fun vs H1 => ∃ (a C : Addr) (ws : List V), vs = .ref a :: ws ∧ ws.length ≤ 1000 ∧ OexC K C ∧ H1 a = some (exo a C none) ∧ Q .non H1) : tVeI K ta σ H Q := h
theorem k_ost {f : Str} {to te : TE} (h : te σ H fun y H1 => to σ H1 fun x H2 => ∃ a C : Addr, x = .ref a ∧ OexC K C ∧ PySem.W.findIn K (.ref C) f = some none ∧
  ((H2 a = some (exo a C none) ∧ ∀ dx, H2 dx = none → dx ≠ a → D.nx σ (upd (upd H2 dx (exd dx [(f, y)])) a (exo a C (some dx)))) ∨
    ∃ (dx : Addr) (fs : List (Str × V)), H2 a = some (exo a C (some dx)) ∧ H2 dx = some (exd dx fs) ∧ fs.length ≤ 900 ∧ D.nx σ (upd H2 dx (exd dx ((f, y) :: fs))))) : tOst K f to te D σ H := h
theorem k_cfn {Q : VK} {sp : Sp} {E : XK} {ta : TE} {t : TA} (h : ta σ H fun x H1 => x = .ref C ∧ t σ H1 fun vs H2 => sp (vs ++ []) H2 Q E) : tCFn C sp E ta t σ H Q := h
end
end Ls
namespace Ls
open PySem PySem.Spec PyProof.Rows L2 LamX
end Ls
namespace Ls
open PySem PySem.Spec PyProof.Rows L2
end Ls
namespace Ls
open PySem PySem.Spec PyProof.Rows L2
def fn1 {α : Type} (n : Nat) (k : Nat → α) : α := match n with
  | 0 => k 0
  | m + 1 => k (m + 1)
theorem fn1_eq {α : Type} (n : Nat) (k : Nat → α) : fn1 n k = k n := by
  cases n <;> rfl
def seenZ (m a : Nat) : Bool := Nat.beq (Nat.land (Nat.shiftRight m a) 1) 1
def addZ {α : Type} : List Addr → List Addr → Nat → (List Addr → Nat → α) → α
  | [], fr, m, k => k fr m
  | a :: as, fr, m, k => fn1 a fun a => match seenZ m a with
    | true => addZ as fr m k
    | false => fn1 (Nat.lor m (Nat.shiftLeft 1 a)) fun m => addZ as (a :: fr) m k
theorem addZ_k {α : Type} : ∀ (as fr : List Addr) (m : Nat) (k : List Addr → Nat → α), addZ as fr m k = k (addZ as fr m fun f _ => f) (addZ as fr m fun _ m => m)
  | [], fr, m, k => rfl
  | a :: as, fr, m, k => by
    simp only [addZ, fn1_eq]
    cases seenZ m a with
    | true => exact addZ_k as fr m k
    | false => exact addZ_k as (a :: fr) _ k
def goZ (g : Addr → Option Obj) : List Addr → List Addr
  | [] => []
  | a :: as => (match g a with
    | some o => He.refsD o
    | none => []) ++ goZ g as
def onZ : List Addr → List Addr → List Addr
  | [], l => l
  | a :: as, l => onZ as (a :: l)
def asZ {α : Type} (g : Addr → Option Obj) : Nat → List Addr → List Addr → Nat → (List Addr → α) → α
  | 0, _, acc, _, k => k (onZ acc [])
  | n + 1, fr, acc, m, k => addZ (goZ g fr) [] m fun fr2 m2 => asZ g n fr2 (onZ fr2 acc) m2 k
theorem asZ_k {α : Type} (g : Addr → Option Obj) : ∀ (n : Nat) (fr acc : List Addr) (m : Nat) (k : List Addr → α), asZ g n fr acc m k = k (asZ g n fr acc m id)
  | 0, fr, acc, m, k => rfl
  | n + 1, fr, acc, m, k => by
    simp only [asZ]
    rw [addZ_k, asZ_k, addZ_k (k := fun fr2 m2 => asZ g n fr2 (onZ fr2 acc) m2 id)]
def frK {α : Type} (g : Addr → Option Obj) : List Addr → (PySem.W.Frag → α) → α
  | [], k => k []
  | a :: l, k => match g a with
    | some o => (match He.emptyTab o with
      | true => frK g l k
      | false => fn1 a fun a => frK g l fun K => k ((a, o) :: K))
    | none => frK g l k
theorem frK_eq {α : Type} (g : Addr → Option Obj) : ∀ (l : List Addr) (k : PySem.W.Frag → α), frK g l k = k (He.frT g l)
  | [], k => rfl
  | a :: l, k => by
    unfold frK He.frT He.frG
    rw [List.filterMap_cons]
    cases e : g a with
    | none => exact frK_eq g l k
    | some o =>
      simp only [fn1_eq]
      cases e2 : He.emptyTab o with
      | true =>
        rw [show (Option.map (fun o => (a, o)) (some o)) = some (a, o) from rfl]
        simp only
        rw [List.filter_cons_of_neg (by rw [e2]; decide)]
        exact frK_eq g l k
      | false =>
        rw [show (Option.map (fun o => (a, o)) (some o)) = some (a, o) from rfl]
        simp only
        rw [List.filter_cons_of_pos (by rw [e2]; rfl)]
        exact frK_eq g l _
def wK {α : Type} (n : Nat) (g : Addr → Option Obj) (k : PySem.W.Frag → α) : α := asZ g n [mainGlobals] [mainGlobals] (Nat.shiftLeft 1 mainGlobals) fun as => frK g (cStatics :: as) k
def KZ (n : Nat) (g : Addr → Option Obj) : PySem.W.Frag := He.frT g (cStatics :: asZ g n [mainGlobals] [mainGlobals] (Nat.shiftLeft 1 mainGlobals) id)
theorem wK_eq {α : Type} (n : Nat) (g : Addr → Option Obj) (k : PySem.W.Frag → α) : wK n g k = k (KZ n g) := by
  unfold wK KZ
  rw [asZ_k, frK_eq]
section
variable (n : Nat) (fa : List He.Fa) (fn : List He.DefD) (ts : List He.Tab) (tf : List He.Defn) (eb : PySem.W.Frag → Bool)
def obsZ (g : Addr → Option Obj) : He.AlX := wK n g fun K => (He.obsT fa fn ts K, eb K && He.tabsB g tf K)
theorem obsZ_is (g : Addr → Option Obj) : obsZ n fa fn ts tf eb g = (He.obsT fa fn ts (KZ n g), eb (KZ n g) && He.tabsB g tf (KZ n g)) := wK_eq n g _
theorem saysZ {w : World} {h : Heap} (e : obsZ n fa fn ts tf eb h.get? = He.valX fn ts w) : He.SaysX fa fn ts tf eb w h (KZ n h.get?) := by
  rw [obsZ_is] at e
  have eT := congrArg (fun q : He.AlX => q.1) e
  have eB : (eb (KZ n h.get?) && He.tabsB h.get? tf (KZ n h.get?)) = true := congrArg (fun q : He.AlX => q.2) e
  have e1 := (Bool.and_eq_true_iff.mp eB).1
  have e2 := (Bool.and_eq_true_iff.mp eB).2
  have each : ∀ d ∈ tf, PySem.W.codeHdIn (KZ n h.get?) (He.cT (KZ n h.get?) d).1 (He.cT (KZ n h.get?) d).2 = true ∧ ∃ u, h.get? (He.cT (KZ n h.get?) d).2 = some u ∧ He.emptyTab u = true := by
    intro d hd
    have z := List.all_eq_true.mp e2 d hd
    have z1 := (Bool.and_eq_true_iff.mp z).1
    have z2 := (Bool.and_eq_true_iff.mp z).2
    refine ⟨z1, ?_⟩
    split at z2
    · rename_i u hu
      exact ⟨u, hu, z2⟩
    · cases z2
  refine ⟨eT, e1, fun d hd => (each d hd).1, fun d hd => ?_, fun d hd => ?_⟩
  · obtain ⟨_, u, hu, ue⟩ := each d hd
    exact He.frT_none hu ue
  · obtain ⟨_, u, hu, ue⟩ := each d hd
    rw [hu, He.emptyTab_eq ue]
def hookZ : PySem.W.Hook where
  α := He.AlX
  obs := fun s => obsZ n fa fn ts tf eb s.heap.get?
  val := fun w => He.valX fn ts w
  says := fun w h => ∃ K : PySem.W.Frag, K.In h ∧ He.SaysX fa fn ts tf eb w h K
  of := fun _ _ e => ⟨KZ n _, He.frT_in, saysZ n fa fn ts tf eb e⟩
  keeps := fun _ _ _ ⟨K, hK, y⟩ k => ⟨K, PySem.W.Frag.In.keeps hK k, ⟨y.t, y.more, y.hd, y.out, fun d hd => k _ _ (y.empty d hd)⟩⟩
theorem obsZ_eq {g : Addr → Option Obj} {s : Shared} (h : ∀ a, g a = s.heap.get? a) : obsZ n fa fn ts tf eb g = (hookZ n fa fn ts tf eb).obs s := by
  obtain rfl : g = s.heap.get? := funext h
  rfl
end
end Ls
namespace Lh
open PySem PySem.Spec PyProof.Rows L2 Ls Lw LamX
def d_law : He.DefD := ⟨("law", none), "law", "law", defArgs s_law, defBody s_law, defScope s_law, [], []⟩
def d__law_begin : He.DefD := ⟨("_law_begin", none), "_law_begin", "_law_begin", defArgs s__law_begin, defBody s__law_begin, defScope s__law_begin, [], []⟩
def d__law_dump : He.DefD := ⟨("_law_dump", none), "_law_dump", "_law_dump", defArgs s__law_dump, defBody s__law_dump, defScope s__law_dump, [], []⟩
def d__law_same : He.DefD := ⟨("_law_same", none), "_law_same", "_law_same", defArgs s__law_same, defBody s__law_same, defScope s__law_same, [], []⟩
def d__law_dump_told : He.DefD := ⟨("_law_dump_told", none), "_law_dump_told", "_law_dump_told", defArgs s__law_dump_told, defBody s__law_dump_told, defScope s__law_dump_told, [], []⟩
def d__law_dump_read : He.DefD := ⟨("_law_dump_read", none), "_law_dump_read", "_law_dump_read", defArgs s__law_dump_read, defBody s__law_dump_read, defScope s__law_dump_read, [], []⟩
def d__law_bent_dump : He.DefD := ⟨("_law_bent_dump", none), "_law_bent_dump", "_law_bent_dump", defArgs s__law_bent_dump, defBody s__law_bent_dump, defScope s__law_bent_dump, [], []⟩
def d__law_ask_dump : He.DefD := ⟨("_law_ask_dump", none), "_law_ask_dump", "_law_ask_dump", defArgs s__law_ask_dump, defBody s__law_ask_dump, defScope s__law_ask_dump, [], []⟩
def d__law_pick : He.DefD := ⟨("_law_pick", none), "_law_pick", "_law_pick", defArgs s__law_pick, defBody s__law_pick, defScope s__law_pick, [], []⟩
def d_mended : He.DefD := ⟨("mended", none), "mended", "mended", defArgs s_mended, defBody s_mended, defScope s_mended, [], []⟩
def d__law_thing_row : He.DefD := ⟨("_law_thing_row", none), "_law_thing_row", "_law_thing_row", defArgs s__law_thing_row, defBody s__law_thing_row, defScope s__law_thing_row, [], []⟩
def d__law_of : He.DefD := ⟨("_law_of", none), "_law_of", "_law_of", defArgs s__law_of, defBody s__law_of, defScope s__law_of, [], []⟩
def d__law_far : He.DefD := ⟨("_law_far", none), "_law_far", "_law_far", defArgs s__law_far, defBody s__law_far, defScope s__law_far, [], []⟩
def d__law_word : He.DefD := ⟨("_law_word", none), "_law_word", "_law_word", defArgs s__law_word, defBody s__law_word, defScope s__law_word, [], []⟩
def d__law_bound : He.DefD := ⟨("_law_bound", none), "_law_bound", "_law_bound", defArgs s__law_bound, defBody s__law_bound, defScope s__law_bound, [], []⟩
def d__law_thing_in : He.DefD := ⟨("_law_thing_in", none), "_law_thing_in", "_law_thing_in", defArgs s__law_thing_in, defBody s__law_thing_in, defScope s__law_thing_in, [], []⟩
def d_read_dump : He.DefD := ⟨("read_dump", none), "read_dump", "read_dump", defArgs s_read_dump, defBody s_read_dump, defScope s_read_dump, [], []⟩
def d_rows_read : He.DefD := ⟨("rows_read", none), "rows_read", "rows_read", defArgs s_rows_read, defBody s_rows_read, defScope s_rows_read, [], []⟩
def d__law_number_in : He.DefD := ⟨("_law_number_in", none), "_law_number_in", "_law_number_in", defArgs s__law_number_in, defBody s__law_number_in, defScope s__law_number_in, [], []⟩
def d__law_is_name : He.DefD := ⟨("_law_is_name", none), "_law_is_name", "_law_is_name", defArgs s__law_is_name, defBody s__law_is_name, defScope s__law_is_name, [], []⟩
def d_thing_in : He.DefD := ⟨("thing_in", none), "thing_in", "thing_in", defArgs s_thing_in, defBody s_thing_in, defScope s_thing_in, [], []⟩
def d_fits : He.DefD := ⟨("fits", none), "fits", "fits", defArgs s_fits, defBody s_fits, defScope s_fits, [], []⟩
def d_number_in : He.DefD := ⟨("number_in", none), "number_in", "number_in", defArgs s_number_in, defBody s_number_in, defScope s_number_in, [.int 6], []⟩
def d_is_name : He.DefD := ⟨("is_name", none), "is_name", "is_name", defArgs s_is_name, defBody s_is_name, defScope s_is_name, [], []⟩
def d_ScribeError___init__ : He.DefD := ⟨("ScribeError", some "__init__"), "__init__", "ScribeError.__init__", defArgs s_ScribeError___init__, defBody s_ScribeError___init__, defScope s_ScribeError___init__, [], []⟩
def d_BadDump___init__ : He.DefD := ⟨("BadDump", some "__init__"), "__init__", "BadDump.__init__", defArgs s_BadDump___init__, defBody s_BadDump___init__, defScope s_BadDump___init__, [], []⟩
def fn : List He.DefD := [d_law, d__law_begin, d__law_dump, d__law_same, d__law_dump_told, d__law_dump_read, d__law_bent_dump, d__law_ask_dump, d__law_pick, d_mended, d__law_thing_row, d__law_of, d__law_far, d__law_word, d__law_bound, d__law_thing_in, d_read_dump, d_rows_read, d__law_number_in, d__law_is_name, d_thing_in, d_fits, d_number_in, d_is_name, d_ScribeError___init__, d_BadDump___init__]
def fa : List He.Fa := [.glo "law", .glo "_law_begin", .glo "_law_dump", .glo "_law_same", .glo "_law_dump_told", .glo "_law_dump_read", .glo "_law_bent_dump", .glo "_law_ask_dump", .glo "_law_pick", .glo "mended", .glo "_law_thing_row", .glo "_law_of", .glo "_law_far", .glo "_law_word", .glo "_law_bound", .glo "_law_thing_in", .glo "read_dump", .glo "rows_read", .glo "_law_number_in", .glo "_law_is_name", .glo "thing_in", .glo "fits", .glo "number_in", .glo "is_name", .free "range", .free "list", .free "isinstance", .free "bool", .free "int", .free "str", .free "all", .free "tuple", .free "len", .free "enumerate", .free "ValueError", .int "MOST_FIGURES_dumps" 30, .int "MOST_FIGURES_sieve" 6, .str "FIGURES" "0123456789", .int "LONGEST" 8, .str "LETTERS" "abcdefghijklmnopqrstuvwxyz", .glo "ScribeError", .glo "BadDump"]
def tbs : List He.Tab := []
def exl (K : PySem.W.Frag) : List Bool := [crdB K (He.ga K "ScribeError"), cviB K (He.ga K "ScribeError"), oexB K (He.ga K "BadDump"), iniB K (He.ga K "BadDump"), iniB K (He.ga K "BadDump"), noFB K (He.ga K "BadDump") "word", xfB K (He.ga K "BadDump"), noFB K (He.ga K "BadDump") "row", exmB K (He.ga K "BadDump") (He.ga K "BadDump") true, veiB K]
def exB (K : PySem.W.Frag) : Bool := (exl K).all id
theorem exB_ok {K : PySem.W.Frag} (h : exB K = true) {i : Nat} {b : Bool} (e : (exl K)[i]? = some b) : b = true := List.all_eq_true.mp h b (List.mem_of_getElem? e)
def tfs : List He.Defn := []
abbrev R : PySem.W.OpenRow := PySem.W.OpenLaw.row PySem.Challenge.rw_lanescribe_k33_dumps_bent_and_mended
abbrev hk : PySem.W.Hook := hookZ 5 fa fn tbs tfs exB
def ob (s : PySem.W.SharedT) : He.AlX := obsZ 5 fa fn tbs tfs exB (HandSHeadRun.getT s)
theorem ob_eq (s : PySem.W.SharedT) : ob s = hk.obs s.abs := obsZ_eq 5 fa fn tbs tfs exB (HandSHeadRun.getT_eq s)
def loose0 : List PySem.Str := ["__name__", "ScribeError", "BadDump", "LONGEST", "LETTERS", "is_name", "FIGURES", "MOST_FIGURES_sieve", "number_in", "MOST_FIGURES_dumps", "thing_in", "fits", "rows_read", "read_dump", "mended", "_law_begin", "_law_pick", "_law_of", "_law_far", "_law_same"]
def loose1 : List PySem.Str := ["_law_word", "_law_bound", "_law_is_name", "_law_number_in", "_law_thing_row", "_law_dump", "_law_dump_told", "_law_thing_in", "_law_dump_read", "_law_bent_dump", "_law_ask_dump"]
def loose : List PySem.Str := loose0 ++ loose1
theorem run (w : World) : HandSHeadRun.RunEq R (PySem.W.view R.prog [35]) hk ob 20000 loose w := by
  intro os
  kernel_rfl
end Lh
namespace Ls
open PySem PySem.Spec PyProof.Rows L2
section
variable {K : PySem.W.Frag}
/-- a list of data that never change, one's own -/
def ld (a : Addr) (ds : List PyData) : As K := ⟨fun _ s H => (∀ b, s b ↔ b = a) ∧ ∃ xs, H a = some (.lst xs) ∧ ImAll K H xs ds, fun ⟨e, xs, h, g⟩ k t => ⟨e, xs, (k a ((e a).mpr rfl)).trans h, g.mono t.1⟩, fun ⟨e, xs, h, _⟩ b z => by
  obtain rfl := (e b).mp z
  exact ⟨_, h, rfl⟩, fun h _ => h⟩
/-- a value's data, by what stands -/
inductive Dat (L : List (As K)) : V → PyData → Prop
  | non : Dat L .non .none
  | bl (b : Bool) : Dat L (.bl b) (.bool b)
  | int (i : Int) : Dat L (.int i) (.int i)
  | str (x : Str) : Dat L (.str x) (.str x)
  | im {v : V} {d : PyData} : im v d ∈ L → Dat L v d
inductive DatAll (L : List (As K)) : List V → List PyData → Prop
  | nil : DatAll L [] []
  | cons {v : V} {d : PyData} {vs : List V} {ds : List PyData} : Dat L v d → DatAll L vs ds → DatAll L (v :: vs) (d :: ds)
  | ims {vs : List V} {ds : List PyData} : Ls.ims vs ds ∈ L → DatAll L vs ds
/-- .. lists too -/
inductive Dl (L : List (As K)) : V → PyData → Prop
  | dat {v : V} {d : PyData} : Dat L v d → Dl L v d
  | ld {a : Addr} {ds : List PyData} : ld a ds ∈ L → Dl L (.ref a) (.list ds)
variable {A B : As K} {L L' M N : List (As K)} {H H' : Hp} {a p l : Addr} {o u : HO} {v x y : V} {d e : PyData} {vs xs ys : List V} {ds es : List PyData} {Q : VK} {σ : L2.St} {i j : Int}
theorem Dat.is (h : Sep L H) (t : Dat L v d) : Im K H v d := by
  cases t with
  | non => exact .non
  | bl b => exact .bl b
  | int i => exact .int i
  | str x => exact .str x
  | im m => exact h.imm m
theorem DatAll.is (h : Sep L H) : ∀ {vs : List V} {ds : List PyData}, DatAll L vs ds → ImAll K H vs ds
  | _, _, .nil => .nil
  | _, _, .cons a b => .cons (a.is h) (b.is h)
  | _, _, .ims m => h.imsm m
theorem Sep.ldm (h : Sep L H) (m : ld a ds ∈ L) : ∃ xs, H a = some (.lst xs) ∧ ImAll K H xs ds := by
  obtain ⟨W, s, ⟨_, h1⟩, _⟩ := h.the m
  exact h1
theorem Dl.is (h : Sep L H) (t : Dl L v d) : Dp K H v d := by
  cases t with
  | dat t => exact (t.is h).dp
  | ld m =>
    obtain ⟨xs, h1, h2⟩ := h.ldm m
    exact .lst (sql_of h1) h2.dp
theorem Sep.newD (h : Sep L H) (hp : H p = none) (t : DatAll L xs ds) : Sep (ld p ds :: L) (upd H p (.lst xs)) := by
  obtain ⟨W, s, f, s1, s2, d, u, ⟨e1, e2, _⟩, h2⟩ := h.new (o := .lst xs) hp rfl
  exact ⟨W, s, f, s1, s2, d, u, ⟨e1, xs, e2, (t.is h).mono (Tp.new hp)⟩, h2⟩
theorem Sep.newI (h : Sep L H) (hp : H p = none) (t : DatAll L xs ds) : Sep (im (.ref p) (.tuple ds) :: L) (upd H p (.tup xs)) :=
  Sep.im_iff.mpr ⟨.tup (sqt_of upd_same) ((t.is h).mono (Tp.new hp)), h.same (same_new hp)⟩
theorem Sep.setD (h : Sep (ld a ds :: L) H) (t : ImAll K H xs es) : Sep (ld a es :: L) (upd H a (.lst xs)) := by
  obtain ⟨W, s, r, ⟨e, ys, h1, h2⟩, d, _, k⟩ := h.hd
  have tp : Tq K H (upd H a (.lst xs)) := tp_upd h1 rfl
  exact k (s' := s) ⟨e, xs, upd_same, t.mono tp.1⟩ d (fun b z => upd_ne fun y => d b ((e b).mpr y) z) tp
theorem Sep.setDR (h : Sep L H) (r : Rep L (ld a ds) (ld a es) M) (t : ImAll K H xs es) : Sep M (upd H a (.lst xs)) := by
  obtain ⟨N, h1, h2⟩ := Sep.rep r
  exact h2 _ ((h1 _ h).setD t)
theorem Rep.mem (r : Rep L A B M) : A ∈ L := by
  induction r with
  | here => exact List.mem_cons_self
  | there _ ih => exact List.mem_cons_of_mem _ ih
def Sub (N L : List (As K)) : Prop := ∀ (W : Fz) (s : Addr → Prop) (H : Hp), FzOk W s H → Hld W N s H → ∃ s' : Addr → Prop, (∀ a, s' a → s a) ∧ Hld W L s' H
theorem Sub.ok (s : Sub N L) (h : Sep N H) : Sep L H := by
  obtain ⟨W, q, f, h⟩ := h
  obtain ⟨q', e, z⟩ := s W q H f h
  exact ⟨W, q', f.less e, z⟩
theorem Sub.refl : Sub L L := fun W s _ _ h => ⟨s, fun _ z => z, h⟩
theorem Sub.drop (z : Sub N L) : Sub (A :: N) L := fun W s H f ⟨s1, s2, d, u, _, h⟩ => by
  obtain ⟨q, e, k⟩ := z W s2 H (f.less fun a y => (u a).mpr (.inr y)) h
  exact ⟨q, fun a y => (u a).mpr (.inr (e a y)), k⟩
theorem Sub.nil : Sub N ([] : List (As K)) := fun _ _ _ _ _ => ⟨fun _ => False, fun _ z => z.elim, fun _ z => z⟩
theorem Sub.cons (z : Sub N L) : Sub (A :: N) (A :: L) := fun W s H f ⟨s1, s2, d, u, h1, h⟩ => by
  obtain ⟨q, e, k⟩ := z W s2 H (f.less fun a y => (u a).mpr (.inr y)) h
  exact ⟨fun a => s1 a ∨ q a, fun a y => (u a).mpr (y.imp id (e a)), s1, q, fun a x y => d a x (e a y), fun a => Iff.rfl, h1, k⟩
theorem Sub.trans (z : Sub N M) (y : Sub M L) : Sub N L := fun W s H f h => by
  obtain ⟨q, e, k⟩ := z W s H f h
  obtain ⟨q2, e2, k2⟩ := y W q H (f.less e) k
  exact ⟨q2, fun a w => e a (e2 a w), k2⟩
theorem Sub.perm (p : N.Perm M) : Sub N M := fun W s H _ h => ⟨s, fun _ z => z, h.perm p⟩
theorem Sub.rem (r : Rem N A M) (z : Sub M L) : Sub N (A :: L) := (Sub.perm r.perm).trans z.cons
/-- told once more -/
theorem Sub.dup [i : Dup A] (m : A ∈ N) (z : Sub N L) : Sub N (A :: L) := fun W s H f h => by
  obtain ⟨M, hM⟩ := Rem.of_mem m
  obtain ⟨s1, s2, d, u, h1, h2⟩ := h.perm hM.perm
  obtain ⟨q, e, k⟩ := z W s H f h
  exact ⟨q, e, s1, q, fun a x _ => (i.no h1 a x).elim, fun a => ⟨.inr, fun y => y.elim (fun x => (i.no h1 a x).elim) id⟩, h1, k⟩
theorem Sub.all : Sub (Ls.all L :: M) N ↔ Sub (L ++ M) N := by
  constructor
  · intro z W s H f h
    obtain ⟨s1, s2, d, u, h1, h2⟩ := Hld.app.mp h
    exact z W s H f ⟨s1, s2, d, u, h1, h2⟩
  · intro z W s H f h
    obtain ⟨s1, s2, d, u, h1, h2⟩ := h
    exact z W s H f (Hld.app.mpr ⟨s1, s2, d, u, h1, h2⟩)
def Gv : PyData → (V → List (As K) → Prop) → Prop
  | .none, q => q .non []
  | .bool b, q => q (.bl b) []
  | .int i, q => q (.int i) []
  | .str x, q => q (.str x) []
  | .tuple ds, q => ∀ a, q (.ref a) [im (.ref a) (.tuple ds)]
  | d, q => ∀ v, q v [im v d]
def GvAll : List PyData → (List V → List (As K) → Prop) → Prop
  | [], q => q [] []
  | d :: ds, q => Gv d fun v M => GvAll ds fun vs N => q (v :: vs) (M ++ N)
theorem Gv.go {R : V → Prop} (m : Im K H v d) (h : Sep L H) (g : Gv (K := K) d fun v M => Sep (M ++ L) H → R v) : R v := by
  cases m with
  | non => exact g h
  | bl b => exact g h
  | int i => exact g h
  | str x => exact g h
  | tup h1 h2 => exact g _ (Sep.im_iff.mpr ⟨.tup h1 h2, h⟩)
theorem Gv.mono {q q' : V → List (As K) → Prop} (g : Gv d q) (k : ∀ v M, q v M → q' v M) : Gv d q' := by
  cases d <;> first | exact k _ _ g | exact fun v => k _ _ (g v)
theorem GvAll.go : ∀ {L : List (As K)} {ds : List PyData} {vs : List V} {q : List V → List (As K) → Prop}, ImAll K H vs ds → Sep L H → GvAll ds q → ∃ M, q vs M ∧ Sep (M ++ L) H
  | L, [], _, q, .nil, h, g => ⟨[], g, h⟩
  | L, d :: ds, _, q, .cons (v := v) a b, h, g => by
    have g' : Gv (K := K) d fun v M => GvAll ds fun vs N => q (v :: vs) (M ++ N) := g
    refine Gv.go (R := fun v => ∃ M, q (v :: _) M ∧ Sep (M ++ L) H) a h (g'.mono fun v M g2 hM => ?_)
    obtain ⟨N, h3, h4⟩ := GvAll.go (L := M ++ L) b hM g2
    refine ⟨M ++ N, h3, h4.perm ?_⟩
    rw [← List.append_assoc]
    exact List.perm_append_comm.append_right L
theorem k_gtupS {n : Nat} {tg : TGs} {R : L2.St → Hp → Prop} (h : Sep L H) (m : im (.ref a) (.tuple ds) ∈ L) (hn : ds.length = n) (q : GvAll (K := K) ds fun vs M => Sep (M ++ L) H → tg vs σ H R) : gTup K n tg (.ref a) σ H R := by
  obtain ⟨a', xs, e, h1, h2⟩ := im_tup (h.imm m)
  cases e
  obtain ⟨M, h3, h4⟩ := q.go h2 h
  exact k_gtup h1 (h2.length.trans hn) (h3 h4)
theorem k_gtupO {n : Nat} {tg : TGs} {R : L2.St → Hp → Prop} (h : Sep L H) (m : tu a xs ∈ L) (hn : xs.length = n) (q : tg xs σ H R) : gTup K n tg (.ref a) σ H R := k_gtup (h.tum m) hn q
theorem atI_all : ∀ {vs : List V} {ds : List PyData} {i : Int}, ImAll K H vs ds → atI ds i = some d → ∃ v, atI vs i = some v ∧ Im K H v d := fun {vs ds i} h e => by
  unfold atI at e ⊢
  rw [h.length]
  cases q : ixN ds.length i with
  | none =>
    rw [q] at e
    cases e
  | some j =>
    rw [q] at e
    exact h.getD e
theorem k_ixS' (h : Sep L H) (m : im (.ref a) (.tuple ds) ∈ L) (e : atI ds i = some d) (q : Gv (K := K) d fun v M => Sep (M ++ L) H → Q v H) : rIx K (.ref a) (.int i) H Q := by
  obtain ⟨a', xs, e', h1, h2⟩ := im_tup (h.imm m)
  cases e'
  obtain ⟨v, hv, hd⟩ := atI_all h2 e
  exact k_ixT h1 hv (Gv.go hd h q)
end
end Ls
namespace Ls
open PySem PySem.Spec PyProof.Rows L2
section
variable {K : PySem.W.Frag} {A B : As K} {L L' M N : List (As K)} {H H' : Hp} {a p l : Addr} {o u : HO} {v x y : V} {d e : PyData} {vs xs ys : List V} {ds es : List PyData} {Q : VK} {σ : L2.St} {i j : Int} {n : Nat} {b : Bool}
theorem k_lenD (h : Sep L H) (m : ld a ds ∈ L) (q : Q (.int ds.length) H) : rLenU K [.ref a] H Q := by
  obtain ⟨xs, h1, h2⟩ := h.ldm m
  exact k_lenL (sql_of h1) (by rw [h2.length]; exact q)
theorem k_lenO (h : Sep L H) (m : ob a (.lst xs) ∈ L) (q : Q (.int xs.length) H) : rLenU K [.ref a] H Q := k_lenL (sql_of (h.obm m)) q
theorem k_lenI (h : Sep L H) (m : im (.ref a) (.tuple ds) ∈ L) (q : Q (.int ds.length) H) : rLenU K [.ref a] H Q := by
  obtain ⟨a', xs, e, h1, h2⟩ := im_tup (h.imm m)
  cases e
  exact k_lenT h1 (by rw [h2.length]; exact q)
theorem k_lenK (h : Sep L H) {kvs : List (Key × V)} (m : ob a (.dK kvs) ∈ L) (q : Q (.int kvs.length) H) : rLenU K [.ref a] H Q := .inr (.inr ⟨a, kvs, rfl, h.obm m, q⟩)
theorem k_ixD (h : Sep L H) (m : ld a ds ∈ L) (e : atI ds i = some d) (q : Gv (K := K) d fun v M => Sep (M ++ L) H → Q v H) : rIx K (.ref a) (.int i) H Q := by
  obtain ⟨xs, h1, h2⟩ := h.ldm m
  obtain ⟨v, hv, hd⟩ := atI_all h2 e
  exact k_ixL (sql_of h1) hv (Gv.go hd h q)
theorem k_ixO (h : Sep L H) (m : ob a (.lst xs) ∈ L) (e : atI xs i = some v) (q : Q v H) : rIx K (.ref a) (.int i) H Q := k_ixL (sql_of (h.obm m)) e q
theorem k_ixTu (h : Sep L H) (m : tu a xs ∈ L) (e : atI xs i = some v) (q : Q v H) : rIx K (.ref a) (.int i) H Q := k_ixT (h.tum m) e q
theorem k_tyD {P : Prop} (h : Sep L H) (m : ld a ds ∈ L) (q : P) : tyV K "list" (.ref a) H ∧ P := by
  obtain ⟨xs, h1, h2⟩ := h.ldm m
  exact k_tyL (sql_of h1) q
theorem k_tyO {P : Prop} (h : Sep L H) (m : ob a (.lst xs) ∈ L) (q : P) : tyV K "list" (.ref a) H ∧ P := k_tyL (sql_of (h.obm m)) q
theorem k_appD (h : Sep L H) (r : Rep L (ld a ds) (ld a (ds ++ [d])) M) (t : Dat L x d) (hl : ds.length < sizeLine) (q : ∀ H', Sep M H' → Q .non H') : rAppend (.ref a) [x] H Q := by
  obtain ⟨xs, h1, h2⟩ := h.ldm r.mem
  exact k_app h1 (by rw [h2.length]; exact hl) (q _ (h.setDR r (h2.snoc (t.is h))))
theorem k_appO (h : Sep L H) (r : Rep L (ob a (.lst xs)) (ob a (.lst (xs ++ [x]))) M) (hl : xs.length < sizeLine) (q : ∀ H', Sep M H' → Q .non H') : rAppend (.ref a) [x] H Q :=
  k_app (h.obm r.mem) hl (q _ (h.setR r rfl))
structure Wk (J : It) (L : List (As K)) (n : Nat) (Y : Nat → (V → List (As K) → Prop) → Prop) : Prop where
  go : ∀ i H, i < n → Sep L H → J.go i H
  yl : ∀ i H x H' (R : V → Hp → Prop), i < n → Sep L H → J.yld i H x H' → Y i (fun v M => ∀ H2, Sep (M ++ L) H2 → R v H2) → R x H'
  st : ∀ H, Sep L H → J.stop n H
theorem wk_ld (m : ld a ds ∈ L) : Wk (Itl K a) L ds.length fun i q => ∀ d, ds[i]? = some d → Gv d q where
  go := fun i H hi h => by
    obtain ⟨xs, h1, h2⟩ := h.ldm m
    have hx : i < xs.length := by rw [h2.length]; exact hi
    exact ⟨xs, xs[i], sql_of h1, List.getElem?_eq_getElem hx⟩
  yl := fun i H x H' R hi h ⟨e, y⟩ q => by
    subst e
    obtain ⟨xs, h1, h2⟩ := h.ldm m
    obtain ⟨d, hd, hm⟩ := h2.get (y xs (sql_of h1))
    exact Gv.go hm h ((q d hd).mono fun v M g hM => g _ hM)
  st := fun H h => by
    obtain ⟨xs, h1, h2⟩ := h.ldm m
    exact ⟨xs, sql_of h1, by rw [h2.length]; exact Nat.le_refl _⟩
theorem Wk.mono {J : It} {Y Y' : Nat → (V → List (As K) → Prop) → Prop} (w : Wk J L n Y) (k : ∀ i q, i < n → Y' i q → Y i q) : Wk J L n Y' := ⟨w.go, fun i H x H' R hi h y q => w.yl i H x H' R hi h y (k i _ hi q), w.st⟩
theorem wk_ldm {α : Type} {zs : List α} {f : α → PyData} (m : ld a (zs.map f) ∈ L) : Wk (Itl K a) L zs.length fun i q => ∀ z, zs[i]? = some z → Gv (f z) q := by
  have w := wk_ld m
  rw [List.length_map] at w
  refine w.mono fun i q hi k d hd => ?_
  rw [List.getElem?_map] at hd
  obtain ⟨z, hz, rfl⟩ := Option.map_eq_some_iff.mp hd
  exact k z hz
theorem wk_im (m : im (.ref a) (.tuple ds) ∈ L) : Wk (Itt K a) L ds.length fun i q => ∀ d, ds[i]? = some d → Gv d q where
  go := fun i H hi h => by
    obtain ⟨a', xs, e, h1, h2⟩ := im_tup (h.imm m)
    cases e
    have hx : i < xs.length := by rw [h2.length]; exact hi
    exact ⟨xs, xs[i], h1, List.getElem?_eq_getElem hx⟩
  yl := fun i H x H' R hi h ⟨e, y⟩ q => by
    subst e
    obtain ⟨a', xs, e, h1, h2⟩ := im_tup (h.imm m)
    cases e
    obtain ⟨d, hd, hm⟩ := h2.get (y xs h1)
    exact Gv.go hm h ((q d hd).mono fun v M g hM => g _ hM)
  st := fun H h => by
    obtain ⟨a', xs, e, h1, h2⟩ := im_tup (h.imm m)
    cases e
    exact ⟨xs, h1, by rw [h2.length]; exact Nat.le_refl _⟩
theorem wk_imm {α : Type} {zs : List α} {f : α → PyData} (m : im (.ref a) (.tuple (zs.map f)) ∈ L) : Wk (Itt K a) L zs.length fun i q => ∀ z, zs[i]? = some z → Gv (f z) q := by
  have w := wk_im m
  rw [List.length_map] at w
  refine w.mono fun i q hi k d hd => ?_
  rw [List.getElem?_map] at hd
  obtain ⟨z, hz, rfl⟩ := Option.map_eq_some_iff.mp hd
  exact k z hz
theorem wk_rng {lo : Int} : Wk (Itr lo n) L n fun i q => q (.int (lo + i)) [] where
  go := fun i H hi h => hi
  yl := fun i H x H' R hi h ⟨e, y⟩ q => by
    subst e y
    exact q _ h
  st := fun H h => Nat.le_refl _
def Nx (Iv : Nat → L2.St → List (As K) → Prop) (i : Nat) : L2.St → Hp → Prop := fun σ H => ∃ L, Iv i σ L ∧ Sep L H
theorem for_wk {J : It} {Y : Nat → (V → List (As K) → Prop) → Prop} {g : TG} {tb : TS} {D : Ends} (Iv : Nat → L2.St → List (As K) → Prop) (hw : ∀ i σ L, Iv i σ L → Wk J L n Y) (h : Sep L H) (h0 : Iv 0 σ L)
    (hs : ∀ i σ L, i < n → Iv i σ L → Y i fun v M => ∀ H, Sep (M ++ L) H → g v σ H fun σ2 H2 => tb { D with nx := Nx Iv (i + 1), ct := Nx Iv (i + 1), bk := D.nx } σ2 H2) (hd : ∀ σ L H, Iv n σ L → Sep L H → D.nx σ H) :
    ∃ W : Nat → Nat → L2.St → Hp → Prop, (∃ m, W 0 m σ H) ∧ ∀ i m σ H, W i m σ H →
      (J.stop i H ∧ D.nx σ H) ∨ (J.go i H ∧ ∃ N : L2.St → Hp → Prop, (∀ σ' H', N σ' H' → ∃ m', m' < m ∧ W (i + 1) m' σ' H') ∧ ∀ x H', J.yld i H x H' → g x σ H' fun σ2 H2 => tb { D with nx := N, ct := N, bk := D.nx } σ2 H2) := by
  refine ⟨fun i m σ H => m = n - i ∧ i ≤ n ∧ Nx Iv i σ H, ⟨n, by simp, Nat.zero_le _, L, h0, h⟩, ?_⟩
  rintro i m σ H ⟨rfl, hi, L, iv, h⟩
  by_cases hlt : i < n
  · refine .inr ⟨(hw i σ L iv).go i H hlt h, Nx Iv (i + 1), fun σ' H' p => ⟨n - (i + 1), by omega, rfl, hlt, p⟩, fun x H' y => ?_⟩
    exact (hw i σ L iv).yl i H x H' (fun v H2 => g v σ H2 fun σ2 H2 => tb { D with nx := Nx Iv (i + 1), ct := Nx Iv (i + 1), bk := D.nx } σ2 H2) hlt h y (hs i σ L hlt iv)
  · have e : i = n := by omega
    subst e
    exact .inl ⟨(hw i σ L iv).st H h, hd σ L H iv h⟩
def Lx (D : Addr) (Iv : Nat → List PyData → List (As K) → Prop) (i : Nat) : Hp → Prop := fun H => ∃ acc L, Iv i acc L ∧ Sep (ld D acc :: L) H
theorem lc_wk {J : It} {Y : Nat → (V → List (As K) → Prop) → Prop} {g : TG} {tt : TT} {te : TE} {ws : List Nat} {D : Addr} {Qd : Hp → Prop} (Iv : Nat → List PyData → List (As K) → Prop) (hw : ∀ i acc L, Iv i acc L → Wk J (ld D acc :: L) n Y) (h : Sep (ld D [] :: L) H) (h0 : Iv 0 [] L)
    (hs : ∀ i acc L, i < n → Iv i acc L → Y i fun v M => ∀ H, Sep (M ++ ld D acc :: L) H → g v (wipe σ ws) H fun σ2 H2 => wipe σ2 ws = wipe σ ws ∧ tt σ2 H2 fun b H3 =>
      if b = true then te σ2 H3 fun y H4 => ∃ zs, H4 D = some (.lst zs) ∧ zs.length < sizeLine ∧ Lx D Iv (i + 1) (upd H4 D (.lst (zs ++ [y]))) else Lx D Iv (i + 1) H3)
    (hd : ∀ acc L H, Iv n acc L → Sep (ld D acc :: L) H → Qd H) :
    ∃ W : Nat → Nat → Hp → Prop, (∃ m, W 0 m H) ∧ ∀ i m H, W i m H →
      (J.stop i H ∧ Qd H) ∨ (J.go i H ∧ ∃ Nx : Hp → Prop, (∀ H', Nx H' → ∃ m', m' < m ∧ W (i + 1) m' H') ∧ ∀ x H', J.yld i H x H' → g x (wipe σ ws) H' fun σ2 H2 => wipe σ2 ws = wipe σ ws ∧ tt σ2 H2 fun b H3 =>
        if b = true then te σ2 H3 fun y H4 => ∃ acc, H4 D = some (.lst acc) ∧ acc.length < sizeLine ∧ Nx (upd H4 D (.lst (acc ++ [y]))) else Nx H3) := by
  refine ⟨fun i m H => m = n - i ∧ i ≤ n ∧ Lx D Iv i H, ⟨n, by simp, Nat.zero_le _, [], L, h0, h⟩, ?_⟩
  rintro i m H ⟨rfl, hi, acc, L, iv, h⟩
  by_cases hlt : i < n
  · refine .inr ⟨(hw i acc L iv).go i H hlt h, Lx D Iv (i + 1), fun H' p => ⟨n - (i + 1), by omega, rfl, hlt, p⟩, fun x H' y => ?_⟩
    exact (hw i acc L iv).yl i H x H' (fun v H2 => g v (wipe σ ws) H2 fun σ2 H2 => wipe σ2 ws = wipe σ ws ∧ tt σ2 H2 fun b H3 =>
        if b = true then te σ2 H3 fun y H4 => ∃ zs, H4 D = some (.lst zs) ∧ zs.length < sizeLine ∧ Lx D Iv (i + 1) (upd H4 D (.lst (zs ++ [y]))) else Lx D Iv (i + 1) H3) hlt h y (hs i acc L hlt iv)
  · have e : i = n := by omega
    subst e
    exact .inl ⟨(hw i acc L iv).st H h, hd acc L H iv h⟩
/-- a turn's end: the element is kept -/
theorem lc_keep {D : Addr} {Iv : Nat → List PyData → List (As K) → Prop} {i : Nat} {acc : List PyData} (h : Sep N H) (t : Dat N y d) (s : Sub N (ld D acc :: L)) (hl : acc.length < sizeLine) (iv : Iv i (acc ++ [d]) L) : ∃ zs, H D = some (.lst zs) ∧ zs.length < sizeLine ∧ Lx D Iv i (upd H D (.lst (zs ++ [y]))) := by
  have g := s.ok h
  obtain ⟨zs, h1, h2⟩ := g.ldm List.mem_cons_self
  exact ⟨zs, h1, by rw [h2.length]; exact hl, _, _, iv, g.setD (h2.snoc (t.is h))⟩
theorem lc_skip {D : Addr} {Iv : Nat → List PyData → List (As K) → Prop} {i : Nat} {acc : List PyData} (h : Sep N H) (s : Sub N (ld D acc :: L)) (iv : Iv i acc L) : Lx D Iv i H := ⟨_, _, iv, s.ok h⟩
/-- [r z for z in ..], what stands beside unchanged -/
def Fl {α : Type} (zs : List α) (r : α → List PyData) (L : List (As K)) : Nat → List PyData → List (As K) → Prop := fun i acc L' => L' = L ∧ acc = (zs.take i).flatMap r
theorem flat_len {α : Type} (r : α → List PyData) (hr : ∀ z, (r z).length ≤ 1) : ∀ zs : List α, (zs.flatMap r).length ≤ zs.length
  | [] => Nat.le_refl _
  | z :: zs => by
    have := flat_len r hr zs
    have := hr z
    rw [List.flatMap_cons, List.length_append, List.length_cons]
    omega
theorem lc_flat {α : Type} {J : It} {zs : List α} {Z : α → (V → List (As K) → Prop) → Prop} {g : TG} {tt : TT} {te : TE} {ws : List Nat} {D : Addr} {Qd : Hp → Prop} (r : α → List PyData)
    (h : Sep (ld D [] :: L) H) (hw : ∀ acc, Wk J (ld D acc :: L) zs.length fun i q => ∀ z, zs[i]? = some z → Z z q)
    (hs : ∀ i z acc, zs[i]? = some z → (∀ d, r z = [d] → Fl zs r L (i + 1) (acc ++ [d]) L) → (r z = [] → Fl zs r L (i + 1) acc L) → acc.length ≤ i → Z z fun v M => ∀ H, Sep (M ++ ld D acc :: L) H → g v (wipe σ ws) H fun σ2 H2 => wipe σ2 ws = wipe σ ws ∧ tt σ2 H2 fun b H3 =>
      if b = true then te σ2 H3 fun y H4 => ∃ xs, H4 D = some (.lst xs) ∧ xs.length < sizeLine ∧ Lx D (Fl zs r L) (i + 1) (upd H4 D (.lst (xs ++ [y]))) else Lx D (Fl zs r L) (i + 1) H3)
    (hd : ∀ H, Sep (ld D (zs.flatMap r) :: L) H → Qd H) (hr : ∀ z, (r z).length ≤ 1 := by intro _; first | exact Nat.le_refl _ | (split <;> decide)) :
    ∃ W : Nat → Nat → Hp → Prop, (∃ m, W 0 m H) ∧ ∀ i m H, W i m H →
      (J.stop i H ∧ Qd H) ∨ (J.go i H ∧ ∃ Nx : Hp → Prop, (∀ H', Nx H' → ∃ m', m' < m ∧ W (i + 1) m' H') ∧ ∀ x H', J.yld i H x H' → g x (wipe σ ws) H' fun σ2 H2 => wipe σ2 ws = wipe σ ws ∧ tt σ2 H2 fun b H3 =>
        if b = true then te σ2 H3 fun y H4 => ∃ acc, H4 D = some (.lst acc) ∧ acc.length < sizeLine ∧ Nx (upd H4 D (.lst (acc ++ [y]))) else Nx H3) := by
  refine lc_wk (n := zs.length) (Y := fun i q => ∀ z, zs[i]? = some z → Z z q) (Fl zs r L) (fun i acc L' e => e.1 ▸ hw acc) h ⟨rfl, rfl⟩ (fun i acc L' hi e z hz => ?_) (fun acc L' H e h => ?_)
  · obtain ⟨rfl, rfl⟩ := e
    have e1 : zs.take (i + 1) = zs.take i ++ [z] := by rw [List.take_add_one, hz]; rfl
    refine hs i z _ hz (fun d hd => ⟨rfl, ?_⟩) (fun hd => ⟨rfl, ?_⟩) ?_
    · rw [e1, List.flatMap_append, List.flatMap_cons, hd]; rfl
    · rw [e1, List.flatMap_append, List.flatMap_cons, hd, List.flatMap_nil, List.append_nil, List.append_nil]
    · have := flat_len r hr (zs.take i)
      rw [List.length_take] at this
      omega
  · obtain ⟨rfl, rfl⟩ := e
    rw [List.take_length] at h
    exact hd H h
theorem flat_map {α : Type} (f : α → PyData) : ∀ zs : List α, zs.flatMap (fun z => [f z]) = zs.map f
  | [] => rfl
  | z :: zs => by rw [List.flatMap_cons, List.map_cons, flat_map f zs]; rfl
theorem ims_bl {bs : List Bool} (h : ImAll K H xs (bs.map PyData.bool)) : xs = bs.map V.bl := by
  induction bs generalizing xs with
  | nil => cases h; rfl
  | cons b bs ih =>
    cases h with
    | cons a r => cases im_bl a; rw [ih r]; rfl
theorem ims_int {ns : List Int} (h : ImAll K H xs (ns.map PyData.int)) : xs = ns.map V.int := by
  induction ns generalizing xs with
  | nil => cases h; rfl
  | cons b bs ih =>
    cases h with
    | cons a r => cases im_int a; rw [ih r]; rfl
theorem ims_str {ns : List Str} (h : ImAll K H xs (ns.map PyData.str)) : xs = ns.map V.str := by
  induction ns generalizing xs with
  | nil => cases h; rfl
  | cons b bs ih =>
    cases h with
    | cons a r => cases im_str a; rw [ih r]; rfl
theorem k_allS {α : Type} {zs : List α} {f : α → Bool} (h : Sep L H) (m : ld a (zs.map fun z => PyData.bool (f z)) ∈ L) (q : Q (.bl (zs.all f)) H) : rAll K [.ref a] H Q := by
  obtain ⟨xs, h1, h2⟩ := h.ldm m
  have e : (zs.map fun z => PyData.bool (f z)) = (zs.map f).map PyData.bool := by rw [List.map_map]; rfl
  rw [e] at h2
  cases ims_bl h2
  refine k_all (sql_of h1) ?_
  have e2 : ((zs.map f).all id) = zs.all f := by rw [List.all_map]; rfl
  rw [e2]
  exact q
end
end Ls
namespace Ls
open PySem PySem.Spec PyProof.Rows L2
section
variable {K : PySem.W.Frag} {A B : As K} {L L' M N : List (As K)} {H H' : Hp} {a p l d c : Addr} {o u : HO} {v x y : V} {e : PyData} {vs xs ys : List V} {ds es : List PyData} {Q : VK} {E : XK} {σ : L2.St} {i j : Int} {n : Nat} {b : Bool}
/-- the draws' dict, whatever its state -/
def dr (d : Addr) : As K := ⟨fun _ s H => ∃ c, (∀ b, s b ↔ b = d ∨ b = c) ∧ Draw K H d c, fun ⟨c, e, n, r, s, ns, h1, h2, h3⟩ k _ => ⟨c, e, n, r, s, ns, (k d ((e d).mpr (.inl rfl))).trans h1, (k c ((e c).mpr (.inr rfl))).trans h2, h3⟩, fun ⟨c, e, n, r, s, ns, h1, h2, h3⟩ b z => by
  rcases (e b).mp z with rfl | rfl
  · exact ⟨_, h1, rfl⟩
  · exact ⟨_, h2, rfl⟩, fun h _ => h⟩
theorem Sep.draw (h : Sep L H) (m : dr d ∈ L) : ∃ c, Draw K H d c ∧ ∀ H', Keep d H H' → Draw K H' d c → Sep L H' := by
  obtain ⟨W, s, r, ⟨c, e, D⟩, dj, al, k⟩ := h.at m
  refine ⟨c, D, fun H' kp D' => k ⟨c, e, D'⟩ dj (fun a z => ?_) ⟨D.tp kp, fun a f e2 => kp a _ (D.ne e2 (by intro kvs z; cases z)) e2⟩⟩
  obtain ⟨o, ho, _⟩ := al a z
  rw [ho]
  exact kp a o (fun y => dj a ((e a).mpr (.inl y)) z) ho
theorem Sep.drawNew (h : Sep L H) (hd : H d = none) (hc : H c = none) (s : Same H H') (D : Draw K H' d c) : Sep (dr d :: L) H' := by
  obtain ⟨W, q0, f, z0⟩ := h
  have free : ∀ b, H b = none → ¬ q0 b := fun b hb y => by
    obtain ⟨o, ho, _⟩ := z0.al b y
    rw [hb] at ho
    cases ho
  have fw : ∀ b o, W b o → H b ≠ none := fun b o y e => by
    rw [(f b o y).1] at e
    cases e
  refine ⟨W, fun b => (b = d ∨ b = c) ∨ q0 b, fun b o y => ⟨s _ _ (f b o y).1, (f b o y).2.1, fun z => ?_⟩, fun b => b = d ∨ b = c, q0, fun b x y => ?_, fun b => Iff.rfl, ⟨c, fun b => Iff.rfl, D⟩, z0.st (fun a y => ?_) (Tq.same s)⟩
  · rcases z with (rfl | rfl) | z
    · exact fw _ _ y hd
    · exact fw _ _ y hc
    · exact (f b o y).2.2 z
  · rcases x with rfl | rfl
    · exact free _ hd y
    · exact free _ hc y
  · obtain ⟨o, ho, _⟩ := z0.al a y
    rw [s _ _ ho, ho]
theorem use_pickS {many : Int} (h : Sep L H) (m : dr d ∈ L) (h1 : 0 < many) (h2 : many < 2 ^ 200) (q : ∀ r H', Sep L H' → 0 ≤ r → r < many → Q (.int r) H') : spPick K ([.ref d, .int many] ++ []) H Q E := by
  obtain ⟨c, D, k⟩ := h.draw m
  exact use_pick D h1 h2 fun r H' k1 D1 r0 r1 => q r H' (k H' k1 D1) r0 r1
theorem use_beginS {ns : List Int} (h : Sep L H) (hs : SqL K H a (ns.map V.int)) (hl : ns.length ≤ 63) (q : ∀ d H', Sep (dr d :: L) H' → Q (.ref d) H') : spBegin K ([.ref a] ++ []) H Q E :=
  ⟨a, ns, rfl, hs, hl, fun d c H' hd hc s D => q d H' (h.drawNew hd hc s D)⟩
theorem use_ofD (h : Sep L H) (m : dr d ∈ L) (m2 : ld l ds ∈ L) (h1 : 0 < ds.length) (h2 : ds.length < 2 ^ 100) (q : ∀ e x H', e ∈ ds → Sep (im x e :: L) H' → Q x H') : spOf K ([.ref d, .ref l] ++ []) H Q E := by
  obtain ⟨xs, g1, g2⟩ := h.ldm m2
  have hl := g2.length
  obtain ⟨c, D, k⟩ := h.draw m
  refine use_of D (sql_of g1) (by omega) (by omega) fun x H' k1 D1 hx => ?_
  obtain ⟨i, hi⟩ := List.getElem?_of_mem hx
  obtain ⟨e, he, hm⟩ := g2.get hi
  exact q e x H' (List.mem_of_getElem? he) (Sep.im_iff.mpr ⟨hm.mono (D.tp k1), k H' k1 D1⟩)
def isI : PyData → Bool
  | .int _ => true
  | _ => false
def isS : PyData → Bool
  | .str _ => true
  | _ => false
theorem use_ofI (h : Sep L H) (m : dr d ∈ L) (m2 : ld l ds ∈ L) (hi : ds.all isI = true) (h1 : 0 < ds.length) (h2 : ds.length < 2 ^ 100) (q : ∀ n H', PyData.int n ∈ ds → Sep L H' → Q (.int n) H') : spOf K ([.ref d, .ref l] ++ []) H Q E := by
  refine use_ofD h m m2 h1 h2 fun e x H' he h' => ?_
  obtain ⟨a, h'⟩ := Sep.im_iff.mp h'
  have z := List.all_eq_true.mp hi e he
  cases e with
  | int n => cases im_int a; exact q n H' he h'.tail
  | _ => cases z
theorem use_ofS (h : Sep L H) (m : dr d ∈ L) (m2 : ld l ds ∈ L) (hi : ds.all isS = true) (h1 : 0 < ds.length) (h2 : ds.length < 2 ^ 100) (q : ∀ n H', PyData.str n ∈ ds → Sep L H' → Q (.str n) H') : spOf K ([.ref d, .ref l] ++ []) H Q E := by
  refine use_ofD h m m2 h1 h2 fun e x H' he h' => ?_
  obtain ⟨a, h'⟩ := Sep.im_iff.mp h'
  have z := List.all_eq_true.mp hi e he
  cases e with
  | str n => cases im_str a; exact q n H' he h'.tail
  | _ => cases z
theorem al_I (h : Sep L H) (hp : H p = none) (e : upd H p (.tup xs) = H') (t : DatAll L xs ds) : Sep (im (.ref p) (.tuple ds) :: L) H' := e ▸ h.newI hp t
theorem al_T (h : Sep L H) (hp : H p = none) (e : upd H p (.tup xs) = H') : Sep (tu p xs :: L) H' := e ▸ h.newT hp
theorem al_L (h : Sep L H) (hp : H p = none) (e : upd H p (.lst xs) = H') (t : DatAll L xs ds) : Sep (ld p ds :: L) H' := e ▸ h.newD hp t
theorem al_O (h : Sep L H) (hp : H p = none) (e : upd H p o = H') (n : Nt o = true) : Sep (ob p o :: L) H' := e ▸ h.new hp n
theorem k_cutS {t u : TS} {D : Ends} (Iv : L2.St → List (As K) → Prop) (h1 : t { D with nx := fun σ H => ∃ L, Iv σ L ∧ Sep L H } σ H) (h2 : ∀ σ' L H', Iv σ' L → Sep L H' → u D σ' H') : tCut t u D σ H :=
  k_cut (fun σ H => ∃ L, Iv σ L ∧ Sep L H) h1 fun σ' H' ⟨L, iv, h⟩ => h2 σ' L H' iv h
theorem k_joinS {te : TE} (Iv : V → List (As K) → Prop) (h : te σ H fun v H => ∃ L, Iv v L ∧ Sep L H) (k : ∀ v L H', Iv v L → Sep L H' → Q v H') : tJ te σ H Q :=
  k_join (fun v H => ∃ L, Iv v L ∧ Sep L H) h fun v H' ⟨L, iv, h⟩ => k v L H' iv h
end
end Ls
namespace Ls
open PySem PySem.Spec PyProof.Rows L2
section
variable {K : PySem.W.Frag} {L : List (As K)} {H : Hp} {a : Addr} {xs : List V} {ds : List PyData} {R : Addr → Prop}
theorem k_itlD (h : Sep L H) (m : ld a ds ∈ L) (q : R a) : ∃ b, V.ref a = .ref b ∧ (∃ xs, SqL K H b xs) ∧ R b := by
  obtain ⟨xs, h1, _⟩ := h.ldm m
  exact ⟨a, rfl, ⟨xs, sql_of h1⟩, q⟩
theorem k_itlO (h : Sep L H) (m : ob a (.lst xs) ∈ L) (q : R a) : ∃ b, V.ref a = .ref b ∧ (∃ xs, SqL K H b xs) ∧ R b := ⟨a, rfl, ⟨xs, sql_of (h.obm m)⟩, q⟩
theorem k_ittI (h : Sep L H) (m : im (.ref a) (.tuple ds) ∈ L) (q : R a) : ∃ b, V.ref a = .ref b ∧ (∃ xs, SqT K H b xs) ∧ R b := by
  obtain ⟨a', xs, e, h1, h2⟩ := im_tup (h.imm m)
  cases e
  exact ⟨a, rfl, ⟨xs, h1⟩, q⟩
end
end Ls
namespace Ls
open PySem PySem.Spec PyProof.Rows L2
def gFld (K : PySem.W.Frag) (to : TE) (f : Str) : TG := fun v σ H R => to σ H fun x H2 => ∃ a C dx fs, x = .ref a ∧ H2 a = some (.ins C dx fs) ∧ Cls K C ∧ NoAttr K C f ∧ fs.length < 1000 ∧ R σ (upd H2 a (.ins C dx (putF f v fs)))
def tMethN (C : Addr) (m : Str) (n j : Nat) (sp : Sp) (gV : List V → List V → List V) (E : XK) (ta : TE) (t tk : TA) : TE := fun σ H Q => ta σ H fun x H1 => ∃ a dx fs, x = .ref a ∧ H1 a = some (.ins C dx fs) ∧ fs.lookup m = none ∧
  t σ H1 fun vs H2 => tk σ H2 fun zs H3 => vs.length + 1 = n ∧ zs.length = j ∧ sp (gV (.ref a :: vs) zs) H3 Q E
theorem enum_newT (l : Addr) (its : Array Value) (n : Nat) (od : Option Addr) (sl : Array (Option Value)) :
    Meets (Builtin.«enumerate.__new__» ⟨[.type "enumerate", .ref l], []⟩) (fun _ R s => s.heap.get? l = some { cls := .type "tuple", dict := od, data := .seq its n, slots := sl } ∧
      R (.ok (.ret (.ref (s.heap.push { cls := .type "tuple_iterator", data := .fields #[.ref l, .int 0 0] }).objs.size)))
        { s with heap := (s.heap.push { cls := .type "tuple_iterator", data := .fields #[.ref l, .int 0 0] }).push { cls := .type "enumerate", data := .fields #[.none, .bool false, .ref s.heap.objs.size, rawInt 0, .none, .none] } }) :=
  .of_wp fun prog w A R s z => by
    obtain ⟨h0, gn, dw, tk, os⟩ := s; obtain ⟨hl, z⟩ := z
    have hsb := sub_enumerate
    have hT : Heap.IsTuple (Shared.heap ⟨h0, gn, dw, tk, os⟩) l its := ⟨_, hl, rfl, n, rfl⟩
    wp_walk using AutoSeq1.wpAny_loadPart' hl
    refine wpAny_stack_any fun stk => wpAny_pure ?_
    split
    · rename_i c _ _ _ _ _
      cases (c == Value.type "enumerate")
      · wp_walk using AutoSeq1.wpAny_loadPart' hl, wpAny_pyIter_tuple hT
        exact ⟨_, rfl, z⟩
      · wp_walk using AutoSeq1.wpAny_loadPart' hl, wpAny_pyIter_tuple hT
        exact ⟨_, rfl, z⟩
    · wp_walk using AutoSeq1.wpAny_loadPart' hl, wpAny_pyIter_tuple hT
      exact ⟨_, rfl, z⟩
section
variable {P : Program} {w : World} {A : Around} {E : Value → Shared → Prop} {s : Shared}
theorem call_enumT {l : Addr} {its : Array Value} {Q : Value → Shared → Prop} (hT : s.heap.IsTuple l its)
    (k : ∀ h2, IsEnum h2 (s.heap.objs.size + 1) s.heap.objs.size 0 .none → h2.IsTupleIter s.heap.objs.size l 0 → h2.objs.size = s.heap.objs.size + 2 →
      (∀ b o, s.heap.get? b = some o → h2.get? b = some o) → Q (.ref (s.heap.objs.size + 1)) { s with heap := h2 }) :
    wpAny (model P w) A (call (.type "enumerate") [.ref l]) Q E s := by
  obtain ⟨⟨oc, od, dt, sl⟩, hl, hc, n, hd⟩ := hT
  replace hc : oc = .type "tuple" := hc
  replace hd : dt = .seq its n := hd
  subst hc hd
  refine callType_new F.called_enumerate (by decide) (F.typeCall_enumerate_1 _) (F.newCall_enumerate_1 _) (fun ob => F.args_object_init_2 ob _) F.entry_enumerate_new (enum_newT l its n od sl) ⟨hl, ?_⟩
  have sz : (s.heap.push { cls := .type "tuple_iterator", data := .fields #[.ref l, .int 0 0] }).objs.size = s.heap.objs.size + 1 := Heap.size_push ..
  show _ ∧ _
  rw [sz]
  have en : IsEnum ((s.heap.push { cls := .type "tuple_iterator", data := .fields #[.ref l, .int 0 0] }).push
      { cls := .type "enumerate", data := .fields #[.none, .bool false, .ref s.heap.objs.size, rawInt 0, .none, .none] }) (s.heap.objs.size + 1) s.heap.objs.size 0 .none := by
    have z := Heap.get?_push_size (s.heap.push { cls := .type "tuple_iterator", data := .fields #[.ref l, .int 0 0] }) (o := { cls := .type "enumerate", data := .fields #[.none, .bool false, .ref s.heap.objs.size, rawInt 0, .none, .none] }) rfl
    rw [sz] at z
    exact z
  exact ⟨⟨_, en, rfl⟩, k _ en ⟨_, Heap.get?_push_of_some _ (Heap.get?_push_size _ rfl), rfl, rfl⟩ (by rw [Heap.size_push, sz]) fun b o x => Heap.get?_push_of_some _ (Heap.get?_push_of_some _ x)⟩
end
/-- the tuple at a, each item in a new pair -/
def IteT (K : PySem.W.Frag) (a : Addr) : It :=
  ⟨fun i H => ∃ (xs : List V) (x : V), SqT K H a xs ∧ xs[i]? = some x, fun i H v H' => ∃ T x, v = .ref T ∧ H T = none ∧ H' = upd H T (.tup [.int (i : Nat), x]) ∧ ∀ xs, SqT K H a xs → xs[i]? = some x, fun i H => ∃ xs : List V, SqT K H a xs ∧ xs.length ≤ i⟩
theorem turn_enumT {P : Program} {w : World} {K : PySem.W.Frag} {elts : List Expr} {kk : Nat} {tpos : Pos} (a e it : Addr) :
    Turn P w K (.Tuple elts kk tpos) (IteT K a) [e, it] e (fun i h => (∃ old, IsEnum h e it ((i : Nat) : Int) old) ∧ h.IsTupleIter it a i ∧ e ≠ it ∧ a ≠ it) where
  mem := List.mem_cons_self
  obj := fun i h st b hb => by
    obtain ⟨⟨old, hen⟩, ⟨o, ho, hc, hd⟩, _⟩ := st
    rcases List.mem_cons.mp hb with rfl | hb
    · exact ⟨_, hen, fun v q => nomatch q⟩
    · rw [List.mem_singleton.mp hb]; exact ⟨o, ho, fun v q => by rw [hd] at q; cases q⟩
  keep := fun i h h' st k => let ⟨⟨old, hen⟩, hi, hne, ha⟩ := st; ⟨⟨old, k e List.mem_cons_self _ hen⟩, hi.at fun o q => k it (List.mem_cons_of_mem _ List.mem_cons_self) o q, hne, ha⟩
  item := by
    intro X hP hw hK hc i pins s σ H E I hf st hg
    subst hP hw hK
    obtain ⟨⟨old, hen⟩, hit, hne, hat⟩ := st
    obtain ⟨xs, x, hq, hx⟩ := hg
    obtain ⟨its, rv, p, hz⟩ := I.tuple hq
    obtain ⟨u, hu, ru⟩ := rv.get hx
    have pT : s.heap.IsTuple a its.toArray := p
    have sze : e < s.heap.objs.size := Heap.lt_size hen
    have szi : it < s.heap.objs.size := by obtain ⟨_, q, _⟩ := hit; exact Heap.lt_size q
    have iL : i < its.length := (List.getElem?_eq_some_iff.mp hu).1
    refine wpAny_pyNext_enum_itemD (Draws.tuple (A := X.A.in1) (by exact I.ok.hd hc) it a hat its.toArray) hen ⟨hit, pT⟩ (by simpa using iL) hne (by
      intro z
      rcases List.mem_cons.mp z with z | z
      · exact hne z
      · obtain rfl := List.mem_singleton.mp z
        obtain ⟨oo, q1, q2, _⟩ := pT
        rw [show s.heap.get? e = _ from hen] at q1
        cases q1
        injection q2 with q3
        exact absurd q3 (by decide)) fun v h' tk hP ho hst hT hsz hk => ?_
    have ev : v = u := by
      have z : its.toArray[i]? = some v := hP
      rw [List.getElem?_toArray, hu] at z
      exact (Option.some.inj z).symm
    subst ev
    refine ⟨_, rfl, wpAny_letOwnedTupleGo_enum (s := { s with heap := h', toks := tk + 1 }) ho fun h'' hen2 sb => ?_⟩
    have hT2 : h''.get? s.heap.objs.size = some { cls := .type "tuple", data := .seq #[.int i tk, v] } := (sb.2 _ (Nat.ne_of_gt sze)).trans hT
    have new : ObjOk X.prog X.w (upd H s.heap.objs.size (.tup [.int (i : Nat), x])) h'' s.heap.objs.size (.tup [.int (i : Nat), x]) :=
      ⟨by show 2 ≤ sizeLine; decide, [.int i tk, v], .cons ⟨_, rfl⟩ (.cons ru .nil), ⟨_, hT2, rfl, _, rfl⟩⟩
    have I1 : Inv X pins σ (upd H s.heap.objs.size (.tup [.int (i : Nat), x])) { s with heap := h'', toks := tk + 1 } :=
      I.turnedNew (ch := [e, it]) (fun b ob hb q => (sb.2 b (fun z => hb (by rw [z]; exact List.mem_cons_self))).trans (hk b ob (fun z => hb (by rw [z]; exact List.mem_cons_self)) (fun z => hb (by rw [z]; exact List.mem_cons_of_mem _ List.mem_cons_self)) q)) hf (Nat.le_refl _) new
    refine ⟨.ref s.heap.objs.size, _, I1, rfl, ⟨_, x, rfl, I.hok.fresh (Nat.le_refl _), rfl, fun ys hy => by rw [I.tuple_inj hy hq]; exact hx⟩, ⟨⟨v, ?_⟩, hst.1.at fun o q => (sb.2 it (Ne.symm hne)).trans q, hne, hat⟩, fun b hb => ?_⟩
    · rw [show ((i + 1 : Nat) : Int) = (i : Int) + 1 by omega]; exact hen2
    · have hb2 : b < s.heap.objs.size := by
        rcases List.mem_cons.mp hb with z | z
        · rw [z]; exact sze
        · rw [List.mem_singleton.mp z]; exact szi
      rw [upd_ne (Nat.ne_of_lt hb2)]
      exact (hf b hb).1
  done := by
    intro X hP hw hK hc i pins s σ H E I hf st hg
    subst hP hw hK
    obtain ⟨⟨old, hen⟩, hit, hne, hat⟩ := st
    obtain ⟨xs, hq, hx⟩ := hg
    obtain ⟨its, rv, p, hz⟩ := I.tuple hq
    obtain ⟨f0, f1, f2, f3, f4, f5⟩ := hf it (List.mem_cons_of_mem _ List.mem_cons_self)
    have ll := rv.length
    have pT : s.heap.IsTuple a its.toArray := p
    have D : Draws X.prog X.w X.A.in1 it [it, a] i (fun _ _ => True) (fun j h => j = i ∧ h.IsTupleIter it a i ∧ h.IsTuple a its.toArray) :=
      { live := fun _ _ st => let ⟨o, ho, _⟩ := st.2.1; ⟨o, ho⟩
        frame := fun _ _ _ st hk => ⟨st.1, st.2.1.at fun o q => hk it List.mem_cons_self o q, st.2.2.at fun o q => hk a (List.mem_cons_of_mem _ List.mem_cons_self) o q⟩
        item := fun j _ _ _ hj st _ => absurd st.1 (Nat.ne_of_lt hj)
        done := fun _ _ _ st k => wpAny_nextOf_tuple_end (by exact I.ok.hd hc) st.2.1 st.2.2 (by simp; omega) k }
    exact wpAny_pyNext_enum_endD D hen ⟨rfl, hit, pT⟩ fun h' eb => ⟨rfl, I.turned (t' := s.toks) (fun b o hb q => eb b o hb q) f0 f1 f3 f4 f5⟩
  self := fun A i s Q E st h => let ⟨⟨_, hen⟩, _⟩ := st; wpAny_pyIter_enum hen h
/-- a list's or a tuple's items, each in a new pair -/
def iEnumU (K : PySem.W.Frag) (ta : TA) : TI := fun σ H R => ta σ H fun vs H1 => ∃ a, vs = [.ref a] ∧ ((∃ xs, SqL K H1 a xs ∧ R (Ite K a) H1) ∨ ∃ xs, SqT K H1 a xs ∧ R (IteT K a) H1)
theorem pi_enumU {X : Cx} {e : Expr} {ta : TA} {p pos tpos : Pos} {elts : List Expr} {kk : Nat} (K : PySem.W.Frag) (hK : X.K = K) (hg : Gl X "enumerate") (hm : X.mg "enumerate" = none) (ha : PA X [e] ta) (hs : starEach [e] X.env = [(false, eval e X.env)] := by rfl) :
    PI X (.Tuple elts kk tpos) (.Call (.Name "enumerate" p) [e] [] pos) (iEnumU K ta) := by
  subst hK
  refine ⟨fun pins s σ H R I h => ?_⟩
  refine Call_ (ld_blt I hg hm boot_enumerate (PyProof.Rows.callWith_type1 (thn (ha.run pos pins s σ H _ I h) fun us s1 ⟨vs, H1, I1, r1, q1⟩ => ?_) hs rfl))
  obtain ⟨a, ex, q⟩ := q1
  subst ex
  cases r1 with
  | cons r rr =>
    cases rr
    cases r
    have ge : ∀ b, b ∈ [s1.heap.objs.size + 1, s1.heap.objs.size] → s1.heap.objs.size ≤ b := fun b hb => by
      rcases List.mem_cons.mp hb with z | z
      · rw [z]; exact Nat.le_add_right _ _
      · rw [List.mem_singleton.mp z]; exact Nat.le_refl _
    rcases q with ⟨xs, hq, q⟩ | ⟨xs, hq, q⟩
    · obtain ⟨its, rv, p', hz⟩ := I1.list hq
      refine call_enumerate_list p'.isList fun h' he hit hsz hk => wpAny_pyIter_enum he ?_
      have I2 : Inv X pins σ H1 { s1 with heap := h' } := I1.kept (t' := s1.toks) hk
      exact ⟨s1.heap.objs.size + 1, [s1.heap.objs.size + 1, s1.heap.objs.size], _, _, H1, rfl, I2, turn_enum a (s1.heap.objs.size + 1) s1.heap.objs.size, ⟨⟨.none, he⟩, hit, Nat.succ_ne_self _⟩, fun b hb => I1.fpOk (ge b hb) (I1.hok.fresh (ge b hb)), q⟩
    · obtain ⟨its, rv, p', hz⟩ := I1.tuple hq
      have pT : s1.heap.IsTuple a its.toArray := p'
      have la : a < s1.heap.objs.size := by obtain ⟨_, q, _⟩ := pT; exact Heap.lt_size q
      refine call_enumT pT fun h' he hit hsz hk => wpAny_pyIter_enum he ?_
      have I2 : Inv X pins σ H1 { s1 with heap := h' } := I1.kept (t' := s1.toks) hk
      exact ⟨s1.heap.objs.size + 1, [s1.heap.objs.size + 1, s1.heap.objs.size], _, _, H1, rfl, I2, turn_enumT a (s1.heap.objs.size + 1) s1.heap.objs.size, ⟨⟨.none, he⟩, hit, Nat.succ_ne_self _, Nat.ne_of_lt la⟩, fun b hb => I1.fpOk (ge b hb) (I1.hok.fresh (ge b hb)), q⟩
def tJoinU (K : PySem.W.Frag) (to te : TE) : TE := tM1 (fun x xs H Q => ∃ a p, ∃ ys : List Str, x = .str a ∧ xs = [.ref p] ∧ (SqL K H p (ys.map V.str) ∨ SqT K H p (ys.map V.str)) ∧ (ys.map (·.length)).sum + ys.length * a.length ≤ 16777216 ∧ Q (.str (Txt.join a ys)) H) to te
theorem pe_joinU {X : Cx} {o e : Expr} {to te : TE} {apos pos : Pos} (K : PySem.W.Frag) (hK : X.K = K) (ho : PE X o to) (he : PE X e te) (hs : starEach [e] X.env = [(false, eval e X.env)] := by rfl) (hb : attributeBase o "join" X.env (eval o X.env) = eval o X.env := by rfl) (hl : (apos.endLine == pos.line) = true := by rfl) :
    PE X (.Call (.Attribute o "join" apos) [e] [] pos) (tJoinU K to te) := by
  subst hK
  exact L2.pe_join ho he hs hb hl
end Ls
namespace Ls
open PySem PySem.Spec PyProof.Rows L2
section
variable {K : PySem.W.Frag} {A B : As K} {L L' M N : List (As K)} {H H' : Hp} {a p l dx C : Addr} {o u : HO} {v x y : V} {d e : PyData} {vs xs ys : List V} {ds es : List PyData} {Q : VK} {D : Ends} {σ : L2.St} {i j : Int} {n : Nat} {b : Bool} {fs gs : List (Str × V)} {f m : Str} {sp : Sp} {E : XK} {dvs : List V} {ta te tv : TE} {t tk : TA}
def inst (a C : Addr) (fs : List (Str × V)) : As K := ⟨fun _ s H => ∃ dx, (∀ b, s b ↔ b = a ∨ b = dx) ∧ H a = some (.ins C dx fs) ∧ H dx = some (.own a), fun ⟨dx, e, h1, h2⟩ k _ => ⟨dx, e, (k a ((e a).mpr (.inl rfl))).trans h1, (k dx ((e dx).mpr (.inr rfl))).trans h2⟩, fun ⟨dx, e, h1, h2⟩ b z => by
  rcases (e b).mp z with rfl | rfl
  · exact ⟨_, h1, rfl⟩
  · exact ⟨_, h2, rfl⟩, fun h _ => h⟩
theorem Sep.insm (h : Sep L H) (m : inst a C fs ∈ L) : ∃ dx, H a = some (.ins C dx fs) := by
  obtain ⟨W, s, ⟨dx, _, h1, _⟩, _⟩ := h.the m
  exact ⟨dx, h1⟩
theorem Sep.setI (h : Sep (inst a C fs :: L) H) (e : H a = some (.ins C dx fs)) : Sep (inst a C gs :: L) (upd H a (.ins C dx gs)) := by
  obtain ⟨W, s, r, ⟨dx', es, h1, h2⟩, dj, _, k⟩ := h.hd
  rw [e] at h1
  cases h1
  have ne : dx ≠ a := fun z => by
    rw [z, e] at h2
    cases h2
  exact k (s' := s) ⟨dx, es, upd_same, by rw [upd_ne ne]; exact h2⟩ dj (fun b z => upd_ne fun y => dj b ((es b).mpr (.inl y)) z) (tp_upd e rfl)
theorem Sep.setIR (h : Sep L H) (r : Rep L (inst a C fs) (inst a C gs) M) (e : H a = some (.ins C dx fs)) : Sep M (upd H a (.ins C dx gs)) := by
  obtain ⟨N, h1, h2⟩ := Sep.rep r
  exact h2 _ ((h1 _ h).setI e)
theorem Sep.newInst (h : Sep L H) (ha : H a = none) (hd : H dx = none) (ne : dx ≠ a) : Sep (inst a C fs :: L) (upd (upd H dx (.own a)) a (.ins C dx fs)) := by
  have h1 := h.new (o := .own a) hd rfl
  have ha' : upd H dx (.own a) a = none := by rw [upd_ne (Ne.symm ne)]; exact ha
  have h2 := h1.new (o := .ins C dx fs) ha' rfl
  obtain ⟨W, s, f, s1, s2, dj, un, ⟨e1, g1, _⟩, t1, t2, dj2, un2, ⟨e2, g2, _⟩, h3⟩ := h2
  refine ⟨W, s, f, fun b => s1 b ∨ t1 b, t2, fun b x y => ?_, fun b => ?_, ⟨dx, fun b => ?_, g1, g2⟩, h3⟩
  · rcases x with x | x
    · exact dj b x ((un2 b).mpr (.inr y))
    · exact dj2 b x y
  · rw [un b, un2 b, or_assoc]
  · show s1 b ∨ t1 b ↔ _
    rw [e1 b, e2 b]
theorem k_fldt {R : V → Prop} (h : ∃ dx, H a = some (.ins C dx fs)) (c : Cls K C) (n : NoAttr K C f) (e : fs.lookup f = some v) (q : R v) : ∃ a' C' dx fs v', V.ref a = .ref a' ∧ H a' = some (.ins C' dx fs) ∧ Cls K C' ∧ NoAttr K C' f ∧ fs.lookup f = some v' ∧ R v' := by
  obtain ⟨dx, h⟩ := h
  exact ⟨a, C, dx, fs, v, rfl, h, c, n, e, q⟩
theorem k_fld (h : ta σ H fun x H1 => ∃ a C dx fs v, x = .ref a ∧ H1 a = some (.ins C dx fs) ∧ Cls K C ∧ NoAttr K C f ∧ fs.lookup f = some v ∧ Q v H1) : tFld K ta f σ H Q := h
theorem k_fldS {R : V → Prop} (h : Sep L H) (m : inst a C fs ∈ L) (c : Cls K C) (n : NoAttr K C f) (e : fs.lookup f = some v) (q : R v) : ∃ a' C' dx fs v', V.ref a = .ref a' ∧ H a' = some (.ins C' dx fs) ∧ Cls K C' ∧ NoAttr K C' f ∧ fs.lookup f = some v' ∧ R v' := k_fldt (h.insm m) c n e q
theorem k_sfld (h : tv σ H fun y H1 => ta σ H1 fun x H2 => ∃ a C dx fs, x = .ref a ∧ H2 a = some (.ins C dx fs) ∧ Cls K C ∧ NoAttr K C f ∧ fs.length < 1000 ∧ D.nx σ (upd H2 a (.ins C dx (putF f y fs)))) : sFld K ta tv f D σ H := h
theorem k_gfld {R : L2.St → Hp → Prop} (h : ta σ H fun x H2 => ∃ a C dx fs, x = .ref a ∧ H2 a = some (.ins C dx fs) ∧ Cls K C ∧ NoAttr K C f ∧ fs.length < 1000 ∧ R σ (upd H2 a (.ins C dx (putF f v fs)))) : gFld K ta f v σ H R := h
theorem k_putS' {R : Hp → Prop} (h : Sep L H) (r : Rep L (inst a C fs) (inst a C gs) M) (c : Cls K C) (n : NoAttr K C f) (hl : fs.length < 1000) (e : putF f y fs = gs) (q : ∀ H', Sep M H' → R H') : ∃ a' C' dx fs, V.ref a = .ref a' ∧ H a' = some (.ins C' dx fs) ∧ Cls K C' ∧ NoAttr K C' f ∧ fs.length < 1000 ∧ R (upd H a' (.ins C' dx (putF f y fs))) := by
  obtain ⟨dx, h1⟩ := h.insm r.mem
  subst e
  exact ⟨a, C, dx, fs, rfl, h1, c, n, hl, q _ (h.setIR r h1)⟩
theorem k_sfldaug {rd : V → V → Hp → VK → Prop} (h : ta σ H fun x H1 => ∃ a C dx fs v, x = .ref a ∧ H1 a = some (.ins C dx fs) ∧ Cls K C ∧ NoAttr K C f ∧ fs.lookup f = some v ∧
  tv σ H1 fun y H2 => rd v y H2 fun z H3 => ∃ dx' fs', H3 a = some (.ins C dx' fs') ∧ fs'.length < 1000 ∧ D.nx σ (upd H3 a (.ins C dx' (putF f z fs')))) : sFldAug K ta tv rd f D σ H := h
theorem k_augS {R : Hp → Prop} (h : Sep L H) (r : Rep L (inst a C fs) (inst a C gs) M) (hl : fs.length < 1000) (e : putF f y fs = gs) (q : ∀ H', Sep M H' → R H') : ∃ dx' fs', H a = some (.ins C dx' fs') ∧ fs'.length < 1000 ∧ R (upd H a (.ins C dx' (putF f y fs'))) := by
  obtain ⟨dx, h1⟩ := h.insm r.mem
  subst e
  exact ⟨dx, fs, h1, hl, q _ (h.setIR r h1)⟩
theorem k_inadd {R : V → Hp → Prop} (q : R (.int (i + j)) H) : rAdd (.int i) (.int j) H R := ⟨i, j, rfl, rfl, q⟩
theorem k_insub {R : V → Hp → Prop} (q : R (.int (i - j)) H) : rSub (.int i) (.int j) H R := ⟨i, j, rfl, rfl, q⟩
theorem k_meth (h : ta σ H fun x H1 => ∃ a dx fs, x = .ref a ∧ H1 a = some (.ins C dx fs) ∧ fs.lookup m = none ∧ t σ H1 fun vs H2 => sp (x :: (vs ++ dvs)) H2 Q E) : tMeth C m sp dvs E ta t σ H Q := h
theorem k_methN {gV : List V → List V → List V} {jn : Nat} (h : ta σ H fun x H1 => ∃ a dx fs, x = .ref a ∧ H1 a = some (.ins C dx fs) ∧ fs.lookup m = none ∧
  t σ H1 fun vs H2 => tk σ H2 fun zs H3 => vs.length + 1 = n ∧ zs.length = jn ∧ sp (gV (.ref a :: vs) zs) H3 Q E) : tMethN C m n jn sp gV E ta t tk σ H Q := h
theorem k_recv {R : Addr → Prop} (h : ∃ dx fs, H a = some (.ins C dx fs) ∧ fs.lookup m = none) (q : R a) : ∃ a' dx fs, V.ref a = .ref a' ∧ H a' = some (.ins C dx fs) ∧ fs.lookup m = none ∧ R a' := by
  obtain ⟨dx, fs, h1, h2⟩ := h
  exact ⟨a, dx, fs, rfl, h1, h2, q⟩
theorem k_recvI {R : Addr → Prop} (h : Sep L H) (w : inst a C fs ∈ L) (e : fs.lookup m = none) (q : R a) : ∃ a' dx fs, V.ref a = .ref a' ∧ H a' = some (.ins C dx fs) ∧ fs.lookup m = none ∧ R a' := by
  obtain ⟨dx, h1⟩ := h.insm w
  exact k_recv ⟨dx, fs, h1, e⟩ q
theorem k_make (h : t σ H fun vs H1 => ∀ x dx, H1 x = none → H1 dx = none → dx ≠ x → sp (.ref x :: (vs ++ dvs)) (upd (upd H1 dx (.own x)) x (.ins C dx [])) (fun v H2 => v = .non ∧ Q (.ref x) H2) E) : tMake C sp dvs E t σ H Q := h
def Lets (L : List (As K)) (C : Addr) (w : Str) (E : XK) : Prop := ∀ d H', Sep (ob d (.xd [("word", .str w)]) :: L) H' → E (.ref C) (some d) H'
end
end Ls
namespace Ls
open PySem PySem.Spec PyProof.Rows L2
section
variable {K : PySem.W.Frag} {L : List (As K)} {H H' : Hp} {xs : List V} {ds : List PyData} {o : HO} {kvs : List (Key × V)}
def updT (H : Hp) (p : Addr) (xs : List V) : Hp := upd H p (.tup xs)
def updL (H : Hp) (p : Addr) (xs : List V) : Hp := upd H p (.lst xs)
def updK (H : Hp) (p : Addr) (kvs : List (Key × V)) : Hp := upd H p (.dK kvs)
theorem updT_eq (p : Addr) : upd H p (.tup xs) = updT H p xs := rfl
theorem updL_eq (p : Addr) : upd H p (.lst xs) = updL H p xs := rfl
theorem updK_eq (p : Addr) : upd H p (.dK kvs) = updK H p kvs := rfl
variable {p : Addr}
theorem ar_I (h : Sep L H) (hp : H p = none) (e : updT H p xs = H') (t : DatAll L xs ds) : Sep (im (.ref p) (.tuple ds) :: L) H' := al_I h hp e t
theorem ar_T (h : Sep L H) (hp : H p = none) (e : updT H p xs = H') : Sep (tu p xs :: L) H' := al_T h hp e
theorem ar_L (h : Sep L H) (hp : H p = none) (e : updL H p xs = H') (t : DatAll L xs ds) : Sep (ld p ds :: L) H' := al_L h hp e t
theorem ar_O (h : Sep L H) (hp : H p = none) (e : updL H p xs = H') : Sep (ob p (.lst xs) :: L) H' := al_O h hp e rfl
theorem ar_K (h : Sep L H) (hp : H p = none) (e : updK H p kvs = H') : Sep (ob p (.dK kvs) :: L) H' := al_O h hp e rfl
end
end Ls
namespace Ls
theorem andThen {a b : Prop} (h : a) (k : a → b) : b := k h
end Ls
namespace Ls
open PySem PySem.Spec PyProof.Rows L2
section
variable {X : Cx}
/-- the items of a list or a tuple -/
def iSeqU (K : PySem.W.Frag) (te : TE) : TI := fun σ H R => te σ H fun x H1 => ∃ a, x = .ref a ∧ (((∃ xs, SqL K H1 a xs) ∧ R (Itl K a) H1) ∨ ((∃ xs, SqT K H1 a xs) ∧ R (Itt K a) H1))
theorem pi_seqU {tg e : Expr} {te : TE} (K : PySem.W.Frag) (hK : X.K = K) (he : PE X e te) : PI X tg e (iSeqU K te) := by
  subst hK
  refine ⟨fun pins s σ H R I h => ?_⟩
  refine thn (he.run pins s σ H _ I h) fun v s1 ⟨x, H1, I1, r1, a, ex, q⟩ => ?_
  subst ex
  obtain rfl : v = Value.ref a := r1
  have fp : ∀ b ∈ [s1.heap.objs.size], FpOk X pins H1 b := fun b hb => by
    rw [List.mem_singleton.mp hb]
    exact I1.fpOk (Nat.le_refl _) (I1.hok.fresh (Nat.le_refl _))
  rcases q with ⟨⟨xs, hq⟩, q⟩ | ⟨⟨xs, hq⟩, q⟩
  · obtain ⟨its, rv, p, hz⟩ := I1.list hq
    refine wpAny_pyIter_list p.isList ?_
    exact ⟨s1.heap.objs.size, [s1.heap.objs.size], _, _, H1, rfl, I1.kept (t' := s1.toks) fun b o z => Heap.get?_push_of_some _ z, turn_list a _, ⟨_, Heap.get?_push_size _ rfl, rfl, rfl⟩, fp, q⟩
  · obtain ⟨its, rv, p, hz⟩ := I1.tuple hq
    refine wpAny_pyIter_tuple (show s1.heap.IsTuple a its.toArray from p) ?_
    exact ⟨s1.heap.objs.size, [s1.heap.objs.size], _, _, H1, rfl, I1.kept (t' := s1.toks) fun b o z => Heap.get?_push_of_some _ z, turn_tuple a _, ⟨_, Heap.get?_push_size _ rfl, rfl, rfl⟩, fp, q⟩
end
end Ls
namespace Ls
open PySem PySem.Spec PyProof.Rows L2
section
variable {K : PySem.W.Frag} {A B : As K} {L L' M N : List (As K)} {H H' : Hp} {a p l dx C : Addr} {o u : HO} {v x y : V} {d e : PyData} {vs xs ys : List V} {ds es : List PyData} {Q : VK} {D : Ends} {σ : L2.St} {i j : Int} {n : Nat} {b : Bool} {ta te tv to : TE} {t tk : TA}
theorem k_joinU (h : to σ H fun x H1 => (∃ a, x = .str a) ∧ te σ H1 fun y H2 => ∃ a p, ∃ ys : List Str, x = .str a ∧ [y] = [.ref p] ∧ (SqL K H2 p (ys.map V.str) ∨ SqT K H2 p (ys.map V.str)) ∧ (ys.map (·.length)).sum + ys.length * a.length ≤ 16777216 ∧ Q (.str (Txt.join a ys)) H2) : tJoinU K to te σ H Q := h
theorem k_strX {z : Str} {P : Prop} (h : P) : (∃ a, V.str z = .str a) ∧ P := ⟨⟨z, rfl⟩, h⟩
theorem k_glueS {z : Str} {zs : List Str} {R : Str → List Str → Prop} (h : Sep L H) (m : ld p (zs.map PyData.str) ∈ L) (hl : (zs.map (·.length)).sum + zs.length * z.length ≤ 16777216) (q : R z zs) : ∃ a p', ∃ ys : List Str, V.str z = .str a ∧ [V.ref p] = [.ref p'] ∧ (SqL K H p' (ys.map V.str) ∨ SqT K H p' (ys.map V.str)) ∧ (ys.map (·.length)).sum + ys.length * a.length ≤ 16777216 ∧ R a ys := by
  obtain ⟨xs, h1, h2⟩ := h.ldm m
  cases ims_str h2
  exact ⟨z, p, zs, rfl, rfl, .inl (sql_of h1), hl, q⟩
theorem k_iseq {te : TE} {R : It → Hp → Prop} (h : te σ H fun x H1 => ∃ a, x = .ref a ∧ (((∃ xs, SqL K H1 a xs) ∧ R (Itl K a) H1) ∨ ((∃ xs, SqT K H1 a xs) ∧ R (Itt K a) H1))) : iSeqU K te σ H R := h
theorem k_seqD {R R' : Addr → Prop} (h : Sep L H) (m : ld a ds ∈ L) (q : R a) : ∃ b, V.ref a = .ref b ∧ (((∃ xs, SqL K H b xs) ∧ R b) ∨ ((∃ xs, SqT K H b xs) ∧ R' b)) := by
  obtain ⟨xs, h1, _⟩ := h.ldm m
  exact ⟨a, rfl, .inl ⟨⟨xs, sql_of h1⟩, q⟩⟩
theorem k_seqO {R R' : Addr → Prop} (h : Sep L H) (m : ob a (.lst xs) ∈ L) (q : R a) : ∃ b, V.ref a = .ref b ∧ (((∃ xs, SqL K H b xs) ∧ R b) ∨ ((∃ xs, SqT K H b xs) ∧ R' b)) :=
  ⟨a, rfl, .inl ⟨⟨xs, sql_of (h.obm m)⟩, q⟩⟩
theorem k_seqI {R R' : Addr → Prop} (h : Sep L H) (m : im (.ref a) (.tuple ds) ∈ L) (q : R' a) : ∃ b, V.ref a = .ref b ∧ (((∃ xs, SqL K H b xs) ∧ R b) ∨ ((∃ xs, SqT K H b xs) ∧ R' b)) := by
  obtain ⟨a', xs, e, h1, h2⟩ := im_tup (h.imm m)
  cases e
  exact ⟨a, rfl, .inr ⟨⟨xs, h1⟩, q⟩⟩
theorem k_enum {R : It → Hp → Prop} (h : t σ H fun vs H1 => ∃ a, vs = [.ref a] ∧ ((∃ xs, SqL K H1 a xs ∧ R (Ite K a) H1) ∨ ∃ xs, SqT K H1 a xs ∧ R (IteT K a) H1)) : iEnumU K t σ H R := h
theorem k_enD {R R' : Addr → Prop} (h : Sep L H) (m : ld a ds ∈ L) (q : R a) : ∃ b, [V.ref a] = [.ref b] ∧ ((∃ xs, SqL K H b xs ∧ R b) ∨ ∃ xs, SqT K H b xs ∧ R' b) := by
  obtain ⟨xs, h1, _⟩ := h.ldm m
  exact ⟨a, rfl, .inl ⟨xs, sql_of h1, q⟩⟩
theorem k_enO {R R' : Addr → Prop} (h : Sep L H) (m : ob a (.lst xs) ∈ L) (q : R a) : ∃ b, [V.ref a] = [.ref b] ∧ ((∃ xs, SqL K H b xs ∧ R b) ∨ ∃ xs, SqT K H b xs ∧ R' b) := ⟨a, rfl, .inl ⟨xs, sql_of (h.obm m), q⟩⟩
theorem k_enI {R R' : Addr → Prop} (h : Sep L H) (m : im (.ref a) (.tuple ds) ∈ L) (q : R' a) : ∃ b, [V.ref a] = [.ref b] ∧ ((∃ xs, SqL K H b xs ∧ R b) ∨ ∃ xs, SqT K H b xs ∧ R' b) := by
  obtain ⟨a', xs, e, h1, h2⟩ := im_tup (h.imm m)
  cases e
  exact ⟨a, rfl, .inr ⟨xs, h1, q⟩⟩
theorem wk_enD {α : Type} {zs : List α} {f : α → PyData} (m : ld a (zs.map f) ∈ L) : Wk (Ite K a) L zs.length fun i q => ∀ z T, zs[i]? = some z → q (.ref T) [im (.ref T) (.tuple [.int (i : Nat), f z])] where
  go := fun i H hi h => by
    obtain ⟨xs, h1, h2⟩ := h.ldm m
    have hx : i < xs.length := by rw [h2.length, List.length_map]; exact hi
    exact ⟨xs, xs[i], sql_of h1, List.getElem?_eq_getElem hx⟩
  yl := fun i H x H' R hi h ⟨T, v, e, hT, e2, y⟩ q => by
    subst e e2
    obtain ⟨xs, h1, h2⟩ := h.ldm m
    obtain ⟨d, hd, hm⟩ := h2.get (y xs (sql_of h1))
    rw [List.getElem?_map] at hd
    obtain ⟨z, hz, rfl⟩ := Option.map_eq_some_iff.mp hd
    refine q z T hz _ (Sep.im_iff.mpr ⟨?_, h.same (same_new hT)⟩)
    exact .tup (sqt_of upd_same) (.cons (.int _) (.cons (hm.mono (Tp.new hT)) .nil))
  st := fun H h => by
    obtain ⟨xs, h1, h2⟩ := h.ldm m
    exact ⟨xs, sql_of h1, by rw [h2.length, List.length_map]; exact Nat.le_refl _⟩
theorem k_tupleS (h : Sep L H) (m : ld a ds ∈ L) (q : ∀ p H', Sep (im (.ref p) (.tuple ds) :: L) H' → Q (.ref p) H') : rTupleU K [.ref a] H Q := by
  obtain ⟨xs, h1, h2⟩ := h.ldm m
  refine ⟨a, xs, rfl, .inl ⟨sql_of h1, fun p hp => q p _ (Sep.im_iff.mpr ⟨?_, h.same (same_new hp)⟩)⟩⟩
  exact .tup (sqt_of upd_same) (h2.mono (Tp.new hp))
theorem k_listS (h : Sep L H) (m : ld a ds ∈ L) (q : ∀ p H', Sep (ld p ds :: L) H' → Q (.ref p) H') : rListU K [.ref a] H Q := by
  obtain ⟨xs, h1, h2⟩ := h.ldm m
  refine ⟨a, xs, rfl, .inl (sql_of h1), fun p hp => q p _ ?_⟩
  have z := (h.newD (p := p) (xs := []) (ds := []) hp .nil).setD (xs := xs) (es := ds) (h2.mono (Tp.new hp))
  have e : upd (upd H p (.lst [])) p (.lst xs) = upd H p (.lst xs) := by
    funext b
    by_cases hb : b = p
    · rw [hb, upd_same, upd_same]
    · rw [upd_ne hb, upd_ne hb, upd_ne hb]
  rw [e] at z
  exact z
theorem k_listO (h : Sep L H) (m : ob a (.lst xs) ∈ L) (q : ∀ p H', Sep (ob p (.lst xs) :: L) H' → Q (.ref p) H') : rListU K [.ref a] H Q := ⟨a, xs, rfl, .inl (sql_of (h.obm m)), fun p hp => q p _ (h.new hp rfl)⟩
end
end Ls
namespace Ls
open PySem PySem.Spec PyProof.Rows L2
section
variable {K : PySem.W.Frag} {A B : As K} {L L' M N : List (As K)} {H H' : Hp} {a p l : Addr} {v x y : V} {d e : PyData} {vs xs ys : List V} {ds es : List PyData} {Q : VK} {σ : L2.St} {i j : Int} {n : Nat}
theorem k_min2 (q : Q (.int (if j < i then j else i)) H) : rMinU K [.int i, .int j] H Q := .inl ⟨i, j, rfl, q⟩
theorem k_max2 (q : Q (.int (if j > i then j else i)) H) : rMaxU K [.int i, .int j] H Q := .inl ⟨i, j, rfl, q⟩
theorem k_addD (h : Sep L H) (m : ld a ds ∈ L) (m2 : ld l es ∈ L) (hl : ds.length + es.length ≤ sizeLine) (q : ∀ p H', Sep (ld p (ds ++ es) :: L) H' → Q (.ref p) H') : rAddU K (.ref a) (.ref l) H Q := by
  obtain ⟨xs, h1, h2⟩ := h.ldm m
  obtain ⟨ys, h3, h4⟩ := h.ldm m2
  refine k_addL h1 h3 (by rw [h2.length, h4.length]; exact hl) fun p hp => q p _ ?_
  have z := (h.newD (p := p) (xs := []) (ds := []) hp .nil).setD (xs := xs ++ ys) (es := ds ++ es) ((h2.app h4).mono (Tp.new hp))
  have e : upd (upd H p (.lst [])) p (.lst (xs ++ ys)) = upd H p (.lst (xs ++ ys)) := by
    funext b
    by_cases hb : b = p
    · rw [hb, upd_same, upd_same]
    · rw [upd_ne hb, upd_ne hb, upd_ne hb]
  rw [e] at z
  exact z
theorem mem_dec {α : Type} [DecidableEq α] (z w : α) (zs : List α) {b : Bool} (h : b = decide (w = z)) : (b || decide (z ∈ zs)) = decide (z ∈ w :: zs) := by
  subst h
  by_cases e : w = z
  · subst e
    rw [decide_eq_true rfl, Bool.true_or]
    exact (decide_eq_true List.mem_cons_self).symm
  · rw [decide_eq_false e, Bool.false_or]
    exact decide_eq_decide.mpr ⟨List.mem_cons_of_mem _, fun m => (List.mem_cons.mp m).resolve_left fun y => e y.symm⟩
theorem inV_str (z : Str) : ∀ zs : List Str, inV (.str z) (zs.map V.str) = decide (z ∈ zs)
  | [] => rfl
  | w :: zs => by
    have ih := inV_str z zs
    unfold inV at ih ⊢
    rw [List.map_cons, List.any_cons, ih]
    exact mem_dec _ _ _ (by rw [Bool.eq_iff_iff, decide_eq_true_eq]; exact beq_iff_eq)
theorem inV_int (z : Int) : ∀ zs : List Int, inV (.int z) (zs.map V.int) = decide (z ∈ zs)
  | [] => rfl
  | w :: zs => by
    have ih := inV_int z zs
    unfold inV at ih ⊢
    rw [List.map_cons, List.any_cons, ih]
    exact mem_dec _ _ _ (by rw [Bool.eq_iff_iff, decide_eq_true_eq]; exact beq_iff_eq)
theorem flat_strs (zs : List Str) : (zs.map V.str).all flatV = true := by
  rw [List.all_map, List.all_eq_true]
  intro z _
  rfl
theorem flat_ints (zs : List Int) : (zs.map V.int).all flatV = true := by
  rw [List.all_map, List.all_eq_true]
  intro z _
  rfl
theorem k_inS {z : Str} {zs : List Str} (h : Sep L H) (m : ld p (zs.map PyData.str) ∈ L) (q : Q (.bl (decide (z ∈ zs))) H) : rInU K (.str z) (.ref p) H Q := by
  obtain ⟨xs, h1, h2⟩ := h.ldm m
  cases ims_str h2
  exact .inl ⟨p, _, rfl, .inl (sql_of h1), rfl, flat_strs zs, by rw [if_neg (by decide), inV_str]; exact q⟩
theorem k_notinS {z : Str} {zs : List Str} (h : Sep L H) (m : ld p (zs.map PyData.str) ∈ L) (q : Q (.bl (!decide (z ∈ zs))) H) : rNotInU K (.str z) (.ref p) H Q := by
  obtain ⟨xs, h1, h2⟩ := h.ldm m
  cases ims_str h2
  exact .inl ⟨p, _, rfl, .inl (sql_of h1), rfl, flat_strs zs, by rw [if_pos rfl, inV_str]; exact q⟩
theorem k_inI {z : Int} {zs : List Int} (h : Sep L H) (m : ld p (zs.map PyData.int) ∈ L) (q : Q (.bl (decide (z ∈ zs))) H) : rInU K (.int z) (.ref p) H Q := by
  obtain ⟨xs, h1, h2⟩ := h.ldm m
  cases ims_int h2
  exact .inl ⟨p, _, rfl, .inl (sql_of h1), rfl, flat_ints zs, by rw [if_neg (by decide), inV_int]; exact q⟩
theorem k_notinI {z : Int} {zs : List Int} (h : Sep L H) (m : ld p (zs.map PyData.int) ∈ L) (q : Q (.bl (!decide (z ∈ zs))) H) : rNotInU K (.int z) (.ref p) H Q := by
  obtain ⟨xs, h1, h2⟩ := h.ldm m
  cases ims_int h2
  exact .inl ⟨p, _, rfl, .inl (sql_of h1), rfl, flat_ints zs, by rw [if_pos rfl, inV_int]; exact q⟩
end
end Ls
namespace Ls
open PySem PySem.Spec PyProof.Rows L2
def tChain3 (r r' r'' : R2) (ta tb tc td : TE) : TE := fun σ H Q => ta σ H fun x H1 => tb σ H1 fun y H2 => r x y H2 fun z H3 => ∃ k, z = .bl k ∧
  (if k = true then tc σ H3 fun v H4 => r' y v H4 fun z2 H5 => ∃ k2, z2 = .bl k2 ∧ (if k2 = true then td σ H5 fun w H6 => r'' v w H6 Q else Q (.bl false) H5) else Q (.bl false) H3)
theorem k_chain3 {r r' r'' : R2} {ta tb tc td : TE} {σ : L2.St} {H : Hp} {Q : VK} (h : ta σ H fun x H1 => tb σ H1 fun y H2 => r x y H2 fun z H3 => ∃ k, z = .bl k ∧
  (if k = true then tc σ H3 fun v H4 => r' y v H4 fun z2 H5 => ∃ k2, z2 = .bl k2 ∧ (if k2 = true then td σ H5 fun w H6 => r'' v w H6 Q else Q (.bl false) H5) else Q (.bl false) H3)) : tChain3 r r' r'' ta tb tc td σ H Q := h
end Ls
namespace Ls
open PySem PySem.Spec PyProof.Rows L2
section
variable {K : PySem.W.Frag} {A B : As K} {L L' M N : List (As K)} {H H' : Hp} {a p l dx C : Addr} {o u : HO} {v x y : V} {d e : PyData} {vs xs ys : List V} {ds es : List PyData} {Q : VK} {D : Ends} {σ : L2.St} {i j : Int} {n : Nat} {b : Bool} {ta te tv to : TE} {t tk : TA} {fs : List (Str × V)}
/-- an instance that never changes any more -/
def fzI (a C : Addr) (fs : List (Str × V)) : As K := persW (fun W _ => ∃ dx, W a (.ins C dx fs) ∧ W dx (.own a)) (fun _ _ _ _ h => h) fun _ _ _ e ⟨dx, h1, h2⟩ => ⟨dx, e _ _ h1, e _ _ h2⟩
instance : Dup (fzI (K := K) a C fs) := ⟨fun z => z.1⟩
theorem Sep.fzIm (h : Sep L H) (m : fzI a C fs ∈ L) : ∃ dx, H a = some (.ins C dx fs) := by
  obtain ⟨W, s, ⟨_, dx, h1, h2⟩, f⟩ := h.the m
  exact ⟨dx, (f _ _ h1).1⟩
theorem k_istr {R : It → Hp → Prop} (h : te σ H fun v H1 => ∃ x, v = .str x ∧ R (Its x) H1) : iStr te σ H R := h
theorem k_istX {z : Str} {R : Str → Prop} (h : R z) : ∃ x, V.str z = .str x ∧ R x := ⟨z, rfl, h⟩
theorem wk_str {z : Str} : Wk (Its z) L z.cps.toList.length fun i q => ∀ c, z.cps.toList[i]? = some c → (fun (c : Nat) q => q (V.str ⟨#[c]⟩) ([] : List (As K))) c q where
  go := fun i H hi h => by rw [Array.length_toList] at hi; exact hi
  yl := fun i H x H' R hi h ⟨e, c, hc, ev⟩ q => by
    subst e ev
    exact q c (by rw [Array.getElem?_toList]; exact hc) _ h
  st := fun H h => by rw [Array.length_toList]; exact Nat.le_refl _
theorem k_inSg {c : Nat} {z : Str} (q : Q (.bl (decide (c ∈ z.cps.toList))) H) : rInU K (.str ⟨#[c]⟩) (.str z) H Q := .inr (.inr ⟨c, z, rfl, rfl, q⟩)
def cutD (ds : List PyData) (lo hi : Option Int) : List PyData := (ds.drop (HT.sIx ds.length 0 lo)).take (HT.sIx ds.length ds.length hi - HT.sIx ds.length 0 lo)
theorem ImAll.cut (h : ImAll K H xs ds) (lo hi : Option Int) : ImAll K H (cutV xs lo hi) (cutD ds lo hi) := by
  unfold cutV cutD
  rw [h.length]
  exact (h.drop _).take _
theorem cutD_to {i : Int} (h : 0 ≤ i) : cutD ds none (some i) = ds.take i.toNat := by
  obtain ⟨k, rfl⟩ := Int.eq_ofNat_of_zero_le h
  show (ds.drop 0).take (HT.sIx ds.length ds.length (some (k : Int)) - 0) = _
  rw [HT.sIx_nat, List.drop_zero, Nat.sub_zero, Int.toNat_natCast]
  by_cases hk : k ≤ ds.length
  · rw [Nat.min_eq_left hk]
  · rw [Nat.min_eq_right (by omega), List.take_of_length_le (Nat.le_refl _), List.take_of_length_le (by omega)]
theorem cutD_from {i : Int} (h : 0 ≤ i) : cutD ds (some i) none = ds.drop i.toNat := by
  obtain ⟨k, rfl⟩ := Int.eq_ofNat_of_zero_le h
  show (ds.drop (HT.sIx ds.length 0 (some (k : Int)))).take (ds.length - HT.sIx ds.length 0 (some (k : Int))) = _
  rw [HT.sIx_nat, Int.toNat_natCast]
  by_cases hk : k ≤ ds.length
  · rw [Nat.min_eq_left hk]
    exact List.take_of_length_le (by rw [List.length_drop]; omega)
  · rw [Nat.min_eq_right (by omega), List.drop_of_length_le (Nat.le_refl _), List.drop_of_length_le (by omega), List.take_nil]
theorem k_slI {lo hi : Option Int} (h : Sep L H) (m : im (.ref a) (.tuple ds) ∈ L) (q : ∀ p H', Sep (im (.ref p) (.tuple (cutD ds lo hi)) :: L) H' → Q (.ref p) H') : rSlU K (.ref a) lo hi H Q := by
  obtain ⟨a', xs, e, h1, h2⟩ := im_tup (h.imm m)
  cases e
  refine .inr (.inl ⟨a, xs, rfl, h1, fun w => ?_, fun _ p hp => ?_⟩)
  · refine q a H (Sep.im_iff.mpr ⟨?_, h⟩)
    have e : cutD ds lo hi = ds := by
      unfold cutD
      rw [← h2.length, w.1, w.2, List.drop_zero, Nat.sub_zero, h2.length, List.take_length]
    rw [e]
    exact h.imm m
  · exact q p _ (Sep.im_iff.mpr ⟨.tup (sqt_of upd_same) ((ImAll.cut h2 lo hi).mono (Tp.new hp)), h.same (same_new hp)⟩)
theorem k_slD {lo hi : Option Int} (h : Sep L H) (m : ld a ds ∈ L) (q : ∀ p H', Sep (ld p (cutD ds lo hi) :: L) H' → Q (.ref p) H') : rSlU K (.ref a) lo hi H Q := by
  obtain ⟨xs, h1, h2⟩ := h.ldm m
  refine k_slL (sql_of h1) fun p hp => q p _ ?_
  have z := (h.newD (p := p) (xs := []) (ds := []) hp .nil).setD (xs := cutV xs lo hi) (es := cutD ds lo hi) ((ImAll.cut h2 lo hi).mono (Tp.new hp))
  have e : upd (upd H p (.lst [])) p (.lst (cutV xs lo hi)) = upd H p (.lst (cutV xs lo hi)) := by
    funext b
    by_cases hb : b = p
    · rw [hb, upd_same, upd_same]
    · rw [upd_ne hb, upd_ne hb, upd_ne hb]
  rw [e] at z
  exact z
theorem k_slO {lo hi : Option Int} (h : Sep L H) (m : ob a (.lst xs) ∈ L) (q : ∀ p H', Sep (ob p (.lst (cutV xs lo hi)) :: L) H' → Q (.ref p) H') : rSlU K (.ref a) lo hi H Q := k_slL (sql_of (h.obm m)) fun p hp => q p _ (h.new hp rfl)
theorem k_fldF {R : V → Prop} {f : Str} (h : Sep L H) (m : fzI a C fs ∈ L) (c : Cls K C) (n : NoAttr K C f) (e : fs.lookup f = some v) (q : R v) : ∃ a' C' dx fs v', V.ref a = .ref a' ∧ H a' = some (.ins C' dx fs) ∧ Cls K C' ∧ NoAttr K C' f ∧ fs.lookup f = some v' ∧ R v' := k_fldt (h.fzIm m) c n e q
theorem k_recvF {R : Addr → Prop} {f : Str} (h : Sep L H) (w : fzI a C fs ∈ L) (e : fs.lookup f = none) (q : R a) : ∃ a' dx fs, V.ref a = .ref a' ∧ H a' = some (.ins C dx fs) ∧ fs.lookup f = none ∧ R a' := by
  obtain ⟨dx, h1⟩ := h.fzIm w
  exact k_recv ⟨dx, fs, h1, e⟩ q
theorem k_non {P : Prop} (h : P) : V.non = .non ∧ P := ⟨rfl, h⟩
end
end Ls
namespace Ls
open PySem PySem.Spec PyProof.Rows L2 C8
end Ls
namespace Ls
open PySem PySem.Spec PyProof.Rows L2
section
variable {K : PySem.W.Frag} {A B : As K} {L L' M N : List (As K)} {H H' : Hp} {a p l dx C : Addr} {o u : HO} {v x y w : V} {d e : PyData} {vs xs ys : List V} {ds es : List PyData} {Q : VK} {σ : L2.St} {i j n : Nat} {b : Bool}
instance : Dup (all ([] : List (As K))) := ⟨fun z a => z a⟩
instance [i : Dup A] [j : Dup (all L)] : Dup (all (A :: L)) := ⟨fun ⟨s1, s2, d, u, h1, h2⟩ a z => ((u a).mp z).elim (i.no h1 a) (j.no (A := all L) h2 a)⟩
/-- the parts of two lists, each by each -/
def al2 {α : Type} (f : V → α → As K) (vs : List V) (xs : List α) : As K := all (pr (vs.length = xs.length) :: List.zipWith f vs xs)
section
variable {α : Type} {f : V → α → As K} {zs ws : List α} {z : α}
theorem Sep.al2_iff : Sep (al2 f vs zs :: L) H ↔ vs.length = zs.length ∧ Sep (List.zipWith f vs zs ++ L) H := by
  unfold al2
  rw [Sep.all_iff, List.cons_append, Sep.pr_iff]
theorem zip_erase : ∀ {vs : List V} {zs : List α} {i : Nat}, vs[i]? = some v → zs[i]? = some z → (List.zipWith f vs zs).Perm (f v z :: List.zipWith f (vs.eraseIdx i) (zs.eraseIdx i))
  | v' :: vs, z' :: zs, 0, h1, h2 => by
    cases h1
    cases h2
    exact .refl _
  | v' :: vs, z' :: zs, i + 1, h1, h2 => (List.Perm.cons _ (zip_erase (i := i) h1 h2)).trans (.swap _ _ _)
theorem Sep.cls (h : Sep (f v z :: al2 f (vs.eraseIdx i) (zs.eraseIdx i) :: L) H) (h1 : vs[i]? = some v) (h2 : i < zs.length) : Sep (al2 f vs (zs.set i z) :: L) H := by
  have l1 := (List.getElem?_eq_some_iff.mp h1).1
  obtain ⟨e, g⟩ := Sep.al2_iff.mp (h.perm (.swap _ _ _))
  rw [List.length_eraseIdx_of_lt l1, List.length_eraseIdx_of_lt h2] at e
  refine Sep.al2_iff.mpr ⟨by rw [List.length_set]; omega, ?_⟩
  have p := zip_erase (f := f) h1 (List.getElem?_set_self (a := z) h2)
  rw [List.eraseIdx_set_eq] at p
  exact (g.perm List.perm_middle).perm (p.symm.append_right L)
theorem Sep.snoc (h : Sep (f v z :: al2 f vs zs :: L) H) : Sep (al2 f (vs ++ [v]) (zs ++ [z]) :: L) H := by
  obtain ⟨e, g⟩ := Sep.al2_iff.mp (h.perm (.swap _ _ _))
  refine Sep.al2_iff.mpr ⟨by rw [List.length_append, List.length_append, e]; rfl, ?_⟩
  rw [List.zipWith_append e]
  show Sep (List.zipWith f vs zs ++ [f v z] ++ L) H
  rw [List.append_assoc]
  exact g
instance [i : ∀ v z, Dup (f v z)] : Dup (al2 f vs zs) := by
  have : ∀ (vs : List V) (zs : List α), Dup (all (List.zipWith f vs zs)) := by
    intro vs
    induction vs with
    | nil => intro zs; exact inferInstanceAs (Dup (all []))
    | cons v vs ih =>
      intro zs
      cases zs with
      | nil => exact inferInstanceAs (Dup (all []))
      | cons z zs =>
        have := ih zs
        exact inferInstanceAs (Dup (all (f v z :: List.zipWith f vs zs)))
  have := this vs zs
  exact inferInstanceAs (Dup (all (pr _ :: List.zipWith f vs zs)))
end
end
end Ls
namespace Ls
open PySem PySem.Spec PyProof.Rows L2
end Ls
namespace Ls
open PySem PySem.Spec PyProof.Rows L2
def rEqZ (K : PySem.W.Frag) : R2 := fun x y H Q => rEqU K x y H Q ∨ ∃ a b xs, x = .ref a ∧ y = .ref b ∧ H a = some (.lst xs) ∧ H b = some (.lst []) ∧ Q (.bl (decide (xs = []))) H
def rNeZ (K : PySem.W.Frag) : R2 := fun x y H Q => rNeU K x y H Q ∨ ∃ a b xs, x = .ref a ∧ y = .ref b ∧ H a = some (.lst xs) ∧ H b = some (.lst []) ∧ Q (.bl (!decide (xs = []))) H
section
variable {X : Cx}
theorem op_eqZ (K : PySem.W.Frag) (hK : X.K = K) (hu : X.A.units + 66 < cLine) : OpR X (compareOp .Eq) (rEqZ K) := by
  subst hK
  refine OpR.or (op_eqU0 hu) ?_
  intro pins s σ H x y v u Q I rx ry h
  obtain ⟨a, b, xs, rfl, rfl, ha, hb, q⟩ := h
  by_cases e : xs = []
  · subst e
    refine op_eqD (by omega) pins s σ H (.ref a) (.ref b) v u Q I rx ry ⟨.list [], .list [], .lst (sql_of ha) .nil, .lst (sql_of hb) .nil, by decide, by decide, ?_⟩
    exact q
  · cases rx
    cases ry
    obtain ⟨its, n, r, e1, _⟩ := I.lst ha
    obtain ⟨its2, n2, r2, e2, _⟩ := I.lst hb
    rw [decide_eq_false e] at q
    have hl := r.length
    have hl2 := r2.length
    have hx : xs.length ≠ 0 := fun z => e (List.eq_nil_of_length_eq_zero z)
    refine SeqAt.RcAt.lists_lengths (A := X.A) (s := s) (items := its.toArray) (items2 := its2.toArray) ⟨_, e1, rfl, n, rfl⟩ ⟨_, e2, rfl, n2, rfl⟩ ?_ (by omega) X.prog X.w X.xe _ ⟨.bl false, H, I, rfl, q⟩
    rw [List.size_toArray, List.size_toArray, ← hl, ← hl2]
    simpa using hx
end
end Ls
namespace Ls
open PySem PySem.Spec PyProof.Rows L2
section
variable {K : PySem.W.Frag} {A B : As K} {L L' M N : List (As K)} {H H' : Hp} {a p l dx C : Addr} {o u : HO} {v x y w : V} {d e : PyData} {vs xs ys : List V} {ds es : List PyData} {Q : VK} {σ : L2.St} {i j n : Nat} {k : Int} {b : Bool}
theorem Sep.ldem (h : Sep L H) (m : ld p [] ∈ L) : H p = some (.lst []) := by
  obtain ⟨xs, h1, h2⟩ := h.ldm m
  cases h2
  exact h1
theorem k_eqzO (h : Sep L H) (m : ob a (.lst xs) ∈ L) (m2 : ld p [] ∈ L) (q : Q (.bl (decide (xs = []))) H) : rEqZ K (.ref a) (.ref p) H Q := .inr ⟨a, p, xs, rfl, rfl, h.obm m, h.ldem m2, q⟩
theorem k_nezO (h : Sep L H) (m : ob a (.lst xs) ∈ L) (m2 : ld p [] ∈ L) (q : Q (.bl (!decide (xs = []))) H) : rNeZ K (.ref a) (.ref p) H Q := .inr ⟨a, p, xs, rfl, rfl, h.obm m, h.ldem m2, q⟩
theorem imall_nil (h : ImAll K H xs ds) : decide (xs = []) = decide (ds = []) := by
  cases h <;> rfl
theorem k_eqzD (h : Sep L H) (m : ld a ds ∈ L) (m2 : ld p [] ∈ L) (q : Q (.bl (decide (ds = []))) H) : rEqZ K (.ref a) (.ref p) H Q := by
  obtain ⟨xs, h1, h2⟩ := h.ldm m
  exact .inr ⟨a, p, xs, rfl, rfl, h1, h.ldem m2, by rw [imall_nil h2]; exact q⟩
theorem k_nezD (h : Sep L H) (m : ld a ds ∈ L) (m2 : ld p [] ∈ L) (q : Q (.bl (!decide (ds = []))) H) : rNeZ K (.ref a) (.ref p) H Q := by
  obtain ⟨xs, h1, h2⟩ := h.ldm m
  exact .inr ⟨a, p, xs, rfl, rfl, h1, h.ldem m2, by rw [imall_nil h2]; exact q⟩
theorem k_popAtO (h : Sep L H) (r : Rep L (ob a (.lst xs)) (ob a (.lst (xs.eraseIdx i))) M) (e : xs[i]? = some v) (hb : i < 1000000) (q : ∀ H', Sep M H' → Q v H') : rPopAt (.ref a) [.int (i : Nat)] H Q := by
  have hi := (List.getElem?_eq_some_iff.mp e).1
  refine ⟨a, xs, (i : Nat), i, v, rfl, rfl, h.obm r.mem, by omega, by omega, ?_, e, q _ (h.setR r rfl)⟩
  have := (ixN_seq (n := xs.length) (i := (i : Int)) (j := i) ?_).1
  · exact this
  · unfold ixN
    rw [if_pos (by omega), if_pos (by omega)]
    rfl
theorem k_popO (h : Sep L H) (r : Rep L (ob a (.lst xs)) (ob a (.lst xs.dropLast)) M) (e : xs[xs.length - 1]? = some v) (q : ∀ H', Sep M H' → Q v H') : rPop (.ref a) [] H Q :=
  ⟨a, xs, v, rfl, rfl, h.obm r.mem, e, q _ (h.setR r rfl)⟩
theorem ImAll.dropLast (h : ImAll K H xs ds) : ImAll K H xs.dropLast ds.dropLast := by
  rw [List.dropLast_eq_take, List.dropLast_eq_take, h.length]
  exact h.take _
theorem k_extO (h : Sep L H) (r : Rep L (ob a (.lst xs)) (ob a (.lst (xs ++ ys))) M) (m : ob p (.lst ys) ∈ L) (hl : xs.length + ys.length ≤ sizeLine) (q : ∀ H', Sep M H' → Q .non H') : rExtend (.ref a) [.ref p] H Q :=
  ⟨a, p, xs, ys, rfl, rfl, h.obm r.mem, h.obm m, hl, q _ (h.setR r rfl)⟩
theorem k_setO {R : Hp → Prop} (h : Sep L H) (r : Rep L (ob a (.lst xs)) (ob a (.lst (xs.set j v))) M) (e : ixN xs.length k = some j) (q : ∀ H', Sep M H' → R H') : rSetL (.ref a) (.int k) v H R :=
  ⟨a, xs, k, j, rfl, rfl, h.obm r.mem, e, q _ (h.setR r rfl)⟩
theorem k_madeT {sp : Sp} {Qf : Addr → VK} {E : XK} (h : Sep L H) (q : ∀ x H', Sep (inst x C [] :: L) H' → sp (.ref x :: vs) H' (Qf x) E) : ∀ x dx, H x = none → H dx = none → dx ≠ x → sp (.ref x :: vs) (upd (upd H dx (.own x)) x (.ins C dx [])) (Qf x) E := fun x dx hx hd ne => q x _ (h.newInst hx hd ne)
theorem k_asg2 {te : TE} {g1 g2 : TG} {D : Ends} (h : te σ H fun x H1 => g1 x σ H1 fun σ1 H2 => g2 x σ1 H2 D.nx) : tAsg2 te g1 g2 D σ H := h
theorem k_putG {α β γ : Type} {g : α → β → Hp → γ → Prop} {z1 : α} {z2 : β} {z3 : γ} {f : Str} {fs gs : List (Str × V)} (h : Sep L H) (r : Rep L (inst a C fs) (inst a C gs) M) (c : Cls K C) (n : NoAttr K C f) (hl : fs.length < 1000) (e : putF f y fs = gs) (q : ∀ H', Sep M H' → g z1 z2 H' z3) : ∃ a' C' dx fs, V.ref a = .ref a' ∧ H a' = some (.ins C' dx fs) ∧ Cls K C' ∧ NoAttr K C' f ∧ fs.length < 1000 ∧ g z1 z2 (upd H a' (.ins C' dx (putF f y fs))) z3 := k_putS' (R := fun H => g z1 z2 H z3) h r c n hl e q
theorem k_fldA {R : Addr → Addr → V → Prop} {f : Str} {fs : List (Str × V)} (h : Sep L H) (m : inst a C fs ∈ L) (c : Cls K C) (n : NoAttr K C f) (e : fs.lookup f = some v) (q : R a C v) : ∃ a' C' dx fs v', V.ref a = .ref a' ∧ H a' = some (.ins C' dx fs) ∧ Cls K C' ∧ NoAttr K C' f ∧ fs.lookup f = some v' ∧ R a' C' v' := by
  obtain ⟨dx, h1⟩ := h.insm m
  exact ⟨a, C, dx, fs, v, rfl, h1, c, n, e, q⟩
theorem k_slTu {lo hi : Option Int} (h : Sep L H) (m : tu a xs ∈ L) (q : ∀ p H', Sep (tu p (cutV xs lo hi) :: L) H' → Q (.ref p) H') : rSlU K (.ref a) lo hi H Q := by
  have h1 := h.tum m
  refine .inr (.inl ⟨a, xs, rfl, h1, fun w => ?_, fun _ p hp => ?_⟩)
  · refine q a H (Sep.tu_iff.mpr ⟨?_, h⟩)
    have e : cutV xs lo hi = xs := by
      unfold cutV
      rw [w.1, w.2, List.drop_zero, Nat.sub_zero, List.take_length]
    rw [e]
    exact h1
  · exact q p _ (Sep.tu_iff.mpr ⟨sqt_of upd_same, h.same (same_new hp)⟩)
end
end Ls
namespace Ls
open PySem PySem.Spec PyProof.Rows L2
section
variable {K : PySem.W.Frag} {A B : As K} {L L' M N : List (As K)} {H H' : Hp} {a p l dx C : Addr} {v x y w : V} {vs us : List V} {Q : VK} {σ : L2.St} {i j n : Nat} {b : Bool} {α β : Type} {zs ws : List α} {J : It} {g : TG} {tt : TT} {te : TE} {wi : List Nat} {D : Addr} {Qd : Hp → Prop} {Y : Nat → (V → List (As K) → Prop) → Prop}
theorem k_aug {k : Nat} {te : TE} {ti : TIp} {D : Ends} (e : σ[k]? = some (some x)) (h : te σ H fun y H1 => ti x y H1 fun z H2 => D.nx (σ.set k (some z)) H2) : tAug k te ti D σ H := ⟨x, e, h⟩
theorem k_ipI {f : Int → Int → Int} {i j : Int} (q : Q (.int (f i j)) H) : ipI f (.int i) (.int j) H Q := ⟨i, j, rfl, rfl, q⟩
theorem k_makeK {gV : List V → List V → List V} {m : Nat} {sp : Sp} {E : XK} {t tk : TA} (h : t σ H fun vs H1 => tk σ H1 fun zs H2 => vs.length = n ∧ zs.length = m ∧ ∀ x dx, H2 x = none → H2 dx = none → dx ≠ x →
  sp (gV (.ref x :: vs) zs) (upd (upd H2 dx (.own x)) x (.ins C dx [])) (fun v H3 => v = .non ∧ Q (.ref x) H3) E) : tMakeK C n m sp gV E t tk σ H Q := h
theorem k_gsub {to ti : TE} {t : TSet} {R : L2.St → Hp → Prop} (h : to σ H fun o H1 => ti σ H1 fun i H2 => t o i v H2 fun H3 => R σ H3) : gSub to ti t v σ H R := h
end
end Ls
namespace Ls
open PySem PySem.Spec PyProof.Rows L2
end Ls
namespace Ls
open PySem PySem.Spec PyProof.Rows L2
abbrev Kp (fp : List Addr) (h h' : Heap) : Prop := ∀ c o, c ∉ fp → h.get? c = some o → h'.get? c = some o
section
variable {fp gp : List Addr} {h h1 h' : Heap} {a : Addr} {o : Obj}
theorem Kp.tr (x : Kp fp h h1) (y : Kp gp h1 h') : Kp (fp ++ gp) h h' := fun c u n e => y c u (fun z => n (List.mem_append_right _ z)) (x c u (fun z => n (List.mem_append_left _ z)) e)
theorem Kp.less (x : Kp fp h h') (s : ∀ b ∈ fp, b ∈ gp) : Kp gp h h' := fun c u n e => x c u (fun z => n (s c z)) e
end
end Ls
namespace Ls
open PySem PySem.Spec PyProof.Rows L2
end Ls
namespace Ls
open PySem PySem.Spec PyProof.Rows L2
end Ls
namespace Ls
open PySem PySem.Spec PyProof.Rows L2
section
variable {K : PySem.W.Frag} {L M : List (As K)} {H : Hp} {a : Addr} {kvs kws : List (Key × V)} {k : Str} {v w : V} {xs : List V} {ds es : List PyData} {i : Int} {j : Nat}
theorem ImAll.eraseD : ∀ {xs : List V} {ds : List PyData} {j : Nat}, ImAll K H xs ds → ImAll K H (xs.eraseIdx j) (ds.eraseIdx j)
  | _, _, _, .nil => .nil
  | _, _, 0, .cons _ b => b
  | _, _, _ + 1, .cons a b => .cons a (ImAll.eraseD b)
end
end Ls
namespace Ls
open PySem PySem.Spec PyProof.Rows L2
section
variable {K : PySem.W.Frag} {L : List (As K)} {H : Hp} {Q : VK} {a C : Addr} {sp : Sp} {E : XK} {fs : List (Str × V)} {σ : L2.St} {t te : TE} {ts : List TE} {acc z : Str} {i : Int} {n : Nat}
theorem log_lt {n : Nat} (h : n < 10 ^ 100) : n.log2 < 1920 := by
  by_cases e : n = 0
  · subst e
    decide
  · rw [Nat.log2_lt e]
    exact Nat.lt_of_lt_of_le h (by decide)
end
end Ls
namespace Ls
open PySem PySem.Spec PyProof.Rows L2 LamX
section
variable {K : PySem.W.Frag}
/-- it owns no table -/
class NoTb (A : As K) : Prop where
  no : ∀ {W : Fz} {s : Addr → Prop} {H : Hp}, A.ok W s H → ∀ a, s a → ∀ ps, H a ≠ some (.tbl ps)
variable {A B : As K} {L L' M N : List (As K)} {H H' : Hp} {a p l d c C : Addr} {v x y : V} {e : PyData} {vs xs ys : List V} {ds es : List PyData} {T : List (Addr × Str)}
instance {P : Fz → Hp → Prop} {h k} : NoTb (persW (K := K) P h k) := ⟨fun z a q => (z.1 a q).elim⟩
instance {v d} : NoTb (im (K := K) v d) := ⟨fun z a q => (z.1 a q).elim⟩
instance {v d} : NoTb (ims (K := K) v d) := ⟨fun z a q => (z.1 a q).elim⟩
instance {v d} : NoTb (tu (K := K) v d) := ⟨fun z a q => (z.1 a q).elim⟩
instance {P} : NoTb (pr (K := K) P) := ⟨fun z a q => (z.1 a q).elim⟩
theorem notb_ob {o : HO} (n : ∀ ps, o ≠ .tbl ps) : NoTb (ob (K := K) a o) := ⟨fun ⟨e, h, _⟩ b q ps z => by
  obtain rfl := (e b).mp q
  rw [h] at z
  exact n ps (Option.some.inj z)⟩
instance {xs} : NoTb (ob (K := K) a (.lst xs)) := notb_ob fun ps z => by cases z
instance {kvs} : NoTb (ob (K := K) a (.dK kvs)) := notb_ob fun ps z => by cases z
instance {kvs} : NoTb (ob (K := K) a (.xd kvs)) := notb_ob fun ps z => by cases z
instance {ds} : NoTb (ld (K := K) a ds) := ⟨fun ⟨e, xs, h, _⟩ b q ps z => by
  obtain rfl := (e b).mp q
  rw [h] at z
  cases z⟩
instance {fs} : NoTb (inst (K := K) a C fs) := ⟨fun ⟨dx, e, h1, h2⟩ b q ps z => by
  rcases (e b).mp q with rfl | rfl
  · rw [h1] at z
    cases z
  · rw [h2] at z
    cases z⟩
instance : NoTb (dr (K := K) d) := ⟨fun ⟨c, e, n, r, s, ns, h1, h2, h3⟩ b q ps z => by
  rcases (e b).mp q with rfl | rfl
  · rw [h1] at z
    cases z
  · rw [h2] at z
    cases z⟩
instance {α : Type} {f : α → As K} [h : ∀ x, NoTb (f x)] : NoTb (ex f) := ⟨fun ⟨x, z⟩ => (h x).no z⟩
/-- none of them owns a table -/
class NoTbs (L : List (As K)) : Prop where
  no : ∀ {W : Fz} {s : Addr → Prop} {H : Hp}, Hld W L s H → ∀ a, s a → ∀ ps, H a ≠ some (.tbl ps)
instance : NoTbs ([] : List (As K)) := ⟨fun z a q => (z a q).elim⟩
instance [i : NoTb A] [j : NoTbs L] : NoTbs (A :: L) := ⟨fun ⟨s1, s2, d, u, h1, h2⟩ a z => ((u a).mp z).elim (i.no h1 a) (j.no h2 a)⟩
instance [i : NoTbs L] : NoTb (all L) := ⟨fun z => i.no z⟩
instance {α : Type} {f : V → α → As K} [i : ∀ v z, NoTb (f v z)] {zs : List α} : NoTb (al2 f vs zs) := by
  have : ∀ (vs : List V) (zs : List α), NoTbs (List.zipWith f vs zs) := by
    intro vs
    induction vs with
    | nil => intro zs; exact inferInstanceAs (NoTbs [])
    | cons v vs ih =>
      intro zs
      cases zs with
      | nil => exact inferInstanceAs (NoTbs [])
      | cons z zs =>
        have := ih zs
        exact inferInstanceAs (NoTbs (f v z :: List.zipWith f vs zs))
  have := this vs zs
  exact inferInstanceAs (NoTb (all (pr _ :: List.zipWith f vs zs)))
end
end Ls
namespace Ls
open PySem PySem.Spec PyProof.Rows L2 LamX
end Ls
namespace Ls
open PySem PySem.Spec PyProof.Rows L2 LamX
section
variable {K : PySem.W.Frag} {L M : List (As K)} {H H' H1 : Hp} {σ : L2.St} {d C : Addr} {o : HO} {w : Str} {E : XK}
theorem Sep.newAt (h : Sep L H) (hn : H d = none) (s : Same H H') (hd : H' d = some o) (n : Nt o = true) : Sep (ob d o :: L) H' := by
  obtain ⟨W, q, f, h⟩ := h
  have ne : ∀ b, q b → b ≠ d := fun b z y => by
    obtain ⟨x, hx, _⟩ := h.al b z
    rw [y, hn] at hx
    cases hx
  have nw : ∀ b x, W b x → b ≠ d := fun b x z y => by
    have := (f b x z).1
    rw [y, hn] at this
    cases this
  exact ⟨W, fun b => b = d ∨ q b, fun b x z => ⟨s _ _ (f b x z).1, (f b x z).2.1, fun y => y.elim (nw b x z) (f b x z).2.2⟩, fun b => b = d, q, fun b x y => ne b y x, fun b => Iff.rfl, ⟨fun b => Iff.rfl, hd, n⟩, h.st (fun b z => by
    obtain ⟨x, hx, _⟩ := h.al b z
    rw [s _ _ hx, hx]) (Tq.same s)⟩
theorem Lets.sub (q : Lets M C w E) (s : Sub L M) : Lets L C w E := fun d H' h => q d H' (Sub.ok (Sub.cons s) h)
end
end Ls
namespace Ls
open PySem PySem.Spec PyProof.Rows L2 LamX PySem.W
end Ls
namespace Ls
open PySem PySem.Spec PyProof.Rows L2 PySem.W
end Ls
namespace Ls
open PySem PySem.Spec PyProof.Rows L2
def tSortSet (K : PySem.W.Frag) (ta : TE) : TE := fun σ H Q => ta σ H fun x H1 => ∃ (l : Addr) (ns : List Int), x = .ref l ∧ SqL K H1 l (ns.map V.int) ∧ ns.length < 60 ∧ ∀ (ms : List Int) (p : Addr), ms.Pairwise (· < ·) → (∀ k : Int, k ∈ ms ↔ k ∈ ns) → H1 p = none → Q (.ref p) (upd H1 p (.lst (ms.map V.int)))
theorem k_sortset {K : PySem.W.Frag} {σ : L2.St} {H : Hp} {Q : VK} {ta : TE} (h : ta σ H fun x H1 => ∃ (l : Addr) (ns : List Int), x = .ref l ∧ SqL K H1 l (ns.map V.int) ∧ ns.length < 60 ∧ ∀ (ms : List Int) (p : Addr), ms.Pairwise (· < ·) → (∀ k : Int, k ∈ ms ↔ k ∈ ns) → H1 p = none → Q (.ref p) (upd H1 p (.lst (ms.map V.int)))) : tSortSet K ta σ H Q := h
theorem k_listrg {σ : L2.St} {H : Hp} {Q : VK} {te : L2.St → Hp → (Int → Int → Hp → Prop) → Prop} (h : te σ H fun a b H1 => RgOk a b ∧ ∀ q, H1 q = none → Q (.ref q) (upd H1 q (.lst (rgV a b)))) : tLstRg te σ H Q := h
theorem k_rg1 {σ : L2.St} {H : Hp} {ta : TE} {R : Int → Int → Hp → Prop} (h : ta σ H fun x H1 => ∃ n, x = .int n ∧ R 0 n H1) : tRg1 ta σ H R := h
end Ls
namespace Ls
open PySem PySem.Spec PyProof.Rows L2
end Ls
namespace Ls
open PySem PySem.Spec PyProof.Rows L2
theorem Walks.from {prog : Program} {w : World} {A : Around} {I : Addr} {fp wr : List Addr} {n : Nat} {P : Nat → Value → Prop} {St : Nat → Heap → Prop} (W : Walks prog w A I fp wr n P St) (k : Nat) (hk : k ≤ n) :
    Walks prog w A I fp wr (n - k) (fun i => P (k + i)) (fun i => St (k + i)) where
  sub := W.sub
  frame := fun i => W.frame (k + i)
  item := fun i s Q E hi st hQ => W.item (k + i) s Q E (by omega) st hQ
  done := fun s Q E st hQ => W.done s Q E (by
    have e : k + (n - k) = n := by omega
    rw [e] at st
    exact st) hQ
  self := fun i => W.self (k + i)
theorem vals_dropK : ∀ (k : Nat) {xs : List V} {us : List Value}, Vals xs us → Vals (xs.drop k) (us.drop k)
  | 0, _, _, r => r
  | k + 1, _, _, .nil => .nil
  | k + 1, _, _, .cons _ r => vals_dropK k r
theorem vals_takeK {v : V} {u : Value} (q : RelV v u) : ∀ (k : Nat) {xs : List V} {us : List Value}, Vals xs us → Vals (xs.take k ++ [v]) (us.take k ++ [u])
  | 0, _, _, _ => .cons q .nil
  | k + 1, _, _, .nil => .cons q .nil
  | k + 1, _, _, .cons z r => .cons z (vals_takeK q k r)
section
variable {X : Cx} {pos : Pos}
theorem pgs_star {e : Expr} {es : List Expr} {p : Pos} {t : TG} {u : TGs} (h1 : PG X e t) (h2 : PGs X es u)
    (hs : (assignEach (.Starred e p :: es) X.env).map (·.2) = assign e X.env :: (assignEach es X.env).map (·.2) := by rfl) : PGs X (.Starred e p :: es) (gCons t u) := by
  refine ⟨fun pins s σ H vs us Q I r h => ?_⟩
  obtain ⟨v, vr, e1, h⟩ := h
  subst e1
  cases r with
  | cons r rr =>
    rw [hs]
    refine assignInOrder_cons (thn (h1.run pins s σ H _ _ _ I r h) fun _ s1 ⟨σ1, H1, I1, q1⟩ => ?_)
    exact h2.run pins s1 σ1 H1 _ _ Q I1 rr q1
end
end Ls
namespace Ls
open PySem PySem.Spec PyProof.Rows L2 LamX
section
variable {K : PySem.W.Frag} {L M : List (As K)} {H H' H1 : Hp} {T : List (Addr × Str)} {σ : L2.St} {Q : VK} {q : Str} {LO : Addr → Addr → HO} {f : Addr}
/-- a lambda stands at f -/
def lamA (q : Str) (LO : Addr → Addr → HO) (f : Addr) : As K := pers (fun H => ∃ (c' : Addr) (φ : Heap → Prop), LO f c' = .ext φ ∧ H f = some (.ext φ) ∧ H c' = some (CodeO c' q)) fun _ _ t ⟨c', φ, e, h1, h2⟩ => ⟨c', φ, e, t.2 _ _ h1, t.2 _ _ h2⟩
instance : NoTb (lamA (K := K) q LO f) := ⟨fun z a q => (z.1 a q).elim⟩
instance : Dup (lamA (K := K) q LO f) := ⟨fun z => z.1⟩
theorem Sep.pers {P : Hp → Prop} {h : ∀ H H', Tq K H H' → P H → P H'} (s : Sep L H) (p : P H) : Sep (pers P h :: L) H := by
  obtain ⟨W, q, f, z⟩ := s
  exact ⟨W, q, f, fun _ => False, q, fun a x => x.elim, fun a => ⟨.inr, fun x => x.elim False.elim id⟩, ⟨fun a x => x, p⟩, z⟩
end
end Ls
namespace Ls
open PySem PySem.Spec PyProof.Rows L2 LamX
end Ls
namespace Ls
open PySem PySem.Spec PyProof.Rows L2
end Ls
namespace Ls
open PySem PySem.Spec PyProof.Rows L2
def spInitA (K : PySem.W.Frag) (f w : Str) : Sp := fun vs H Q _ => ∃ (a C : Addr) (y : V), vs = [.ref a, y] ∧ OexC K C ∧ PySem.W.findIn K (.ref C) "word" = some none ∧ PySem.W.findIn K (.ref C) f = some none ∧ H a = some (exo a C none) ∧ ∀ dx, H dx = none → dx ≠ a → Q .non (upd (upd (upd H dx (exd dx [("word", .str w)])) a (exo a C (some dx))) dx (exd dx [(f, y), ("word", .str w)]))
section
variable {K : PySem.W.Frag} {L M : List (As K)} {H : Hp} {C : Addr} {f w : Str} {y : V} {E : XK}
theorem k_raiseA {Q : XK} (T : OexC K C) (no : PySem.W.findIn K (.ref C) "word" = some none) (nf : PySem.W.findIn K (.ref C) f = some none) (q : ∀ d H', H d = none → Same H H' → H' d = some (.xd [(f, y), ("word", .str w)]) → Q (.ref C) (some d) H') :
    [y].length ≤ 1000 ∧ ∀ a, H a = none → spInitA K f w (.ref a :: ([y] ++ [])) (upd H a (exo a C none)) (fun v H2 => v = .non ∧ ∃ (d : Addr) (fs : List (Str × V)), H2 a = some (exo a C (some d)) ∧ H2 d = some (exd d fs) ∧ H d = none ∧ Q (.ref C) (some d) (upd (del H2 a) d (.xd fs))) (fun _ _ _ => False) := by
  refine ⟨by show 1 ≤ 1000; decide, fun a ha => ⟨a, C, y, rfl, T, no, nf, upd_same, fun dx hdx na => ⟨rfl, dx, [(f, y), ("word", .str w)], ?_, upd_same, ?_, ?_⟩⟩⟩
  · rw [upd_ne (Ne.symm na)]
    exact upd_same
  · rw [upd_ne na] at hdx
    exact hdx
  · have hd : H dx = none := by
      rw [upd_ne na] at hdx
      exact hdx
    refine q dx _ hd (fun b o hb => ?_) upd_same
    have b1 : b ≠ dx := ne_of_none hb hd
    have b2 : b ≠ a := ne_of_none hb ha
    rw [upd_ne b1, del_ne b2, upd_ne b1, upd_ne b2, upd_ne b1, upd_ne b2]
    exact hb
theorem k_mk {sp : Sp} {ta : TA} {σ : L2.St} {Q : XK} (h : ta σ H fun vs H1 => vs.length ≤ 1000 ∧ ∀ a, H1 a = none → sp (.ref a :: (vs ++ [])) (upd H1 a (exo a C none)) (fun v H2 => v = .non ∧ ∃ (d : Addr) (fs : List (Str × V)), H2 a = some (exo a C (some d)) ∧ H2 d = some (exd d fs) ∧ H1 d = none ∧ Q (.ref C) (some d) (upd (del H2 a) d (.xd fs))) (fun _ _ _ => False)) : tMkO C sp [] ta σ H Q := h
/-- what is let out of a raise C(y) -/
def LetsA (L : List (As K)) (C : Addr) (f w : Str) (y : V) (E : XK) : Prop := ∀ d H', Ls.Sep (ob d (.xd [(f, y), ("word", .str w)]) :: L) H' → E (.ref C) (some d) H'
theorem LetsA.sub (q : LetsA M C f w y E) (s : Sub L M) : LetsA L C f w y E := fun d H' h => q d H' (Sub.ok (Sub.cons s) h)
theorem raise_letsA {i : Int} (T : OexC K C) (no : PySem.W.findIn K (.ref C) "word" = some none) (nf : PySem.W.findIn K (.ref C) f = some none) (h : Sep L H) (q : LetsA L C f w (.int i) E) :
    [V.int i].length ≤ 1000 ∧ ∀ a, H a = none → spInitA K f w (.ref a :: ([V.int i] ++ [])) (upd H a (exo a C none)) (fun v H2 => v = .non ∧ ∃ (d : Addr) (fs : List (Str × V)), H2 a = some (exo a C (some d)) ∧ H2 d = some (exd d fs) ∧ H d = none ∧ E (.ref C) (some d) (upd (del H2 a) d (.xd fs))) (fun _ _ _ => False) :=
  k_raiseA T no nf fun d H2 hn s hd => q d H2 (h.newAt hn s hd rfl)
end
end Ls
namespace Ls
open PySem PySem.Spec PyProof.Rows L2
section
variable {K : PySem.W.Frag} {L M : List (As K)} {H : Hp} {a : Addr} {y : V} {d e : PyData} {ds : List PyData} {Q : VK} {i : Int} {j : Nat}
def rInsU : V → List V → Hp → VK → Prop := fun x vs H Q => ∃ (l : Addr) (xs : List V) (i : Int) (y : V), x = .ref l ∧ vs = [.int i, y] ∧ H l = some (.lst xs) ∧ xs.length < sizeLine ∧ 0 ≤ i ∧ i < 2 ^ 63 ∧
    Q .non (upd H l (.lst (xs.take i.toNat ++ [y] ++ xs.drop i.toNat)))
theorem mt_insU {X : Cx} : MtR X "list.insert" rInsU := mt_insert
/-- xs.insert(i, y) -/
theorem k_insD (h : Sep L H) (r : Rep L (ld a ds) (ld a (ds.take i.toNat ++ [d] ++ ds.drop i.toNat)) M) (t : Dat L y d) (h0 : 0 ≤ i) (hi : i < 2 ^ 63) (hl : ds.length < sizeLine) (q : ∀ H', Sep M H' → Q .non H') :
    rInsU (.ref a) [.int i, y] H Q := by
  obtain ⟨xs, h1, h2⟩ := h.ldm r.mem
  exact ⟨a, xs, i, y, rfl, rfl, h1, by rw [h2.length]; exact hl, h0, hi, q _ (h.setDR r (((ImAll.take _ h2).app (.cons (t.is h) .nil)).app (ImAll.drop _ h2)))⟩
/-- xs.pop(i), what comes out left aside -/
theorem k_popAtD (h : Sep L H) (r : Rep L (ld a ds) (ld a (ds.eraseIdx j)) M) (e : ds[j]? = some d) (hb : j < 1000000) (q : ∀ v H', Sep M H' → Q v H') : rPopAt (.ref a) [.int (j : Nat)] H Q := by
  obtain ⟨xs, h1, h2⟩ := h.ldm r.mem
  obtain ⟨v, hv, _⟩ := h2.getD e
  have hi := (List.getElem?_eq_some_iff.mp hv).1
  refine ⟨a, xs, (j : Nat), j, v, rfl, rfl, h1, by omega, by omega, ?_, hv, q _ _ (h.setDR r (ImAll.eraseD h2))⟩
  have := (ixN_seq (n := xs.length) (i := (j : Int)) (j := j) ?_).1
  · exact this
  · unfold ixN
    rw [if_pos (by omega), if_pos (by omega)]
    rfl
end
theorem use_sameD {K : PySem.W.Frag} {L : List (As K)} {H : Hp} {x y : V} {d : PyData} {n : Nat} {Q : VK} {E : XK} (h : Ls.Sep L H) (a : Dl L x d) (b : Dl L y d) (o : OkD n d) (q : ∀ H', Ls.Sep L H' → Q (.bl true) H') : spSame K n [x, y] H Q E := ⟨x, y, d, rfl, a.is h, b.is h, o, fun H' s => q H' (h.same s)⟩
end Ls
namespace Ls
open PySem PySem.Spec PyProof.Rows L2
section
variable {K : PySem.W.Frag} {L M : List (As K)} {H : Hp} {a l : Addr} {ds es : List PyData} {Q : VK}
theorem k_slStr {z : Str} {lo hi : Option Int} (hz : z.length ≤ sizeLine) (q : Q (.str (cutS z lo hi)) H) : rSlU K (.str z) lo hi H Q := .inr (.inr ⟨z, rfl, hz, q⟩)
end
end Ls
namespace Ls
open PySem PySem.Spec PyProof.Rows L2
end Ls
namespace Ls
open PySem PySem.Spec PyProof.Rows L2
section
variable {K : PySem.W.Frag} {L M : List (As K)} {H : Hp} {a l : Addr} {xs : List V} {ds es : List PyData} {d : PyData} {σ : L2.St} {Q : VK} {i : Int}
/-- a list of data that never changes once made -/
def fzl (a : Addr) (ds : List PyData) : As K := persW (fun W H => ∃ xs, W a (.lst xs) ∧ ImAll K H xs ds) (fun _ _ _ t ⟨xs, h1, h2⟩ => ⟨xs, h1, h2.mono t.1⟩) fun _ _ _ e ⟨xs, h1, h2⟩ => ⟨xs, e _ _ h1, h2⟩
instance : Dup (fzl (K := K) a ds) := ⟨fun z => z.1⟩
def oD : Option Int → PyData
  | none => .none
  | some i => .int i
def oV : Option Int → V
  | none => .non
  | some i => .int i
theorem ims_oi : ∀ {os : List (Option Int)} {xs : List V}, ImAll K H xs (os.map oD) → xs = os.map oV
  | [], _, h => by cases h; rfl
  | o :: os, _, h => by
    cases h with
    | cons a r =>
      rw [ims_oi r]
      cases o with
      | none => cases im_non a; rfl
      | some i => cases im_int a; rfl
theorem flat_oi (os : List (Option Int)) : (os.map oV).all flatV = true := by
  rw [List.all_eq_true]
  intro v hv
  obtain ⟨o, _, rfl⟩ := List.mem_map.mp hv
  cases o <;> rfl
theorem eq_oi (o : Option Int) : eqV (oV o) .non = o.isNone := by cases o <;> rfl
theorem k_inN {os : List (Option Int)} (h : Sep L H) (m : ld a (os.map oD) ∈ L) (q : Q (.bl (os.any Option.isNone)) H) : rInU K .non (.ref a) H Q := by
  obtain ⟨xs, h1, h2⟩ := h.ldm m
  cases ims_oi h2
  refine .inl ⟨a, _, rfl, .inl (sql_of h1), rfl, flat_oi os, ?_⟩
  rw [if_neg (by decide)]
  have e : inV .non (os.map oV) = os.any Option.isNone := by
    unfold inV
    rw [List.any_map]
    congr 1
    funext o
    exact eq_oi o
  rw [e]
  exact q
end
end Ls
namespace Ls
open PySem PySem.Spec PyProof.Rows L2
end Ls
namespace Ls
open PySem PySem.Spec PyProof.Rows L2
section
variable {K : PySem.W.Frag} {A : As K} {L M : List (As K)} {H H' : Hp} {a l p : Addr} {xs vs : List V} {ds es : List PyData} {d e : PyData} {v x y : V} {σ : L2.St} {Q : VK} {i : Int} {W W' : Fz} {s : Addr → Prop}
mutual
inductive Fm (K : PySem.W.Frag) (W : Fz) (H : Hp) : V → PyData → Prop
  | im {v : V} {d : PyData} : Im K H v d → Fm K W H v d
  | tup {a : Addr} {xs : List V} {ds : List PyData} : SqT K H a xs → FmAll K W H xs ds → Fm K W H (.ref a) (.tuple ds)
  | lst {a : Addr} {xs : List V} {ds : List PyData} : W a (.lst xs) → FmAll K W H xs ds → Fm K W H (.ref a) (.list ds)
inductive FmAll (K : PySem.W.Frag) (W : Fz) (H : Hp) : List V → List PyData → Prop
  | nil : FmAll K W H [] []
  | cons {v : V} {d : PyData} {vs : List V} {ds : List PyData} : Fm K W H v d → FmAll K W H vs ds → FmAll K W H (v :: vs) (d :: ds)
end
mutual
theorem Fm.mono (t : Tp K H H') (k : ∀ a o, W a o → W' a o) : ∀ {v : V} {d : PyData}, Fm K W H v d → Fm K W' H' v d
  | _, _, .im h => .im (h.mono t)
  | _, _, .tup h1 h2 => .tup (t _ _ h1) (FmAll.mono t k h2)
  | _, _, .lst h1 h2 => .lst (k _ _ h1) (FmAll.mono t k h2)
theorem FmAll.mono (t : Tp K H H') (k : ∀ a o, W a o → W' a o) : ∀ {vs : List V} {ds : List PyData}, FmAll K W H vs ds → FmAll K W' H' vs ds
  | _, _, .nil => .nil
  | _, _, .cons h1 h2 => .cons (Fm.mono t k h1) (FmAll.mono t k h2)
end
mutual
theorem Fm.dp (f : ∀ a o, W a o → H a = some o) : ∀ {v : V} {d : PyData}, Fm K W H v d → Dp K H v d
  | _, _, .im h => h.dp
  | _, _, .tup h1 h2 => .tup h1 (FmAll.dp f h2)
  | _, _, .lst h1 h2 => .lst (sql_of (f _ _ h1)) (FmAll.dp f h2)
theorem FmAll.dp (f : ∀ a o, W a o → H a = some o) : ∀ {vs : List V} {ds : List PyData}, FmAll K W H vs ds → DpAll K H vs ds
  | _, _, .nil => .nil
  | _, _, .cons h1 h2 => .cons (Fm.dp f h1) (FmAll.dp f h2)
end
theorem FmAll.length : ∀ {vs : List V} {ds : List PyData}, FmAll K W H vs ds → vs.length = ds.length
  | _, _, .nil => rfl
  | _, _, .cons _ h => congrArg (· + 1) h.length
theorem FmAll.app : ∀ {vs ws : List V} {ds es : List PyData}, FmAll K W H vs ds → FmAll K W H ws es → FmAll K W H (vs ++ ws) (ds ++ es)
  | _, _, _, _, .nil, h => h
  | _, _, _, _, .cons a b, h => .cons a (b.app h)
theorem FmAll.get : ∀ {vs : List V} {ds : List PyData} {i : Nat} {v : V} {d : PyData}, FmAll K W H vs ds → vs[i]? = some v → ds[i]? = some d → Fm K W H v d
  | _, _, 0, _, _, .cons a _, h1, h2 => by
    cases h1
    cases h2
    exact a
  | _, _, i + 1, _, _, .cons _ b, h1, h2 => b.get (i := i) h1 h2
  | _, _, i, _, _, .nil, h1, _ => by cases i <;> cases h1
def fd (v : V) (d : PyData) : As K := persW (fun W H => Fm K W H v d) (fun _ _ _ t h => h.mono t.1 fun _ _ z => z) fun _ _ _ e h => h.mono Tp.refl e
def fds (vs : List V) (ds : List PyData) : As K := persW (fun W H => FmAll K W H vs ds) (fun _ _ _ t h => h.mono t.1 fun _ _ z => z) fun _ _ _ e h => h.mono Tp.refl e
instance : Dup (fd (K := K) v d) := ⟨fun z => z.1⟩
instance : Dup (fds (K := K) vs ds) := ⟨fun z => z.1⟩
theorem Hld.mem : ∀ {L : List (As K)} {s : Addr → Prop}, Hld W L s H → A ∈ L → ∃ s', A.ok W s' H
  | B :: L, _, ⟨s1, s2, _, _, h1, h2⟩, m => by
    rcases List.mem_cons.mp m with rfl | m
    · exact ⟨s1, h1⟩
    · exact Hld.mem h2 m
theorem Sep.fdm (h : Sep L H) (m : Ls.fd v d ∈ L) : ∃ W, Fm K W H v d ∧ ∀ a o, W a o → H a = some o := by
  obtain ⟨W, s, ⟨_, h1⟩, f⟩ := h.the m
  exact ⟨W, h1, fun a o z => (f a o z).1⟩
theorem Sep.fdsm (h : Sep L H) (m : Ls.fds vs ds ∈ L) : ∃ W, FmAll K W H vs ds ∧ ∀ a o, W a o → H a = some o := by
  obtain ⟨W, s, ⟨_, h1⟩, f⟩ := h.the m
  exact ⟨W, h1, fun a o z => (f a o z).1⟩
theorem Sep.fdsLen (h : Sep L H) (m : Ls.fds vs ds ∈ L) : vs.length = ds.length := by
  obtain ⟨W, h1, _⟩ := h.fdsm m
  exact h1.length
/-- a value's data, lists too -/
inductive Df (L : List (As K)) : V → PyData → Prop
  | dat {v : V} {d : PyData} : Dat L v d → Df L v d
  | ld {a : Addr} {ds : List PyData} : ld a ds ∈ L → Df L (.ref a) (.list ds)
  | fd {v : V} {d : PyData} : fd v d ∈ L → Df L v d
  | ob {a : Addr} {vs : List V} {ds : List PyData} : Ls.ob a (.lst vs) ∈ L → fds vs ds ∈ L → Df L (.ref a) (.list ds)
theorem Df.is (h : Sep L H) (t : Df L v d) : Dp K H v d := by
  cases t with
  | dat t => exact (t.is h).dp
  | ld m => exact (Dl.ld m).is h
  | fd m =>
    obtain ⟨W, h1, f⟩ := h.fdm m
    exact h1.dp f
  | ob m n =>
    obtain ⟨W, h1, f⟩ := h.fdsm n
    exact .lst (sql_of (h.obm m)) (h1.dp f)
theorem fd_lst (h : Sep L H) (m : Ls.fd (.ref a) (.list ds) ∈ L) : ∃ xs, H a = some (.lst xs) ∧ Sep (Ls.fds xs ds :: L) H := by
  obtain ⟨W, s, f, h⟩ := h
  obtain ⟨_, _, h1⟩ := h.mem m
  cases h1 with
  | im z => cases z
  | lst h1 h2 =>
    refine ⟨_, (f _ _ h1).1, ?_⟩
    exact ⟨W, s, f, fun _ => False, s, fun _ z => z.elim, fun a => ⟨.inr, fun z => z.elim False.elim id⟩, ⟨fun _ z => z, h2⟩, h⟩
theorem k_lenF (h : Sep L H) (m : Ls.fd (.ref a) (.list ds) ∈ L) (q : Q (.int ds.length) H) : rLenU K [.ref a] H Q := by
  obtain ⟨xs, h1, h2⟩ := fd_lst h m
  have := h2.fdsLen List.mem_cons_self
  exact k_lenL (sql_of h1) (by rw [this]; exact q)
theorem k_tyF {P : Prop} (h : Sep L H) (m : Ls.fd (.ref a) (.list ds) ∈ L) (q : P) : tyV K "list" (.ref a) H ∧ P := by
  obtain ⟨xs, h1, _⟩ := fd_lst h m
  exact k_tyL (sql_of h1) q
end
end Ls
namespace Ls
open PySem PySem.Spec PyProof.Rows L2 LamX PySem.W
section
variable {K : PySem.W.Frag} {L M : List (As K)} {H H' : Hp} {a l p : Addr} {xs vs : List V} {ds es : List PyData} {d e : PyData} {v x y : V} {σ : L2.St} {Q : VK} {i : Int} {T : List (Addr × Str)}
theorem k_seqF {R R' : Addr → Prop} (h : Ls.Sep L H) (m : fd (.ref a) (.list ds) ∈ L) (q : R a) : ∃ b, V.ref a = .ref b ∧ (((∃ xs, SqL K H b xs) ∧ R b) ∨ ((∃ xs, SqT K H b xs) ∧ R' b)) := by
  obtain ⟨xs, h1, _⟩ := fd_lst h m
  exact ⟨a, rfl, .inl ⟨⟨xs, sql_of h1⟩, q⟩⟩
theorem k_extD (h : Ls.Sep L H) (r : Rep L (ld a ds) (ld a (ds ++ es)) M) (m : ld p es ∈ L) (hl : ds.length + es.length ≤ sizeLine) (q : ∀ H', Ls.Sep M H' → Q .non H') : rExtend (.ref a) [.ref p] H Q := by
  obtain ⟨xs, h1, h2⟩ := h.ldm r.mem
  obtain ⟨ys, h3, h4⟩ := h.ldm m
  exact ⟨a, p, xs, ys, rfl, rfl, h1, h3, by rw [h2.length, h4.length]; exact hl, q _ (h.setDR r (h2.app h4))⟩
theorem Sep.newImA (h : Ls.Sep L H) (hp : H p = none) (h2 : ImAll K H xs ds) : Ls.Sep (ld p ds :: L) (upd H p (.lst xs)) := by
  have z := (h.newD (p := p) (xs := []) (ds := []) hp .nil).setD (xs := xs) (es := ds) (h2.mono (Tp.new hp))
  have e : upd (upd H p (.lst [])) p (.lst xs) = upd H p (.lst xs) := by
    funext b
    by_cases hb : b = p
    · rw [hb, upd_same, upd_same]
    · rw [upd_ne hb, upd_ne hb, upd_ne hb]
  rw [e] at z
  exact z
end
end Ls
namespace Ls
open PySem PySem.Spec PyProof.Rows L2
section
variable {prog : Program} {w : World} {A : Around} {E : Value → Shared → Prop} {s : Shared}
theorem draw_lst {it t : Addr} {items : Array Value} (hne : t ≠ it) : ∀ (n i : Nat) (s : Shared) (Q : List Value → Shared → Prop), s.heap.IsListIter it t i → s.heap.IsList t items → i + n ≤ items.size →
    (∀ h' : Heap, h'.IsListIter it t (i + n) → Heap.SameBut it s.heap h' → Q ((items.toList.drop i).take n) { s with heap := h' }) → wpAny (model prog w) A (draw (.ref it) n) Q E s
  | 0, i, s, Q, hit, _, _, hQ => wpAny_pure (by simpa using hQ s.heap hit (Heap.SameBut.refl ..))
  | n + 1, i, s, Q, hit, ht, hle, hQ => by
    have hi : i < items.size := by omega
    have hd : items.toList.drop i = items[i] :: items.toList.drop (i + 1) := List.drop_eq_getElem_cons (by rw [Array.length_toList]; exact hi)
    show wpAny _ _ (pyNext (.ref it) >>= _) Q E s
    refine wpAny_bind (wpAny_pyNext_list_item hit ht (x := items[i]) (Array.getElem?_eq_getElem hi) fun h1 hit1 hs1 => ?_)
    refine wpAny_bind (wpAny_holding (draw_lst hne n (i + 1) _ _ hit1 (ht.extBut hs1.extBut hne) (by omega) fun h2 hit2 hs2 => wpAny_pure ?_))
    have z := hQ h2 (by rw [show i + (n + 1) = i + 1 + n by omega]; exact hit2) (hs1.trans hs2)
    rw [hd, List.take_succ_cons] at z
    exact z
theorem unpack_starL {t : Addr} {items : Array Value} {k : Nat} {Q : List Value → Shared → Prop} (hh : A.handled = none) (ht : s.heap.IsList t items) (hk : k ≤ items.size) (hz : items.size ≤ sizeLine)
    (hQ : ∀ (h' : Heap) (tk : Nat), (∀ b o, s.heap.get? b = some o → h'.get? b = some o) → Q (items.toList.take k ++ [.ref h'.objs.size]) { s with heap := h'.push { cls := .type "list", data := .seq (items.toList.drop k).toArray }, toks := tk }) :
    wpAny (model prog w) A (unpackItems (.ref t) (k + 1) (some k)) Q E s := by
  have hlt : t < s.heap.objs.size := by obtain ⟨o, ho, _⟩ := ht; exact Heap.lt_size ho
  have hne : t ≠ s.heap.objs.size := Nat.ne_of_lt hlt
  unfold unpackItems
  refine wpAny_bind ?_
  unfold notIterableAtAll
  refine wpAny_bind (wpAny_specialOf ht.typeIs slot_list_iter.lookup ?_)
  refine wpAny_pure ?_
  simp only [Bool.false_eq_true, if_false]
  have push : (s.heap.push { cls := .type "list_iterator", data := .fields #[.ref t, .int 0 0] }).IsList t items := by
    obtain ⟨o, ho, r⟩ := ht
    exact ⟨o, Heap.get?_push_of_some _ ho, r⟩
  refine wpAny_bind (wpAny_holding (wpAny_pyIter_list ht ?_))
  refine wpAny_bind (wpAny_holding (draw_lst hne k 0 _ _ ⟨_, Heap.get?_push_size _ rfl, rfl, rfl⟩ push (by omega) fun h1 hit1 hs1 => ?_))
  rw [List.drop_zero, if_neg (by rw [List.length_take, Array.length_toList]; omega)]
  have ht1 : h1.IsList t items := push.extBut hs1.extBut hne
  have hsz : s.heap.objs.size < h1.objs.size := by
    obtain ⟨o, ho, _⟩ := hit1
    exact Heap.lt_size ho
  refine wpAny_bind (wpAny_holding (wpAny_collect_iter (T := "list_iterator") (.inr (.inr (.inl rfl))) ((Walks.from (Walks.list (A := A.in1) (by simp [hh]) s.heap.objs.size t hne items) k hk).toS) (fun i s st => st.1.typeIs) ⟨by rw [Nat.zero_add] at hit1; exact hit1, ht1⟩ (fun b hb => ?_) List.mem_cons_self (fun s' acc mv hac => ?_) (by omega)))
  · rcases List.mem_cons.mp hb with rfl | hb
    · exact hsz
    · rw [List.mem_singleton.mp hb]
      exact Nat.lt_trans hlt hsz
  have he : acc.toList = items.toList.drop k := by
    apply List.ext_getElem?
    intro j
    rw [List.getElem?_drop, Array.getElem?_toList, Array.getElem?_toList]
    by_cases hj : j < acc.size
    · have := hac.2 j acc[j] (Array.getElem?_eq_getElem hj)
      rw [Array.getElem?_eq_getElem hj]
      exact this.symm
    · rw [Array.getElem?_eq_none (by omega), Array.getElem?_eq_none (by have := hac.1; omega)]
  have e0 : k + 1 - 1 - k = 0 := by omega
  simp only [e0, Nat.not_lt_zero, if_false, Nat.sub_zero, List.take_length, List.drop_length, List.append_nil]
  obtain ⟨h', g', d', tk', os'⟩ := s'
  have eg : g' = s.gens := mv.gens
  have ed : d' = s.drawn := mv.drawn
  have eo : os' = s.os := mv.os
  subst eg ed eo
  refine wpAny_bind (wpAny_newObj_type (wpAny_pure ?_) ?_)
  · rw [he]
    exact hQ h' tk' fun b o hb => mv.heap b o (fun m => Nat.ne_of_lt (Heap.lt_size hb) (List.mem_singleton.mp m)) (hs1.2 b (Nat.ne_of_lt (Heap.lt_size hb)) ▸ Heap.get?_push_of_some _ hb)
  · show (acc.toList.toArray).size ≤ sizeLine
    rw [he, List.size_toArray, List.length_drop, Array.length_toList]
    omega
end
def gLstS (K : PySem.W.Frag) (k : Nat) (t : TGs) : TG := fun v σ H Q => ∃ a xs, v = .ref a ∧ SqL K H a xs ∧ k ≤ xs.length ∧ xs.length ≤ 100000 ∧ ∀ q, H q = none → t (xs.take k ++ [.ref q]) σ (upd H q (.lst (xs.drop k))) Q
section
variable {X : Cx} {pos : Pos}
theorem pg_lstS {es : List Expr} {k : Nat} {t : TGs} {n : Nat} (K : PySem.W.Frag) (hK : X.K = K) (h : PGs X es t) (hc : X.calm = true := by rfl)
    (hn : (assignEach es X.env).length = n + 1 := by rfl) (hst : (assignEach es X.env).findIdx? (·.1) = some n := by rfl) : PG X (.Tuple es k pos) (gLstS K n t) := by
  subst hK
  refine ⟨fun pins s σ H v u Q I r hw => ?_⟩
  obtain ⟨a, xs, e1, hq, hl, hl2, hw⟩ := hw
  subst e1
  cases r
  obtain ⟨its, rv, ht, hz⟩ := I.list hq
  have hlen : its.toArray.size = xs.length := by rw [List.size_toArray, rv.length]
  rw [assign_Tuple]
  refine wpAny_bind (wpAny_standAt ?_)
  unfold unpack
  rw [hn, hst]
  refine wpAny_bind (wpAny_holding (unpack_starL (I.ok.hd hc) ht.isList (by omega) (by rw [hlen]; exact hz) fun h' tk hk => ?_))
  have I1 : Inv X pins σ H { s with heap := h', toks := tk } := I.kept hk
  have hf : H h'.objs.size = none := I1.hok.fresh (Nat.le_refl _)
  have I2 : Inv X pins σ (upd H h'.objs.size (.lst (xs.drop n))) { s with heap := h'.push { cls := .type "list", data := .seq (its.drop n).toArray }, toks := tk } :=
    I1.laid (t' := tk) (fun b u e => Heap.get?_push_of_some _ e) (Nat.le_refl _) ⟨by rw [List.length_drop]; omega, its.drop n, 0, vals_dropK n rv, Heap.get?_push_size _ rfl⟩
  exact h.run pins _ σ _ (xs.take n ++ [.ref h'.objs.size]) _ Q I2 (by
    rw [List.toList_toArray]
    exact vals_takeK (v := .ref h'.objs.size) rfl n rv) (hw _ hf)
end
def tSplitU (to te : TE) : TE := tM1 (fun x xs H Q => ∃ a b, x = .str a ∧ xs = [.str b] ∧ (b.length == 0) = false ∧ a.length + 2 ≤ sizeLine ∧ rNewStrs (Txt.split a b) H Q) to te
theorem pe_splitU {X : Cx} {o e : Expr} {to te : TE} {apos pos : Pos} (ho : PE X o to) (he : PE X e te) (hs : starEach [e] X.env = [(false, eval e X.env)] := by rfl) (hb : attributeBase o "split" X.env (eval o X.env) = eval o X.env := by rfl) (hl : (apos.endLine == pos.line) = true := by rfl) :
    PE X (.Call (.Attribute o "split" apos) [e] [] pos) (tSplitU to te) := pe_split ho he hs hb hl
theorem k_splitU {to te : TE} {σ : L2.St} {H : Hp} {Q : VK} (h : to σ H fun x H1 => (∃ a, x = .str a) ∧ te σ H1 fun y H2 => ∃ a b, x = .str a ∧ [y] = [.str b] ∧ (b.length == 0) = false ∧ a.length + 2 ≤ sizeLine ∧ rNewStrs (Txt.split a b) H2 Q) : tSplitU to te σ H Q := h
section
variable {K : PySem.W.Frag} {L : List (As K)} {H : Hp} {a : Addr} {Q : VK} {t : TGs} {σ : L2.St} {R : L2.St → Hp → Prop} {ds : List PyData} {n : Nat}
/-- what split gives, by what stands -/
theorem k_newStrs {ys : List Str} (h : Sep L H) (q : ∀ p H', Sep (ld p (ys.map PyData.str) :: L) H' → Q (.ref p) H') : rNewStrs ys H Q := fun p hp => q p _ (Sep.newImA h hp (ImAll.strs ys))
theorem k_glstS (h : Sep L H) (m : ld a ds ∈ L) (hl : n ≤ ds.length) (hl2 : ds.length ≤ 100000) (q : ∀ xs p H', ImAll K H' xs ds → Sep (ld p (ds.drop n) :: L) H' → t (xs.take n ++ [.ref p]) σ H' R) : gLstS K n t (.ref a) σ H R := by
  obtain ⟨xs, h1, h2⟩ := h.ldm m
  refine ⟨a, xs, rfl, sql_of h1, by rw [h2.length]; exact hl, by rw [h2.length]; exact hl2, fun p hp => ?_⟩
  have z := Sep.newImA h hp (h2.drop n)
  exact q xs p _ (h2.mono (Tp.new hp)) z
end
end Ls
namespace Ls
open PySem PySem.Spec PyProof.Rows L2
def rStrU : List V → Hp → VK → Prop := fun xs H Q => (∃ i, xs = [.int i] ∧ i.natAbs.log2 < 1920 ∧ Q (.str (toString i)) H) ∨ ∃ a, xs = [.str a] ∧ Q (.str a) H
theorem call_strU {X : Cx} : CallR X (.type "str") rStrU := CallR.or call_str_int SkE.call_str_str
theorem k_strI {i : Int} {H : Hp} {Q : VK} (h : i.natAbs.log2 < 1920) (q : Q (.str (toString i)) H) : rStrU [.int i] H Q := .inl ⟨i, rfl, h, q⟩
theorem k_strS {a : Str} {H : Hp} {Q : VK} (q : Q (.str a) H) : rStrU [.str a] H Q := .inr ⟨a, rfl, q⟩
end Ls
namespace Ls
open PySem PySem.Spec PyProof.Rows L2
end Ls
namespace Ls
open PySem PySem.Spec PyProof.Rows L2 LamX
section
variable {K : PySem.W.Frag} {v : V} {d : PyData} {vs : List V} {ds : List PyData}
instance : NoTb (fd (K := K) v d) := ⟨fun z a q => (z.1 a q).elim⟩
instance : NoTb (fds (K := K) vs ds) := ⟨fun z a q => (z.1 a q).elim⟩
end
end Ls
namespace Ls
open PySem PySem.Spec PyProof.Rows L2 LamX
end Ls
namespace Ls
open PySem PySem.Spec PyProof.Rows L2 LamX PySem.W
section
variable {K : PySem.W.Frag} {L M N : List (As K)} {H H' : Hp} {a l p D : Addr} {xs vs : List V} {ds es : List PyData} {d e : PyData} {v x y z : V} {σ : L2.St} {Q : VK} {n j : Nat}
theorem all_str (zs : List Str) : (zs.map PyData.str).all isS = true := by
  rw [List.all_eq_true]
  intro d hd
  obtain ⟨z, _, rfl⟩ := List.mem_map.mp hd
  rfl
theorem Sep.sqs {zs : List Str} (h : Ls.Sep L H) (m : ld a (zs.map .str) ∈ L) : SqL K H a (zs.map V.str) := by
  obtain ⟨xs, h1, h2⟩ := h.ldm m
  cases ims_str h2
  exact sql_of h1
end
end Ls
namespace Ls
open PySem PySem.Spec PyProof.Rows L2
section
variable {K : PySem.W.Frag} {L M : List (As K)} {H : Hp} {Q : VK} {a p : Addr} {v : V} {d : PyData} {ds : List PyData} {i : Int} {z x y u : Str}
theorem im_isRef (h : Sep L H) (m : im v (.tuple ds) ∈ L) : ∃ a, v = .ref a := by
  obtain ⟨a', xs, e', h1, h2⟩ := im_tup (h.imm m)
  exact ⟨a', e'⟩
end
end Ls
namespace Ls
open PySem PySem.Spec PyProof.Rows L2
end Ls
namespace Ls
open PySem PySem.Spec PyProof.Rows L2
end Ls
namespace Ls
open PySem PySem.Spec PyProof.Rows L2
end Ls
namespace Ls
open PySem PySem.Spec PyProof.Rows L2
end Ls
namespace Ls
open PySem PySem.Spec PyProof.Rows L2 TL
end Ls
namespace Ls
open PySem PySem.Spec PyProof.Rows L2
end Ls
namespace Ls
open PySem PySem.Spec PyProof.Rows L2
end Ls
namespace Ls
open PySem PySem.Spec PyProof.Rows L2 PySem.W.KOpn
/-- a text of plain signs -/
def Asc (z : Str) : Prop := ∀ c ∈ z.cps.toList, c < 128
end Ls
namespace Ls
open PySem PySem.Spec PyProof.Rows L2
def tCallW (sp : Sp) (dvs : List V) (W : WX) (t : TA) : TE := fun σ H Q => t σ H fun vs H1 => sp (vs ++ dvs) H1 Q (fun cls d H' => W cls d σ H')
section
variable {X : Cx} {k : Nat} {f : Addr} {fd : FuncData} {ps : List Str} {sp : Sp} {dvs : List V} {ds : List Value} {W : WX} {x : Str} {p pos : Pos} {e : Expr} {es : List Expr} {t : TA}
theorem run_fnW {pins : List (Addr × Obj)} {σ : L2.St} {H : Hp} {s : Shared} {Q : VK} {us : List Value} {vs : List V} (F : FnOk X.prog X.w X.K X.mg X.base (L2.CX X.prog X.w) k f fd ps sp) (hr : Room k X.A) (hb : Binds X.K fd ps ds) (hd : Vals dvs ds) (tk : Takes X W)
    (I : Inv X pins σ H s) (r : Vals vs us) (h : sp (vs ++ dvs) H Q (fun cls d H' => W cls d σ H')) : wpAny (model X.prog X.w) X.A (call (.ref f) us) (EP X pins σ Q) X.xe s := by
  have r2 : Vals (vs ++ dvs) (us ++ ds) := r.append hd
  have hl : (us ++ ds).length = ps.length := by rw [← r2.length]; exact F.len _ _ _ _ h
  refine wpAny_call (codeAny_mono (F.run X.A X.stack s H ⟨us, []⟩ (us ++ ds) (vs ++ dvs) Q _ hr I.env0 (hb s us I.kIn hl) r2 h) fun r s' hq => ?_)
  cases r with
  | error e => exact tk e s' (XE.of_call I (fun cls d H' h => h) hq)
  | ok fl =>
    cases fl with
    | ret u => exact I.after hq
    | next => exact False.elim hq
    | brk => exact False.elim hq
    | cont => exact False.elim hq
theorem pe_callW (F : FnOk X.prog X.w X.K X.mg X.base (L2.CX X.prog X.w) k f fd ps sp) (hr : Room k X.A) (hg : Gl X x) (hm : X.mg x = some (.ref f)) (hk : PySem.W.keepIn X.K (.ref f) = true) (hb : Binds X.K fd ps ds) (hd : Vals dvs ds) (tk : Takes X W)
    (ha : PA X (e :: es) t) (hdb : (x == ("__debug__" : Str)) = false := by decide) (he : starEach (e :: es) X.env = (false, eval e X.env) :: starEach es X.env := by rfl) (hpl : (backTo pos (starEach es X.env)).any (·.1) = false := by rfl) :
    PE X (.Call (.Name x p) (e :: es) [] pos) (tCallW sp dvs W t) := by
  refine ⟨fun pins s σ H Q I h => ?_⟩
  refine wpAny_Call_Name_kw (ld_glob I hg hm ?_ hdb)
  refine PySem.W.callWith_K (h₀ := X.base) I.ok.mod.kin hk (thn (ha.run pos pins s σ H _ I h) fun us s1 ⟨vs, H1, I1, r, q⟩ => ⟨I1.kIn, ?_⟩) he hpl
  exact run_fnW F hr hb hd tk I1 r q
end
theorem k_callW {sp : Sp} {dvs : List V} {W : WX} {tl : TA} {σ : L2.St} {H : Hp} {Q : VK} (h : tl σ H fun vs H1 => sp (vs ++ dvs) H1 Q (fun cls d H' => W cls d σ H')) : tCallW sp dvs W tl σ H Q := h
end Ls
namespace Ls
open PySem PySem.Spec PyProof.Rows L2
def rMulS : R2 := fun x y H Q => ∃ (z : Str) (n : Int), x = .str z ∧ y = .int n ∧ MulOk z n ∧ Q (.str (Txt.mul z n)) H
theorem op_mulS {X : Cx} : OpR X (binaryOp .Mult) rMulS := by
  intro pins s σ H x y v u Q I rx ry h
  obtain ⟨z, n, rfl, rfl, ok, q⟩ := h
  obtain ⟨t, rfl⟩ := rx
  obtain ⟨t', rfl⟩ := ry
  exact PySem.SB.mul ok fun t2 k => ⟨.str (Txt.mul z n), H, I.tok _, ⟨_, rfl⟩, q⟩
section
variable {K : PySem.W.Frag} {L M : List (As K)} {H : Hp} {Q : VK} {a : Addr} {v : V} {d : PyData} {ds : List PyData}
theorem k_mulS {z : Str} {n : Int} (ok : MulOk z n) (q : Q (.str (Txt.mul z n)) H) : rMulS (.str z) (.int n) H Q := ⟨z, n, rfl, rfl, ok, q⟩
theorem imAll_set : ∀ {vs : List V} {ds : List PyData} (j : Nat), ImAll K H vs ds → Im K H v d → ImAll K H (vs.set j v) (ds.set j d)
  | _, _, j, .nil, _ => by cases j <;> exact .nil
  | _, _, 0, .cons h r, m => .cons m r
  | _, _, j + 1, .cons h r, m => .cons h (imAll_set j r m)
theorem k_setLd {k : Int} {j : Nat} {R : Hp → Prop} (h : Ls.Sep L H) (r : Rep L (ld a ds) (ld a (ds.set j d)) M) (t : Dat L v d) (e : ixN ds.length k = some j) (q : ∀ H', Ls.Sep M H' → R H') : rSetL (.ref a) (.int k) v H R := by
  obtain ⟨xs, h1, h2⟩ := h.ldm r.mem
  exact ⟨a, xs, k, j, rfl, rfl, h1, by rw [h2.length]; exact e, q _ (Ls.Sep.setDR h r (imAll_set j h2 (t.is h)))⟩
end
end Ls
namespace Lw
open PySem PySem.Spec PyProof.Rows L2 Ls
structure Env (K : PySem.W.Frag) (mg : Str → Option Value) where
  a_law : Addr
  fd_law : FuncData
  F_law : FunD K "law" "law" (defArgs s_law) (defBody s_law) (defScope s_law) [] [] a_law fd_law
  g_law : mg "law" = some (.ref a_law)
  a__law_begin : Addr
  fd__law_begin : FuncData
  F__law_begin : FunD K "_law_begin" "_law_begin" (defArgs s__law_begin) (defBody s__law_begin) (defScope s__law_begin) [] [] a__law_begin fd__law_begin
  g__law_begin : mg "_law_begin" = some (.ref a__law_begin)
  a__law_dump : Addr
  fd__law_dump : FuncData
  F__law_dump : FunD K "_law_dump" "_law_dump" (defArgs s__law_dump) (defBody s__law_dump) (defScope s__law_dump) [] [] a__law_dump fd__law_dump
  g__law_dump : mg "_law_dump" = some (.ref a__law_dump)
  a__law_same : Addr
  fd__law_same : FuncData
  F__law_same : FunD K "_law_same" "_law_same" (defArgs s__law_same) (defBody s__law_same) (defScope s__law_same) [] [] a__law_same fd__law_same
  g__law_same : mg "_law_same" = some (.ref a__law_same)
  a__law_dump_told : Addr
  fd__law_dump_told : FuncData
  F__law_dump_told : FunD K "_law_dump_told" "_law_dump_told" (defArgs s__law_dump_told) (defBody s__law_dump_told) (defScope s__law_dump_told) [] [] a__law_dump_told fd__law_dump_told
  g__law_dump_told : mg "_law_dump_told" = some (.ref a__law_dump_told)
  a__law_dump_read : Addr
  fd__law_dump_read : FuncData
  F__law_dump_read : FunD K "_law_dump_read" "_law_dump_read" (defArgs s__law_dump_read) (defBody s__law_dump_read) (defScope s__law_dump_read) [] [] a__law_dump_read fd__law_dump_read
  g__law_dump_read : mg "_law_dump_read" = some (.ref a__law_dump_read)
  a__law_bent_dump : Addr
  fd__law_bent_dump : FuncData
  F__law_bent_dump : FunD K "_law_bent_dump" "_law_bent_dump" (defArgs s__law_bent_dump) (defBody s__law_bent_dump) (defScope s__law_bent_dump) [] [] a__law_bent_dump fd__law_bent_dump
  g__law_bent_dump : mg "_law_bent_dump" = some (.ref a__law_bent_dump)
  a__law_ask_dump : Addr
  fd__law_ask_dump : FuncData
  F__law_ask_dump : FunD K "_law_ask_dump" "_law_ask_dump" (defArgs s__law_ask_dump) (defBody s__law_ask_dump) (defScope s__law_ask_dump) [] [] a__law_ask_dump fd__law_ask_dump
  g__law_ask_dump : mg "_law_ask_dump" = some (.ref a__law_ask_dump)
  a__law_pick : Addr
  fd__law_pick : FuncData
  F__law_pick : FunD K "_law_pick" "_law_pick" (defArgs s__law_pick) (defBody s__law_pick) (defScope s__law_pick) [] [] a__law_pick fd__law_pick
  g__law_pick : mg "_law_pick" = some (.ref a__law_pick)
  a_mended : Addr
  fd_mended : FuncData
  F_mended : FunD K "mended" "mended" (defArgs s_mended) (defBody s_mended) (defScope s_mended) [] [] a_mended fd_mended
  g_mended : mg "mended" = some (.ref a_mended)
  a__law_thing_row : Addr
  fd__law_thing_row : FuncData
  F__law_thing_row : FunD K "_law_thing_row" "_law_thing_row" (defArgs s__law_thing_row) (defBody s__law_thing_row) (defScope s__law_thing_row) [] [] a__law_thing_row fd__law_thing_row
  g__law_thing_row : mg "_law_thing_row" = some (.ref a__law_thing_row)
  a__law_of : Addr
  fd__law_of : FuncData
  F__law_of : FunD K "_law_of" "_law_of" (defArgs s__law_of) (defBody s__law_of) (defScope s__law_of) [] [] a__law_of fd__law_of
  g__law_of : mg "_law_of" = some (.ref a__law_of)
  a__law_far : Addr
  fd__law_far : FuncData
  F__law_far : FunD K "_law_far" "_law_far" (defArgs s__law_far) (defBody s__law_far) (defScope s__law_far) [] [] a__law_far fd__law_far
  g__law_far : mg "_law_far" = some (.ref a__law_far)
  a__law_word : Addr
  fd__law_word : FuncData
  F__law_word : FunD K "_law_word" "_law_word" (defArgs s__law_word) (defBody s__law_word) (defScope s__law_word) [] [] a__law_word fd__law_word
  g__law_word : mg "_law_word" = some (.ref a__law_word)
  a__law_bound : Addr
  fd__law_bound : FuncData
  F__law_bound : FunD K "_law_bound" "_law_bound" (defArgs s__law_bound) (defBody s__law_bound) (defScope s__law_bound) [] [] a__law_bound fd__law_bound
  g__law_bound : mg "_law_bound" = some (.ref a__law_bound)
  a__law_thing_in : Addr
  fd__law_thing_in : FuncData
  F__law_thing_in : FunD K "_law_thing_in" "_law_thing_in" (defArgs s__law_thing_in) (defBody s__law_thing_in) (defScope s__law_thing_in) [] [] a__law_thing_in fd__law_thing_in
  g__law_thing_in : mg "_law_thing_in" = some (.ref a__law_thing_in)
  a_read_dump : Addr
  fd_read_dump : FuncData
  F_read_dump : FunD K "read_dump" "read_dump" (defArgs s_read_dump) (defBody s_read_dump) (defScope s_read_dump) [] [] a_read_dump fd_read_dump
  g_read_dump : mg "read_dump" = some (.ref a_read_dump)
  a_rows_read : Addr
  fd_rows_read : FuncData
  F_rows_read : FunD K "rows_read" "rows_read" (defArgs s_rows_read) (defBody s_rows_read) (defScope s_rows_read) [] [] a_rows_read fd_rows_read
  g_rows_read : mg "rows_read" = some (.ref a_rows_read)
  a__law_number_in : Addr
  fd__law_number_in : FuncData
  F__law_number_in : FunD K "_law_number_in" "_law_number_in" (defArgs s__law_number_in) (defBody s__law_number_in) (defScope s__law_number_in) [] [] a__law_number_in fd__law_number_in
  g__law_number_in : mg "_law_number_in" = some (.ref a__law_number_in)
  a__law_is_name : Addr
  fd__law_is_name : FuncData
  F__law_is_name : FunD K "_law_is_name" "_law_is_name" (defArgs s__law_is_name) (defBody s__law_is_name) (defScope s__law_is_name) [] [] a__law_is_name fd__law_is_name
  g__law_is_name : mg "_law_is_name" = some (.ref a__law_is_name)
  a_thing_in : Addr
  fd_thing_in : FuncData
  F_thing_in : FunD K "thing_in" "thing_in" (defArgs s_thing_in) (defBody s_thing_in) (defScope s_thing_in) [] [] a_thing_in fd_thing_in
  g_thing_in : mg "thing_in" = some (.ref a_thing_in)
  a_fits : Addr
  fd_fits : FuncData
  F_fits : FunD K "fits" "fits" (defArgs s_fits) (defBody s_fits) (defScope s_fits) [] [] a_fits fd_fits
  g_fits : mg "fits" = some (.ref a_fits)
  a_number_in : Addr
  fd_number_in : FuncData
  F_number_in : FunD K "number_in" "number_in" (defArgs s_number_in) (defBody s_number_in) (defScope s_number_in) [.int 6] [] a_number_in fd_number_in
  g_number_in : mg "number_in" = some (.ref a_number_in)
  a_is_name : Addr
  fd_is_name : FuncData
  F_is_name : FunD K "is_name" "is_name" (defArgs s_is_name) (defBody s_is_name) (defScope s_is_name) [] [] a_is_name fd_is_name
  g_is_name : mg "is_name" = some (.ref a_is_name)
  fi_ScribeError : Addr
  fdi_ScribeError : FuncData
  FI_ScribeError : FunD K "__init__" "ScribeError.__init__" (defArgs s_ScribeError___init__) (defBody s_ScribeError___init__) (defScope s_ScribeError___init__) [] [] fi_ScribeError fdi_ScribeError
  fi_BadDump : Addr
  fdi_BadDump : FuncData
  FI_BadDump : FunD K "__init__" "BadDump.__init__" (defArgs s_BadDump___init__) (defBody s_BadDump___init__) (defScope s_BadDump___init__) [] [] fi_BadDump fdi_BadDump
  C_ScribeError : Addr
  g_ScribeError : mg "ScribeError" = some (.ref C_ScribeError)
  C_BadDump : Addr
  g_BadDump : mg "BadDump" = some (.ref C_BadDump)
  r_ScribeError : ClX.CRead K C_ScribeError (.type "type")
  v_ScribeError : ClX.CVal K C_ScribeError (.type "type") "__init__" (.ref fi_ScribeError) (.ref fi_ScribeError)
  o_BadDump : OexC K C_BadDump
  i_BadDump : PySem.W.findIn K (.ref C_BadDump) "__init__" = some (some (.ref fi_BadDump))
  t_BadDump : PySem.W.typeIn K (.ref fi_BadDump) = some (.type "function")
  w_BadDump : PySem.W.findIn K (.ref C_BadDump) "word" = some none
  x_BadDump : XfC K C_BadDump
  f_BadDump : PySem.W.findIn K (.ref C_BadDump) "row" = some none
  e_BadDump_BadDump : PySem.W.exmOne K (.ref C_BadDump) (.ref C_BadDump) = some true
  vei : PySem.W.findCls K (.type "ValueError") (.type "type") "__init__" = some (.val (.builtin "ValueError.__init__"))
  n_ValueError : mg "ValueError" = none
  n_range : mg "range" = none
  n_list : mg "list" = none
  n_isinstance : mg "isinstance" = none
  n_bool : mg "bool" = none
  n_int : mg "int" = none
  n_str : mg "str" = none
  n_all : mg "all" = none
  n_tuple : mg "tuple" = none
  n_len : mg "len" = none
  n_enumerate : mg "enumerate" = none
  c_MOST_FIGURES_dumps : ∃ u, mg "MOST_FIGURES_dumps" = some u ∧ RelV (.int 30) u
  c_MOST_FIGURES_sieve : ∃ u, mg "MOST_FIGURES_sieve" = some u ∧ RelV (.int 6) u
  c_FIGURES : ∃ u, mg "FIGURES" = some u ∧ RelV (.str "0123456789") u
  c_LONGEST : ∃ u, mg "LONGEST" = some u ∧ RelV (.int 8) u
  c_LETTERS : ∃ u, mg "LETTERS" = some u ∧ RelV (.str "abcdefghijklmnopqrstuvwxyz") u
section
variable {K : PySem.W.Frag} {mg : Str → Option Value}
theorem bI_ScribeError (E : Env K mg) : Binds K E.fdi_ScribeError ["self", "word"] [] := E.FI_ScribeError.bindsN fun _ _ _ _ _ _ us hl => match us, hl with | [_, _], _ => rfl
theorem bI_BadDump (E : Env K mg) : Binds K E.fdi_BadDump ["self", "row"] [] := E.FI_BadDump.bindsN fun _ _ _ _ _ _ us hl => match us, hl with | [_, _], _ => rfl
theorem b__law_begin (E : Env K mg) : Binds K E.fd__law_begin ["_law_script"] [] := E.F__law_begin.bindsN fun _ _ _ _ _ _ us hl => match us, hl with | [_], _ => rfl
theorem b__law_dump (E : Env K mg) : Binds K E.fd__law_dump ["_law_told"] [] := E.F__law_dump.bindsN fun _ _ _ _ _ _ us hl => match us, hl with | [_], _ => rfl
theorem b__law_same (E : Env K mg) : Binds K E.fd__law_same ["_law_found", "_law_due"] [] := E.F__law_same.bindsN fun _ _ _ _ _ _ us hl => match us, hl with | [_, _], _ => rfl
theorem b__law_dump_told (E : Env K mg) : Binds K E.fd__law_dump_told ["_law_d"] [] := E.F__law_dump_told.bindsN fun _ _ _ _ _ _ us hl => match us, hl with | [_], _ => rfl
theorem b__law_dump_read (E : Env K mg) : Binds K E.fd__law_dump_read ["_law_text"] [] := E.F__law_dump_read.bindsN fun _ _ _ _ _ _ us hl => match us, hl with | [_], _ => rfl
theorem b__law_bent_dump (E : Env K mg) : Binds K E.fd__law_bent_dump ["_law_d", "_law_text"] [] := E.F__law_bent_dump.bindsN fun _ _ _ _ _ _ us hl => match us, hl with | [_, _], _ => rfl
theorem b__law_ask_dump (E : Env K mg) : Binds K E.fd__law_ask_dump ["_law_text"] [] := E.F__law_ask_dump.bindsN fun _ _ _ _ _ _ us hl => match us, hl with | [_], _ => rfl
theorem b__law_pick (E : Env K mg) : Binds K E.fd__law_pick ["_law_d", "_law_many"] [] := E.F__law_pick.bindsN fun _ _ _ _ _ _ us hl => match us, hl with | [_, _], _ => rfl
theorem b_mended (E : Env K mg) : Binds K E.fd_mended ["text"] [] := E.F_mended.bindsN fun _ _ _ _ _ _ us hl => match us, hl with | [_], _ => rfl
theorem b__law_thing_row (E : Env K mg) : Binds K E.fd__law_thing_row ["_law_thing"] [] := E.F__law_thing_row.bindsN fun _ _ _ _ _ _ us hl => match us, hl with | [_], _ => rfl
theorem b__law_of (E : Env K mg) : Binds K E.fd__law_of ["_law_d", "_law_things"] [] := E.F__law_of.bindsN fun _ _ _ _ _ _ us hl => match us, hl with | [_, _], _ => rfl
theorem b__law_far (E : Env K mg) : Binds K E.fd__law_far ["_law_d"] [] := E.F__law_far.bindsN fun _ _ _ _ _ _ us hl => match us, hl with | [_], _ => rfl
theorem b__law_word (E : Env K mg) : Binds K E.fd__law_word ["_law_d"] [] := E.F__law_word.bindsN fun _ _ _ _ _ _ us hl => match us, hl with | [_], _ => rfl
theorem b__law_bound (E : Env K mg) : Binds K E.fd__law_bound ["_law_d"] [] := E.F__law_bound.bindsN fun _ _ _ _ _ _ us hl => match us, hl with | [_], _ => rfl
theorem b__law_thing_in (E : Env K mg) : Binds K E.fd__law_thing_in ["_law_line"] [] := E.F__law_thing_in.bindsN fun _ _ _ _ _ _ us hl => match us, hl with | [_], _ => rfl
theorem b_read_dump (E : Env K mg) : Binds K E.fd_read_dump ["text"] [] := E.F_read_dump.bindsN fun _ _ _ _ _ _ us hl => match us, hl with | [_], _ => rfl
theorem b_rows_read (E : Env K mg) : Binds K E.fd_rows_read ["text"] [] := E.F_rows_read.bindsN fun _ _ _ _ _ _ us hl => match us, hl with | [_], _ => rfl
theorem b__law_number_in (E : Env K mg) : Binds K E.fd__law_number_in ["_law_text", "_law_most"] [] := E.F__law_number_in.bindsN fun _ _ _ _ _ _ us hl => match us, hl with | [_, _], _ => rfl
theorem b__law_is_name (E : Env K mg) : Binds K E.fd__law_is_name ["_law_text"] [] := E.F__law_is_name.bindsN fun _ _ _ _ _ _ us hl => match us, hl with | [_], _ => rfl
theorem b_thing_in (E : Env K mg) : Binds K E.fd_thing_in ["line"] [] := E.F_thing_in.bindsN fun _ _ _ _ _ _ us hl => match us, hl with | [_], _ => rfl
theorem b_fits (E : Env K mg) : Binds K E.fd_fits ["thing", "ahead", "due"] [] := E.F_fits.bindsN fun _ _ _ _ _ _ us hl => match us, hl with | [_, _, _], _ => rfl
theorem b_number_in (E : Env K mg) : Binds K E.fd_number_in ["text", "most"] [] := by
  obtain ⟨ds, v, b⟩ := E.F_number_in.binds1 (ps := ["text", "most"]) 2 1 (by simp) (by rfl) fun _ _ _ _ _ _ _ us its h1 h2 => match us, its, h1, h2 with | [_, _], [_], _, _ => ⟨_, rfl, rfl⟩
  cases v
  exact b
theorem b_is_name (E : Env K mg) : Binds K E.fd_is_name ["text"] [] := E.F_is_name.bindsN fun _ _ _ _ _ _ us hl => match us, hl with | [_], _ => rfl
end
end Lw
namespace Ls
open PySem PySem.Spec PyProof.Rows L2
def spLaw (K : PySem.W.Frag) (T : List (Addr × Str)) : Sp := fun vs H Q _ => ∃ (a : Addr) (ns : List Int), vs = [.ref a] ∧ (∀ p ∈ T, H p.1 = some (.tbl #[])) ∧ SqL K H a (ns.map V.int) ∧ ns.length ≤ 63 ∧ ∀ H', Q (.bl true) H'
end Ls
namespace Lw
open PySem PySem.Spec PyProof.Rows L2 Ls
abbrev OkLaw : Prop := ∀ {P : Program} {w : World} {K : PySem.W.Frag} {mg : Str → Option Value} {base : Heap} (E : Env K mg), FnOk P w K mg base (L2.CX P w) 20 E.a_law E.fd_law ["_law_script"] (spLaw K [])
end Lw
section
namespace Lw
open PySem PySem.Spec PyProof.Rows L2 Ls LamX
theorem facts {K : PySem.W.Frag} {h : Heap} {w : World} {mg : Str → Option Value} (X : K.In h) (G : h.Ns mainGlobals mg) (y : He.SaysX Lh.fa Lh.fn Lh.tbs Lh.tfs Lh.exB w h K) : ∃ E : Env K mg, True := by
  have c := y.t.d
  have hb := y.more
  obtain ⟨fd_law, F_law⟩ := c.def_ 0 (d := Lh.d_law) rfl
  obtain ⟨fd__law_begin, F__law_begin⟩ := c.def_ 1 (d := Lh.d__law_begin) rfl
  obtain ⟨fd__law_dump, F__law_dump⟩ := c.def_ 2 (d := Lh.d__law_dump) rfl
  obtain ⟨fd__law_same, F__law_same⟩ := c.def_ 3 (d := Lh.d__law_same) rfl
  obtain ⟨fd__law_dump_told, F__law_dump_told⟩ := c.def_ 4 (d := Lh.d__law_dump_told) rfl
  obtain ⟨fd__law_dump_read, F__law_dump_read⟩ := c.def_ 5 (d := Lh.d__law_dump_read) rfl
  obtain ⟨fd__law_bent_dump, F__law_bent_dump⟩ := c.def_ 6 (d := Lh.d__law_bent_dump) rfl
  obtain ⟨fd__law_ask_dump, F__law_ask_dump⟩ := c.def_ 7 (d := Lh.d__law_ask_dump) rfl
  obtain ⟨fd__law_pick, F__law_pick⟩ := c.def_ 8 (d := Lh.d__law_pick) rfl
  obtain ⟨fd_mended, F_mended⟩ := c.def_ 9 (d := Lh.d_mended) rfl
  obtain ⟨fd__law_thing_row, F__law_thing_row⟩ := c.def_ 10 (d := Lh.d__law_thing_row) rfl
  obtain ⟨fd__law_of, F__law_of⟩ := c.def_ 11 (d := Lh.d__law_of) rfl
  obtain ⟨fd__law_far, F__law_far⟩ := c.def_ 12 (d := Lh.d__law_far) rfl
  obtain ⟨fd__law_word, F__law_word⟩ := c.def_ 13 (d := Lh.d__law_word) rfl
  obtain ⟨fd__law_bound, F__law_bound⟩ := c.def_ 14 (d := Lh.d__law_bound) rfl
  obtain ⟨fd__law_thing_in, F__law_thing_in⟩ := c.def_ 15 (d := Lh.d__law_thing_in) rfl
  obtain ⟨fd_read_dump, F_read_dump⟩ := c.def_ 16 (d := Lh.d_read_dump) rfl
  obtain ⟨fd_rows_read, F_rows_read⟩ := c.def_ 17 (d := Lh.d_rows_read) rfl
  obtain ⟨fd__law_number_in, F__law_number_in⟩ := c.def_ 18 (d := Lh.d__law_number_in) rfl
  obtain ⟨fd__law_is_name, F__law_is_name⟩ := c.def_ 19 (d := Lh.d__law_is_name) rfl
  obtain ⟨fd_thing_in, F_thing_in⟩ := c.def_ 20 (d := Lh.d_thing_in) rfl
  obtain ⟨fd_fits, F_fits⟩ := c.def_ 21 (d := Lh.d_fits) rfl
  obtain ⟨fd_number_in, F_number_in⟩ := c.def_ 22 (d := Lh.d_number_in) rfl
  obtain ⟨fd_is_name, F_is_name⟩ := c.def_ 23 (d := Lh.d_is_name) rfl
  obtain ⟨fdi_ScribeError, FI_ScribeError⟩ := c.def_ 24 (d := Lh.d_ScribeError___init__) rfl
  obtain ⟨fdi_BadDump, FI_BadDump⟩ := c.def_ 25 (d := Lh.d_BadDump___init__) rfl
  refine ⟨{
    a_law := He.ga K "law", fd_law := fd_law, F_law := F_law, g_law := He.glo_ok X G (c.fact 0 (f := .glo "law") rfl)
    a__law_begin := He.ga K "_law_begin", fd__law_begin := fd__law_begin, F__law_begin := F__law_begin, g__law_begin := He.glo_ok X G (c.fact 1 (f := .glo "_law_begin") rfl)
    a__law_dump := He.ga K "_law_dump", fd__law_dump := fd__law_dump, F__law_dump := F__law_dump, g__law_dump := He.glo_ok X G (c.fact 2 (f := .glo "_law_dump") rfl)
    a__law_same := He.ga K "_law_same", fd__law_same := fd__law_same, F__law_same := F__law_same, g__law_same := He.glo_ok X G (c.fact 3 (f := .glo "_law_same") rfl)
    a__law_dump_told := He.ga K "_law_dump_told", fd__law_dump_told := fd__law_dump_told, F__law_dump_told := F__law_dump_told, g__law_dump_told := He.glo_ok X G (c.fact 4 (f := .glo "_law_dump_told") rfl)
    a__law_dump_read := He.ga K "_law_dump_read", fd__law_dump_read := fd__law_dump_read, F__law_dump_read := F__law_dump_read, g__law_dump_read := He.glo_ok X G (c.fact 5 (f := .glo "_law_dump_read") rfl)
    a__law_bent_dump := He.ga K "_law_bent_dump", fd__law_bent_dump := fd__law_bent_dump, F__law_bent_dump := F__law_bent_dump, g__law_bent_dump := He.glo_ok X G (c.fact 6 (f := .glo "_law_bent_dump") rfl)
    a__law_ask_dump := He.ga K "_law_ask_dump", fd__law_ask_dump := fd__law_ask_dump, F__law_ask_dump := F__law_ask_dump, g__law_ask_dump := He.glo_ok X G (c.fact 7 (f := .glo "_law_ask_dump") rfl)
    a__law_pick := He.ga K "_law_pick", fd__law_pick := fd__law_pick, F__law_pick := F__law_pick, g__law_pick := He.glo_ok X G (c.fact 8 (f := .glo "_law_pick") rfl)
    a_mended := He.ga K "mended", fd_mended := fd_mended, F_mended := F_mended, g_mended := He.glo_ok X G (c.fact 9 (f := .glo "mended") rfl)
    a__law_thing_row := He.ga K "_law_thing_row", fd__law_thing_row := fd__law_thing_row, F__law_thing_row := F__law_thing_row, g__law_thing_row := He.glo_ok X G (c.fact 10 (f := .glo "_law_thing_row") rfl)
    a__law_of := He.ga K "_law_of", fd__law_of := fd__law_of, F__law_of := F__law_of, g__law_of := He.glo_ok X G (c.fact 11 (f := .glo "_law_of") rfl)
    a__law_far := He.ga K "_law_far", fd__law_far := fd__law_far, F__law_far := F__law_far, g__law_far := He.glo_ok X G (c.fact 12 (f := .glo "_law_far") rfl)
    a__law_word := He.ga K "_law_word", fd__law_word := fd__law_word, F__law_word := F__law_word, g__law_word := He.glo_ok X G (c.fact 13 (f := .glo "_law_word") rfl)
    a__law_bound := He.ga K "_law_bound", fd__law_bound := fd__law_bound, F__law_bound := F__law_bound, g__law_bound := He.glo_ok X G (c.fact 14 (f := .glo "_law_bound") rfl)
    a__law_thing_in := He.ga K "_law_thing_in", fd__law_thing_in := fd__law_thing_in, F__law_thing_in := F__law_thing_in, g__law_thing_in := He.glo_ok X G (c.fact 15 (f := .glo "_law_thing_in") rfl)
    a_read_dump := He.ga K "read_dump", fd_read_dump := fd_read_dump, F_read_dump := F_read_dump, g_read_dump := He.glo_ok X G (c.fact 16 (f := .glo "read_dump") rfl)
    a_rows_read := He.ga K "rows_read", fd_rows_read := fd_rows_read, F_rows_read := F_rows_read, g_rows_read := He.glo_ok X G (c.fact 17 (f := .glo "rows_read") rfl)
    a__law_number_in := He.ga K "_law_number_in", fd__law_number_in := fd__law_number_in, F__law_number_in := F__law_number_in, g__law_number_in := He.glo_ok X G (c.fact 18 (f := .glo "_law_number_in") rfl)
    a__law_is_name := He.ga K "_law_is_name", fd__law_is_name := fd__law_is_name, F__law_is_name := F__law_is_name, g__law_is_name := He.glo_ok X G (c.fact 19 (f := .glo "_law_is_name") rfl)
    a_thing_in := He.ga K "thing_in", fd_thing_in := fd_thing_in, F_thing_in := F_thing_in, g_thing_in := He.glo_ok X G (c.fact 20 (f := .glo "thing_in") rfl)
    a_fits := He.ga K "fits", fd_fits := fd_fits, F_fits := F_fits, g_fits := He.glo_ok X G (c.fact 21 (f := .glo "fits") rfl)
    a_number_in := He.ga K "number_in", fd_number_in := fd_number_in, F_number_in := F_number_in, g_number_in := He.glo_ok X G (c.fact 22 (f := .glo "number_in") rfl)
    a_is_name := He.ga K "is_name", fd_is_name := fd_is_name, F_is_name := F_is_name, g_is_name := He.glo_ok X G (c.fact 23 (f := .glo "is_name") rfl)
    n_range := He.free_ok X G (c.fact 24 (f := .free "range") rfl)
    n_list := He.free_ok X G (c.fact 25 (f := .free "list") rfl)
    n_isinstance := He.free_ok X G (c.fact 26 (f := .free "isinstance") rfl)
    n_bool := He.free_ok X G (c.fact 27 (f := .free "bool") rfl)
    n_int := He.free_ok X G (c.fact 28 (f := .free "int") rfl)
    n_str := He.free_ok X G (c.fact 29 (f := .free "str") rfl)
    n_all := He.free_ok X G (c.fact 30 (f := .free "all") rfl)
    n_tuple := He.free_ok X G (c.fact 31 (f := .free "tuple") rfl)
    n_len := He.free_ok X G (c.fact 32 (f := .free "len") rfl)
    n_enumerate := He.free_ok X G (c.fact 33 (f := .free "enumerate") rfl)
    n_ValueError := He.free_ok X G (c.fact 34 (f := .free "ValueError") rfl)
    c_MOST_FIGURES_dumps := by
      obtain ⟨t, e⟩ := He.int_ok X G (c.fact 35 (f := .int "MOST_FIGURES_dumps" 30) rfl)
      exact ⟨_, e, ⟨t, rfl⟩⟩
    c_MOST_FIGURES_sieve := by
      obtain ⟨t, e⟩ := He.int_ok X G (c.fact 36 (f := .int "MOST_FIGURES_sieve" 6) rfl)
      exact ⟨_, e, ⟨t, rfl⟩⟩
    c_FIGURES := by
      obtain ⟨t, e⟩ := He.str_ok X G (c.fact 37 (f := .str "FIGURES" "0123456789") rfl)
      exact ⟨_, e, ⟨t, rfl⟩⟩
    c_LONGEST := by
      obtain ⟨t, e⟩ := He.int_ok X G (c.fact 38 (f := .int "LONGEST" 8) rfl)
      exact ⟨_, e, ⟨t, rfl⟩⟩
    c_LETTERS := by
      obtain ⟨t, e⟩ := He.str_ok X G (c.fact 39 (f := .str "LETTERS" "abcdefghijklmnopqrstuvwxyz") rfl)
      exact ⟨_, e, ⟨t, rfl⟩⟩
    C_ScribeError := He.ga K "ScribeError", g_ScribeError := He.glo_ok X G (c.fact 40 (f := .glo "ScribeError") rfl)
    C_BadDump := He.ga K "BadDump", g_BadDump := He.glo_ok X G (c.fact 41 (f := .glo "BadDump") rfl)
    fi_ScribeError := He.ma K (He.ga K "ScribeError") "__init__", fdi_ScribeError := fdi_ScribeError, FI_ScribeError := FI_ScribeError
    fi_BadDump := He.ma K (He.ga K "BadDump") "__init__", fdi_BadDump := fdi_BadDump, FI_BadDump := FI_BadDump
    r_ScribeError := crdB_ok (Lh.exB_ok hb (i := 0) rfl)
    v_ScribeError := cviB_ok (Lh.exB_ok hb (i := 1) rfl)
    o_BadDump := oexB_ok (Lh.exB_ok hb (i := 2) rfl)
    i_BadDump := (iniB_ok (Lh.exB_ok hb (i := 3) rfl)).1
    t_BadDump := (iniB_ok (Lh.exB_ok hb (i := 4) rfl)).2
    w_BadDump := noFB_ok (Lh.exB_ok hb (i := 5) rfl)
    x_BadDump := xfB_ok (Lh.exB_ok hb (i := 6) rfl)
    f_BadDump := noFB_ok (Lh.exB_ok hb (i := 7) rfl)
    e_BadDump_BadDump := exmB_ok (Lh.exB_ok hb (i := 8) rfl)
    vei := veiB_ok (Lh.exB_ok hb (i := 9) rfl)
    }, trivial⟩
end Lw
open PySem PySem.W PySem.Calls PyProof.Rows
theorem Lw.head_of (ok : Lw.OkLaw) : PySem.Challenge.rw_lanescribe_k33_dumps_bent_and_mended.Holds := by
  w_on; o_law
  refine HandSHeadRun.head_any (r := OpenLaw.row PySem.Challenge.rw_lanescribe_k33_dumps_bent_and_mended) (q := view (OpenLaw.row PySem.Challenge.rw_lanescribe_k33_dumps_bent_and_mended).prog [35]) (H := Lh.hk) (ob := Lh.ob) (M := 20000) (loose := Lh.loose) (d := HandSHeadRun.topDef (OpenLaw.row PySem.Challenge.rw_lanescribe_k33_dumps_bent_and_mended).prog 35) (kwd := []) Lh.ob_eq
    (by kernel_rfl) (fun s => by kernel_rfl) Lh.run (by kernel_rfl) (by kernel_rfl) (by kernel_rfl) (by rfl) (by first | assumption | decide +kernel) (by decide +kernel) ⟨rfl, rfl, rfl, rfl, rfl, by decide +kernel⟩ ?hw ?hc
  case hw => w_witness2
  case hc =>
    refine LamX.walk_ofTsE (l := PySem.Challenge.rw_lanescribe_k33_dumps_bent_and_mended) (n := 63) (k := 20) (x := "_law_script") (CX := fun w => L2.CX PySem.Challenge.rw_lanescribe_k33_dumps_bent_and_mended.prog w) rfl (by decide) (by kernel_rfl) ⟨rfl, by decide, by decide⟩ ?F (fun _ _ _ _ _ ⟨_, _, _, _, _, _, _, _, _, _, _, _, z⟩ => z)
    intro w mg fa h Y G hmg0
    obtain ⟨K, KX, y⟩ := Y
    have hmg : mg ("law" : PySem.Str) = some (.ref fa) := by
      have e : (HandSHeadRun.topDef (OpenLaw.row PySem.Challenge.rw_lanescribe_k33_dumps_bent_and_mended).prog 35).name = ("law" : PySem.Str) := by kernel_rfl
      rw [← e]
      exact hmg0
    obtain ⟨E, _⟩ := Lw.facts KX G y
    have e := hmg.symm.trans E.g_law
    cases e
    have b := L2.FunD.bindsA (ps := ["_law_script"]) E.F_law fun _ _ _ _ _ _ us hl => match us, hl with | [_], _ => rfl

    refine ⟨K, KX, E.fd_law, Lh.tfs.map (He.cT K), Ls.spLaw K [], fun p hp => ?_, fun p hp => ?_, fun p hp => ?_, fun s v => b s [v] rfl, fun H a ns hl _ hT hS => ?_, fun base KB GB TB => ?_⟩
    · obtain ⟨d, hd, rfl⟩ := List.mem_map.mp hp
      exact y.empty _ hd
    · obtain ⟨d, hd, rfl⟩ := List.mem_map.mp hp
      exact y.out _ hd
    · obtain ⟨d, hd, rfl⟩ := List.mem_map.mp hp
      exact codeHd_of_K KX (y.hd _ hd)
    · exact ⟨a, ns, rfl, (fun p hp => (List.not_mem_nil hp).elim), hS, hl, fun _ => rfl⟩
    · exact ok E
end
local macro_rules | `(tactic| walk_at "hg") => `(tactic| first
  | assumption
  | exact upd_same
  | (refine up_new (by assumption) ?_; walk_at "hg")
  | (refine up_ne ?n ?_; (case n => walk_at "ne"); walk_at "hg")
  | (refine Keep.at (by assumption) ?n ?_; (case n => walk_at "ne"); walk_at "hg"))
local macro_rules | `(tactic| walk_at "ne") => `(tactic| first
  | assumption
  | (refine Ne.symm ?_; assumption)
  | (refine ne_of_none ?a ?b; (case b => assumption); (case a => walk_at "hg"))
  | (refine Ne.symm (ne_of_none ?a ?b); (case b => assumption); (case a => walk_at "hg"))
  | (refine ne_of ?a ?b ?c; (case a => assumption); (case b => assumption); (case c => (intro z; cases z))))
local macro_rules | `(tactic| walk_at "sz") => `(tactic| first | omega | decide | (simp only [List.length_cons, List.length_nil, List.length_append, List.length_map, List.length_take, List.length_drop, sizeLine_eq] <;> omega) | (rw [sizeLine_eq]; simp <;> omega))
local macro_rules | `(tactic| walk_at "w1") => `(tactic| first
  | (with_reducible first | refine k_v0 ?_ | refine k_v1 ?_ | refine k_v2 ?_ | refine k_v3 ?_ | refine k_v4 ?_ | refine k_v5 ?_ | refine k_v6 ?_ | refine k_v7 ?_ | refine k_v8 ?_ | refine k_v9 ?_ | refine k_v10 ?_ | refine k_v11 ?_ | refine k_v12 ?_ | refine k_v13 ?_ | refine k_v14 ?_ | refine k_v15 ?_ | refine k_v16 ?_ | refine k_v17 ?_ | refine k_v18 ?_ | refine k_v19 ?_ | refine k_v20 ?_ | refine k_v21 ?_ | refine k_v22 ?_ | refine k_v23 ?_ | refine k_v24 ?_ | refine k_v25 ?_ | refine k_v26 ?_ | refine k_v27 ?_ | refine k_v28 ?_ | refine k_v29 ?_ | refine k_v30 ?_ | refine k_v31 ?_ | refine k_v32 ?_ | refine k_v33 ?_ | refine k_v34 ?_ | refine k_v35 ?_ | refine k_v36 ?_ | refine k_v37 ?_ | refine k_v38 ?_ | refine k_v39 ?_ | refine k_v40 ?_ | refine k_v41 ?_ | refine k_v42 ?_ | refine k_v43 ?_)
  | (with_reducible first
    | refine k_seq ?_ | refine k_c ?_ | refine k_op ?_ | refine k_cons ?_ | refine k_nil ?_ | refine k_call ?_ | refine k_cb ?_ | refine k_ret ?_ | refine k_if ?_ | refine k_test ?_ | refine k_bl ?_
    | refine k_tup ?_ | refine k_lst ?_ | refine k_dget ?_ | refine k_dput ?_ | refine k_drop ?_ | refine k_next ?_ | refine k_B ?_ | refine k_and ?_ | refine k_or ?_ | refine k_not ?_ | refine k_un ?_
    | refine k_bm ?_ | refine k_bm0 ?_ | refine k_sl ?_ | refine k_nop ?_ | refine k_part ?_ | refine k_partI ?_ | refine k_par ?_ | refine k_par2 ?_ | refine k_gcons ?_ | refine k_gnil ?_
    | refine k_andV ?_ | refine k_orV ?_ | refine k_notV ?_ | refine k_ifE ?_ | refine k_chain ?_ | refine k_din ?_ | refine k_dnotin ?_ | refine k_brk ?_ | refine k_cont ?_ | refine k_retN ?_ | refine k_callN ?_ | refine k_yes ?_ | refine k_vei ?_ | refine k_ost ?_ | refine k_cfn ?_ | refine k_step ?_ | refine k_lenset ?_ | refine k_sortset ?_ | refine k_listrg ?_ | refine k_rg1 ?_ | refine k_lc ?_ | refine k_dc ?_
    | refine k_addI ?_ | refine k_sub ?_ | refine k_lt ?_ | refine k_le ?_ | refine k_gt ?_ | refine k_ge ?_ | refine k_eqI ?_ | refine k_neI ?_ | refine k_eqS ?_ | refine k_neS ?_ | refine k_eqB ?_ | refine k_neB ?_ | refine k_neg ?_ | refine k_isN ?_ | refine k_isnotN ?_
    | refine k_for ?_ | refine k_itL ?_ | refine k_itT ?_ | refine k_itR1 ?_ | refine k_itR2 ?_ | refine k_tt ?_ | refine k_ff ?_ | refine k_nt ?_ | refine k_nf ?_)
  | (with_reducible first | refine k_s0 ?_ | refine k_s1 ?_ | refine k_s2 ?_ | refine k_s3 ?_ | refine k_s4 ?_ | refine k_s5 ?_ | refine k_s6 ?_ | refine k_s7 ?_ | refine k_s8 ?_ | refine k_s9 ?_ | refine k_s10 ?_ | refine k_s11 ?_ | refine k_s12 ?_ | refine k_s13 ?_ | refine k_s14 ?_ | refine k_s15 ?_ | refine k_s16 ?_ | refine k_s17 ?_ | refine k_s18 ?_ | refine k_s19 ?_ | refine k_s20 ?_ | refine k_s21 ?_ | refine k_s22 ?_ | refine k_s23 ?_ | refine k_s24 ?_ | refine k_s25 ?_ | refine k_s26 ?_ | refine k_s27 ?_ | refine k_s28 ?_ | refine k_s29 ?_ | refine k_s30 ?_ | refine k_s31 ?_ | refine k_s32 ?_ | refine k_s33 ?_ | refine k_s34 ?_ | refine k_s35 ?_ | refine k_s36 ?_ | refine k_s37 ?_ | refine k_s38 ?_ | refine k_s39 ?_ | refine k_s40 ?_ | refine k_s41 ?_ | refine k_s42 ?_ | refine k_s43 ?_)
  | (with_reducible first | refine k_g0 ?_ | refine k_g1 ?_ | refine k_g2 ?_ | refine k_g3 ?_ | refine k_g4 ?_ | refine k_g5 ?_ | refine k_g6 ?_ | refine k_g7 ?_ | refine k_g8 ?_ | refine k_g9 ?_ | refine k_g10 ?_ | refine k_g11 ?_ | refine k_g12 ?_ | refine k_g13 ?_ | refine k_g14 ?_ | refine k_g15 ?_ | refine k_g16 ?_ | refine k_g17 ?_ | refine k_g18 ?_ | refine k_g19 ?_ | refine k_g20 ?_ | refine k_g21 ?_ | refine k_g22 ?_ | refine k_g23 ?_ | refine k_g24 ?_ | refine k_g25 ?_ | refine k_g26 ?_ | refine k_g27 ?_ | refine k_g28 ?_ | refine k_g29 ?_ | refine k_g30 ?_ | refine k_g31 ?_ | refine k_g32 ?_ | refine k_g33 ?_ | refine k_g34 ?_ | refine k_g35 ?_ | refine k_g36 ?_ | refine k_g37 ?_ | refine k_g38 ?_ | refine k_g39 ?_ | refine k_g40 ?_ | refine k_g41 ?_ | refine k_g42 ?_ | refine k_g43 ?_)
  | (with_reducible refine k_asg ?_)
  | (with_reducible refine k_mod ?e ?_; (case e => first | omega | decide))
  | (with_reducible refine k_mulR ?e ?_; (case e => decide))
  | (with_reducible refine k_mulL ?e ?_; (case e => decide))
  | (with_reducible refine k_new ?e ?_; (case e => walk_at "sz")))
local macro_rules | `(tactic| walk_at "w") => `(tactic| repeat walk_at "w1")
local macro_rules | `(tactic| walk_at "lc") => `(tactic| (simp only [wipe, List.map, List.set_cons_succ, List.set_cons_zero]; walk_at "w"; refine ⟨rfl, ?_⟩; walk_at "w"))
local macro_rules | `(tactic| walk_at "fr") => `(tactic| first | assumption | (refine Same.free ?s (by assumption); (case s => walk_at "sm")) | (refine Keep.free ?k ?d (by assumption); (case k => walk_at "kp"); (case d => walk_at "hg")))
local macro_rules | `(tactic| walk_at "sm") => `(tactic| first
  | assumption
  | exact Same.refl _
  | (refine Same.wr ?s ?f; (case s => walk_at "sm"); (case f => walk_at "fr"))
  | (refine Same.trans ?a (by assumption); (case a => walk_at "sm")))
local macro_rules | `(tactic| walk_at "kp") => `(tactic| first
  | assumption
  | exact Keep.refl
  | (refine Keep.put ?s; (case s => walk_at "kp"))
  | (refine Keep.wr ?s ?f; (case s => walk_at "kp"); (case f => walk_at "fr"))
  | (refine Keep.trans ?a (by assumption); (case a => walk_at "kp"))
  | (refine Keep.same ?s; (case s => walk_at "sm")))
local macro_rules | `(tactic| walk_at "ar") => `(tactic| first
  | (refine k_pos ?h ?_; (case h => omega))
  | (refine k_neg' ?h ?_; (case h => omega))
  | (refine k_npos ?h ?_; (case h => omega))
  | (refine k_nneg ?h ?_; (case h => omega)))
local macro_rules | `(tactic| walk_at "wa") => `(tactic| repeat first | walk_at "w1" | walk_at "ar")
local macro_rules | `(tactic| walk_at "lc1") => `(tactic| simp only [wipe, List.map, List.set_cons_succ, List.set_cons_zero])
local macro_rules | `(tactic| walk_at "lc2") => `(tactic| (walk_at "w"; refine ⟨rfl, ?_⟩; walk_at "w"))
namespace Lw
open PySem PySem.Spec PyProof.Rows L2 Ls
section
variable {P : Program} {w : World} {K : PySem.W.Frag} {mg : Str → Option Value} {base : Heap}
theorem ok__law_pick (E : Env K mg) : FnOk P w K mg base CX0 1 E.a__law_pick E.fd__law_pick ["_law_d", "_law_many"] (spPick K) := by
  refine E.F__law_pick.ok sc__law_pick (fun vs H Q E h => ?_) (fun cdv A outer s H vs Q E' hr h => ?_)
  · obtain ⟨d, c, m, rfl, _⟩ := h
    rfl
  · obtain ⟨d, c, many, rfl, ⟨n, r, s, ns, h1, h2, h3, h4, h5, h6⟩, m1, m2, q⟩ := h
    have hu := huOf hr
    refine ⟨_, PSs.nox (pss_cut (ps_if (PW.pt (pw_and (pt_cmpR (op_eqU K rfl hu) (pe_dget (hu1 hu) (pv 0) pe_str (fun _ _ => rfl)) pe_int (nomark _)) (pw_and1 (pt_cmpR (op_lt) (pe_dget (hu1 hu) (pv 0) pe_str (fun _ _ => rfl)) (pe_callB (call_lenU K rfl) (by rfl) E.n_len boot_len (pa_cons (pe_dget (hu1 hu) (pv 0) pe_str (fun _ _ => rfl)) pa_nil)) (nomark _))))) (pss_cons (ps_set (i := 2) sc__law_pick.nd rfl (Or.inl rfl) (pe_ix (ix_U K rfl) (pe_dget (hu1 hu) (pv 0) pe_str (fun _ _ => rfl)) (pe_dget (hu1 hu) (pv 0) pe_str (fun _ _ => rfl)) (fun _ _ => rfl)))
(pss_cons (ps_dput (hu1 hu) (pv 0) pe_str (pe_op (op_addU K rfl) (pe_dget (hu1 hu) (pv 0) pe_str (fun _ _ => rfl)) pe_int) rfl)
(pss_one (ps_if (pt_cmpR (op_ge) (pv 2) (pe_op op_pow pe_int pe_int) (nomark _)) (pss_one (ps_dput (hu1 hu) (pv 0) pe_str (pv 2) rfl)) (pss_one (ps_dput (hu1 hu) (pv 0) pe_str (pe_op op_mod (pe_op (op_addU K rfl) (pe_op (op_addU K rfl) (pe_op op_mul (pe_dget (hu1 hu) (pv 0) pe_str (fun _ _ => rfl)) pe_int) (pe_op op_mul (pv 2) pe_int)) pe_int) pe_int) rfl)))))) pss_nil)
(pss_cons (ps_if (pt_cmpR (op_gt) (pe_dget (hu1 hu) (pv 0) pe_str (fun _ _ => rfl)) pe_int (nomark _)) (pss_cons (ps_set (i := 3) sc__law_pick.nd rfl (Or.inl rfl) (pe_op op_mod (pe_dget (hu1 hu) (pv 0) pe_str (fun _ _ => rfl)) (pv 1)))
(pss_cons (ps_dput (hu1 hu) (pv 0) pe_str (pe_op op_fdivW (pe_dget (hu1 hu) (pv 0) pe_str (fun _ _ => rfl)) (pv 1)) rfl)
(pss_one (ps_ret (pv 3))))) pss_nil)
(pss_cons (ps_set (i := 4) sc__law_pick.nd rfl (Or.inl rfl) (pe_op op_mod (pe_op op_mul (pe_dget (hu1 hu) (pv 0) pe_str (fun _ _ => rfl)) (pe_dget (hu1 hu) (pv 0) pe_str (fun _ _ => rfl))) pe_int))
(pss_cons (ps_dput (hu1 hu) (pv 0) pe_str (pe_op op_mod (pe_op (op_addU K rfl) (pe_op (op_addU K rfl) (pe_op op_mul (pv 4) pe_int) (pe_op op_mul (pe_dget (hu1 hu) (pv 0) pe_str (fun _ _ => rfl)) pe_int)) pe_int) pe_int) rfl)
(pss_one (ps_ret (pe_op op_mod (pe_op op_fdivW (pe_dget (hu1 hu) (pv 0) pe_str (fun _ _ => rfl)) pe_int) (pv 1)))))))), ?_⟩
    refine k_body (s1 := [some (.ref d), some (.int many), none, none, none]) rfl ?_
    refine k_cut (fun σ H' => ∃ (n r s : Int) (v : Option V), σ = [some (.ref d), some (.int many), v, none, none] ∧ Keep d H H' ∧ H' d = some (.dK (dd c n r s)) ∧ H' c = some (.lst (ns.map V.int)) ∧ 0 ≤ n ∧ 0 ≤ r ∧ 0 ≤ s ∧ s < 2305843009213693951) ?_ ?_
    · walk_at "w"
      refine k_getS h1 dd_rest ?_
      walk_at "w"
      refine k_itd (fun hr0 => ?_) (fun hr0 => ?_)
      · walk_at "w"
        refine k_getS h1 dd_at ?_
        walk_at "w"
        refine k_getS h1 dd_cells ?_
        walk_at "w"
        refine k_lenL (sql_of h2) ?_
        walk_at "w"
        refine k_itd (fun hl => ?_) (fun hl => ?_)
        · rw [List.length_map] at hl
          obtain ⟨k, rfl⟩ : ∃ k : Nat, n = (k : Int) := ⟨n.toNat, by omega⟩
          have hk : k < ns.length := by omega
          walk_at "w"
          refine k_getS h1 dd_cells ?_
          walk_at "w"
          refine k_getS h1 dd_at ?_
          walk_at "w"
          refine k_ixL (sql_of h2) (atI_nat (v := .int ns[k]) (by rw [List.getElem?_map, List.getElem?_eq_getElem hk]; rfl)) ?_
          walk_at "w"
          refine k_getS h1 dd_at ?_
          walk_at "w"
          refine k_putS h1 dd_len ?_
          rw [dd_put_at]
          have g1 : Keep d H (upd H d (.dK (dd c (k + 1) r s))) := Keep.put Keep.refl
          have nc : c ≠ d := ne_of h2 h1 (by intro z; cases z)
          have g2 : upd H d (.dK (dd c (k + 1) r s)) c = some (.lst (ns.map V.int)) := g1.at nc h2
          walk_at "w"
          refine k_powL (v := 1000000000000000000) (by decide) (by decide) (by decide) ?_
          walk_at "w"
          refine k_itd (fun hb => ?_) (fun hb => ?_)
          · walk_at "w"
            refine k_putS upd_same dd_len ?_
            rw [dd_put_rest]
            exact ⟨_, _, _, _, rfl, Keep.put g1, upd_same, (Keep.put Keep.refl : Keep d _ _).at nc g2, by omega, by omega, h5, h6⟩
          · walk_at "w"
            refine k_getS upd_same dd_seed ?_
            walk_at "w"
            refine k_putS upd_same dd_len ?_
            rw [dd_put_seed]
            exact ⟨_, _, _, _, rfl, Keep.put g1, upd_same, (Keep.put Keep.refl : Keep d _ _).at nc g2, by omega, by omega, by omega, by omega⟩
        · walk_at "w"
          exact ⟨_, _, _, _, rfl, Keep.refl, h1, h2, h3, h4, h5, h6⟩
      · walk_at "w"
        exact ⟨_, _, _, _, rfl, Keep.refl, h1, h2, h3, h4, h5, h6⟩
    · rintro σ' H' ⟨n, r, s, v, rfl, k, h1, h2, h3, h4, h5, h6⟩
      walk_at "w"
      refine k_getS h1 dd_rest ?_
      walk_at "w"
      refine k_itd (fun hr0 => ?_) (fun hr0 => ?_)
      · walk_at "w"
        refine k_getS h1 dd_rest ?_
        walk_at "w"
        refine k_getS h1 dd_rest ?_
        walk_at "w"
        refine k_fdiv m1 m2 ?_
        walk_at "w"
        refine k_putS h1 dd_len ?_
        rw [dd_put_rest]
        walk_at "w"
        exact q _ _ (Keep.put k) ⟨n, _, s, ns, upd_same, (Keep.put Keep.refl : Keep d _ _).at (ne_of h2 h1 (by intro z; cases z)) h2, h3, Int.ediv_nonneg h4 (by omega), h5, h6⟩ (Int.emod_nonneg _ (by omega)) (Int.emod_lt_of_pos _ m1)
      · walk_at "w"
        refine k_getS h1 dd_seed ?_
        walk_at "w"
        refine k_getS h1 dd_seed ?_
        refine k_mulR (by omega) ?_
        walk_at "w"
        refine k_getS h1 dd_seed ?_
        walk_at "w"
        refine k_putS h1 dd_len ?_
        rw [dd_put_seed]
        walk_at "w"
        refine k_getS upd_same dd_seed ?_
        walk_at "w"
        refine k_fdiv (by decide) (by decide) ?_
        walk_at "w"
        exact q _ _ (Keep.put k) ⟨n, r, _, ns, upd_same, (Keep.put Keep.refl : Keep d _ _).at (ne_of h2 h1 (by intro z; cases z)) h2, h3, h4, Int.emod_nonneg _ (by omega), Int.emod_lt_of_pos _ (by omega)⟩ (Int.emod_nonneg _ (by omega)) (Int.emod_lt_of_pos _ m1)
end
end Lw
namespace Lw
open PySem PySem.Spec PyProof.Rows L2 Ls
section
variable {P : Program} {w : World} {K : PySem.W.Frag} {mg : Str → Option Value} {base : Heap}
theorem ok__law_begin (E : Env K mg) : FnOk P w K mg base CX0 1 E.a__law_begin E.fd__law_begin ["_law_script"] (spBegin K) := by
  refine E.F__law_begin.ok sc__law_begin (fun vs H Q E h => ?_) (fun cdv A outer s H vs Q E' hr h => ?_)
  · obtain ⟨d, m, rfl, _⟩ := h
    rfl
  · obtain ⟨a, ns, rfl, h1, h2, q⟩ := h
    have hu := huOf hr
    refine ⟨_, PSs.nox (pss_cons (ps_set (i := 1) sc__law_begin.nd rfl (Or.inl rfl) pe_int)
(pss_cons (ps_for PassesOwn.never rfl (kIL K rfl (pi_list (pe_slice (sl_U K rfl) (pv 0) po_none (po_some pe_int)))) (pg_name (i := 2) sc__law_begin.nd rfl (Or.inl rfl))
(pss_one (ps_set (i := 1) sc__law_begin.nd rfl (Or.inl rfl) (pe_op op_mod (pe_op (op_addU K rfl) (pe_op (op_addU K rfl) (pe_op op_mul (pv 1) pe_int) (pe_op op_mul (pv 2) pe_int)) pe_int) pe_int))))
(pss_one (ps_ret (pe_disp (pps_cons pe_str (pe_callTy (call_listU K rfl) (by rfl) E.n_list boot_list (pa_cons (pe_slice (sl_U K rfl) (pv 0) po_none (po_some pe_int)) pa_nil)) (pps_cons pe_str pe_int (pps_cons pe_str pe_int (pps_cons pe_str (pv 1) pps_nil)))) (by rfl) (by rfl) (by simp) (by decide)))))), ?_⟩
    refine k_body (s1 := [some (.ref a), none, none]) rfl ?_
    walk_at "w"
    refine k_slL h1 ?_
    rw [cut_all (by rw [List.length_map]; omega)]
    intro p hp
    refine k_itl (sql_of upd_same) ?_
    refine for_list (xs := ns.map V.int) (fun i σ H' => ∃ (s : Int) (c : Option V), σ = [some (.ref a), some (.int s), c] ∧ 0 ≤ s ∧ s < 2305843009213693951 ∧ Same H H' ∧ H' p = some (.lst (ns.map V.int))) ⟨_, _, rfl, by decide, by decide, same_new hp, upd_same⟩ (fun i σ H' _ hP => ?_) (fun i x σ H' hx hP => ?_) (fun σ H' hP => ?_)
    · obtain ⟨s, c, rfl, p1, p2, p3, p4⟩ := hP
      exact sql_of p4
    · obtain ⟨s, c, rfl, p1, p2, p3, p4⟩ := hP
      rw [List.getElem?_map] at hx
      obtain ⟨n, hn, rfl⟩ := Option.map_eq_some_iff.mp hx
      walk_at "w"
      exact ⟨_, _, rfl, Int.emod_nonneg _ (by decide), Int.emod_lt_of_pos _ (by decide), p3, p4⟩
    · obtain ⟨s, c, rfl, p1, p2, p3, p4⟩ := hP
      walk_at "w"
      refine k_disp ?_
      intro d hd
      refine k_prs ?_
      walk_at "w"
      refine k_slL (sql_same (same_new hd) (sql_same p3 h1)) ?_
      rw [cut_all (by rw [List.length_map]; omega)]
      intro pc hpc
      walk_at "w"
      refine k_list (sql_of upd_same) ?_
      intro pl hpl
      refine k_prs ?_
      walk_at "w"
      refine k_prs ?_
      walk_at "w"
      refine k_prs ?_
      walk_at "w"
      refine k_prn ?_
      have hd2 : upd (upd (upd H' d (.dK [])) pc (.lst (ns.map V.int))) pl (.lst (ns.map V.int)) d = some (.dK []) := by walk_at "hg"
      refine ⟨hd2, dd pl 0 0 s, rfl, by show 4 ≤ 15; decide, ?_⟩
      rw [dd_merge]
      refine q _ _ _ ?_ (Same.free p3 (Same.free (same_new hd) (Same.free (same_new hpc) hpl))) ?_ ?_
      · walk_at "fr"
      · walk_at "sm"
      · refine ⟨0, 0, s, ns, upd_same, ?_, by decide, by decide, p1, p2⟩
        rw [upd_ne (ne_of upd_same hd2 (by intro z; cases z))]
        exact upd_same
end
end Lw
namespace Lw
open PySem PySem.Spec PyProof.Rows L2 Ls
section
variable {P : Program} {w : World} {K : PySem.W.Frag} {mg : Str → Option Value} {base : Heap}
theorem ok__law_of (E : Env K mg) (G__law_pick : FnOk P w K mg base CX0 1 E.a__law_pick E.fd__law_pick ["_law_d", "_law_many"] (spPick K)) : FnOk P w K mg base CX0 2 E.a__law_of E.fd__law_of ["_law_d", "_law_things"] (spOf K) := by
  refine E.F__law_of.ok sc__law_of (fun vs H Q E h => ?_) (fun cdv A outer s H vs Q E' hr h => ?_)
  · obtain ⟨d, c, m, xs, rfl, _⟩ := h
    rfl
  · obtain ⟨d, c, l, xs, rfl, hD, hl, h0, hn, q⟩ := h
    have hu := huOf hr
    have hr__law_pick := hr.mono (Nat.le_refl _)
    have b__law_pick := b__law_pick E
    refine ⟨_, PSs.nox (pss_one (ps_ret (pe_ix (ix_U K rfl) (pv 1) (pe_call G__law_pick hr__law_pick rfl E.g__law_pick E.F__law_pick.kp b__law_pick .nil pass0 (pa_cons (pv 0) (pa_cons (pe_callB (call_lenU K rfl) (by rfl) E.n_len boot_len (pa_cons (pv 1) pa_nil)) pa_nil))) (fun _ _ => rfl)))), ?_⟩
    refine k_body (s1 := [some (.ref d), some (.ref l)]) rfl ?_
    walk_at "w"
    refine k_lenL hl ?_
    walk_at "w"
    refine use_pick hD (by omega) (by omega) fun r H1 k1 D1 r0 r1 => ?_
    obtain ⟨k, rfl⟩ := Int.eq_ofNat_of_zero_le r0
    have hk : k < xs.length := by omega
    refine k_ixL (hD.sql k1 hl) (atI_nat (List.getElem?_eq_getElem hk)) ?_
    exact q _ _ k1 D1 (List.getElem_mem hk)
end
end Lw
namespace Lw
open PySem PySem.Spec PyProof.Rows L2 Ls
section
variable {P : Program} {w : World} {K : PySem.W.Frag} {mg : Str → Option Value} {base : Heap}
theorem same_turn (E : Env K mg) (n : Nat) {sp : Sp} (G__law_same : FnOk P w K mg base CX0 n E.a__law_same E.fd__law_same ["_law_found", "_law_due"] sp)
    (use : ∀ (x y : V) (d : PyData) (H : Hp) (Q : VK) (E : XK) (m : Nat), n = m + 1 → Dp K H x d → Dp K H y d → OkD m d → (∀ H', Same H H' → Q (.bl true) H') → sp ([x, y] ++ []) H Q E) :
    FnOk P w K mg base CX0 (n + 1) E.a__law_same E.fd__law_same ["_law_found", "_law_due"] (spSame K n) := by
  refine E.F__law_same.ok sc__law_same (fun vs H Q E h => ?_) (fun cdv A outer s H vs Q E' hr h => ?_)
  · obtain ⟨x, y, d, rfl, _⟩ := h
    rfl
  · obtain ⟨x, y, d, rfl, hx, hy, hd, q⟩ := h
    have hu := huOf hr
    have b__law_same := b__law_same E
    have hr__law_same := hr
    refine ⟨_, PSs.nox (pss_cons (ps_if (pt_cmpR (op_isU) (pv 1) pe_non (nomark _)) (pss_one (ps_ret (pe_cmpR (op_isU) (pv 0) pe_non (nomark _)))) pss_nil)
(pss_cons (ps_if (PW.pt (pw_or (pt_val (pe_callB (call_isiU K rfl) (by rfl) E.n_isinstance boot_isinstance (pa_cons (pv 1) (pa_cons (pe_ty "bool" rfl E.n_bool (by decide +kernel)) pa_nil)))) (pw_or1 (pt_val (pe_callB (call_isiU K rfl) (by rfl) E.n_isinstance boot_isinstance (pa_cons (pv 0) (pa_cons (pe_ty "bool" rfl E.n_bool (by decide +kernel)) pa_nil))))))) (pss_one (ps_ret (pe_and (pe_callB (call_isiU K rfl) (by rfl) E.n_isinstance boot_isinstance (pa_cons (pv 1) (pa_cons (pe_ty "bool" rfl E.n_bool (by decide +kernel)) pa_nil))) (pe_and (pe_callB (call_isiU K rfl) (by rfl) E.n_isinstance boot_isinstance (pa_cons (pv 0) (pa_cons (pe_ty "bool" rfl E.n_bool (by decide +kernel)) pa_nil))) (pe_one (pe_cmpR (op_eqU K rfl hu) (pv 0) (pv 1) (nomark _))))))) pss_nil)
(pss_cons (ps_if (pt_val (pe_callB (call_isiTU K rfl) (by rfl) E.n_isinstance boot_isinstance (pa_cons (pv 1) (pa_cons (pe_tup (pa_cons (pe_ty "int" rfl E.n_int (by decide +kernel)) (pa_cons (pe_ty "str" rfl E.n_str (by decide +kernel)) pa_nil))) pa_nil)))) (pss_one (ps_ret (pe_and (pe_callB (call_isiTU K rfl) (by rfl) E.n_isinstance boot_isinstance (pa_cons (pv 0) (pa_cons (pe_tup (pa_cons (pe_ty "int" rfl E.n_int (by decide +kernel)) (pa_cons (pe_ty "str" rfl E.n_str (by decide +kernel)) pa_nil))) pa_nil))) (pe_and (pe_cmpR (op_eqU K rfl hu) (pe_callB (call_isiU K rfl) (by rfl) E.n_isinstance boot_isinstance (pa_cons (pv 0) (pa_cons (pe_ty "int" rfl E.n_int (by decide +kernel)) pa_nil))) (pe_callB (call_isiU K rfl) (by rfl) E.n_isinstance boot_isinstance (pa_cons (pv 1) (pa_cons (pe_ty "int" rfl E.n_int (by decide +kernel)) pa_nil))) (nomark _)) (pe_one (pe_cmpR (op_eqU K rfl hu) (pv 0) (pv 1) (nomark _))))))) pss_nil)
(pss_cons (ps_if (PW.pt (pw_or (pt_cmpR (op_neU K rfl hu) (pe_callB (call_isiU K rfl) (by rfl) E.n_isinstance boot_isinstance (pa_cons (pv 1) (pa_cons (pe_ty "list" rfl E.n_list (by decide +kernel)) pa_nil))) (pe_callB (call_isiU K rfl) (by rfl) E.n_isinstance boot_isinstance (pa_cons (pv 0) (pa_cons (pe_ty "list" rfl E.n_list (by decide +kernel)) pa_nil))) (nomark _)) (pw_or1 (pt_cmpR (op_neU K rfl hu) (pe_callB (call_isiU K rfl) (by rfl) E.n_isinstance boot_isinstance (pa_cons (pv 1) (pa_cons (pe_ty "tuple" rfl E.n_tuple (by decide +kernel)) pa_nil))) (pe_callB (call_isiU K rfl) (by rfl) E.n_isinstance boot_isinstance (pa_cons (pv 0) (pa_cons (pe_ty "tuple" rfl E.n_tuple (by decide +kernel)) pa_nil))) (nomark _))))) (pss_one (ps_ret pe_bl)) pss_nil)
(pss_one (ps_ret (pe_and (pe_cmpR (op_eqU K rfl hu) (pe_callB (call_lenU K rfl) (by rfl) E.n_len boot_len (pa_cons (pv 0) pa_nil)) (pe_callB (call_lenU K rfl) (by rfl) E.n_len boot_len (pa_cons (pv 1) pa_nil)) (nomark _)) (pe_one (pe_callB (cr_allU K rfl rfl) (by rfl) E.n_all boot_all (pa_cons (pe_lc (own := [("_law_k", 2)]) rfl sc__law_same.nd (pi_range1 rfl E.n_range (pa_cons (pe_callB (call_lenU K rfl) (by rfl) E.n_len boot_len (pa_cons (pv 1) pa_nil)) pa_nil)) (blkOk_by (N := ["_law_found", "_law_due", "_law_k"]) (sc := defScope s__law_same) (by decide +kernel)) (fun _ _ _ _ _ => (pg_name (i := 2) sc__law_same.nd rfl (Or.inl rfl))) (fun _ _ _ _ _ => pts_nil) (fun _ _ _ _ _ => (pe_call G__law_same hr__law_same rfl E.g__law_same E.F__law_same.kp b__law_same .nil pass0 (pa_cons (pe_ix (ix_U K rfl) (pv 0) (pv 2) (fun _ _ => rfl)) (pa_cons (pe_ix (ix_U K rfl) (pv 1) (pv 2) (fun _ _ => rfl)) pa_nil))))) pa_nil)))))))))), ?_⟩
    refine k_body (s1 := [some x, some y, none]) rfl ?_
    have two : d = .none ∨ (∃ b, d = .bool b) ∨ (∃ i, d = .int i) ∨ (∃ z, d = .str z) ∨ ∃ (a c : Addr) (xs ys : List V) (ds : List PyData) (m : Nat) (U : String) (bL bT : Bool), n = m + 1 ∧ x = .ref a ∧ y = .ref c ∧ (SqL K H a xs ∨ SqT K H a xs) ∧ (SqL K H c ys ∨ SqT K H c ys) ∧ DpAll K H xs ds ∧ DpAll K H ys ds ∧
        ds.length ≤ 100000 ∧ (∀ e ∈ ds, OkD m e) ∧ tyn d = U ∧ kitB U "bool" = some false ∧ kitB U "int" = some false ∧ kitB U "str" = some false ∧ kitB U "list" = some bL ∧ kitB U "tuple" = some bT := by
      cases d with
      | none => exact .inl rfl
      | bool b => exact .inr (.inl ⟨b, rfl⟩)
      | int i => exact .inr (.inr (.inl ⟨i, rfl⟩))
      | str z => exact .inr (.inr (.inr (.inl ⟨z, rfl⟩)))
      | list ds =>
        cases n with
        | zero => exact hd.elim
        | succ m =>
          cases hx with
          | lst h1 h2 =>
            cases hy with
            | lst h3 h4 => exact .inr (.inr (.inr (.inr ⟨_, _, _, _, ds, m, _, _, _, rfl, rfl, rfl, .inl h1, .inl h3, h2, h4, hd.1, hd.2, rfl, kt_list_bool, kt_list_int, kt_list_str, kt_list_list, kt_list_tuple⟩)))
      | tuple ds =>
        cases n with
        | zero => exact hd.elim
        | succ m =>
          cases hx with
          | tup h1 h2 =>
            cases hy with
            | tup h3 h4 => exact .inr (.inr (.inr (.inr ⟨_, _, _, _, ds, m, _, _, _, rfl, rfl, rfl, .inr h1, .inr h3, h2, h4, hd.1, hd.2, rfl, kt_tuple_bool, kt_tuple_int, kt_tuple_str, kt_tuple_list, kt_tuple_tuple⟩)))
      | dict i => cases n <;> exact hd.elim
    walk_at "w"
    rcases two with rfl | ⟨b, rfl⟩ | ⟨i, rfl⟩ | ⟨z, rfl⟩ | ⟨a, c, xs, ys, ds, m, U, bL, bT, rfl, rfl, rfl, sx, sy, ax, ay, hl, hds, e0, eb, ei, es, eL, eT⟩
    · cases hx
      cases hy
      refine k_pos rfl ?_
      walk_at "w"
      exact q H (Same.refl H)
    · cases hx
      cases hy
      refine k_neg' (by simp) ?_
      walk_at "w"
      refine k_isi (.bl b) rfl kt_bool_bool ?_
      walk_at "w"
      refine k_isi (.bl b) rfl kt_bool_bool ?_
      walk_at "w"
      refine k_isi (.bl b) rfl kt_bool_bool ?_
      walk_at "w"
      simp only [decide_true]
      exact q H (Same.refl H)
    · cases hx
      cases hy
      refine k_neg' (by simp) ?_
      walk_at "w"
      refine k_isi (.int i) rfl kt_int_bool ?_
      walk_at "w"
      refine k_isi (.int i) rfl kt_int_bool ?_
      walk_at "w"
      intro t nt
      walk_at "w"
      refine k_isi2 (b := true) (.int i) upd_same rfl kt_int_int kt_int_str rfl ?_
      walk_at "w"
      intro t2 nt2
      walk_at "w"
      refine k_isi2 (b := true) (.int i) upd_same rfl kt_int_int kt_int_str rfl ?_
      walk_at "w"
      refine k_isi (.int i) rfl kt_int_int ?_
      walk_at "w"
      refine k_isi (.int i) rfl kt_int_int ?_
      walk_at "w"
      refine k_pos rfl ?_
      walk_at "w"
      simp only [decide_true]
      exact q _ ((same_new nt).trans (same_new nt2))
    · cases hx
      cases hy
      refine k_neg' (by simp) ?_
      walk_at "w"
      refine k_isi (.str z) rfl kt_str_bool ?_
      walk_at "w"
      refine k_isi (.str z) rfl kt_str_bool ?_
      walk_at "w"
      intro t nt
      walk_at "w"
      refine k_isi2 (b := true) (.str z) upd_same rfl kt_str_int kt_str_str rfl ?_
      walk_at "w"
      intro t2 nt2
      walk_at "w"
      refine k_isi2 (b := true) (.str z) upd_same rfl kt_str_int kt_str_str rfl ?_
      walk_at "w"
      refine k_isi (.str z) rfl kt_str_int ?_
      walk_at "w"
      refine k_isi (.str z) rfl kt_str_int ?_
      walk_at "w"
      refine k_pos rfl ?_
      walk_at "w"
      simp only [decide_true]
      exact q _ ((same_new nt).trans (same_new nt2))
    · refine k_neg' (by simp) ?_
      walk_at "w"
      refine k_isi hy e0 eb ?_
      walk_at "w"
      refine k_isi hx e0 eb ?_
      walk_at "w"
      intro t nt
      have s1 := same_new (o := .tup [.ty "int", .ty "str"]) nt
      walk_at "w"
      refine k_isi2 (b := false) (dp_same s1 hy) upd_same e0 ei es rfl ?_
      walk_at "w"
      refine k_isi (dp_same s1 hy) e0 eL ?_
      walk_at "w"
      refine k_isi (dp_same s1 hx) e0 eL ?_
      walk_at "w"
      refine k_nneg rfl ?_
      walk_at "w"
      refine k_isi (dp_same s1 hy) e0 eT ?_
      walk_at "w"
      refine k_isi (dp_same s1 hx) e0 eT ?_
      walk_at "w"
      refine k_nneg rfl ?_
      walk_at "w"
      refine k_lenE (seq_same s1 sx) ?_
      walk_at "w"
      refine k_lenE (seq_same s1 sy) ?_
      walk_at "w"
      refine k_pos (by rw [DpAll.length' ax, DpAll.length' ay]) ?_
      walk_at "w"
      refine k_lenE (seq_same s1 sy) ?_
      walk_at "w"
      have ly := DpAll.length' ay
      refine k_itr1 (by omega) ?_
      intro D hD
      have s2 := s1.trans (same_new (o := .lst []) hD)
      refine lc_range (fun i H' => Same H H' ∧ H D = none ∧ H' D = some (.lst (List.replicate i (V.bl true)))) ⟨s2, s1.free hD, upd_same⟩ (fun i H' hi hP => ?_) (fun H' hP => ?_)
      · obtain ⟨p1, p2, p3⟩ := hP
        walk_at "lc"
        have hi' : i < ds.length := by omega
        obtain ⟨v, hv, dv⟩ := DpAll.getD' ax (List.getElem?_eq_getElem hi')
        obtain ⟨u, hu', du⟩ := DpAll.getD' ay (List.getElem?_eq_getElem hi')
        refine k_ixE (seq_same p1 sx) (at_of (by omega) hv) ?_
        walk_at "w"
        refine k_ixE (seq_same p1 sy) (at_of (by omega) hu') ?_
        walk_at "w"
        refine use _ _ _ _ _ _ m rfl (dp_same p1 dv) (dp_same p1 du) (hds _ (List.getElem_mem hi')) fun H2 s3 => ?_
        refine ⟨_, s3 _ _ p3, ?_, ?_⟩
        · rw [List.length_replicate, sizeLine_eq]
          omega
        · refine ⟨fun b o e => ?_, p2, ?_⟩
          · rw [upd_ne (ne_of_none e p2)]
            exact s3 _ _ (p1 _ _ e)
          · rw [upd_same, List.replicate_succ']
      · obtain ⟨p1, p2, p3⟩ := hP
        walk_at "w"
        refine k_all (bs := List.replicate (ys.length : Int).toNat true) (by rw [List.map_replicate]; exact sql_of p3) ?_
        have ea : (List.replicate (ys.length : Int).toNat true).all id = true := by
          rw [List.all_eq_true]
          intro x hx
          rw [List.eq_of_mem_replicate hx]
          rfl
        rw [ea]
        exact q _ p1
theorem ok__law_same (E : Env K mg) : ∀ n : Nat, FnOk P w K mg base CX0 (n + 1) E.a__law_same E.fd__law_same ["_law_found", "_law_due"] (spSame K n)
  | 0 => same_turn E 0 (sp := fun _ _ _ _ => False) ⟨fun _ _ _ _ h => h.elim, fun _ _ _ _ _ _ _ _ _ _ _ _ _ h => h.elim⟩ fun x y d H Q E m hm => by omega
  | n + 1 => same_turn E (n + 1) (ok__law_same E n) fun x y d H Q E m hm h1 h2 h3 q => by
    cases hm
    exact use_same h1 h2 h3 q
end
end Lw
set_option hygiene false
local macro_rules | `(tactic| walk_at "mem") => `(tactic| first
  | (with_reducible exact List.mem_cons_self)
  | assumption
  | (with_reducible refine' List.mem_cons_of_mem _ ?mx; (case mx => walk_at "mem")))
local macro_rules | `(tactic| walk_at "om") => `(tactic| first | omega | decide | (simp only [List.length_cons, List.length_nil, List.length_append, List.length_map] <;> omega))
local macro_rules | `(tactic| walk_at "dat") => `(tactic| (with_reducible first
  | exact Dat.int _ | exact Dat.str _ | exact Dat.non | exact Dat.bl _
  | (refine' Dat.im ?dx; (case dx => walk_at "mem"))))
local macro_rules | `(tactic| walk_at "dats") => `(tactic| first
  | (with_reducible exact DatAll.nil)
  | (with_reducible refine' DatAll.cons ?da ?db; (case da => walk_at "dat"); (case db => walk_at "dats")))
local macro_rules | `(tactic| walk_at "dl") => `(tactic| first
  | (refine' Dl.dat ?dx; (case dx => walk_at "dat"))
  | (refine' Dl.ld ?dx; (case dx => walk_at "mem")))
local macro_rules | `(tactic| walk_at "rep") => `(tactic| first
  | (with_reducible exact Rep.here)
  | (with_reducible refine' Rep.there ?rx; (case rx => walk_at "rep")))
local macro_rules | `(tactic| walk_at "rem") => `(tactic| first
  | (with_reducible exact Rem.here)
  | (with_reducible refine' Rem.there ?rx; (case rx => walk_at "rem")))
local macro_rules | `(tactic| walk_at "sub") => `(tactic| first
  | (with_reducible exact Sub.refl)
  | (with_reducible exact Sub.nil)
  | (with_reducible refine' Sub.rem ?rr ?rs; (case rr => walk_at "rem"); (case rs => walk_at "sub"))
  | (with_reducible refine' Sub.dup ?rr ?rs; (case rr => walk_at "mem"); (case rs => walk_at "sub"))
  | (with_reducible refine' Sub.drop ?rx; (case rx => walk_at "sub")))
local macro_rules | `(tactic| walk_at "fl") => `(tactic| first | (with_unfolding_all exact Nat.le_of_ble_eq_true rfl) | with_unfolding_all decide | (simp only [List.length_cons, List.length_nil]; omega))
local macro_rules | `(tactic| walk_at "pf") => `(tactic| rfl)
local macro_rules | `(tactic| walk_at "gv") => `(tactic| (dsimp only [Gv, GvAll, List.nil_append, List.cons_append, List.append_nil]; first
  | refine fun (hS : Ls.Sep _ _) => ?_
  | refine fun v (hS : Ls.Sep _ _) => ?_
  | refine fun v1 v2 (hS : Ls.Sep _ _) => ?_
  | refine fun v1 v2 v3 (hS : Ls.Sep _ _) => ?_))
local macro_rules | `(tactic| walk_at "sa") => `(tactic| (refine fun p (hp : _ = none) => ?_; first
  | (rw [updT_eq p]; (generalize he : updT _ p _ = H'); (first | (refine' andThen (ar_I hS hp he ?dt) ?_; (case dt => walk_at "dats")) | (refine' andThen (ar_T hS hp he) ?_)); clear he hp hS; refine fun hS => ?_)
  | (rw [updL_eq p]; (generalize he : updL _ p _ = H'); (first | (refine' andThen (ar_L hS hp he ?dt) ?_; (case dt => walk_at "dats")) | (refine' andThen (ar_O hS hp he) ?_)); clear he hp hS; refine fun hS => ?_)
  | (rw [updK_eq p]; (generalize he : updK _ p _ = H'); (refine' andThen (ar_K hS hp he) ?_); clear he hp hS; refine fun hS => ?_)))
local macro_rules | `(tactic| walk_at "sr") => `(tactic| with_reducible first
  | (refine' k_lenD hS ?sm ?_; (case sm => walk_at "mem"))
  | (refine' k_lenI hS ?sm ?_; (case sm => walk_at "mem"))
  | (refine' k_lenO hS ?sm ?_; (case sm => walk_at "mem"))
  | (refine' k_lenK hS ?sm ?_; (case sm => walk_at "mem"))
  | (refine' k_ixS' hS ?sm ?se ?_; (case sm => walk_at "mem"); (case se => with_unfolding_all rfl); clear hS; walk_at "gv")
  | (refine' k_ixD hS ?sm ?se ?_; (case sm => walk_at "mem"); (case se => with_unfolding_all rfl); clear hS; walk_at "gv")
  | (refine' k_ixTu hS ?sm ?se ?_; (case sm => walk_at "mem"); (case se => with_unfolding_all rfl))
  | (refine' k_gtupS hS ?sm ?se ?_; (case sm => walk_at "mem"); (case se => with_unfolding_all rfl); clear hS; walk_at "gv")
  | (refine' k_gtupO hS ?sm ?se ?_; (case sm => walk_at "mem"); (case se => with_unfolding_all rfl))
  | (refine' k_tyD hS ?sm ?_; (case sm => walk_at "mem"))
  | (refine' k_tyO hS ?sm ?_; (case sm => walk_at "mem"))
  | (refine' k_appD hS ?sr ?st ?sl ?_; (case sr => walk_at "rep"); (case st => walk_at "dat"); (case sl => walk_at "sz"); clear hS; refine fun H' hS => ?_)
  | (refine' k_appO hS ?sr ?sl ?_; (case sr => walk_at "rep"); (case sl => walk_at "sz"); clear hS; refine fun H' hS => ?_)
  | refine k_chain3 ?_ | refine k_istr ?_ | refine k_istX ?_ | refine k_inSg ?_ | refine k_non ?_
  | (refine' k_fldS hS ?sm ?sc ?sn ?se ?_; (case sm => walk_at "mem"); (case sc => assumption); (case sn => assumption); (case se => with_unfolding_all rfl))
  | (refine' k_fldF hS ?sm ?sc ?sn ?se ?_; (case sm => walk_at "mem"); (case sc => assumption); (case sn => assumption); (case se => with_unfolding_all rfl))
  | (refine' k_fldA hS ?sm ?sc ?sn ?se ?_; (case sm => walk_at "mem"); (case sc => assumption); (case sn => assumption); (case se => with_unfolding_all rfl))
  | (refine' k_putS' hS ?sr ?sc ?sn ?sl ?se ?_; (case sr => walk_at "rep"); (case sc => assumption); (case sn => assumption); (case sl => walk_at "fl"); (case se => walk_at "pf"); clear hS; refine fun H' hS => ?_)
  | (refine' k_putG hS ?sr ?sc ?sn ?sl ?se ?_; (case sr => walk_at "rep"); (case sc => assumption); (case sn => assumption); (case sl => walk_at "fl"); (case se => walk_at "pf"); clear hS; refine fun H' hS => ?_)
  | (refine' k_recvP (Z := ⟨E.C_Kind, E.C_Page, E.C_Lane⟩) hS ?sm ?se ?_; (case sm => walk_at "mem"); (case se => (intro c; with_unfolding_all rfl)))
  | (refine' k_recvL (Z := ⟨E.C_Kind, E.C_Page, E.C_Lane⟩) hS ?sm ?se ?_; (case sm => walk_at "mem"); (case se => (intro b c; with_unfolding_all rfl)))
  | (refine' k_recvLA (Z := ⟨E.C_Kind, E.C_Page, E.C_Lane⟩) hS ?sm ?se ?_; (case sm => walk_at "mem"); (case se => (intro b c; with_unfolding_all rfl)))
  | (refine' k_kname hS ?sm ?sc ?sn ?_; (case sm => walk_at "mem"); (case sc => assumption); (case sn => assumption))
  | (refine' k_kfields hS ?sm ?sc ?sn ?_; (case sm => walk_at "mem"); (case sc => assumption); (case sn => assumption); clear hS; refine fun f hS => ?_)
  | (refine' k_madeT hS ?_; clear hS; refine fun x H hS => ?_)
  | (refine' k_recvK hS ?sm ?se ?_; (case sm => walk_at "mem"); (case se => (intro b; with_unfolding_all rfl)))
  | (refine' k_fldP (Z := ⟨E.C_Kind, E.C_Page, E.C_Lane⟩) hS ?sm ?sc ?sn ?se ?_; (case sm => walk_at "mem"); (case sc => assumption); (case sn => assumption); (case se => (intro c; with_unfolding_all rfl)))
  | (refine' k_fldL (Z := ⟨E.C_Kind, E.C_Page, E.C_Lane⟩) hS ?sm ?sc ?sn ?se ?_; (case sm => walk_at "mem"); (case sc => assumption); (case sn => assumption); (case se => (intro b c; with_unfolding_all rfl)))
  | (refine' k_augS hS ?sr ?sl ?se ?_; (case sr => walk_at "rep"); (case sl => walk_at "fl"); (case se => walk_at "pf"); clear hS; refine fun H' hS => ?_)
  | (refine' k_recvI hS ?sm ?se ?_; (case sm => walk_at "mem"); (case se => with_unfolding_all rfl))
  | (refine' k_recvF hS ?sm ?se ?_; (case sm => walk_at "mem"); (case se => with_unfolding_all rfl))
  | (refine' k_eqzO hS ?sm ?sn ?_; (case sm => walk_at "mem"); (case sn => walk_at "mem"))
  | (refine' k_nezO hS ?sm ?sn ?_; (case sm => walk_at "mem"); (case sn => walk_at "mem"))
  | (refine' k_eqzD hS ?sm ?sn ?_; (case sm => walk_at "mem"); (case sn => walk_at "mem"))
  | (refine' k_nezD hS ?sm ?sn ?_; (case sm => walk_at "mem"); (case sn => walk_at "mem"))
  | (refine' k_ixO hS ?sm ?se ?_; (case sm => walk_at "mem"); (case se => assumption))
  | (refine' k_ixD hS ?sm ?se ?_; (case sm => walk_at "mem"); (case se => assumption); clear hS; walk_at "gv")
  | (refine' k_popAtO hS ?sr ?se ?sb ?_; (case sr => walk_at "rep"); (case se => assumption); (case sb => walk_at "om"); clear hS; refine fun H' hS => ?_)
  | (refine' k_popO hS ?sr ?se ?_; (case sr => walk_at "rep"); (case se => assumption); clear hS; refine fun H' hS => ?_)
  | (refine' k_extO hS ?sr ?sm ?sl ?_; (case sr => walk_at "rep"); (case sm => walk_at "mem"); (case sl => walk_at "sz"); clear hS; refine fun H' hS => ?_)
  | (refine' k_setO hS ?sr ?se ?_; (case sr => walk_at "rep"); (case se => assumption); clear hS; refine fun H' hS => ?_)
  | (refine' k_slTu hS ?sm ?_; (case sm => walk_at "mem"); clear hS; refine fun p H' hS => ?_)
  | (refine' k_slI hS ?sm ?_; (case sm => walk_at "mem"); clear hS; refine fun p H' hS => ?_)
  | (refine' k_slD hS ?sm ?_; (case sm => walk_at "mem"); clear hS; refine fun p H' hS => ?_)
  | (refine' k_slO hS ?sm ?_; (case sm => walk_at "mem"); clear hS; refine fun p H' hS => ?_)
  | refine k_joinU ?_ | refine k_strX ?_ | refine k_iseq ?_ | refine k_enum ?_ | refine k_fld ?_ | refine k_sfld ?_ | refine k_gfld ?_ | refine k_gsub ?_ | refine k_makeK ?_ | (refine' k_aug ?se ?_; (case se => with_unfolding_all rfl); dsimp only [List.set_cons_succ, List.set_cons_zero]) | refine k_ipI ?_ | refine k_asg2 ?_ | refine k_sfldaug ?_ | refine k_meth ?_ | refine k_methN ?_ | refine k_make ?_ | refine k_inadd ?_ | refine k_insub ?_
  | (refine' k_glueS hS ?sm ?sl ?_; (case sm => walk_at "mem"); (case sl => walk_at "om"))
  | (refine' k_seqD hS ?sm ?_; (case sm => walk_at "mem"))
  | (refine' k_seqO hS ?sm ?_; (case sm => walk_at "mem"))
  | (refine' k_seqI hS ?sm ?_; (case sm => walk_at "mem"))
  | (refine' k_enD hS ?sm ?_; (case sm => walk_at "mem"))
  | (refine' k_enO hS ?sm ?_; (case sm => walk_at "mem"))
  | (refine' k_enI hS ?sm ?_; (case sm => walk_at "mem"))
  | (refine' k_tupleS hS ?sm ?_; (case sm => walk_at "mem"); clear hS; refine fun p H' hS => ?_)
  | (refine' k_listS hS ?sm ?_; (case sm => walk_at "mem"); clear hS; refine fun p H' hS => ?_)
  | (refine' k_listO hS ?sm ?_; (case sm => walk_at "mem"); clear hS; refine fun p H' hS => ?_)
  | refine k_min2 ?_ | refine k_max2 ?_
  | (refine' k_addD hS ?sm ?sn ?sl ?_; (case sm => walk_at "mem"); (case sn => walk_at "mem"); (case sl => walk_at "sz"); clear hS; refine fun p H' hS => ?_)
  | (refine' k_inS hS ?sm ?_; (case sm => walk_at "mem"))
  | (refine' k_notinS hS ?sm ?_; (case sm => walk_at "mem"))
  | (refine' k_inI hS ?sm ?_; (case sm => walk_at "mem"))
  | (refine' k_notinI hS ?sm ?_; (case sm => walk_at "mem"))
  | (refine k_fdiv ?sa ?sb ?_; (case sa => (first | omega | decide)); (case sb => (first | omega | decide)))
  | (refine k_itr1 ?se ?_; (case se => omega))
  | (refine' k_itlD hS ?sm ?_; (case sm => walk_at "mem"))
  | (refine' k_itlO hS ?sm ?_; (case sm => walk_at "mem"))
  | (refine' k_ittI hS ?sm ?_; (case sm => walk_at "mem")))
local macro_rules | `(tactic| walk_at "s") => `(tactic| repeat first | walk_at "w1" | walk_at "ar" | walk_at "sa" | walk_at "sr")
local macro_rules | `(tactic| walk_at "pk") => `(tactic| (refine' use_pickS hS ?sm ?sa ?sb ?_; (case sm => walk_at "mem"); (case sa => walk_at "om"); (case sb => walk_at "om"); clear hS))
local macro_rules | `(tactic| walk_at "ofI") => `(tactic| (refine' use_ofI hS ?sm ?sn ?si ?sa ?sb ?_; (case sm => walk_at "mem"); (case sn => walk_at "mem"); (case si => rfl); (case sa => walk_at "om"); (case sb => walk_at "om"); clear hS))
local macro_rules | `(tactic| walk_at "ofS") => `(tactic| (refine' use_ofS hS ?sm ?sn ?si ?sa ?sb ?_; (case sm => walk_at "mem"); (case sn => walk_at "mem"); (case si => rfl); (case sa => walk_at "om"); (case sb => walk_at "om"); clear hS))
local macro_rules | `(tactic| walk_at "hl") => `(tactic| repeat first | (obtain ⟨rfl, -⟩ := h; rfl) | (obtain ⟨_, h⟩ := h))
local macro_rules | `(tactic| walk_at "ls") => `(tactic| (simp only [wipe, List.map, List.set_cons_succ, List.set_cons_zero, List.nil_append, List.cons_append] at hS ⊢; walk_at "s"; refine ⟨rfl, ?_⟩; walk_at "s"))
local macro_rules | `(tactic| walk_at "ns") => `(tactic| (simp only [List.nil_append, List.cons_append] at hS))
local macro_rules | `(tactic| walk_at "gi") => `(tactic| (dsimp only [Gv]; first | refine fun H (hS : Ls.Sep _ _) => ?_ | refine fun a H (hS : Ls.Sep _ _) => ?_))
local macro_rules | `(tactic| walk_at "tp") => `(tactic| (refine' Sep.toPage (Sub.ok ?sa hS) ?sb; (case sa => walk_at "sub"); (case sb => rfl)))
local macro_rules | `(tactic| walk_at "tl") => `(tactic| focus (first
  | (refine' Sep.toLane (bk := bk) (pl := pl) (Sub.ok ?sa hS) ?sb ?_ ?_; (case sa => walk_at "sub"); (case sb => rfl); all_goals (try rfl))
  | (refine' Sep.toLane (Sub.ok ?sa hS) ?sb ?_ ?_; (case sa => walk_at "sub"); (case sb => rfl); all_goals (try rfl))))
namespace Ls
open PySem PySem.Spec PyProof.Rows L2
open TL
abbrev IsSg (c : Nat) : Prop := 97 ≤ c ∧ c ≤ 122
def IsNm (z : Str) : Prop := 1 ≤ z.length ∧ z.length ≤ 8 ∧ ∀ c ∈ z.cps.toList, IsSg c
theorem abc_at : ∀ k : Fin 26, (("abcdefghijklmnopqrstuvwxyz" : Str).cps.toList)[k.val]? = some (97 + k.val) := by decide +kernel
theorem abc_ix {r : Int} (h0 : 0 ≤ r) (h1 : r < 26) : atI ("abcdefghijklmnopqrstuvwxyz" : Str).cps.toList r = some (97 + r.toNat) := by
  obtain ⟨k, rfl⟩ := Int.eq_ofNat_of_zero_le h0
  exact atI_nat (abc_at ⟨k, by omega⟩)
theorem join_sigs : ∀ cs : List Nat, (Txt.join ("" : Str) (cs.map fun c => (⟨#[c]⟩ : Str))).cps.toList = cs := fun cs => by
  rw [join_eq]
  show tl _ = _
  rw [tl_join, List.map_map]
  have e : tl ("" : Str) = [] := by decide +kernel
  rw [e]
  have : ∀ cs : List Nat, joinL [] (cs.map (tl ∘ fun c => (⟨#[c]⟩ : Str))) = cs := by
    intro cs
    induction cs with
    | nil => rfl
    | cons c r ih =>
      cases r with
      | nil => rfl
      | cons c2 r2 =>
        show tl (⟨#[c]⟩ : Str) ++ ([] ++ joinL [] ((c2 :: r2).map _)) = _
        rw [ih]
        rfl
  exact this cs
theorem sig_len (c : Nat) : (⟨#[c]⟩ : Str).length = 1 := rfl
theorem sigs_sum (cs : List Nat) : ((cs.map fun c => (⟨#[c]⟩ : Str)).map (·.length)).sum = cs.length := by
  induction cs with
  | nil => rfl
  | cons c r ih =>
    simp only [List.map_cons, List.sum_cons, List.length_cons] at ih ⊢
    rw [ih, sig_len]
    omega
theorem len_toList (z : Str) : z.length = z.cps.toList.length := (Array.length_toList).symm
theorem app_toList (x y : Str) : (x ++ y).cps.toList = x.cps.toList ++ y.cps.toList := by
  rw [Str.cps_append, Array.toList_append]
theorem app_len (x y : Str) : (x ++ y).length = x.length + y.length := Str.length_append x y
def spWord (K : PySem.W.Frag) : Sp := fun vs H Q _ => ∃ (d : Addr) (L : List (As K)), vs = [.ref d] ∧ Sep L H ∧ dr d ∈ L ∧ ∀ z H', IsNm z → Sep L H' → Q (.str z) H'
end Ls
namespace Lw
open PySem PySem.Spec PyProof.Rows L2 Ls
theorem ok__law_word {P : Program} {w : World} {K : PySem.W.Frag} {mg : Str → Option Value} {base : Heap} (E : Env K mg) : FnOk P w K mg base CX0 3 E.a__law_word E.fd__law_word ["_law_d"] (spWord K) := by
  refine E.F__law_word.ok sc__law_word (fun vs H Q E h => ?_) (fun cdv A outer s H vs Q E' hr h => ?_)
  · walk_at "hl"
  · have hu := huOf hr
    have G__law_of := ok__law_of E (ok__law_pick (P := P) (w := w) (base := base) E)
    have hr__law_of := hr.mono (show 2 ≤ 2 by decide)
    have b__law_of := b__law_of E
    have G__law_pick := ok__law_pick (P := P) (w := w) (base := base) E
    have hr__law_pick := hr.mono (show 1 ≤ 2 by decide)
    have b__law_pick := b__law_pick E
    obtain ⟨d, L, rfl, hS, hd, q⟩ := h
    refine ⟨_, PSs.nox (pss_cons (ps_set (i := 1) sc__law_word.nd rfl (Or.inr rfl) pe_str)
(pss_cons (ps_set (i := 2) sc__law_word.nd rfl (Or.inl rfl) (pe_call G__law_of hr__law_of rfl E.g__law_of E.F__law_of.kp b__law_of .nil pass0 (pa_cons (pv 0) (pa_cons (pe_lst (pa_cons pe_str (pa_cons pe_str (pa_cons pe_str (pa_cons pe_str (pa_cons pe_str pa_nil)))))) pa_nil))))
(pss_cons (ps_set (i := 3) sc__law_word.nd rfl (Or.inl rfl) (pe_op (op_addU K rfl) pe_int (pe_call G__law_pick hr__law_pick rfl E.g__law_pick E.F__law_pick.kp b__law_pick .nil pass0 (pa_cons (pv 0) (pa_cons (pe_op op_sub pe_int (pe_callB (call_lenU K rfl) (by rfl) E.n_len boot_len (pa_cons (pv 2) pa_nil))) pa_nil)))))
(pss_cons (ps_set (i := 4) sc__law_word.nd rfl (Or.inl rfl) (pe_joinU K rfl pe_str (pe_lc (own := [("_law_k", 5)]) rfl sc__law_word.nd (pi_range1 rfl E.n_range (pa_cons (pv 3) pa_nil)) (blkOk_by (N := ["_law_d", "_law_letters", "_law_first", "_law_size", "_law_some", "_law_k"]) (sc := defScope s__law_word) (by decide +kernel)) (fun _ _ _ _ _ => (pg_name (i := 5) sc__law_word.nd rfl (Or.inl rfl))) (fun _ _ _ _ _ => pts_nil) (fun _ _ _ _ _ => (pe_ix (ix_U K rfl) (pv 1) (pe_call G__law_pick hr__law_pick rfl E.g__law_pick E.F__law_pick.kp b__law_pick .nil pass0 (pa_cons (pv 0) (pa_cons pe_int pa_nil))) (fun _ _ => rfl))))))
(pss_one (ps_ret (pe_ix (ix_U K rfl) (pe_lst (pa_cons (pe_op (op_addU K rfl) (pv 2) (pv 4)) (pa_cons (pe_op (op_addU K rfl) (pv 4) (pv 2)) pa_nil))) (pe_call G__law_pick hr__law_pick rfl E.g__law_pick E.F__law_pick.kp b__law_pick .nil pass0 (pa_cons (pv 0) (pa_cons pe_int pa_nil))) (fun _ _ => rfl)))))))), ?_⟩
    refine k_body (s1 := some _ :: [none, none, none, none, none]) rfl ?_
    walk_at "s"
    walk_at "ofS"
    intro z H hz hS
    have hz : z.length ≤ 7 ∧ ∀ c ∈ z.cps.toList, IsSg c := by
      simp only [List.mem_cons, PyData.str.injEq, List.not_mem_nil, or_false] at hz
      rcases hz with rfl | rfl | rfl | rfl | rfl <;> exact ⟨by decide +kernel, by decide +kernel⟩
    walk_at "s"
    refine k_lenS (by rw [sizeLine_eq]; omega) ?_
    walk_at "s"
    walk_at "pk"
    intro r H hS r0 r1
    walk_at "s"
    refine lc_wk (L := L) (n := (1 + r).toNat) (fun i acc L' => L' = L ∧ ∃ cs : List Nat, acc = (cs.map fun c => (⟨#[c]⟩ : Str)).map PyData.str ∧ cs.length = i ∧ ∀ c ∈ cs, IsSg c) (fun i acc L' _ => wk_rng) (Sub.ok ?u hS) ⟨rfl, [], rfl, rfl, by simp⟩ (fun i acc L' hi iv H hS => ?_) (fun acc L' H iv hS => ?_)
    case u => walk_at "sub"
    · obtain ⟨rfl, cs, rfl, hc, hsg⟩ := iv
      walk_at "ls"
      walk_at "pk"
      intro r2 H hS s0 s1
      refine k_ixS (by rw [sizeLine_eq]; decide +kernel) (abc_ix s0 s1) ?_
      refine lc_keep hS (.str _) .refl (by rw [sizeLine_eq]; simp only [List.length_map]; omega) ⟨rfl, cs ++ [97 + r2.toNat], by simp, by simp [hc], fun c hm => ?_⟩
      rcases List.mem_append.mp hm with hm | hm
      · exact hsg c hm
      · rw [List.mem_singleton.mp hm]; exact ⟨by omega, by omega⟩
    · obtain ⟨rfl, cs, rfl, hc, hsg⟩ := iv
      refine k_glueS (z := ("" : Str)) hS (zs := cs.map fun c => (⟨#[c]⟩ : Str)) List.mem_cons_self (by rw [sigs_sum, List.length_map, show ("" : Str).length = 0 by decide +kernel]; omega) ?_
      have hw := join_sigs cs
      generalize Txt.join ("" : Str) (cs.map fun c => (⟨#[c]⟩ : Str)) = w at hw
      have hl : w.length = cs.length := by rw [len_toList, hw]
      walk_at "s"
      refine k_addS (by rw [sizeLine_eq]; omega) ?_
      walk_at "s"
      refine k_addS (by rw [sizeLine_eq]; omega) ?_
      walk_at "s"
      walk_at "pk"
      intro r2 H hS s0 s1
      have e : ∀ x y : Str, (x.length ≤ 7 ∧ ∀ c ∈ x.cps.toList, IsSg c) ∨ True → True := fun _ _ _ => trivial
      have n1 : IsNm (z ++ w) := ⟨by rw [app_len]; omega, by rw [app_len]; omega, fun c hm => by
        rw [app_toList, hw] at hm
        exact (List.mem_append.mp hm).elim (hz.2 c) (hsg c)⟩
      have n2 : IsNm (w ++ z) := ⟨by rw [app_len]; omega, by rw [app_len]; omega, fun c hm => by
        rw [app_toList, hw] at hm
        exact (List.mem_append.mp hm).elim (hsg c) (hz.2 c)⟩
      have : r2 = 0 ∨ r2 = 1 := by omega
      rcases this with rfl | rfl
      · walk_at "s"
        exact q _ _ n1 (Sub.ok (by walk_at "sub") hS)
      · walk_at "s"
        exact q _ _ n2 (Sub.ok (by walk_at "sub") hS)
end Lw
local macro_rules | `(tactic| walk_at "sr") => `(tactic| with_reducible first
  | (refine' k_lenF hS ?sm ?_; (case sm => walk_at "mem"))
  | (refine' k_tyF hS ?sm ?_; (case sm => walk_at "mem"))
  | (refine' k_seqF hS ?sm ?_; (case sm => walk_at "mem"))
  | (refine' k_extD hS ?sr ?sm ?sl ?_; (case sr => walk_at "rep"); (case sm => walk_at "mem"); (case sl => walk_at "sz"); clear hS; refine fun H' hS => ?_))
namespace Ls
open PySem PySem.Spec PyProof.Rows L2 TL
def IsDg (c : Nat) : Prop := 48 ≤ c ∧ c ≤ 57
instance (c : Nat) : Decidable (IsDg c) := inferInstanceAs (Decidable (48 ≤ c ∧ c ≤ 57))
/-- the figures: what stands behind a sign ahead -/
def figs (z : Str) : Str := if cutS z none (some 1) = ("-" : Str) then cutS z (some 1) none else z
def FigOk (most : Int) (z : Str) : Prop := 1 ≤ ((figs z).length : Int) ∧ ((figs z).length : Int) ≤ most ∧ ∀ c ∈ (figs z).cps.toList, IsDg c
instance (most : Int) (z : Str) : Decidable (FigOk most z) := inferInstanceAs (Decidable (_ ∧ _ ∧ _))
def numIn (most : Int) (z : Str) : Option Int := if FigOk most z then (if (figs z).cps.toList.head? = some 48 ∧ z ≠ ("0" : Str) then none else intText? z) else none
theorem cut1 (z : Str) : (cutS z none (some 1)).cps.toList = z.cps.toList.take 1 := by
  show ((z.cps.toList.drop 0).take (HT.sIx z.length z.length (some ((1 : Nat) : Int)) - 0)).toArray.toList = _
  rw [HT.sIx_nat, List.drop_zero, Nat.sub_zero, List.toList_toArray]
  have e : z.cps.toList.length = z.length := Array.length_toList
  rcases Nat.lt_or_ge z.length 1 with h | h
  · rw [Nat.min_eq_right (by omega), List.take_of_length_le (by omega), List.take_of_length_le (by omega)]
  · rw [Nat.min_eq_left h]
theorem cutR (z : Str) : (cutS z (some 1) none).cps.toList = z.cps.toList.drop 1 := by
  show ((z.cps.toList.drop (HT.sIx z.length 0 (some ((1 : Nat) : Int)))).take (z.length - HT.sIx z.length 0 (some ((1 : Nat) : Int)))).toArray.toList = _
  rw [HT.sIx_nat, List.toList_toArray]
  have e : z.cps.toList.length = z.length := Array.length_toList
  rcases Nat.lt_or_ge z.length 1 with h | h
  · rw [Nat.min_eq_right (by omega), List.drop_of_length_le (by omega), List.drop_of_length_le (by omega), List.take_nil]
  · rw [Nat.min_eq_left h, List.take_of_length_le (by rw [List.length_drop]; omega)]
theorem figs_neg {z : Str} {r : List Nat} (h : z.cps.toList = 45 :: r) : (figs z).cps.toList = r := by
  unfold figs
  rw [if_pos (ext_tl (by show (cutS z none (some 1)).cps.toList = _; rw [cut1, h]; rfl)), cutR, h]
  rfl
theorem figs_pos {z : Str} (h : z.cps.toList.head? ≠ some 45) : figs z = z := by
  unfold figs
  rw [if_neg fun e => h ?_]
  have : (cutS z none (some 1)).cps.toList = ("-" : Str).cps.toList := by rw [e]
  rw [cut1] at this
  cases hz : z.cps.toList with
  | nil => rw [hz] at this; cases this
  | cons c r =>
    rw [hz, List.take_succ_cons, List.take_zero] at this
    have h2 : [c] = [45] := this
    rw [(List.cons.inj h2).1]
    rfl
theorem fig_int {most : Int} {z : Str} (h : FigOk most z) (hm : most ≤ 600) : (∃ n, intText? z = some n) ∧ z.length ≤ 640 := by
  obtain ⟨h1, h2, h3⟩ := h
  cases hz : z.cps.toList with
  | nil =>
    have e : figs z = z := figs_pos (by rw [hz]; exact fun e => by cases e)
    rw [e] at h1
    have e2 : z.cps.toList.length = z.length := Array.length_toList
    rw [hz] at e2
    have : (0 : Nat) = z.length := e2
    omega
  | cons c r =>
    have e2 : z.cps.toList.length = z.length := Array.length_toList
    by_cases hc : c = 45
    · subst hc
      have e := figs_neg hz
      have e3 : (figs z).cps.toList.length = (figs z).length := Array.length_toList
      rw [e] at e3 h3
      rw [hz, List.length_cons] at e2
      exact ⟨⟨_, intText_neg hz (fun c hc => h3 c hc) (fun z => by rw [z] at e3; have : 0 = (figs _).length := e3; omega) (by omega)⟩, by omega⟩
    · have e : figs z = z := figs_pos (by rw [hz]; intro e; exact hc (Option.some.inj e))
      rw [e] at h1 h2 h3
      exact ⟨⟨_, intText_digits (fun c hc => h3 c hc) (fun y => by rw [hz] at y; cases y) (by omega)⟩, by omega⟩
def numS (i : Int) : Str := Str.ofString (toString i)
theorem numS_nat (n : Nat) : (numS (n : Int)).cps.toList = numL n := tl_num n
theorem numS_neg (n : Nat) : (numS (-((n + 1 : Nat) : Int))).cps.toList = 45 :: numL (n + 1) := by
  show (Str.ofString ("-" ++ Nat.repr (n + 1))).cps.toList = _
  rw [signs_ofString, String.toList_append, List.map_append, Nat.toList_repr]
  rfl
/-- no sign of a number's text but figures and the sign ahead -/
theorem numS_sg (i : Int) : ∀ c ∈ (numS i).cps.toList, c = 45 ∨ IsDg c := by
  rcases Int.lt_or_le i 0 with hi | hi
  · obtain ⟨n, rfl⟩ : ∃ n : Nat, i = -((n + 1 : Nat) : Int) := ⟨i.natAbs - 1, by omega⟩
    rw [numS_neg n]
    intro c hc
    rcases List.mem_cons.mp hc with z | z
    · exact .inl z
    · exact .inr (numL_digits (n + 1) c z)
  · obtain ⟨n, rfl⟩ := Int.eq_ofNat_of_zero_le hi
    rw [numS_nat n]
    exact fun c hc => .inr (numL_digits n c hc)
theorem numS_len {i : Int} {k : Nat} (hk : 0 < k) (h : i.natAbs < 10 ^ k) : (numS i).length ≤ k + 1 := by
  have len : ∀ z : Str, z.cps.toList.length = z.length := fun z => Array.length_toList
  rw [← len]
  rcases Int.lt_or_le i 0 with hi | hi
  · obtain ⟨n, rfl⟩ : ∃ n : Nat, i = -((n + 1 : Nat) : Int) := ⟨i.natAbs - 1, by omega⟩
    rw [numS_neg n, List.length_cons]
    have := numL_len hk (show n + 1 < 10 ^ k by omega)
    omega
  · obtain ⟨n, rfl⟩ := Int.eq_ofNat_of_zero_le hi
    rw [numS_nat n]
    have := numL_len hk (show n < 10 ^ k by omega)
    omega
end Ls
namespace Ls
open PySem PySem.Spec PyProof.Rows L2
abbrev Fd := Str × Int × Int
abbrev fdD (f : Fd) : PyData := .tuple [.str f.1, .int f.2.1, .int f.2.2]
abbrev fdsD (fs : List Fd) : PyData := .tuple (fs.map fdD)
abbrev Kd := Str × List Fd
def spBound (K : PySem.W.Frag) : Sp := fun vs H Q _ => ∃ (d : Addr) (L : List (As K)), vs = [.ref d] ∧ Ls.Sep L H ∧ dr d ∈ L ∧ ∀ (n : Int) H', -999999 ≤ n → n ≤ 999999 → Ls.Sep L H' → Q (.int n) H'
end Ls
namespace Lw
open PySem PySem.Spec PyProof.Rows L2 Ls
theorem ok__law_bound {P : Program} {w : World} {K : PySem.W.Frag} {mg : Str → Option Value} {base : Heap} (E : Env K mg) : FnOk P w K mg base CX0 3 E.a__law_bound E.fd__law_bound ["_law_d"] (spBound K) := by
  refine E.F__law_bound.ok sc__law_bound (fun vs H Q E h => ?_) (fun cdv A outer s H vs Q E' hr h => ?_)
  · walk_at "hl"
  · have hu := huOf hr
    have G__law_of := ok__law_of E (ok__law_pick (P := P) (w := w) (base := base) E)
    have hr__law_of := hr.mono (show 2 ≤ 2 by decide)
    have b__law_of := b__law_of E
    have G__law_pick := ok__law_pick (P := P) (w := w) (base := base) E
    have hr__law_pick := hr.mono (show 1 ≤ 2 by decide)
    have b__law_pick := b__law_pick E
    obtain ⟨d, L, rfl, hS, hd, q⟩ := h
    refine ⟨_, PSs.nox (pss_cons (ps_set (i := 1) sc__law_bound.nd rfl (Or.inl rfl) (pe_lst (pa_cons pe_int (pa_cons pe_int (pa_cons pe_int (pa_cons (pe_call G__law_pick hr__law_pick rfl E.g__law_pick E.F__law_pick.kp b__law_pick .nil pass0 (pa_cons (pv 0) (pa_cons pe_int pa_nil))) (pa_cons (pe_op op_sub (pe_call G__law_pick hr__law_pick rfl E.g__law_pick E.F__law_pick.kp b__law_pick .nil pass0 (pa_cons (pv 0) (pa_cons pe_int pa_nil))) pe_int) pa_nil)))))))
(pss_one (ps_ret (pe_call G__law_of hr__law_of rfl E.g__law_of E.F__law_of.kp b__law_of .nil pass0 (pa_cons (pv 0) (pa_cons (pe_op (op_addU K rfl) (pv 1) (pe_lst (pa_cons pe_int (pa_cons (pe_un un_neg pe_int) (pa_cons (pe_op op_sub (pe_call G__law_pick hr__law_pick rfl E.g__law_pick E.F__law_pick.kp b__law_pick .nil pass0 (pa_cons (pv 0) (pa_cons pe_int pa_nil))) pe_int) pa_nil))))) pa_nil)))))), ?_⟩
    refine k_body (s1 := some _ :: [none]) rfl ?_
    walk_at "s"
    walk_at "pk"
    intro r1 H hS a0 a1
    walk_at "s"
    walk_at "pk"
    intro r2 H hS b0 b1
    walk_at "s"
    walk_at "pk"
    intro r3 H hS c0 c1
    walk_at "s"
    walk_at "ofI"
    intro n H hn hS
    simp only [List.cons_append, List.nil_append, List.mem_cons, PyData.int.injEq, List.not_mem_nil, or_false] at hn
    exact q n H (by omega) (by omega) (Sub.ok (by walk_at "sub") hS)
end Lw
namespace Ls
open PySem PySem.Spec PyProof.Rows L2
instance (z : Str) : Decidable (IsNm z) := by unfold IsNm; exact inferInstance
def kindV (n f : V) : List (Str × V) := [("name", n), ("fields", f)]
/-- the Kind at a: it never changes -/
def kindF {K : PySem.W.Frag} (C a : Addr) (k : Kd) : As K := persW (fun W H => ∃ f dx, W a (.ins C dx (kindV (.str k.1) (.ref f))) ∧ Im K H (.ref f) (fdsD k.2)) (fun _ _ _ t ⟨f, dx, h1, h2⟩ => ⟨f, dx, h1, h2.mono t.1⟩) fun _ _ _ e ⟨f, dx, h1, h2⟩ => ⟨f, dx, e _ _ h1, h2⟩
instance {K : PySem.W.Frag} {C a : Addr} {k : Kd} : Dup (kindF (K := K) C a k) := ⟨fun z => z.1⟩
section
variable {K : PySem.W.Frag} {L : List (As K)} {H : Hp} {C a f : Addr} {k : Kd}
theorem Sep.kind (h : Ls.Sep L H) (m : kindF C a k ∈ L) : ∃ f dx, H a = some (.ins C dx (kindV (.str k.1) (.ref f))) ∧ Im K H (.ref f) (fdsD k.2) := by
  obtain ⟨W, s, ⟨_, f, dx, h1, h2⟩, z⟩ := h.the m
  exact ⟨f, dx, (z _ _ h1).1, h2⟩
theorem k_kname {R : V → Prop} (h : Ls.Sep L H) (m : kindF C a k ∈ L) (c : Cls K C) (n : NoAttr K C ("name" : Str)) (q : R (.str k.1)) : ∃ a' C' dx fs v', V.ref a = .ref a' ∧ H a' = some (.ins C' dx fs) ∧ Cls K C' ∧ NoAttr K C' ("name" : Str) ∧ fs.lookup ("name" : Str) = some v' ∧ R v' := by
  obtain ⟨f, dx, h1, h2⟩ := h.kind m
  exact k_fldt ⟨dx, h1⟩ c n rfl q
theorem k_kfields {R : V → Prop} (h : Ls.Sep L H) (m : kindF C a k ∈ L) (c : Cls K C) (n : NoAttr K C ("fields" : Str)) (q : ∀ f, Ls.Sep (im (.ref f) (fdsD k.2) :: L) H → R (.ref f)) : ∃ a' C' dx fs v', V.ref a = .ref a' ∧ H a' = some (.ins C' dx fs) ∧ Cls K C' ∧ NoAttr K C' ("fields" : Str) ∧ fs.lookup ("fields" : Str) = some v' ∧ R v' := by
  obtain ⟨f, dx, h1, h2⟩ := h.kind m
  exact k_fldt ⟨dx, h1⟩ c n rfl (q f (Sep.im_iff.mpr ⟨h2, h⟩))
theorem k_recvK {R : Addr → Prop} {m : Str} (h : Ls.Sep L H) (w : kindF C a k ∈ L) (e : ∀ f, (kindV (.str k.1) (.ref f)).lookup m = none) (q : R a) : ∃ a' dx fs, V.ref a = .ref a' ∧ H a' = some (.ins C dx fs) ∧ fs.lookup m = none ∧ R a' := by
  obtain ⟨f, dx, h1, h2⟩ := h.kind w
  exact k_recv ⟨dx, _, h1, e f⟩ q
end
def spIsName (K : PySem.W.Frag) : Sp := fun vs H Q _ => ∃ (z : Str) (L : List (As K)), vs = [.str z] ∧ z.length ≤ 1000000 ∧ Ls.Sep L H ∧ ∀ H', Ls.Sep L H' → Q (.bl (decide (IsNm z))) H'
end Ls
namespace Lw
open PySem PySem.Spec PyProof.Rows L2 Ls
theorem ok_is_name {P : Program} {w : World} {K : PySem.W.Frag} {mg : Str → Option Value} {base : Heap} (E : Env K mg) : FnOk P w K mg base CX0 1 E.a_is_name E.fd_is_name ["text"] (spIsName K) := by
  refine E.F_is_name.ok sc_is_name (fun vs H Q E h => ?_) (fun cdv A outer s H vs Q E' hr h => ?_)
  · walk_at "hl"
  · have hu := huOf hr
    obtain ⟨z, L, rfl, hz, hS, q⟩ := h
    refine ⟨_, PSs.nox (pss_one (ps_ret (pe_and (pe_chain op_le op_le pe_int (pe_callB (call_lenU K rfl) (by rfl) E.n_len boot_len (pa_cons (pv 0) pa_nil)) (pe_gc rfl E.c_LONGEST)) (pe_one (pe_callB (cr_allU K rfl rfl) (by rfl) E.n_all boot_all (pa_cons (pe_lc (own := [("sign", 1)]) rfl sc_is_name.nd (pi_str (pv 0)) (blkOk_by (N := ["text", "sign"]) (sc := defScope s_is_name) (by decide +kernel)) (fun _ _ _ _ _ => (pg_name (i := 1) sc_is_name.nd rfl (Or.inl rfl))) (fun _ _ _ _ _ => pts_nil) (fun _ _ _ _ _ => (pe_cmpR (op_inU K rfl hu) (pv 1) (pe_gc rfl E.c_LETTERS) (by with_unfolding_all rfl)))) pa_nil)))))), ?_⟩
    refine k_body (s1 := some _ :: [none]) rfl ?_
    walk_at "s"
    refine k_lenS (by rw [sizeLine_eq]; omega) ?_
    walk_at "s"
    by_cases h1 : 1 ≤ z.length
    · walk_at "s"
      by_cases h2 : z.length ≤ 8
      · walk_at "s"
        refine lc_flat (zs := z.cps.toList) (fun c => [PyData.bool (decide (IsSg c))]) hS (fun acc => wk_str) (fun i c acc hc hk _ la H hS => ?_) (fun H hS => ?_)
        · walk_at "ls"
          have e : decide (c ∈ ("abcdefghijklmnopqrstuvwxyz" : Str).cps.toList) = decide (IsSg c) := by
            have : ∀ k : Fin 26, k.val + 97 ∈ ("abcdefghijklmnopqrstuvwxyz" : Str).cps.toList := by decide +kernel
            have h2 : ∀ c ∈ ("abcdefghijklmnopqrstuvwxyz" : Str).cps.toList, IsSg c := by decide +kernel
            refine decide_eq_decide.mpr ⟨h2 c, fun h => ?_⟩
            have := this ⟨c - 97, by omega⟩
            rwa [show c - 97 + 97 = c by omega] at this
          rw [e]
          refine lc_keep hS (.bl _) .refl ?_ (hk _ rfl)
          have := (List.getElem?_eq_some_iff.mp hc).1
          rw [sizeLine_eq]
          rw [← len_toList] at this
          omega
        · rw [flat_map] at hS
          refine k_allS hS List.mem_cons_self ?_
          have e : z.cps.toList.all (fun c => decide (IsSg c)) = decide (IsNm z) := by
            rw [Bool.eq_iff_iff, List.all_eq_true, decide_eq_true_eq]
            exact ⟨fun h => ⟨h1, h2, fun c hc => of_decide_eq_true (h c hc)⟩, fun h c hc => decide_eq_true (h.2.2 c hc)⟩
          rw [e]
          exact q _ hS.tail
      · have e : decide (IsNm z) = false := decide_eq_false fun h => h2 h.2.1
        rw [e] at q
        walk_at "s"
        exact q _ hS
    · have e : decide (IsNm z) = false := decide_eq_false fun h => h1 h.1
      rw [e] at q
      walk_at "s"
      exact q _ hS
end Lw
namespace Ls
open PySem PySem.Spec PyProof.Rows L2 TL
def spNumIn (K : PySem.W.Frag) : Sp := fun vs H Q _ => ∃ (z : Str) (most : Int) (L : List (As K)), vs = [.str z, .int most] ∧ z.length ≤ 1000000 ∧ most ≤ 600 ∧ Ls.Sep L H ∧ ∀ H', Ls.Sep L H' → Q (oV (numIn most z)) H'
theorem figs_len (z : Str) : (figs z).length ≤ z.length := by
  have len : ∀ z : Str, z.cps.toList.length = z.length := fun z => Array.length_toList
  unfold figs
  split
  · rw [← len, ← len, cutR, List.length_drop]
    omega
  · exact Nat.le_refl _
theorem dg_mem (c : Nat) : decide (c ∈ ("0123456789" : Str).cps.toList) = decide (IsDg c) := by
  have h1 : ∀ k : Fin 10, k.val + 48 ∈ ("0123456789" : Str).cps.toList := by decide +kernel
  have h2 : ∀ c ∈ ("0123456789" : Str).cps.toList, IsDg c := by decide +kernel
  refine decide_eq_decide.mpr ⟨h2 c, fun h => ?_⟩
  have := h1 ⟨c - 48, by have := h.2; omega⟩
  rwa [show c - 48 + 48 = c by have := h.1; omega] at this
end Ls
namespace Lw
open PySem PySem.Spec PyProof.Rows L2 Ls
theorem ok_number_in {P : Program} {w : World} {K : PySem.W.Frag} {mg : Str → Option Value} {base : Heap} (E : Env K mg) : FnOk P w K mg base CX0 1 E.a_number_in E.fd_number_in ["text", "most"] (spNumIn K) := by
  refine E.F_number_in.ok sc_number_in (fun vs H Q E h => ?_) (fun cdv A outer s H vs Q E' hr h => ?_)
  · walk_at "hl"
  · have hu := huOf hr
    obtain ⟨z, most, L, rfl, hz, hm, hS, q⟩ := h
    refine ⟨_, PSs.nox (pss_cons (ps_set (i := 2) sc_number_in.nd rfl (Or.inl rfl) (pe_join (pe_ifExp (pt_cmpR (op_eqU K rfl hu) (pe_slice (sl_U K rfl) (pv 0) po_none (po_some pe_int)) pe_str (nomark _)) (pe_slice (sl_U K rfl) (pv 0) (po_some pe_int) po_none) (pv 0))))
(pss_cons (ps_if (PW.pt (pw_or (pt_not (pt_chain op_le op_le pe_int (pe_callB (call_lenU K rfl) (by rfl) E.n_len boot_len (pa_cons (pv 2) pa_nil)) (pv 1))) (pw_or1 (pt_not (pt_val (pe_callB (cr_allU K rfl rfl) (by rfl) E.n_all boot_all (pa_cons (pe_lc (own := [("sign", 3)]) rfl sc_number_in.nd (pi_str (pv 2)) (blkOk_by (N := ["text", "most", "figures", "sign"]) (sc := defScope s_number_in) (by decide +kernel)) (fun _ _ _ _ _ => (pg_name (i := 3) sc_number_in.nd rfl (Or.inl rfl))) (fun _ _ _ _ _ => pts_nil) (fun _ _ _ _ _ => (pe_cmpR (op_inU K rfl hu) (pv 3) (pe_gc rfl E.c_FIGURES) (by with_unfolding_all rfl)))) pa_nil))))))) (pss_one (ps_ret pe_non)) pss_nil)
(pss_cons (ps_if (PW.pt (pw_and (pt_cmpR (op_eqU K rfl hu) (pe_ix (ix_U K rfl) (pv 2) pe_int (fun _ _ => rfl)) pe_str (nomark _)) (pw_and1 (pt_cmpR (op_neU K rfl hu) (pv 0) pe_str (nomark _))))) (pss_one (ps_ret pe_non)) pss_nil)
(pss_one (ps_ret (pe_callTy (call_int_str) (by rfl) E.n_int boot_int (pa_cons (pv 0) pa_nil))))))), ?_⟩
    refine k_body (s1 := some _ :: some _ :: [none, none]) rfl ?_
    walk_at "s"
    refine k_joinS (fun v (M : List (As K)) => v = V.str (figs z) ∧ M = L) ?_ ?_
    · walk_at "s"
      refine k_slStr (by rw [sizeLine_eq]; omega) ?_
      walk_at "s"
      by_cases e : cutS z none (some 1) = ("-" : Str)
      · have ef : figs z = cutS z (some 1) none := if_pos e
        rw [if_pos (decide_eq_true e)]
        walk_at "s"
        refine k_slStr (by rw [sizeLine_eq]; omega) ?_
        exact ⟨_, ⟨by rw [ef], rfl⟩, hS⟩
      · have ef : figs z = z := if_neg e
        rw [if_neg (by rw [decide_eq_false e]; exact Bool.false_ne_true)]
        walk_at "s"
        exact ⟨_, ⟨by rw [ef], rfl⟩, hS⟩
    rintro _ M H ⟨rfl, hM⟩ hS
    rw [hM] at hS
    have hfl := figs_len z
    walk_at "s"
    refine k_lenS (by rw [sizeLine_eq]; omega) ?_
    walk_at "s"
    have no : ¬ FigOk most z → numIn most z = none := fun h => if_neg h
    by_cases h1 : 1 ≤ (figs z).length
    · walk_at "s"
      by_cases h2 : ((figs z).length : Int) ≤ most
      · walk_at "s"
        rename Addr => pl
        refine lc_flat (zs := (figs z).cps.toList) (fun c => [PyData.bool (decide (IsDg c))]) hS (fun acc => wk_str) (fun i c acc hc hk _ la H hS => ?_) (fun H hS => ?_)
        · walk_at "ls"
          rw [dg_mem]
          refine lc_keep hS (.bl _) .refl ?_ (hk _ rfl)
          have := (List.getElem?_eq_some_iff.mp hc).1
          have e2 : (figs z).cps.toList.length = (figs z).length := Array.length_toList
          rw [sizeLine_eq]
          omega
        rw [flat_map (fun c : Nat => PyData.bool (decide (IsDg c)))] at hS
        walk_at "s"
        refine k_allS (zs := (figs z).cps.toList) (f := fun c => decide (IsDg c)) hS (by walk_at "mem") ?_
        by_cases h3 : ∀ c ∈ (figs z).cps.toList, IsDg c
        · have ok : FigOk most z := ⟨by omega, h2, h3⟩
          rw [List.all_eq_true.mpr fun c hc => decide_eq_true (h3 c hc)]
          walk_at "s"
          obtain ⟨c, r, hcr⟩ : ∃ c r, (figs z).cps.toList = c :: r := by
            have e2 : (figs z).cps.toList.length = (figs z).length := Array.length_toList
            cases hl : (figs z).cps.toList with
            | nil => rw [hl] at e2; have : 0 = (figs z).length := e2; omega
            | cons c r => exact ⟨c, r, rfl⟩
          refine k_ixS (by rw [sizeLine_eq]; omega) (c := c) (by rw [hcr]; show atI (c :: r) ((0 : Nat) : Int) = some c; exact atI_nat rfl) ?_
          walk_at "s"
          obtain ⟨⟨n, hn⟩, hlen⟩ := fig_int ok hm
          by_cases h4 : c = 48
          · have e4 : (⟨#[c]⟩ : Str) = ("0" : Str) := by rw [h4]; rfl
            rw [if_pos (decide_eq_true e4)]
            walk_at "s"
            by_cases h5 : z = ("0" : Str)
            · have hq : numIn most z = some n := by
                unfold numIn
                rw [if_pos ok, if_neg fun y => y.2 h5]
                exact hn
              rw [hq] at q
              rw [if_neg (by rw [decide_eq_true h5]; exact Bool.false_ne_true)]
              walk_at "s"
              exact ⟨z, n, rfl, hn, hlen, q _ (Sub.ok (by walk_at "sub") hS)⟩
            · have hq : numIn most z = none := by
                unfold numIn
                rw [if_pos ok, if_pos ⟨by rw [hcr, h4]; rfl, h5⟩]
              rw [hq] at q
              rw [if_pos (by rw [decide_eq_false h5]; rfl)]
              walk_at "s"
              exact q _ (Sub.ok (by walk_at "sub") hS)
          · have e4 : ¬ (⟨#[c]⟩ : Str) = ("0" : Str) := fun e => h4 (by
              have := congrArg (fun s : Str => s.cps.toList) e
              have h6 : [c] = [48] := this
              exact (List.cons.inj h6).1)
            have hq : numIn most z = some n := by
              unfold numIn
              rw [if_pos ok, if_neg fun y => h4 (by have := y.1; rw [hcr] at this; exact Option.some.inj this)]
              exact hn
            rw [hq] at q
            rw [if_neg (by rw [decide_eq_false e4]; exact Bool.false_ne_true)]
            walk_at "s"
            exact ⟨z, n, rfl, hn, hlen, q _ (Sub.ok (by walk_at "sub") hS)⟩
        · have hb : (figs z).cps.toList.all (fun c => decide (IsDg c)) = false := by
            rw [List.all_eq_false]
            obtain ⟨c, hc, hn⟩ := Classical.not_forall.mp h3 |>.imp fun c h => Classical.not_imp.mp h
            exact ⟨c, hc, by rw [decide_eq_false hn]; exact Bool.false_ne_true⟩
          rw [hb]
          walk_at "s"
          rw [no fun h => h3 h.2.2] at q
          exact q _ (Sub.ok (by walk_at "sub") hS)
      · rw [if_pos (by rw [decide_eq_false h2]; rfl), if_pos rfl]
        walk_at "s"
        rw [no fun h => h2 h.2.1] at q
        exact q _ hS
    · rw [if_neg (by rw [decide_eq_false (by omega)]; exact Bool.false_ne_true)]
      walk_at "s"
      rw [no fun h => h1 (by have := h.1; omega)] at q
      exact q _ hS
end Lw
namespace Ls
open PySem PySem.Spec PyProof.Rows L2 TL
inductive Dm where
  | lost (n : Int)
  | ev (p t : Int) (s : Str) (vs : List Int)
def Dm.D : Dm → PyData
  | .lost n => .tuple [.str "lost", .int n]
  | .ev p t s vs => .tuple [.str "event", .int p, .int t, .str s, .tuple (vs.map PyData.int)]
/-- the words of a row -/
def wordsD : Dm → List Str
  | .lost n => ["lost", numS n]
  | .ev p t s vs => (["event", numS p, numS t, s] : List Str) ++ vs.map numS
def rowS (t : Dm) : Str := Txt.join " " (wordsD t)
def dumpS (ts : List Dm) : Str := Txt.join "" (ts.map fun t => rowS t ++ "\n")
/-- a number of a row -/
def Nr (i : Int) : Prop := i.natAbs < 10 ^ 30
def Dm.ok : Dm → Prop
  | .lost n => 0 < n ∧ Nr n
  | .ev p t s vs => Nr p ∧ Nr t ∧ IsNm s ∧ vs.length ≤ 100 ∧ ∀ v ∈ vs, Nr v
theorem nr_len {i : Int} (h : Nr i) : (numS i).length ≤ 31 := numS_len (k := 30) (by decide) h
theorem nm_sg {s : Str} (h : IsNm s) : ∀ c ∈ s.cps.toList, 97 ≤ c ∧ c ≤ 122 := fun c hc => h.2.2 c hc
theorem joinL_sg {P : Nat → Prop} {y : List Nat} (hy : ∀ c ∈ y, P c) : ∀ {ls : List (List Nat)}, (∀ l ∈ ls, ∀ c ∈ l, P c) → ∀ c ∈ joinL y ls, P c
  | [], _, c, hc => by cases hc
  | [l], h, c, hc => h l List.mem_cons_self c hc
  | l :: q :: r, h, c, hc => by
    have hc : c ∈ l ++ (y ++ joinL y (q :: r)) := hc
    rcases List.mem_append.mp hc with z | z
    · exact h l List.mem_cons_self c z
    · rcases List.mem_append.mp z with z | z
      · exact hy c z
      · exact joinL_sg hy (fun x hx => h x (List.mem_cons_of_mem _ hx)) c z
theorem joinL_nil : ∀ (l : List Nat) (ls : List (List Nat)), joinL [] (l :: ls) = l ++ joinL [] ls
  | l, [] => (List.append_nil l).symm
  | l, q :: r => rfl
end Ls
namespace Ls
open PySem PySem.Spec PyProof.Rows L2 TL
def spThingText (K : PySem.W.Frag) : Sp := fun vs H Q _ => ∃ (a : Addr) (t : Dm) (L : List (As K)), vs = [.ref a] ∧ Ls.Sep L H ∧ im (.ref a) t.D ∈ L ∧ t.ok ∧ ∀ H', Ls.Sep L H' → Q (.str (rowS t)) H'
def spDump (K : PySem.W.Frag) : Sp := fun vs H Q _ => ∃ (a : Addr) (ts : List Dm) (L : List (As K)), vs = [.ref a] ∧ Ls.Sep L H ∧ Ls.ld a (ts.map Dm.D) ∈ L ∧ ts.length ≤ 1000 ∧ (∀ t ∈ ts, t.ok) ∧ ∀ H', Ls.Sep L H' → Q (.str (dumpS ts)) H'
theorem words_len {t : Dm} (h : t.ok) : (wordsD t).length ≤ 104 ∧ ∀ w ∈ wordsD t, w.length ≤ 31 := by
  cases t with
  | lost n =>
    refine ⟨by show 2 ≤ 104; decide, fun w hw => ?_⟩
    rcases List.mem_cons.mp hw with rfl | hw
    · show 4 ≤ 31; decide
    · rw [List.mem_singleton.mp hw]
      exact nr_len h.2
  | ev p x s vs =>
    obtain ⟨h1, h2, h3, h4, h5⟩ := h
    refine ⟨by show (_ ++ vs.map numS).length ≤ 104; rw [List.length_append, List.length_map]; show 4 + _ ≤ 104; omega, fun w hw => ?_⟩
    rcases List.mem_append.mp hw with hw | hw
    · simp only [List.mem_cons, List.not_mem_nil, or_false] at hw
      rcases hw with rfl | rfl | rfl | rfl
      · show 5 ≤ 31; decide
      · exact nr_len h1
      · exact nr_len h2
      · have := h3.2.1; omega
    · obtain ⟨v, hv, rfl⟩ := List.mem_map.mp hw
      exact nr_len (h5 v hv)
theorem sum_le {c : Nat} : ∀ {ls : List Nat}, (∀ l ∈ ls, l ≤ c) → ls.sum ≤ c * ls.length
  | [], _ => Nat.zero_le _
  | l :: ls, h => by
    have h1 := h l List.mem_cons_self
    have h2 := sum_le fun x hx => h x (List.mem_cons_of_mem _ hx)
    rw [List.sum_cons, List.length_cons, Nat.mul_succ]
    omega
theorem words_sum {t : Dm} (h : t.ok) : ((wordsD t).map (·.length)).sum + (wordsD t).length * 1 ≤ 4000 := by
  obtain ⟨h1, h2⟩ := words_len h
  have := sum_le (c := 31) (ls := (wordsD t).map (·.length)) fun l hl => by
    obtain ⟨w, hw, rfl⟩ := List.mem_map.mp hl
    exact h2 w hw
  rw [List.length_map] at this
  omega
theorem sap (a b : Str) : (a ++ b).length = a.length + b.length := by
  have l : ∀ z : Str, (tl z).length = z.length := fun z => Array.length_toList
  rw [← l, ← l, ← l, tl_append, List.length_append]
theorem ev_words (p t : Int) (s : Str) (vs : List Int) : [PyData.str "event", .str (numS p), .str (numS t), .str s] ++ vs.map (fun v => PyData.str (numS v)) = (wordsD (.ev p t s vs)).map PyData.str := by
  show _ = (([("event" : Str), numS p, numS t, s] : List Str) ++ vs.map numS).map PyData.str
  rw [List.map_append, List.map_map]
  rfl
theorem lost_row (n : Int) : rowS (.lost n) = ("lost " : Str) ++ numS n := by
  refine ext_tl ?_
  unfold rowS
  rw [join_eq, tl_join, tl_append]
  rfl
theorem row_len {t : Dm} (h : t.ok) : (rowS t).length ≤ 4000 := by
  have l : ∀ z : Str, (tl z).length = z.length := fun z => Array.length_toList
  have hs := words_sum h
  have key : ∀ ws : List Str, (joinL [32] (ws.map tl)).length ≤ (ws.map (·.length)).sum + ws.length * 1 := by
    intro ws
    induction ws with
    | nil => exact Nat.zero_le _
    | cons w ws ih =>
      cases ws with
      | nil =>
        show (tl w).length ≤ _
        rw [l, List.map_cons, List.sum_cons]
        omega
      | cons x r =>
        show (tl w ++ ([32] ++ joinL [32] ((x :: r).map tl))).length ≤ _
        have e1 : ((w :: x :: r).map (·.length)).sum = w.length + ((x :: r).map (·.length)).sum := by rw [List.map_cons, List.sum_cons]
        have e2 : (w :: x :: r).length = (x :: r).length + 1 := rfl
        rw [List.length_append, List.length_append, l, e1, e2, List.length_singleton]
        omega
  have z := key (wordsD t)
  unfold rowS
  rw [join_eq, ← l, tl_join]
  exact Nat.le_trans z hs
end Ls
namespace Lw
open PySem PySem.Spec PyProof.Rows L2 Ls
end Lw
namespace Ls
open PySem PySem.Spec PyProof.Rows L2 TL
theorem spl_sub {S : List Nat} (hS : S ≠ []) : ∀ (n : Nat) (k : Nat) (acc l : List Nat), l.length = n → ∀ p ∈ spl S k acc l, (∀ c ∈ p, c ∈ acc ∨ c ∈ l) ∧ p.length ≤ acc.length + l.length := by
  intro n
  induction n with
  | zero =>
    intro k acc l hl p hp
    obtain rfl := List.length_eq_zero_iff.mp hl
    rw [spl_nil] at hp
    rw [List.mem_singleton.mp hp]
    exact ⟨fun c hc => .inl hc, by omega⟩
  | succ n ih =>
    intro k acc l hl p hp
    cases l with
    | nil => cases hl
    | cons c r =>
      have hr : r.length = n := by simpa using hl
      cases k with
      | zero =>
        cases h : pre S (c :: r) with
        | true =>
          rw [spl_hit h] at hp
          rcases List.mem_cons.mp hp with rfl | hp
          · exact ⟨fun c hc => .inl hc, by omega⟩
          · obtain ⟨h1, h2⟩ := ih _ _ _ hr p hp
            exact ⟨fun x hx => .inr (List.mem_cons_of_mem _ ((h1 x hx).elim (fun h => by cases h) id)), by rw [List.length_nil] at h2; rw [List.length_cons]; omega⟩
        | false =>
          rw [spl_miss h] at hp
          obtain ⟨h1, h2⟩ := ih _ _ _ hr p hp
          refine ⟨fun x hx => ?_, by rw [List.length_append, List.length_singleton] at h2; rw [List.length_cons]; omega⟩
          rcases h1 x hx with h | h
          · rcases List.mem_append.mp h with h | h
            · exact .inl h
            · exact .inr (by rw [List.mem_singleton.mp h]; exact List.mem_cons_self)
          · exact .inr (List.mem_cons_of_mem _ h)
      | succ k =>
        have e : spl S (k + 1) acc (c :: r) = spl S k acc r := rfl
        rw [e] at hp
        obtain ⟨h1, h2⟩ := ih _ _ _ hr p hp
        exact ⟨fun x hx => (h1 x hx).imp id fun h => List.mem_cons_of_mem _ h, by rw [List.length_cons]; omega⟩
theorem spl_count {S : List Nat} : ∀ (n : Nat) (k : Nat) (acc l : List Nat), l.length = n → (spl S k acc l).length ≤ l.length + 1 ∧ spl S k acc l ≠ [] := by
  intro n
  induction n with
  | zero =>
    intro k acc l hl
    obtain rfl := List.length_eq_zero_iff.mp hl
    rw [spl_nil]
    exact ⟨Nat.le_refl _, List.cons_ne_nil _ _⟩
  | succ n ih =>
    intro k acc l hl
    cases l with
    | nil => cases hl
    | cons c r =>
      have hr : r.length = n := by simpa using hl
      cases k with
      | zero =>
        cases h : pre S (c :: r) with
        | true =>
          rw [spl_hit h]
          have := (ih (S.length - 1) [] r hr).1
          exact ⟨by rw [List.length_cons, List.length_cons]; omega, List.cons_ne_nil _ _⟩
        | false =>
          rw [spl_miss h]
          have := ih 0 (acc ++ [c]) r hr
          exact ⟨by rw [List.length_cons]; omega, this.2⟩
      | succ k =>
        have e : spl S (k + 1) acc (c :: r) = spl S k acc r := rfl
        rw [e]
        have := ih k acc r hr
        exact ⟨by rw [List.length_cons]; omega, this.2⟩
/-- a text of plain signs, of bounded length -/
def Tz (z : Str) : Prop := z.length ≤ 90000 ∧ PyData.strOk z = true
theorem strOk_sub {y z : Str} (h : ∀ c ∈ tl y, c ∈ tl z) (k : PyData.strOk z = true) : PyData.strOk y = true := by
  unfold PyData.strOk at k ⊢
  rw [← Array.all_toList, List.all_eq_true] at k ⊢
  exact fun c hc => k c (h c hc)
theorem split_facts {z y : Str} {s : Nat} (ey : tl y = [s]) (hk : y.cps.all (· < 256) = true) : (Txt.split z y).length ≤ z.length + 1 ∧ Txt.split z y ≠ [] ∧ ∀ w ∈ Txt.split z y, (∀ c ∈ tl w, c ∈ tl z) ∧ w.length ≤ z.length := by
  have hS : tl y ≠ [] := by rw [ey]; exact List.cons_ne_nil _ _
  have e := split_spl z y hS (kind_ok hk)
  have len : ∀ z : Str, (tl z).length = z.length := fun z => Array.length_toList
  have h1 := spl_count (S := tl y) _ 0 [] (tl z) rfl
  rw [← e, List.length_map, len] at h1
  refine ⟨h1.1, fun h => h1.2 (by rw [h]; rfl), fun w hw => ?_⟩
  have h2 := spl_sub hS _ 0 [] (tl z) rfl (tl w) (by rw [← e]; exact List.mem_map.mpr ⟨w, hw, rfl⟩)
  rw [len, len] at h2
  refine ⟨fun c hc => ?_, by simpa using h2.2⟩
  rcases h2.1 c hc with h | h
  · cases h
  · exact h
theorem split_tz {z y : Str} {s : Nat} (ey : tl y = [s]) (hk : y.cps.all (· < 256) = true) (hz : Tz z) : ∀ w ∈ Txt.split z y, Tz w := fun w hw => by
  obtain ⟨h1, h2⟩ := (split_facts ey hk).2.2 w hw
  exact ⟨by have := hz.1; omega, strOk_sub h1 hz.2⟩
theorem mapM_len2 {α β : Type} {f : α → Option β} : ∀ {r : List α} {ts : List β}, r.mapM f = some ts → ts.length = r.length
  | [], ts, h => by
    have : some [] = some ts := h
    cases this
    rfl
  | d :: r, ts, h => by
    rw [List.mapM_cons] at h
    cases e : f d with
    | none => rw [e] at h; cases h
    | some t =>
      rw [e] at h
      cases e2 : r.mapM f with
      | none => rw [e2] at h; cases h
      | some us =>
        rw [e2] at h
        cases h
        simp [mapM_len2 e2]
def rdEv (x y s : Str) (vs : List Str) : Option Dm := if IsNm s then (match (x :: y :: vs).mapM (numIn 30) with
    | some (p :: t :: us) => some (.ev p t s us)
    | _ => none) else none
def rdLost (r : List Str) : Option Dm := match r with
  | [x] => (match numIn 30 x with
    | some n => if 0 < n then some (.lost n) else none
    | none => none)
  | _ => none
/-- the thing that a row writes -/
def rdThing (z : Str) : Option Dm := match Txt.split z " " with
  | [] => none
  | w :: r => if w = ("lost" : Str) then rdLost r else if w = ("event" : Str) then (match r with
      | x :: y :: s :: vs => rdEv x y s vs
      | _ => none) else none
def tmsD (ts : List Dm) : List Int := ts.flatMap fun
  | .lost _ => []
  | .ev _ t _ _ => [t]
def stepD : Dm → Int
  | .lost n => n
  | .ev _ _ _ _ => 1
def dueD (ts : List Dm) : Int := (ts.map stepD).sum
def FitsD (t : Dm) (ts : List Dm) : Prop := match t with
  | .lost _ => True
  | .ev p x _ _ => p = dueD ts ∧ ∀ y, (tmsD ts).getLast? = some y → y ≤ x
noncomputable instance (t : Dm) (ts : List Dm) : Decidable (FitsD t ts) := Classical.propDecidable _
noncomputable def rdGo : List Str → List Dm → Nat → List Dm × Option Nat
  | [], ts, _ => (ts, none)
  | r :: rs, ts, i => match rdThing r with
    | none => (ts, some i)
    | some t => if FitsD t ts then rdGo rs (ts ++ [t]) (i + 1) else (ts, some i)
def wrongO : Option Nat → Option Int := Option.map fun i : Nat => (i : Int)
/-- all things ahead of the first wrong row, and its number -/
noncomputable def rdRows (z : Str) : List Dm × Option Nat := match rdGo (Txt.split z "\n").dropLast [] 0 with
  | (ts, some i) => (ts, some i)
  | (ts, none) => (ts, if (Txt.split z "\n").getLast? = some ("" : Str) then none else some ((Txt.split z "\n").length - 1))
theorem dueD_step (ts : List Dm) (t : Dm) : dueD (ts ++ [t]) = dueD ts + stepD t := by
  unfold dueD
  rw [List.map_append, List.sum_append]
  simp
theorem tmsD_step (ts : List Dm) (t : Dm) : tmsD (ts ++ [t]) = tmsD ts ++ tmsD [t] := by
  unfold tmsD
  rw [List.flatMap_append]
def tmL : Dm → List PyData
  | .lost _ => []
  | .ev _ t _ _ => [.int t]
theorem tmL_le (t : Dm) : (tmL t).length ≤ 1 := by
  cases t
  · exact Nat.zero_le _
  · exact Nat.le_refl _
theorem tmL_flat (ts : List Dm) : ts.flatMap tmL = (tmsD ts).map PyData.int := by
  unfold tmsD
  rw [List.map_flatMap]
  congr 1
  funext t
  cases t <;> rfl
theorem atm {α : Type} (xs : List α) (x : α) : atI (xs ++ [x]) (-1) = some x := by
  unfold atI ixN
  have : (xs ++ [x]).length = xs.length + 1 := by simp
  rw [this, if_neg (by omega), if_pos (by omega)]
  show (xs ++ [x])[_]? = _
  have e : ((-1 : Int) + ((xs.length + 1 : Nat) : Int)).toNat = xs.length := by omega
  rw [e]
  simp
theorem cutD_ini2 (ds : List PyData) : Ls.cutD ds none (some (-1)) = ds.dropLast := by
  have e : HT.sIx ds.length ds.length (some (-1)) = ds.length - 1 := by
    unfold HT.sIx
    dsimp only
    first
    | omega
    | (split <;> omega)
    | (simp only []; omega)
    | (simp; omega)
  show (ds.drop 0).take (HT.sIx ds.length ds.length (some (-1)) - 0) = _
  rw [e, List.drop_zero, Nat.sub_zero, List.dropLast_eq_take]
/-- what is told is bounded data -/
def Okm : Dm → Prop
  | .lost _ => True
  | .ev _ _ s vs => IsNm s ∧ vs.length ≤ 90001
theorem rdThing_ok {z : Str} {t : Dm} (hz : Tz z) (h : rdThing z = some t) : Okm t := by
  have hf := split_facts (z := z) (y := " ") (s := 32) rfl (by decide +kernel)
  unfold rdThing at h
  split at h
  · cases h
  · rename_i w r e
    rw [e, List.length_cons] at hf
    split at h
    · unfold rdLost at h
      split at h
      · split at h
        · split at h
          · cases h; trivial
          · cases h
        · cases h
      · cases h
    · split at h
      · split at h
        · rename_i x y s vs
          unfold rdEv at h
          split at h
          · rename_i hs
            split at h
            · rename_i p u us em
              cases h
              have hl := mapM_len2 em
              refine ⟨hs, ?_⟩
              have := hz.1
              have := hf.1
              simp only [List.length_cons] at hl this
              omega
            · cases h
          · cases h
        · cases h
      · cases h
end Ls
namespace Ls
open PySem PySem.Spec PyProof.Rows L2 TL
def oM : Option Dm → PyData
  | none => .none
  | some t => t.D
theorem Sep.nonM {K : PySem.W.Frag} {L : List (As K)} {H : Hp} (h : Ls.Sep L H) : Ls.Sep (im .non (oM none) :: L) H := Sep.im_iff.mpr ⟨.non, h⟩
def spThing (K : PySem.W.Frag) : Sp := fun vs H Q _ => ∃ (z : Str) (L : List (As K)), vs = [.str z] ∧ Tz z ∧ Ls.Sep L H ∧ ∀ v H', Ls.Sep (im v (oM (rdThing z)) :: L) H' → Q v H'
def spFits (K : PySem.W.Frag) : Sp := fun vs H Q _ => ∃ (a b : Addr) (due : Int) (t : Dm) (ts : List Dm) (L : List (As K)), vs = [.ref a, .ref b, .int due] ∧ Ls.Sep L H ∧ im (.ref a) t.D ∈ L ∧ Ls.ld b (ts.map Dm.D) ∈ L ∧ ts.length ≤ 200000 ∧ due = dueD ts ∧ ∀ H', Ls.Sep L H' → Q (.bl (decide (FitsD t ts))) H'
theorem nums_any (ws : List Str) : (ws.map fun w => numIn 30 w).any Option.isNone = (ws.mapM (numIn 30)).isNone := by
  induction ws with
  | nil => rfl
  | cons w ws ih =>
    rw [List.map_cons, List.any_cons, ih, List.mapM_cons]
    cases numIn 30 w with
    | none => rfl
    | some n =>
      cases ws.mapM (numIn 30) <;> rfl
theorem nums_some {ws : List Str} {ns : List Int} (h : ws.mapM (numIn 30) = some ns) : (ws.map fun w => numIn 30 w) = ns.map some := by
  induction ws generalizing ns with
  | nil =>
    have : some [] = some ns := h
    cases this
    rfl
  | cons w ws ih =>
    rw [List.mapM_cons] at h
    cases e : numIn 30 w with
    | none => rw [e] at h; cases h
    | some n =>
      rw [e] at h
      cases e2 : ws.mapM (numIn 30) with
      | none => rw [e2] at h; cases h
      | some us =>
        rw [e2] at h
        cases h
        rw [List.map_cons, List.map_cons, ih e2, e]
theorem at0v {α : Type} (x : α) (xs : List α) : atI (x :: xs) 0 = some x := atI_nat (j := 0) rfl
theorem at2v {α : Type} (x y z : α) (xs : List α) : atI (x :: y :: z :: xs) 2 = some z := atI_nat (j := 2) rfl
theorem dat_o {K : PySem.W.Frag} {L : List (As K)} (o : Option Int) : Dat L (oV o) (oD o) := by cases o; exact .non; exact .int _
theorem Dm.ref (t : Dm) : ∃ ds, t.D = .tuple ds := by cases t <;> exact ⟨_, rfl⟩
end Ls
namespace Lw
open PySem PySem.Spec PyProof.Rows L2 Ls
theorem ok_thing_in {P : Program} {w : World} {K : PySem.W.Frag} {mg : Str → Option Value} {base : Heap} (E : Env K mg) : FnOk P w K mg base CX0 3 E.a_thing_in E.fd_thing_in ["line"] (spThing K) := by
  refine E.F_thing_in.ok sc_thing_in (fun vs H Q E h => ?_) (fun cdv A outer s H vs Q E' hr h => ?_)
  · walk_at "hl"
  · have hu := huOf hr
    have G_number_in := ok_number_in (P := P) (w := w) (base := base) E
    have hr_number_in := hr.mono (show 1 ≤ 2 by decide)
    have b_number_in := b_number_in E
    have G_is_name := ok_is_name (P := P) (w := w) (base := base) E
    have hr_is_name := hr.mono (show 1 ≤ 2 by decide)
    have b_is_name := b_is_name E
    obtain ⟨z, L, rfl, hz, hS, q⟩ := h
    refine ⟨_, PSs.nox (pss_cons (ps_asg (pe_splitU (pv 0) pe_str) (pg_lstS (n := 1) K rfl (pgs_cons (pg_name (i := 1) sc_thing_in.nd rfl (Or.inl rfl)) (pgs_star (pg_name (i := 2) sc_thing_in.nd rfl (Or.inl rfl)) pgs_nil))))
(pss_cons (ps_if (pt_cmpR (op_eqU K rfl hu) (pv 1) pe_str (nomark _)) (pss_cons (ps_setLc (i := 3) (own := [("thing", 4)]) rfl sc_thing_in.nd rfl rfl (sw_true rfl rfl rfl (by decide +kernel)) (pi_seqU K rfl (pv 2)) (blkOk_by (N := ["line", "word", "things", "found", "thing", "numbers", "place", "time", "values"]) (sc := defScope s_thing_in) (by decide +kernel)) (fun _ _ _ _ _ => (pg_name (i := 4) sc_thing_in.nd rfl (Or.inl rfl))) (fun _ _ _ _ _ => pts_nil) (fun _ _ _ _ _ => (pe_call G_number_in hr_number_in rfl E.g_number_in E.F_number_in.kp b_number_in .nil pass0 (pa_cons (pv 4) (pa_cons (pe_gc rfl E.c_MOST_FIGURES_dumps) pa_nil)))))
(pss_one (ps_ret (pe_join (pe_ifExp (PW.pt (pw_and (pt_cmpR (op_eqU K rfl hu) (pe_callB (call_lenU K rfl) (by rfl) E.n_len boot_len (pa_cons (pv 3) pa_nil)) pe_int (nomark _)) (pw_and (pt_cmpR (op_isnotU) (pe_ix (ix_U K rfl) (pv 3) pe_int (fun _ _ => rfl)) pe_non (nomark _)) (pw_and1 (pt_cmpR (op_gt) (pe_ix (ix_U K rfl) (pv 3) pe_int (fun _ _ => rfl)) pe_int (nomark _)))))) (pe_tup (pa_cons pe_str (pa_cons (pe_ix (ix_U K rfl) (pv 3) pe_int (fun _ _ => rfl)) pa_nil))) pe_non))))) pss_nil)
(pss_cons (ps_if (PW.pt (pw_or (pt_cmpR (op_neU K rfl hu) (pv 1) pe_str (nomark _)) (pw_or (pt_cmpR (op_lt) (pe_callB (call_lenU K rfl) (by rfl) E.n_len boot_len (pa_cons (pv 2) pa_nil)) pe_int (nomark _)) (pw_or1 (pt_not (pt_val (pe_call G_is_name hr_is_name rfl E.g_is_name E.F_is_name.kp b_is_name .nil pass0 (pa_cons (pe_ix (ix_U K rfl) (pv 2) pe_int (fun _ _ => rfl)) pa_nil)))))))) (pss_one (ps_ret pe_non)) pss_nil)
(pss_cons (ps_setLc (i := 5) (own := [("thing", 4)]) rfl sc_thing_in.nd rfl rfl (sw_true rfl rfl rfl (by decide +kernel)) (pi_seqU K rfl (pe_op (op_addU K rfl) (pe_slice (sl_U K rfl) (pv 2) po_none (po_some pe_int)) (pe_slice (sl_U K rfl) (pv 2) (po_some pe_int) po_none))) (blkOk_by (N := ["line", "word", "things", "found", "thing", "numbers", "place", "time", "values"]) (sc := defScope s_thing_in) (by decide +kernel)) (fun _ _ _ _ _ => (pg_name (i := 4) sc_thing_in.nd rfl (Or.inl rfl))) (fun _ _ _ _ _ => pts_nil) (fun _ _ _ _ _ => (pe_call G_number_in hr_number_in rfl E.g_number_in E.F_number_in.kp b_number_in .nil pass0 (pa_cons (pv 4) (pa_cons (pe_gc rfl E.c_MOST_FIGURES_dumps) pa_nil)))))
(pss_cons (ps_if (pt_cmpR (op_inU K rfl hu) pe_non (pv 5) (by with_unfolding_all rfl)) (pss_one (ps_ret pe_non)) pss_nil)
(pss_cons (ps_asg (pv 5) (pg_lstS (n := 2) K rfl (pgs_cons (pg_name (i := 6) sc_thing_in.nd rfl (Or.inl rfl)) (pgs_cons (pg_name (i := 7) sc_thing_in.nd rfl (Or.inl rfl)) (pgs_star (pg_name (i := 8) sc_thing_in.nd rfl (Or.inl rfl)) pgs_nil)))))
(pss_one (ps_ret (pe_tup (pa_cons pe_str (pa_cons (pv 6) (pa_cons (pv 7) (pa_cons (pe_ix (ix_U K rfl) (pv 2) pe_int (fun _ _ => rfl)) (pa_cons (pe_callTy (call_tupleU K rfl) (by rfl) E.n_tuple boot_tuple (pa_cons (pv 8) pa_nil)) pa_nil)))))))))))))), ?_⟩
    refine k_body (s1 := some _ :: [none, none, none, none, none, none, none, none]) rfl ?_
    have hf := split_facts (z := z) (y := " ") (s := 32) rfl (by decide +kernel)
    have htz := split_tz (z := z) (y := " ") (s := 32) rfl (by decide +kernel) hz
    have hz1 := hz.1
    unfold rdThing at q
    walk_at "s"
    refine k_splitU ?_
    walk_at "s"
    refine ⟨z, " ", rfl, rfl, by decide +kernel, by rw [sizeLine_eq]; omega, k_newStrs hS fun pw H hS => ?_⟩
    generalize Txt.split z " " = sp at *
    obtain ⟨h1, h2, _⟩ := hf
    cases sp with
    | nil => exact (h2 rfl).elim
    | cons w r =>
      rw [List.length_cons] at h1
      have htr : ∀ y ∈ r, Tz y := fun y hy => htz y (List.mem_cons_of_mem _ hy)
      walk_at "s"
      refine k_glstS hS (by walk_at "mem") (by rw [List.length_map]; show 1 ≤ r.length + 1; omega) (by rw [List.length_map, List.length_cons]; omega) fun xs pt H hi hS => ?_
      have ex := ims_str hi
      subst ex
      replace hS : Ls.Sep (Ls.ld pt (r.map PyData.str) :: Ls.ld pw ((w :: r).map PyData.str) :: L) H := hS
      show gCons (gName 1) (gCons (gName 2) gNil) [V.str w, V.ref pt] _ _ _
      replace hS : Ls.Sep (Ls.ld pt (r.map PyData.str) :: L) H := Sub.ok (by walk_at "sub") hS
      walk_at "s"
      by_cases hw : w = ("lost" : Str)
      · rw [if_pos (decide_eq_true hw)]
        dsimp only at q
        rw [if_pos hw] at q
        walk_at "s"
        rename Addr => pf
        refine lc_flat (zs := r) (fun y => [oD (numIn 30 y)]) hS (fun acc => wk_ldm (f := PyData.str) (by walk_at "mem")) (fun j y acc hy hk _ la => ?_) (fun H hS => ?_)
        · clear hS
          have hj := (List.getElem?_eq_some_iff.mp hy).1
          have hyt := (htr y (List.mem_of_getElem? hy)).1
          walk_at "gi"
          walk_at "ls"
          refine ⟨y, 30, _, rfl, by omega, by decide, hS, fun H hS => ?_⟩
          exact lc_keep hS (dat_o _) (by walk_at "sub") (by rw [sizeLine_eq]; omega) (hk _ rfl)
        rw [flat_map (fun y => oD (numIn 30 y))] at hS
        walk_at "s"
        refine k_nojoin ?_
        walk_at "s"
        match r, hS, q, htr with
        | [], hS, q, _ =>
          rw [if_neg (by decide)]
          walk_at "s"
          exact q _ _ (Ls.Sep.nonM (Sub.ok (by walk_at "sub") hS))
        | _ :: _ :: _, hS, q, _ =>
          rw [if_neg (by rw [decide_eq_false (by rw [List.length_map, List.length_cons, List.length_cons]; omega)]; exact Bool.false_ne_true)]
          walk_at "s"
          exact q _ _ (Ls.Sep.nonM (Sub.ok (by walk_at "sub") hS))
        | [x], hS, q, _ =>
          rw [if_pos (by rfl)]
          replace hS : Ls.Sep (Ls.ld pf [oD (numIn 30 x)] :: Ls.ld pt ([x].map PyData.str) :: L) _ := hS
          unfold rdLost at q
          dsimp only at q
          cases hn : numIn 30 x with
          | none =>
            rw [hn] at hS q
            have a0 : atI [oD none] 0 = some .none := at0v _ _
            walk_at "s"
            rw [if_neg (by decide)]
            walk_at "s"
            exact q _ _ (Ls.Sep.nonM (Sub.ok (by walk_at "sub") hS))
          | some n =>
            rw [hn] at hS q
            dsimp only at q
            have a0 : atI [oD (some n)] 0 = some (.int n) := at0v _ _
            walk_at "s"
            rw [if_pos (by rw [decide_eq_false (fun e => by cases e)]; rfl)]
            walk_at "s"
            by_cases h0 : 0 < n
            · rw [if_pos h0] at q
              rw [decide_eq_true h0]
              walk_at "s"
              exact q _ _ (Sub.ok (by show Sub _ (im (V.ref _) (PyData.tuple [PyData.str "lost", PyData.int n]) :: L); walk_at "sub") hS)
            · rw [if_neg h0] at q
              rw [decide_eq_false h0]
              walk_at "s"
              exact q _ _ (Ls.Sep.nonM (Sub.ok (by walk_at "sub") hS))
      · rw [if_neg (by rw [decide_eq_false hw]; exact Bool.false_ne_true)]
        dsimp only at q
        rw [if_neg hw] at q
        walk_at "s"
        by_cases he : w = ("event" : Str)
        case neg =>
          rw [if_neg he] at q
          rw [if_pos (by rw [decide_eq_false he]; rfl), if_pos rfl]
          walk_at "s"
          exact q _ _ (Ls.Sep.nonM (Sub.ok (by walk_at "sub") hS))
        rw [if_pos he] at q
        rw [if_neg (by rw [decide_eq_true he]; exact Bool.false_ne_true)]
        walk_at "s"
        match r, hS, q, htr, h1 with
        | [], hS, q, _, _ =>
          rw [if_pos (by decide), if_pos rfl]
          walk_at "s"
          exact q _ _ (Ls.Sep.nonM (Sub.ok (by walk_at "sub") hS))
        | [_], hS, q, _, _ =>
          rw [if_pos (by rfl), if_pos rfl]
          walk_at "s"
          exact q _ _ (Ls.Sep.nonM (Sub.ok (by walk_at "sub") hS))
        | [_, _], hS, q, _, _ =>
          rw [if_pos (by rfl), if_pos rfl]
          walk_at "s"
          exact q _ _ (Ls.Sep.nonM (Sub.ok (by walk_at "sub") hS))
        | x :: y :: s :: vs, hS, q, htr, h1 =>
          dsimp only at q
          unfold rdEv at q
          simp only [List.length_cons] at h1
          have hst := (htr s (by simp)).1
          have a2 : atI ((x :: y :: s :: vs).map PyData.str) 2 = some (.str s) := at2v _ _ _ _
          rw [if_neg (by rw [decide_eq_false (by rw [List.length_map]; simp only [List.length_cons]; omega)]; exact Bool.false_ne_true)]
          walk_at "s"
          refine ⟨s, _, rfl, by omega, hS, fun H hS => ?_⟩
          by_cases hs : IsNm s
          case neg =>
            rw [if_neg hs] at q
            rw [decide_eq_false hs]
            walk_at "s"
            exact q _ _ (Ls.Sep.nonM (Sub.ok (by walk_at "sub") hS))
          rw [if_pos hs] at q
          rw [decide_eq_true hs]
          walk_at "s"
          rename_i pa1 _
          rename Addr => pa2
          rw [show Ls.cutD (List.map PyData.str (x :: y :: s :: vs)) (some 3) none = vs.map PyData.str by rw [cutD_from (by decide)]; rfl, show Ls.cutD (List.map PyData.str (x :: y :: s :: vs)) none (some 2) = ([x, y] : List Str).map PyData.str by rw [cutD_to (by decide)]; rfl] at hS
          refine k_addD hS (by walk_at "mem") (by walk_at "mem") (by rw [List.length_map, List.length_map, sizeLine_eq]; show 2 + _ ≤ _; omega) fun pa H hS => ?_
          rw [← List.map_append] at hS
          obtain ⟨us, hus⟩ : ∃ us : List Str, us = x :: y :: vs := ⟨_, rfl⟩
          rw [show ([x, y] : List Str) ++ vs = us from hus.symm] at hS
          rw [← hus] at q
          have hut : ∀ y ∈ us, y.length ≤ 90000 := fun y' hy' => by
            rw [hus] at hy'
            refine (htr y' ?_).1
            rcases List.mem_cons.mp hy' with rfl | h
            · exact List.mem_cons_self
            · rcases List.mem_cons.mp h with rfl | h
              · exact List.mem_cons_of_mem _ List.mem_cons_self
              · exact List.mem_cons_of_mem _ (List.mem_cons_of_mem _ (List.mem_cons_of_mem _ h))
          have hul : us.length ≤ 90001 := by rw [hus]; simp only [List.length_cons]; omega
          obtain ⟨rs, hrs⟩ : ∃ rs : List Str, rs = x :: y :: s :: vs := ⟨_, rfl⟩
          rw [← hrs] at hS a2
          replace hS : Ls.Sep (Ls.ld pa (us.map PyData.str) :: Ls.ld pt (rs.map PyData.str) :: L) H := Sub.ok (by walk_at "sub") hS
          walk_at "s"
          rename Addr => pf
          refine lc_flat (zs := us) (fun y => [oD (numIn 30 y)]) hS (fun acc => wk_ldm (f := PyData.str) (by walk_at "mem")) (fun j y acc hy hk _ la => ?_) (fun H hS => ?_)
          · clear hS
            have hj := (List.getElem?_eq_some_iff.mp hy).1
            have hyt := hut y (List.mem_of_getElem? hy)
            walk_at "gi"
            walk_at "ls"
            refine ⟨y, 30, _, rfl, by omega, by decide, hS, fun H hS => ?_⟩
            exact lc_keep hS (dat_o _) (by walk_at "sub") (by rw [sizeLine_eq]; omega) (hk _ rfl)
          rw [flat_map (fun y => oD (numIn 30 y)), show (us.map fun y => oD (numIn 30 y)) = (us.map fun y => numIn 30 y).map oD by rw [List.map_map]; rfl] at hS
          walk_at "s"
          refine k_inN hS (by walk_at "mem") ?_
          rw [nums_any]
          cases hn : us.mapM (numIn 30) with
          | none =>
            rw [hn] at q
            refine ⟨_, rfl, ?_⟩
            rw [if_pos (by rfl)]
            walk_at "s"
            exact q _ _ (Ls.Sep.nonM (Sub.ok (by walk_at "sub") hS))
          | some ns =>
            rw [hn] at q
            refine ⟨_, rfl, ?_⟩
            rw [if_neg (by exact Bool.false_ne_true)]
            rw [nums_some hn] at hS
            have hnl := mapM_len2 hn
            rw [hus, List.length_cons, List.length_cons] at hnl
            match ns, hS, q, hnl with
            | n0 :: t :: ws, hS, q, hnl =>
              dsimp only at q
              simp only [List.length_cons] at hnl
              walk_at "s"
              refine k_glstS hS (by walk_at "mem") (by rw [List.length_map, List.length_map]; show 2 ≤ ws.length + 1 + 1; omega) (by rw [List.length_map, List.length_map]; show ws.length + 1 + 1 ≤ _; omega) fun xs pv H hi2 hS => ?_
              have ex2 := ims_oi hi2
              subst ex2
              have e1 : (((n0 :: t :: ws).map some).map oV).take 2 ++ [V.ref pv] = [V.int n0, V.int t, V.ref pv] := rfl
              have e2 : (((n0 :: t :: ws).map some).map oD).drop 2 = ws.map PyData.int := by
                show (ws.map some).map oD = _
                rw [List.map_map]
                rfl
              rw [e1]
              rw [e2] at hS
              walk_at "s"
              exact q _ _ (Sub.ok (by show Sub _ (im (V.ref _) (PyData.tuple [.str "event", .int n0, .int t, .str s, .tuple (ws.map PyData.int)]) :: L); walk_at "sub") hS)
theorem ok_fits {P : Program} {w : World} {K : PySem.W.Frag} {mg : Str → Option Value} {base : Heap} (E : Env K mg) : FnOk P w K mg base CX0 1 E.a_fits E.fd_fits ["thing", "ahead", "due"] (spFits K) := by
  refine E.F_fits.ok sc_fits (fun vs H Q E h => ?_) (fun cdv A outer s H vs Q E' hr h => ?_)
  · walk_at "hl"
  · have hu := huOf hr
    obtain ⟨a, b, due, t, ts, L, rfl, hS, ha, hb, hl, rfl, q⟩ := h
    refine ⟨_, PSs.nox (pss_cons (ps_if (pt_cmpR (op_eqU K rfl hu) (pe_ix (ix_U K rfl) (pv 0) pe_int (fun _ _ => rfl)) pe_str (nomark _)) (pss_one (ps_ret pe_bl)) pss_nil)
(pss_cons (ps_setLc (i := 3) (own := [("one", 4)]) rfl sc_fits.nd rfl rfl (sw_true rfl rfl rfl (by decide +kernel)) (pi_seqU K rfl (pv 1)) (blkOk_by (N := ["thing", "ahead", "due", "times", "one"]) (sc := defScope s_fits) (by decide +kernel)) (fun _ _ _ _ _ => (pg_name (i := 4) sc_fits.nd rfl (Or.inl rfl))) (fun _ _ _ _ _ => (pts_one (pt_cmpR (op_eqU K rfl hu) (pe_ix (ix_U K rfl) (pv 4) pe_int (fun _ _ => rfl)) pe_str (nomark _)))) (fun _ _ _ _ _ => (pe_ix (ix_U K rfl) (pv 4) pe_int (fun _ _ => rfl))))
(pss_one (ps_ret (pe_and (pe_cmpR (op_eqU K rfl hu) (pe_ix (ix_U K rfl) (pv 0) pe_int (fun _ _ => rfl)) (pv 2) (nomark _)) (pe_one (pe_or (pe_cmpR (op_eqZ K rfl hu) (pv 3) (pe_lst pa_nil) (nomark _)) (pe_one (pe_cmpR (op_le) (pe_ix (ix_U K rfl) (pv 3) (pe_un un_neg pe_int) (fun _ _ => rfl)) (pe_ix (ix_U K rfl) (pv 0) pe_int (fun _ _ => rfl)) (nomark _)))))))))), ?_⟩
    refine k_body (s1 := some _ :: some _ :: some _ :: [none, none]) rfl ?_
    cases t with
    | lost n =>
      dsimp only [Dm.D] at ha
      rw [decide_eq_true (show FitsD (.lost n) ts from trivial)] at q
      walk_at "s"
      rw [if_pos (by decide +kernel)]
      walk_at "s"
      exact q _ hS
    | ev xp xt s vs =>
      dsimp only [Dm.D] at ha
      walk_at "s"
      rw [if_neg (by decide +kernel)]
      walk_at "s"
      rename Addr => pt
      refine lc_flat (zs := ts) tmL hS (fun acc => wk_ldm (f := Dm.D) (by walk_at "mem")) (fun j z acc hz hk hk2 la => ?_) (fun H hS => ?_) tmL_le
      · clear hS
        have hj := (List.getElem?_eq_some_iff.mp hz).1
        cases z with
        | lost n =>
          dsimp only [Dm.D]
          walk_at "gi"
          walk_at "ls"
          rw [if_neg (by decide +kernel)]
          exact lc_skip hS (by walk_at "sub") (hk2 rfl)
        | ev yp yt z2 ws =>
          dsimp only [Dm.D]
          walk_at "gi"
          walk_at "ls"
          rw [if_pos (by decide +kernel)]
          walk_at "s"
          exact lc_keep hS (d := .int yt) (.int _) (by walk_at "sub") (by rw [sizeLine_eq]; omega) (hk _ rfl)
      rw [tmL_flat] at hS
      walk_at "s"
      by_cases hp : xp = dueD ts
      case neg =>
        rw [decide_eq_false (fun h : FitsD (.ev xp xt s vs) ts => hp h.1)] at q
        rw [if_neg (by rw [decide_eq_false hp]; exact Bool.false_ne_true)]
        walk_at "s"
        exact q _ (Sub.ok (by walk_at "sub") hS)
      rw [if_pos (decide_eq_true hp)]
      walk_at "s"
      rcases List.eq_nil_or_concat (tmsD ts) with e | ⟨ys, y, e⟩
      · rw [decide_eq_true (show FitsD (.ev xp xt s vs) ts from ⟨hp, fun y hy => by rw [e] at hy; cases hy⟩)] at q
        rw [e, if_pos (by rfl)]
        exact q _ (Sub.ok (by walk_at "sub") hS)
      · rw [List.concat_eq_append] at e
        have hd : decide (FitsD (.ev xp xt s vs) ts) = decide (y ≤ xt) := decide_eq_decide.mpr ⟨fun h => h.2 y (by rw [e]; exact List.getLast?_concat ..), fun h => ⟨hp, fun y2 hy => by
          rw [e, List.getLast?_concat] at hy
          cases hy
          exact h⟩⟩
        rw [hd] at q
        have a1 : atI ((tmsD ts).map PyData.int) (-1) = some (.int y) := by
          rw [e, List.map_append]
          exact atm _ _
        rw [if_neg (by rw [decide_eq_false (by rw [e]; simp)]; exact Bool.false_ne_true)]
        walk_at "s"
        exact q _ (Sub.ok (by walk_at "sub") hS)
end Lw
namespace Ls
open PySem PySem.Spec PyProof.Rows L2 TL
def spRows (K : PySem.W.Frag) : Sp := fun vs H Q _ => ∃ (z : Str) (L : List (As K)), vs = [.str z] ∧ Tz z ∧ Ls.Sep L H ∧ ∀ p q H', Ls.Sep (tu p [.ref q, oV (wrongO (rdRows z).2)] :: Ls.ld q ((rdRows z).1.map Dm.D) :: L) H' → Q (.ref p) H'
def spReadX (K : PySem.W.Frag) (CB : Addr) : Sp := fun vs H Q E => ∃ (z : Str) (L : List (As K)), vs = [.str z] ∧ Tz z ∧ Ls.Sep L H ∧ ((rdRows z).2 = none → ∀ q H', Ls.Sep (Ls.ld q ((rdRows z).1.map Dm.D) :: L) H' → Q (.ref q) H') ∧ (∀ i, (rdRows z).2 = some i → LetsA L CB "row" "baddump" (.int (i : Nat)) E)
def spMend (K : PySem.W.Frag) : Sp := fun vs H Q _ => ∃ (z : Str) (L : List (As K)), vs = [.str z] ∧ Tz z ∧ Ls.Sep L H ∧ ∀ q H', Ls.Sep (Ls.ld q ((rdRows z).1.map Dm.D) :: L) H' → Q (.ref q) H'
theorem rdGo_cons {r : Str} {rs : List Str} {ts : List Dm} {i : Nat} {t : Dm} (h : rdThing r = some t) (f : FitsD t ts) : rdGo (r :: rs) ts i = rdGo rs (ts ++ [t]) (i + 1) := by
  rw [rdGo, h]
  exact if_pos f
theorem rdGo_none {r : Str} {rs : List Str} {ts : List Dm} {i : Nat} (h : rdThing r = none) : rdGo (r :: rs) ts i = (ts, some i) := by
  rw [rdGo, h]
theorem rdGo_no {r : Str} {rs : List Str} {ts : List Dm} {i : Nat} {t : Dm} (h : rdThing r = some t) (f : ¬ FitsD t ts) : rdGo (r :: rs) ts i = (ts, some i) := by
  rw [rdGo, h]
  exact if_neg f
theorem rdRows_some {z : Str} {ts : List Dm} {i : Nat} (h : rdGo (Txt.split z "\n").dropLast [] 0 = (ts, some i)) : rdRows z = (ts, some i) := by
  unfold rdRows
  rw [h]
theorem rdRows_none {z : Str} {ts : List Dm} (h : rdGo (Txt.split z "\n").dropLast [] 0 = (ts, none)) : rdRows z = (ts, if (Txt.split z "\n").getLast? = some ("" : Str) then none else some ((Txt.split z "\n").length - 1)) := by
  unfold rdRows
  rw [h]
theorem mem_dropLast {α : Type} {l : List α} {x : α} (h : x ∈ l.dropLast) : x ∈ l := by
  rw [List.dropLast_eq_take] at h
  exact List.mem_of_mem_take h
end Ls
namespace Lw
open PySem PySem.Spec PyProof.Rows L2 Ls
theorem ok_rows_read {P : Program} {w : World} {K : PySem.W.Frag} {mg : Str → Option Value} {base : Heap} (E : Env K mg) : FnOk P w K mg base CX0 4 E.a_rows_read E.fd_rows_read ["text"] (spRows K) := by
  refine E.F_rows_read.ok sc_rows_read (fun vs H Q E h => ?_) (fun cdv A outer s H vs Q E' hr h => ?_)
  · walk_at "hl"
  · have hu := huOf hr
    have G_thing_in := ok_thing_in (P := P) (w := w) (base := base) E
    have hr_thing_in := hr.mono (show 3 ≤ 3 by decide)
    have b_thing_in := b_thing_in E
    have G_fits := ok_fits (P := P) (w := w) (base := base) E
    have hr_fits := hr.mono (show 1 ≤ 3 by decide)
    have b_fits := b_fits E
    obtain ⟨z, L, rfl, hz, hS, q⟩ := h
    refine ⟨_, PSs.nox (pss_cons (ps_set (i := 1) sc_rows_read.nd rfl (Or.inl rfl) (pe_splitU (pv 0) pe_str))
(pss_cons (ps_set (i := 2) sc_rows_read.nd rfl (Or.inl rfl) (pe_lst pa_nil))
(pss_cons (ps_set (i := 3) sc_rows_read.nd rfl (Or.inl rfl) pe_int)
(pss_cons (ps_for PassesOwn.never rfl (pi_enumU K rfl rfl E.n_enumerate (pa_cons (pe_slice (sl_U K rfl) (pv 1) po_none (po_some (pe_un un_neg pe_int))) pa_nil)) (kGTup (n := 2) K rfl (pg_tup rfl (pgs_cons (pg_name (i := 4) sc_rows_read.nd rfl (Or.inl rfl)) (pgs_cons (pg_name (i := 5) sc_rows_read.nd rfl (Or.inl rfl)) pgs_nil))))
(pss_cons (ps_set (i := 6) sc_rows_read.nd rfl (Or.inl rfl) (pe_call G_thing_in hr_thing_in rfl E.g_thing_in E.F_thing_in.kp b_thing_in .nil pass0 (pa_cons (pv 5) pa_nil)))
(pss_cons (ps_if (PW.pt (pw_or (pt_cmpR (op_isU) (pv 6) pe_non (nomark _)) (pw_or1 (pt_not (pt_val (pe_call G_fits hr_fits rfl E.g_fits E.F_fits.kp b_fits .nil pass0 (pa_cons (pv 6) (pa_cons (pv 2) (pa_cons (pv 3) pa_nil))))))))) (pss_one (ps_ret (pe_tup (pa_cons (pv 2) (pa_cons (pv 4) pa_nil))))) pss_nil)
(pss_cons (ps_expr (kBM K rfl (pe_bm PySem.F.plainAttrs_list PySem.F.slot_list_append PySem.F.type_list_append mt_append (pv 2) (pa_cons (pv 6) pa_nil))))
(pss_one (ps_aug (i := 3) sc_rows_read.nd rfl (Or.inl rfl) (pe_join (pe_ifExp (pt_cmpR (op_eqU K rfl hu) (pe_ix (ix_U K rfl) (pv 6) pe_int (fun _ _ => rfl)) pe_str (nomark _)) (pe_ix (ix_U K rfl) (pv 6) pe_int (fun _ _ => rfl)) pe_int)) ip_add))))))
(pss_cons (ps_set (i := 7) sc_rows_read.nd rfl (Or.inl rfl) (pe_join (pe_ifExp (pt_cmpR (op_eqU K rfl hu) (pe_ix (ix_U K rfl) (pv 1) (pe_un un_neg pe_int) (fun _ _ => rfl)) pe_str (nomark _)) pe_non (pe_op op_sub (pe_callB (call_lenU K rfl) (by rfl) E.n_len boot_len (pa_cons (pv 1) pa_nil)) pe_int))))
(pss_one (ps_ret (pe_tup (pa_cons (pv 2) (pa_cons (pv 7) pa_nil)))))))))), ?_⟩
    refine k_body (s1 := some _ :: [none, none, none, none, none, none, none]) rfl ?_
    have hf := split_facts (z := z) (y := "\n") (s := 10) rfl (by decide +kernel)
    have htz := split_tz (z := z) (y := "\n") (s := 10) rfl (by decide +kernel) hz
    have hz1 := hz.1
    have hrs := @rdRows_some z
    have hrn := @rdRows_none z
    walk_at "s"
    refine k_splitU ?_
    walk_at "s"
    refine ⟨z, "\n", rfl, rfl, by decide +kernel, by rw [sizeLine_eq]; omega, k_newStrs hS fun pr H hS => ?_⟩
    generalize Txt.split z "\n" = rows at *
    obtain ⟨h1, h2, _⟩ := hf
    walk_at "s"
    rename_i pf _
    rename Addr => prw
    rw [cutD_ini2, show (List.map PyData.str rows).dropLast = rows.dropLast.map PyData.str from (List.map_dropLast ..).symm] at hS
    have hdl : rows.dropLast.length ≤ 90000 := by rw [List.length_dropLast]; omega
    refine for_wk (L := Ls.ld pf [] :: Ls.ld prw (rows.dropLast.map PyData.str) :: Ls.ld pr (rows.map PyData.str) :: L) (n := rows.dropLast.length) (Y := fun i q => ∀ z T, rows.dropLast[i]? = some z → q (.ref T) [im (.ref T) (.tuple [.int (i : Nat), .str z])]) (fun i σ L' => ∃ (ts : List Dm) (c4 c5 c6 : Option V), L' = Ls.ld pf (ts.map Dm.D) :: Ls.ld prw (rows.dropLast.map PyData.str) :: Ls.ld pr (rows.map PyData.str) :: L ∧ rdGo rows.dropLast [] 0 = rdGo (rows.dropLast.drop i) ts i ∧ ts.length ≤ i ∧ σ = [some (.str z), some (.ref pr), some (.ref pf), some (.int (dueD ts)), c4, c5, c6, none]) (fun i σ L' e => by obtain ⟨ts, c4, c5, c6, rfl, _⟩ := e; exact wk_enD (f := PyData.str) (by walk_at "mem")) (Sub.ok (by walk_at "sub") hS) ⟨[], _, _, _, rfl, rfl, Nat.le_refl _, rfl⟩ (fun i σ L' hi iv r T hr H hS => ?_) (fun σ L' H iv hS9 => ?_)
    · obtain ⟨ts, c4, c5, c6, rfl, eg, hts, rfl⟩ := iv
      have hrt := htz r (mem_dropLast (List.mem_of_getElem? hr))
      have ed : rows.dropLast.drop i = r :: rows.dropLast.drop (i + 1) := by
        obtain ⟨e1, e2⟩ := List.getElem?_eq_some_iff.mp hr
        rw [← e2]
        exact List.drop_eq_getElem_cons e1
      rw [ed] at eg
      walk_at "ns"
      walk_at "s"
      refine ⟨r, _, rfl, hrt, hS, fun v H hS => ?_⟩
      walk_at "s"
      cases ht : rdThing r with
      | none =>
        rw [ht] at hS
        obtain ⟨hv, hS2⟩ := Sep.im_iff.mp hS
        cases im_non hv
        rw [rdGo_none ht] at eg
        have er := hrs eg
        rw [er] at q
        dsimp only [wrongO, Option.map, oV] at q
        rw [if_pos (by decide), if_pos rfl]
        walk_at "s"
        exact q _ _ _ (Sub.ok (by walk_at "sub") hS)
      | some t =>
        rw [ht] at hS
        obtain ⟨ds, ed2⟩ := Dm.ref t
        have hS3 := hS
        rw [show oM (some t) = t.D from rfl, ed2] at hS3
        obtain ⟨pt, rfl⟩ := im_isRef (v := v) hS3 (by walk_at "mem")
        clear hS3
        replace hS : Ls.Sep (im (.ref pt) t.D :: _) H := hS
        rw [if_neg (by simp)]
        walk_at "s"
        refine ⟨pt, pf, dueD ts, t, ts, _, rfl, hS, by walk_at "mem", by walk_at "mem", by omega, rfl, fun H hS => ?_⟩
        refine ⟨_, rfl, ?_⟩
        by_cases hft : FitsD t ts
        case neg =>
          rw [rdGo_no ht hft] at eg
          have er := hrs eg
          rw [er] at q
          dsimp only [wrongO, Option.map, oV] at q
          rw [decide_eq_false hft, if_pos (by rfl)]
          walk_at "s"
          exact q _ _ _ (Sub.ok (by walk_at "sub") hS)
        rw [rdGo_cons ht hft] at eg
        rw [decide_eq_true hft, if_neg (by decide)]
        have hsz : (ts.map Dm.D).length < sizeLine := by rw [List.length_map, sizeLine_eq]; omega
        have hd := dueD_step ts t
        have em : (ts ++ [t]).map Dm.D = ts.map Dm.D ++ [t.D] := by rw [List.map_append]; rfl
        walk_at "s"
        cases t with
        | lost n =>
          have e9 : (Dm.lost n).D = .tuple [.str "lost", .int n] := rfl
          rw [e9] at hS em
          walk_at "s"
          refine k_nojoin ?_
          walk_at "s"
          rw [if_pos (by decide +kernel)]
          walk_at "s"
          refine ⟨_, ⟨ts ++ [.lost n], _, _, _, rfl, eg, by rw [List.length_append]; show ts.length + 1 ≤ i + 1; omega, by rw [hd]; rfl⟩, ?_⟩
          rw [em]
          exact Sub.ok (by walk_at "sub") hS
        | ev xp xt s vs =>
          have e9 : (Dm.ev xp xt s vs).D = .tuple [.str "event", .int xp, .int xt, .str s, .tuple (vs.map PyData.int)] := rfl
          rw [e9] at hS em
          walk_at "s"
          refine k_nojoin ?_
          walk_at "s"
          rw [if_neg (by decide +kernel)]
          walk_at "s"
          refine ⟨_, ⟨ts ++ [.ev xp xt s vs], _, _, _, rfl, eg, by rw [List.length_append]; show ts.length + 1 ≤ i + 1; omega, by rw [hd]; rfl⟩, ?_⟩
          rw [em]
          exact Sub.ok (by walk_at "sub") hS
    obtain ⟨ts, c4, c5, c6, rfl, eg, hts, rfl⟩ := iv
    have hS := hS9
    rw [List.drop_of_length_le (Nat.le_refl _), rdGo] at eg
    have er := hrn eg
    rw [er] at q
    walk_at "s"
    obtain ⟨l0, x, el⟩ : ∃ l0 x, rows = l0 ++ [x] := ⟨rows.dropLast, rows.getLast h2, (List.dropLast_concat_getLast h2).symm⟩
    have a1 : atI (rows.map PyData.str) (-1) = some (.str x) := by
      rw [el, List.map_append]
      exact atm _ _
    have egl : rows.getLast? = some x := by rw [el, List.getLast?_concat]
    rw [egl] at q
    refine k_nojoin ?_
    walk_at "s"
    by_cases hx : x = ("" : Str)
    · rw [if_pos (by rw [hx])] at q
      dsimp only [wrongO, Option.map, oV] at q
      rw [if_pos (decide_eq_true hx)]
      walk_at "s"
      exact q _ _ _ (Sub.ok (by walk_at "sub") hS)
    · rw [if_neg (fun e => hx (Option.some.inj e))] at q
      dsimp only [wrongO, Option.map, oV] at q
      rw [if_neg (by rw [decide_eq_false hx]; exact Bool.false_ne_true)]
      walk_at "s"
      rw [List.length_map] at hS
      have e1 : ((rows.length : Nat) : Int) - 1 = ((rows.length - 1 : Nat) : Int) := by rw [el, List.length_append, List.length_singleton]; omega
      rw [e1] at hS
      exact q _ _ _ (Sub.ok (by walk_at "sub") hS)
theorem okI_ScribeError {P : Program} {w : World} {K : PySem.W.Frag} {mg : Str → Option Value} {base : Heap} (E : Env K mg) : FnOk P w K mg base CX0 1 E.fi_ScribeError E.fdi_ScribeError ["self", "word"] (spInit1 K) := by
  refine E.FI_ScribeError.ok sc_ScribeError___init__ (fun vs H Q E h => ?_) (fun cdv A outer s H vs Q E' hr h => ?_)
  · obtain ⟨a, C, w, rfl, _⟩ := h
    rfl
  · obtain ⟨a, C, w, rfl, T, no, ha, q⟩ := h
    refine ⟨_, PSs.nox (pss_cons (ps_expr (pe_veinit rfl E.n_ValueError E.vei (pa_cons (pv 0) (pa_cons (pv 1) pa_nil))))
(pss_one (ps_ost (pv 0) (pv 1)))), ?_⟩
    refine k_body (s1 := [some (.ref a), some (.str w)]) rfl ?_
    walk_at "w"
    refine ⟨a, C, [.str w], rfl, by show 1 ≤ 1000; omega, T, ha, ?_⟩
    walk_at "w"
    exact ⟨a, C, rfl, T, no, .inl ⟨ha, fun dx h1 h2 => q dx h1 h2⟩⟩
theorem okI_BadDump {P : Program} {w : World} {K : PySem.W.Frag} {mg : Str → Option Value} {base : Heap} (E : Env K mg) : FnOk P w K mg base CX0 2 E.fi_BadDump E.fdi_BadDump ["self", "row"] (spInitA K "row" "baddump") := by
  refine E.FI_BadDump.ok sc_BadDump___init__ (fun vs H Q E h => ?_) (fun cdv A outer s H vs Q E' hr h => ?_)
  · obtain ⟨a, C, y, rfl, _⟩ := h
    rfl
  · obtain ⟨a, C, y, rfl, T, no, nf, ha, q⟩ := h
    have GI_ScribeError := okI_ScribeError (P := P) (w := w) (base := base) E
    have hrI_ScribeError := hr.mono (show 1 ≤ 1 by decide)
    have bI_ScribeError := bI_ScribeError E
    refine ⟨_, PSs.nox (pss_cons (ps_expr (pe_cfn (pe_glob (v := .ref E.C_ScribeError) rfl E.g_ScribeError rfl) E.r_ScribeError E.v_ScribeError E.FI_ScribeError.kp GI_ScribeError hrI_ScribeError bI_ScribeError pass0 (pa_cons (pv 0) (pa_cons pe_str pa_nil))))
(pss_one (ps_ost (pv 0) (pv 1)))), ?_⟩
    refine k_body (s1 := [some (.ref a), some y]) rfl ?_
    walk_at "w"
    refine ⟨rfl, ?_⟩
    walk_at "w"
    refine ⟨a, C, _, rfl, T, no, ha, fun dx h1 h2 => ?_⟩
    walk_at "w"
    refine ⟨a, C, rfl, T, nf, .inr ⟨dx, [("word", .str "baddump")], upd_same, ?_, by show 1 ≤ 900; decide, ?_⟩⟩
    · rw [upd_ne h2]
      exact upd_same
    · walk_at "w"
      exact q dx h1 h2
theorem okX_read_dump {P : Program} {w : World} {K : PySem.W.Frag} {mg : Str → Option Value} {base : Heap} (E : Env K mg) : FnOk P w K mg base (L2.CX P w) 8 E.a_read_dump E.fd_read_dump ["text"] (spReadX K E.C_BadDump) := by
  refine E.F_read_dump.ok sc_read_dump (fun vs H Q E h => ?_) (fun cdv A outer s H vs Q E' hr h => ?_)
  · walk_at "hl"
  · have hu := huOf hr
    have G_rows_read := ok_rows_read (P := P) (w := w) (base := base) E
    have hr_rows_read := hr.mono (show 4 ≤ 7 by decide)
    have b_rows_read := b_rows_read E
    have GI_BadDump := okI_BadDump (P := P) (w := w) (base := base) E
    have hrI_BadDump := hr.mono (show 3 ≤ 7 by decide)
    have bI_BadDump := bI_BadDump E
    obtain ⟨z, L, rfl, hz, hS, q1, q2⟩ := h
    refine ⟨_, (pss_cons (ps_asg (pe_call G_rows_read hr_rows_read rfl E.g_rows_read E.F_rows_read.kp b_rows_read .nil pass0 (pa_cons (pv 0) pa_nil)) (kGTup (n := 2) K rfl (pg_tup rfl (pgs_cons (pg_name (i := 1) sc_read_dump.nd rfl (Or.inl rfl)) (pgs_cons (pg_name (i := 2) sc_read_dump.nd rfl (Or.inl rfl)) pgs_nil)))))
(pss_cons (ps_if (pt_cmpR (op_isnotU) (pv 2) pe_non (nomark _)) (pss_one (ps_raise rfl (takes_of rfl rfl rfl rfl) (pmk_oex E.o_BadDump E.i_BadDump E.t_BadDump GI_BadDump hrI_BadDump bI_BadDump .nil pass0 rfl E.g_BadDump (pa_cons (pv 2) pa_nil)))) pss_nil)
(pss_one (ps_ret (pv 1))))), ?_⟩
    refine k_body (s1 := some _ :: [none, none]) rfl ?_
    walk_at "s"
    refine ⟨z, _, rfl, hz, hS, fun p pq H hS => ?_⟩
    walk_at "s"
    cases e : (rdRows z).2 with
    | none =>
      rw [e] at hS
      dsimp only [wrongO, Option.map, oV] at hS
      rw [if_neg (by decide)]
      walk_at "s"
      exact q1 e _ _ (Sub.ok (by walk_at "sub") hS)
    | some i =>
      rw [e] at hS
      dsimp only [wrongO, Option.map, oV] at hS
      rw [if_pos (by rfl)]
      show tMkO _ _ _ _ [some (.str z), some (.ref pq), some (.int (i : Nat))] _ _
      refine k_mk ?_
      walk_at "s"
      exact raise_letsA E.o_BadDump E.w_BadDump E.f_BadDump hS ((q2 i e).sub (by walk_at "sub"))
theorem ok_mended {P : Program} {w : World} {K : PySem.W.Frag} {mg : Str → Option Value} {base : Heap} (E : Env K mg) : FnOk P w K mg base CX0 5 E.a_mended E.fd_mended ["text"] (spMend K) := by
  refine E.F_mended.ok sc_mended (fun vs H Q E h => ?_) (fun cdv A outer s H vs Q E' hr h => ?_)
  · walk_at "hl"
  · have hu := huOf hr
    have G_rows_read := ok_rows_read (P := P) (w := w) (base := base) E
    have hr_rows_read := hr.mono (show 4 ≤ 4 by decide)
    have b_rows_read := b_rows_read E
    obtain ⟨z, L, rfl, hz, hS, q⟩ := h
    refine ⟨_, PSs.nox (pss_one (ps_ret (pe_ix (ix_U K rfl) (pe_call G_rows_read hr_rows_read rfl E.g_rows_read E.F_rows_read.kp b_rows_read .nil pass0 (pa_cons (pv 0) pa_nil)) pe_int (fun _ _ => rfl)))), ?_⟩
    refine k_body (s1 := some _ :: []) rfl ?_
    walk_at "s"
    refine ⟨z, _, rfl, hz, hS, fun p pq H hS => ?_⟩
    walk_at "s"
    exact q _ _ (Sub.ok (by walk_at "sub") hS)
end Lw
namespace Ls
open PySem PySem.Spec PyProof.Rows L2 LamX
end Ls
namespace Lw
open PySem PySem.Spec PyProof.Rows L2 Ls LamX
theorem ok__law_is_name {P : Program} {w : World} {K : PySem.W.Frag} {mg : Str → Option Value} {base : Heap} (E : Env K mg) : FnOk P w K mg base CX0 1 E.a__law_is_name E.fd__law_is_name ["_law_text"] (spIsName K) := by
  refine E.F__law_is_name.ok sc__law_is_name (fun vs H Q E h => ?_) (fun cdv A outer s H vs Q E' hr h => ?_)
  · walk_at "hl"
  · have hu := huOf hr
    obtain ⟨z, L, rfl, hz, hS, q⟩ := h
    refine ⟨_, PSs.nox (pss_one (ps_ret (pe_and (pe_chain op_le op_le pe_int (pe_callB (call_lenU K rfl) (by rfl) E.n_len boot_len (pa_cons (pv 0) pa_nil)) pe_int) (pe_one (pe_callB (cr_allU K rfl rfl) (by rfl) E.n_all boot_all (pa_cons (pe_lc (own := [("_law_sign", 1)]) rfl sc__law_is_name.nd (pi_str (pv 0)) (blkOk_by (N := ["_law_text", "_law_sign"]) (sc := defScope s__law_is_name) (by decide +kernel)) (fun _ _ _ _ _ => (pg_name (i := 1) sc__law_is_name.nd rfl (Or.inl rfl))) (fun _ _ _ _ _ => pts_nil) (fun _ _ _ _ _ => (pe_cmpR (op_inU K rfl hu) (pv 1) pe_str (by with_unfolding_all rfl)))) pa_nil)))))), ?_⟩
    refine k_body (s1 := some _ :: [none]) rfl ?_
    walk_at "s"
    refine k_lenS (by rw [sizeLine_eq]; omega) ?_
    walk_at "s"
    by_cases h1 : 1 ≤ z.length
    · walk_at "s"
      by_cases h2 : z.length ≤ 8
      · walk_at "s"
        refine lc_flat (zs := z.cps.toList) (fun c => [PyData.bool (decide (IsSg c))]) hS (fun acc => wk_str) (fun i c acc hc hk _ la H hS => ?_) (fun H hS => ?_)
        · walk_at "ls"
          have e : decide (c ∈ ("abcdefghijklmnopqrstuvwxyz" : Str).cps.toList) = decide (IsSg c) := by
            have : ∀ k : Fin 26, k.val + 97 ∈ ("abcdefghijklmnopqrstuvwxyz" : Str).cps.toList := by decide +kernel
            have h2 : ∀ c ∈ ("abcdefghijklmnopqrstuvwxyz" : Str).cps.toList, IsSg c := by decide +kernel
            refine decide_eq_decide.mpr ⟨h2 c, fun h => ?_⟩
            have := this ⟨c - 97, by omega⟩
            rwa [show c - 97 + 97 = c by omega] at this
          rw [e]
          refine lc_keep hS (.bl _) .refl ?_ (hk _ rfl)
          have := (List.getElem?_eq_some_iff.mp hc).1
          rw [sizeLine_eq]
          rw [← len_toList] at this
          omega
        · rw [flat_map] at hS
          refine k_allS hS List.mem_cons_self ?_
          have e : z.cps.toList.all (fun c => decide (IsSg c)) = decide (IsNm z) := by
            rw [Bool.eq_iff_iff, List.all_eq_true, decide_eq_true_eq]
            exact ⟨fun h => ⟨h1, h2, fun c hc => of_decide_eq_true (h c hc)⟩, fun h c hc => decide_eq_true (h.2.2 c hc)⟩
          rw [e]
          exact q _ hS.tail
      · have e : decide (IsNm z) = false := decide_eq_false fun h => h2 h.2.1
        rw [e] at q
        walk_at "s"
        exact q _ hS
    · have e : decide (IsNm z) = false := decide_eq_false fun h => h1 h.1
      rw [e] at q
      walk_at "s"
      exact q _ hS
end Lw
namespace Ls
open PySem PySem.Spec PyProof.Rows L2 TL
def oneR : List Str → Option Int
  | [x] => numIn 30 x
  | _ => none
def lostO : Option Int → Option Dm
  | some n => if 0 < n then some (.lost n) else none
  | none => none
theorem rdLost_one (r : List Str) : rdLost r = lostO (oneR r) := by
  match r with
  | [] => rfl
  | _ :: _ :: _ => rfl
  | [x] => rfl
end Ls
namespace Lw
open PySem PySem.Spec PyProof.Rows L2 Ls
theorem ok__law_number_in {P : Program} {w : World} {K : PySem.W.Frag} {mg : Str → Option Value} {base : Heap} (E : Env K mg) : FnOk P w K mg base CX0 1 E.a__law_number_in E.fd__law_number_in ["_law_text", "_law_most"] (spNumIn K) := by
  refine E.F__law_number_in.ok sc__law_number_in (fun vs H Q E h => ?_) (fun cdv A outer s H vs Q E' hr h => ?_)
  · walk_at "hl"
  · have hu := huOf hr
    obtain ⟨z, most, L, rfl, hz, hm, hS, q⟩ := h
    refine ⟨_, PSs.nox (pss_cons (ps_set (i := 2) sc__law_number_in.nd rfl (Or.inl rfl) (pe_join (pe_ifExp (pt_cmpR (op_eqU K rfl hu) (pe_slice (sl_U K rfl) (pv 0) po_none (po_some pe_int)) pe_str (nomark _)) (pe_slice (sl_U K rfl) (pv 0) (po_some pe_int) po_none) (pv 0))))
(pss_cons (ps_if (PW.pt (pw_or (pt_not (pt_chain op_le op_le pe_int (pe_callB (call_lenU K rfl) (by rfl) E.n_len boot_len (pa_cons (pv 2) pa_nil)) (pv 1))) (pw_or1 (pt_not (pt_val (pe_callB (cr_allU K rfl rfl) (by rfl) E.n_all boot_all (pa_cons (pe_lc (own := [("_law_sign", 3)]) rfl sc__law_number_in.nd (pi_str (pv 2)) (blkOk_by (N := ["_law_text", "_law_most", "_law_figures", "_law_sign"]) (sc := defScope s__law_number_in) (by decide +kernel)) (fun _ _ _ _ _ => (pg_name (i := 3) sc__law_number_in.nd rfl (Or.inl rfl))) (fun _ _ _ _ _ => pts_nil) (fun _ _ _ _ _ => (pe_cmpR (op_inU K rfl hu) (pv 3) pe_str (by with_unfolding_all rfl)))) pa_nil))))))) (pss_one (ps_ret pe_non)) pss_nil)
(pss_one (ps_ret (pe_join (pe_ifExp (PW.pt (pw_and (pt_cmpR (op_eqU K rfl hu) (pe_ix (ix_U K rfl) (pv 2) pe_int (fun _ _ => rfl)) pe_str (nomark _)) (pw_and1 (pt_cmpR (op_neU K rfl hu) (pv 0) pe_str (nomark _))))) pe_non (pe_callTy (call_int_str) (by rfl) E.n_int boot_int (pa_cons (pv 0) pa_nil)))))))), ?_⟩
    refine k_body (s1 := some _ :: some _ :: [none, none]) rfl ?_
    walk_at "s"
    refine k_joinS (fun v (M : List (As K)) => v = V.str (figs z) ∧ M = L) ?_ ?_
    · walk_at "s"
      refine k_slStr (by rw [sizeLine_eq]; omega) ?_
      walk_at "s"
      by_cases e : cutS z none (some 1) = ("-" : Str)
      · have ef : figs z = cutS z (some 1) none := if_pos e
        rw [if_pos (decide_eq_true e)]
        walk_at "s"
        refine k_slStr (by rw [sizeLine_eq]; omega) ?_
        exact ⟨_, ⟨by rw [ef], rfl⟩, hS⟩
      · have ef : figs z = z := if_neg e
        rw [if_neg (by rw [decide_eq_false e]; exact Bool.false_ne_true)]
        walk_at "s"
        exact ⟨_, ⟨by rw [ef], rfl⟩, hS⟩
    rintro _ M H ⟨rfl, hM⟩ hS
    rw [hM] at hS
    have hfl := figs_len z
    walk_at "s"
    refine k_lenS (by rw [sizeLine_eq]; omega) ?_
    walk_at "s"
    have no : ¬ FigOk most z → numIn most z = none := fun h => if_neg h
    by_cases h1 : 1 ≤ (figs z).length
    · walk_at "s"
      by_cases h2 : ((figs z).length : Int) ≤ most
      · walk_at "s"
        rename Addr => pl
        refine lc_flat (zs := (figs z).cps.toList) (fun c => [PyData.bool (decide (IsDg c))]) hS (fun acc => wk_str) (fun i c acc hc hk _ la H hS => ?_) (fun H hS => ?_)
        · walk_at "ls"
          rw [dg_mem]
          refine lc_keep hS (.bl _) .refl ?_ (hk _ rfl)
          have := (List.getElem?_eq_some_iff.mp hc).1
          have e2 : (figs z).cps.toList.length = (figs z).length := Array.length_toList
          rw [sizeLine_eq]
          omega
        rw [flat_map (fun c : Nat => PyData.bool (decide (IsDg c)))] at hS
        walk_at "s"
        refine k_allS (zs := (figs z).cps.toList) (f := fun c => decide (IsDg c)) hS (by walk_at "mem") ?_
        by_cases h3 : ∀ c ∈ (figs z).cps.toList, IsDg c
        · have ok : FigOk most z := ⟨by omega, h2, h3⟩
          rw [List.all_eq_true.mpr fun c hc => decide_eq_true (h3 c hc)]
          walk_at "s"
          refine k_nojoin ?_
          walk_at "s"
          obtain ⟨c, r, hcr⟩ : ∃ c r, (figs z).cps.toList = c :: r := by
            have e2 : (figs z).cps.toList.length = (figs z).length := Array.length_toList
            cases hl : (figs z).cps.toList with
            | nil => rw [hl] at e2; have : 0 = (figs z).length := e2; omega
            | cons c r => exact ⟨c, r, rfl⟩
          refine k_ixS (by rw [sizeLine_eq]; omega) (c := c) (by rw [hcr]; show atI (c :: r) ((0 : Nat) : Int) = some c; exact atI_nat rfl) ?_
          walk_at "s"
          obtain ⟨⟨n, hn⟩, hlen⟩ := fig_int ok hm
          by_cases h4 : c = 48
          · have e4 : (⟨#[c]⟩ : Str) = ("0" : Str) := by rw [h4]; rfl
            rw [if_pos (decide_eq_true e4)]
            walk_at "s"
            by_cases h5 : z = ("0" : Str)
            · have hq : numIn most z = some n := by
                unfold numIn
                rw [if_pos ok, if_neg fun y => y.2 h5]
                exact hn
              rw [hq] at q
              rw [if_neg (by rw [decide_eq_true h5]; exact Bool.false_ne_true)]
              walk_at "s"
              exact ⟨z, n, rfl, hn, hlen, q _ (Sub.ok (by walk_at "sub") hS)⟩
            · have hq : numIn most z = none := by
                unfold numIn
                rw [if_pos ok, if_pos ⟨by rw [hcr, h4]; rfl, h5⟩]
              rw [hq] at q
              rw [if_pos (by rw [decide_eq_false h5]; rfl)]
              walk_at "s"
              exact q _ (Sub.ok (by walk_at "sub") hS)
          · have e4 : ¬ (⟨#[c]⟩ : Str) = ("0" : Str) := fun e => h4 (by
              have := congrArg (fun s : Str => s.cps.toList) e
              have h6 : [c] = [48] := this
              exact (List.cons.inj h6).1)
            have hq : numIn most z = some n := by
              unfold numIn
              rw [if_pos ok, if_neg fun y => h4 (by have := y.1; rw [hcr] at this; exact Option.some.inj this)]
              exact hn
            rw [hq] at q
            rw [if_neg (by rw [decide_eq_false e4]; exact Bool.false_ne_true)]
            walk_at "s"
            exact ⟨z, n, rfl, hn, hlen, q _ (Sub.ok (by walk_at "sub") hS)⟩
        · have hb : (figs z).cps.toList.all (fun c => decide (IsDg c)) = false := by
            rw [List.all_eq_false]
            obtain ⟨c, hc, hn⟩ := Classical.not_forall.mp h3 |>.imp fun c h => Classical.not_imp.mp h
            exact ⟨c, hc, by rw [decide_eq_false hn]; exact Bool.false_ne_true⟩
          rw [hb]
          walk_at "s"
          rw [no fun h => h3 h.2.2] at q
          exact q _ (Sub.ok (by walk_at "sub") hS)
      · rw [if_pos (by rw [decide_eq_false h2]; rfl), if_pos rfl]
        walk_at "s"
        rw [no fun h => h2 h.2.1] at q
        exact q _ hS
    · rw [if_neg (by rw [decide_eq_false (by omega)]; exact Bool.false_ne_true)]
      walk_at "s"
      rw [no fun h => h1 (by have := h.1; omega)] at q
      exact q _ hS
theorem ok__law_thing_in {P : Program} {w : World} {K : PySem.W.Frag} {mg : Str → Option Value} {base : Heap} (E : Env K mg) : FnOk P w K mg base CX0 3 E.a__law_thing_in E.fd__law_thing_in ["_law_line"] (spThing K) := by
  refine E.F__law_thing_in.ok sc__law_thing_in (fun vs H Q E h => ?_) (fun cdv A outer s H vs Q E' hr h => ?_)
  · walk_at "hl"
  · have hu := huOf hr
    have G__law_number_in := ok__law_number_in (P := P) (w := w) (base := base) E
    have hr__law_number_in := hr.mono (show 1 ≤ 2 by decide)
    have b__law_number_in := b__law_number_in E
    have G__law_is_name := ok__law_is_name (P := P) (w := w) (base := base) E
    have hr__law_is_name := hr.mono (show 1 ≤ 2 by decide)
    have b__law_is_name := b__law_is_name E
    obtain ⟨z, L, rfl, hz, hS, q⟩ := h
    refine ⟨_, PSs.nox (pss_cons (ps_set (i := 1) sc__law_thing_in.nd rfl (Or.inl rfl) (pe_splitU (pv 0) pe_str))
(pss_cons (ps_if (pt_cmpR (op_eqU K rfl hu) (pe_ix (ix_U K rfl) (pv 1) pe_int (fun _ _ => rfl)) pe_str (nomark _)) (pss_cons (ps_set (i := 2) sc__law_thing_in.nd rfl (Or.inl rfl) (pe_join (pe_ifExp (pt_cmpR (op_eqU K rfl hu) (pe_callB (call_lenU K rfl) (by rfl) E.n_len boot_len (pa_cons (pv 1) pa_nil)) pe_int (nomark _)) (pe_call G__law_number_in hr__law_number_in rfl E.g__law_number_in E.F__law_number_in.kp b__law_number_in .nil pass0 (pa_cons (pe_ix (ix_U K rfl) (pv 1) pe_int (fun _ _ => rfl)) (pa_cons pe_int pa_nil))) pe_non)))
(pss_one (ps_ret (pe_join (pe_ifExp (PW.pt (pw_and (pt_cmpR (op_isnotU) (pv 2) pe_non (nomark _)) (pw_and1 (pt_cmpR (op_gt) (pv 2) pe_int (nomark _))))) (pe_tup (pa_cons pe_str (pa_cons (pv 2) pa_nil))) pe_non))))) pss_nil)
(pss_cons (ps_if (PW.pt (pw_or (pt_cmpR (op_neU K rfl hu) (pe_ix (ix_U K rfl) (pv 1) pe_int (fun _ _ => rfl)) pe_str (nomark _)) (pw_or (pt_cmpR (op_lt) (pe_callB (call_lenU K rfl) (by rfl) E.n_len boot_len (pa_cons (pv 1) pa_nil)) pe_int (nomark _)) (pw_or1 (pt_not (pt_val (pe_call G__law_is_name hr__law_is_name rfl E.g__law_is_name E.F__law_is_name.kp b__law_is_name .nil pass0 (pa_cons (pe_ix (ix_U K rfl) (pv 1) pe_int (fun _ _ => rfl)) pa_nil)))))))) (pss_one (ps_ret pe_non)) pss_nil)
(pss_cons (ps_setLc (i := 3) (own := [("_law_word_here", 4)]) rfl sc__law_thing_in.nd rfl rfl (sw_true rfl rfl rfl (by decide +kernel)) (pi_seqU K rfl (pe_op (op_addU K rfl) (pe_slice (sl_U K rfl) (pv 1) (po_some pe_int) (po_some pe_int)) (pe_slice (sl_U K rfl) (pv 1) (po_some pe_int) po_none))) (blkOk_by (N := ["_law_line", "_law_words", "_law_number", "_law_numbers", "_law_word_here"]) (sc := defScope s__law_thing_in) (by decide +kernel)) (fun _ _ _ _ _ => (pg_name (i := 4) sc__law_thing_in.nd rfl (Or.inl rfl))) (fun _ _ _ _ _ => pts_nil) (fun _ _ _ _ _ => (pe_call G__law_number_in hr__law_number_in rfl E.g__law_number_in E.F__law_number_in.kp b__law_number_in .nil pass0 (pa_cons (pv 4) (pa_cons pe_int pa_nil)))))
(pss_cons (ps_if (pt_cmpR (op_inU K rfl hu) pe_non (pv 3) (by with_unfolding_all rfl)) (pss_one (ps_ret pe_non)) pss_nil)
(pss_one (ps_ret (pe_tup (pa_cons pe_str (pa_cons (pe_ix (ix_U K rfl) (pv 3) pe_int (fun _ _ => rfl)) (pa_cons (pe_ix (ix_U K rfl) (pv 3) pe_int (fun _ _ => rfl)) (pa_cons (pe_ix (ix_U K rfl) (pv 1) pe_int (fun _ _ => rfl)) (pa_cons (pe_callTy (call_tupleU K rfl) (by rfl) E.n_tuple boot_tuple (pa_cons (pe_slice (sl_U K rfl) (pv 3) (po_some pe_int) po_none) pa_nil)) pa_nil))))))))))))), ?_⟩
    refine k_body (s1 := some _ :: [none, none, none, none]) rfl ?_
    have hf := split_facts (z := z) (y := " ") (s := 32) rfl (by decide +kernel)
    have htz := split_tz (z := z) (y := " ") (s := 32) rfl (by decide +kernel) hz
    have hz1 := hz.1
    unfold rdThing at q
    walk_at "s"
    refine k_splitU ?_
    walk_at "s"
    refine ⟨z, " ", rfl, rfl, by decide +kernel, by rw [sizeLine_eq]; omega, k_newStrs hS fun pw H hS => ?_⟩
    generalize Txt.split z " " = sp at *
    obtain ⟨h1, h2, _⟩ := hf
    cases sp with
    | nil => exact (h2 rfl).elim
    | cons w r =>
      rw [List.length_cons] at h1
      have htr : ∀ y ∈ r, Tz y := fun y hy => htz y (List.mem_cons_of_mem _ hy)
      have a0 : atI ((w :: r).map PyData.str) 0 = some (.str w) := at0v _ _
      dsimp only at q
      walk_at "s"
      by_cases hw : w = ("lost" : Str)
      · rw [if_pos (decide_eq_true hw)]
        rw [if_pos hw] at q
        walk_at "s"
        refine k_joinS (fun v (M : List (As K)) => v = oV (oneR r) ∧ M = L) ?_ ?_
        · walk_at "s"
          match r, hS, htr with
          | [], hS, _ =>
            rw [if_neg (by show ¬ (decide ((1 : Int) = 2)) = true; decide)]
            walk_at "s"
            exact ⟨_, ⟨rfl, rfl⟩, Sub.ok (by walk_at "sub") hS⟩
          | _ :: _ :: _, hS, _ =>
            rw [if_neg (by rw [decide_eq_false (by rw [List.length_map]; simp only [List.length_cons]; omega)]; exact Bool.false_ne_true)]
            walk_at "s"
            exact ⟨_, ⟨rfl, rfl⟩, Sub.ok (by walk_at "sub") hS⟩
          | [x], hS, htr =>
            have a1 : atI (([w, x] : List Str).map PyData.str) 1 = some (.str x) := atI_nat (j := 1) rfl
            rw [if_pos (by rfl)]
            walk_at "s"
            refine ⟨x, 30, _, rfl, by have := (htr x List.mem_cons_self).1; omega, by decide, hS, fun H hS => ?_⟩
            exact ⟨_, ⟨rfl, rfl⟩, Sub.ok (by walk_at "sub") hS⟩
        clear hS
        rintro _ M H ⟨rfl, rfl⟩ hS
        rw [rdLost_one] at q
        generalize oneR r = o at *
        walk_at "s"
        refine k_nojoin ?_
        walk_at "s"
        cases o with
        | none =>
          dsimp only [lostO] at q
          rw [show oV none = V.non from rfl, if_neg (by decide)]
          walk_at "s"
          exact q _ _ (Ls.Sep.nonM hS)
        | some n =>
          dsimp only [lostO] at q
          rw [show oV (some n) = V.int n from rfl, if_pos (by rfl)]
          walk_at "s"
          by_cases h0 : 0 < n
          · rw [if_pos h0] at q
            rw [decide_eq_true h0]
            walk_at "s"
            exact q _ _ (Sub.ok (by show Sub _ (im (V.ref _) (PyData.tuple [PyData.str "lost", PyData.int n]) :: _); walk_at "sub") hS)
          · rw [if_neg h0] at q
            rw [decide_eq_false h0]
            walk_at "s"
            exact q _ _ (Ls.Sep.nonM hS)
      · rw [if_neg (by rw [decide_eq_false hw]; exact Bool.false_ne_true)]
        rw [if_neg hw] at q
        walk_at "s"
        by_cases he : w = ("event" : Str)
        case neg =>
          rw [if_neg he] at q
          rw [if_pos (by rw [decide_eq_false he]; rfl), if_pos rfl]
          walk_at "s"
          exact q _ _ (Ls.Sep.nonM (Sub.ok (by walk_at "sub") hS))
        rw [if_pos he] at q
        rw [if_neg (by rw [decide_eq_true he]; exact Bool.false_ne_true)]
        walk_at "s"
        match r, hS, q, htr, h1 with
        | [], hS, q, _, _ =>
          rw [if_pos (by rfl), if_pos rfl]
          walk_at "s"
          exact q _ _ (Ls.Sep.nonM (Sub.ok (by walk_at "sub") hS))
        | [_], hS, q, _, _ =>
          rw [if_pos (by rfl), if_pos rfl]
          walk_at "s"
          exact q _ _ (Ls.Sep.nonM (Sub.ok (by walk_at "sub") hS))
        | [_, _], hS, q, _, _ =>
          rw [if_pos (by rfl), if_pos rfl]
          walk_at "s"
          exact q _ _ (Ls.Sep.nonM (Sub.ok (by walk_at "sub") hS))
        | x :: y :: s :: vs, hS, q, htr, h1 =>
          dsimp only at q
          unfold rdEv at q
          simp only [List.length_cons] at h1
          have hst := (htr s (by simp)).1
          have a3 : atI ((w :: x :: y :: s :: vs).map PyData.str) 3 = some (.str s) := atI_nat (j := 3) rfl
          rw [if_neg (by rw [decide_eq_false (by rw [List.length_map]; simp only [List.length_cons]; omega)]; exact Bool.false_ne_true)]
          walk_at "s"
          refine ⟨s, _, rfl, by omega, hS, fun H hS => ?_⟩
          by_cases hs : IsNm s
          case neg =>
            rw [if_neg hs] at q
            rw [decide_eq_false hs]
            walk_at "s"
            exact q _ _ (Ls.Sep.nonM (Sub.ok (by walk_at "sub") hS))
          rw [if_pos hs] at q
          rw [decide_eq_true hs]
          walk_at "s"
          rename_i pa1 _
          rename Addr => pa2
          rw [show Ls.cutD (List.map PyData.str (w :: x :: y :: s :: vs)) (some 4) none = vs.map PyData.str by rw [cutD_from (by decide)]; rfl, show Ls.cutD (List.map PyData.str (w :: x :: y :: s :: vs)) (some 1) (some 3) = ([x, y] : List Str).map PyData.str by simp [Ls.cutD, HT.sIx]] at hS
          refine k_addD hS (by walk_at "mem") (by walk_at "mem") (by rw [List.length_map, List.length_map, sizeLine_eq]; show 2 + _ ≤ _; omega) fun pa H hS => ?_
          rw [← List.map_append] at hS
          obtain ⟨us, hus⟩ : ∃ us : List Str, us = x :: y :: vs := ⟨_, rfl⟩
          rw [show ([x, y] : List Str) ++ vs = us from hus.symm] at hS
          rw [← hus] at q
          have hut : ∀ y ∈ us, y.length ≤ 90000 := fun y' hy' => by
            rw [hus] at hy'
            refine (htr y' ?_).1
            rcases List.mem_cons.mp hy' with rfl | h
            · exact List.mem_cons_self
            · rcases List.mem_cons.mp h with rfl | h
              · exact List.mem_cons_of_mem _ List.mem_cons_self
              · exact List.mem_cons_of_mem _ (List.mem_cons_of_mem _ (List.mem_cons_of_mem _ h))
          have hul : us.length ≤ 90001 := by rw [hus]; simp only [List.length_cons]; omega
          obtain ⟨rs, hrs⟩ : ∃ rs : List Str, rs = w :: x :: y :: s :: vs := ⟨_, rfl⟩
          rw [← hrs] at hS a3
          replace hS : Ls.Sep (Ls.ld pa (us.map PyData.str) :: Ls.ld pw (rs.map PyData.str) :: L) H := Sub.ok (by walk_at "sub") hS
          walk_at "s"
          rename Addr => pf
          refine lc_flat (zs := us) (fun y => [oD (numIn 30 y)]) hS (fun acc => wk_ldm (f := PyData.str) (by walk_at "mem")) (fun j y acc hy hk _ la => ?_) (fun H hS => ?_)
          · clear hS
            have hj := (List.getElem?_eq_some_iff.mp hy).1
            have hyt := hut y (List.mem_of_getElem? hy)
            walk_at "gi"
            walk_at "ls"
            refine ⟨y, 30, _, rfl, by omega, by decide, hS, fun H hS => ?_⟩
            exact lc_keep hS (dat_o _) (by walk_at "sub") (by rw [sizeLine_eq]; omega) (hk _ rfl)
          rw [flat_map (fun y => oD (numIn 30 y)), show (us.map fun y => oD (numIn 30 y)) = (us.map fun y => numIn 30 y).map oD by rw [List.map_map]; rfl] at hS
          walk_at "s"
          refine k_inN hS (by walk_at "mem") ?_
          rw [nums_any]
          cases hn : us.mapM (numIn 30) with
          | none =>
            rw [hn] at q
            refine ⟨_, rfl, ?_⟩
            rw [if_pos (by rfl)]
            walk_at "s"
            exact q _ _ (Ls.Sep.nonM (Sub.ok (by walk_at "sub") hS))
          | some ns =>
            rw [hn] at q
            refine ⟨_, rfl, ?_⟩
            rw [if_neg (by exact Bool.false_ne_true)]
            rw [nums_some hn] at hS
            have hnl := mapM_len2 hn
            rw [hus, List.length_cons, List.length_cons] at hnl
            match ns, hS, q, hnl with
            | n0 :: t :: ws, hS, q, hnl =>
              dsimp only at q
              simp only [List.length_cons] at hnl
              obtain ⟨os, hos⟩ : ∃ os : List (Option Int), os = (n0 :: t :: ws).map some := ⟨_, rfl⟩
              rw [← hos] at hS
              have b0 : atI (os.map oD) 0 = some (.int n0) := by rw [hos]; exact at0v _ _
              have b1 : atI (os.map oD) 1 = some (.int t) := by rw [hos]; exact atI_nat (j := 1) rfl
              walk_at "s"
              rw [show Ls.cutD (os.map oD) (some 2) none = ws.map PyData.int by rw [cutD_from (by decide), hos, List.map_map]; rfl] at hS
              walk_at "s"
              exact q _ _ (Sub.ok (by show Sub _ (im (V.ref _) (PyData.tuple [.str "event", .int n0, .int t, .str s, .tuple (ws.map PyData.int)]) :: L); walk_at "sub") hS)
end Lw
namespace Ls
open PySem PySem.Spec PyProof.Rows L2 TL
theorem k_par3 {i j l : Nat} {ta : TA} {D : Ends} {σ : L2.St} {H : Hp} (h : ta σ H fun vs H1 => ∃ u v w, vs = [u, v, w] ∧ D.nx (((σ.set i (some u)).set j (some v)).set l (some w)) H1) : tPar3 i j l ta D σ H := h
theorem getLast_step (ts : List Dm) (t : Dm) : (tmsD (ts ++ [t])).getLast? = match t with | .lost _ => (tmsD ts).getLast? | .ev _ x _ _ => some x := by
  rw [tmsD_step]
  cases t with
  | lost n => show (tmsD ts ++ []).getLast? = _; rw [List.append_nil]
  | ev p x s vs => show (tmsD ts ++ [x]).getLast? = _; rw [List.getLast?_concat]
theorem drop_last_get {α : Type} {l : List α} {i : Nat} {x : α} (h : l[i]? = some x) (hi : i < l.length - 1) : l.dropLast.drop i = x :: l.dropLast.drop (i + 1) := by
  have h2 : l.dropLast[i]? = some x := by rw [List.dropLast_eq_take, List.getElem?_take_of_lt hi, h]
  obtain ⟨e1, e2⟩ := List.getElem?_eq_some_iff.mp h2
  rw [← e2]
  exact List.drop_eq_getElem_cons e1
theorem last_get {α : Type} {l : List α} {i : Nat} {x : α} (h : l[i]? = some x) (hi : i = l.length - 1) : l.getLast? = some x := by
  rw [List.getLast?_eq_getElem?, ← hi, h]
end Ls
namespace Lw
open PySem PySem.Spec PyProof.Rows L2 Ls
theorem ok__law_dump_read {P : Program} {w : World} {K : PySem.W.Frag} {mg : Str → Option Value} {base : Heap} (E : Env K mg) : FnOk P w K mg base CX0 4 E.a__law_dump_read E.fd__law_dump_read ["_law_text"] (spRows K) := by
  refine E.F__law_dump_read.ok sc__law_dump_read (fun vs H Q E h => ?_) (fun cdv A outer s H vs Q E' hr h => ?_)
  · walk_at "hl"
  · have hu := huOf hr
    have G__law_thing_in := ok__law_thing_in (P := P) (w := w) (base := base) E
    have hr__law_thing_in := hr.mono (show 3 ≤ 3 by decide)
    have b__law_thing_in := b__law_thing_in E
    obtain ⟨z, L, rfl, hz, hS, q⟩ := h
    refine ⟨_, PSs.nox (pss_cons (ps_set (i := 1) sc__law_dump_read.nd rfl (Or.inl rfl) (pe_splitU (pv 0) pe_str))
(pss_cons (ps_par3 (i := 2) (j := 3) (l := 4) rfl sc__law_dump_read.nd rfl rfl rfl (by decide) (by decide) (by decide) rfl rfl rfl (pa_cons (pe_lst pa_nil) (pa_cons pe_int (pa_cons pe_non pa_nil))) (by with_unfolding_all rfl))
(pss_cons (ps_for PassesOwn.never rfl (pi_range1 rfl E.n_range (pa_cons (pe_callB (call_lenU K rfl) (by rfl) E.n_len boot_len (pa_cons (pv 1) pa_nil)) pa_nil)) (pg_name (i := 5) sc__law_dump_read.nd rfl (Or.inl rfl))
(pss_cons (ps_set (i := 6) sc__law_dump_read.nd rfl (Or.inl rfl) (pe_call G__law_thing_in hr__law_thing_in rfl E.g__law_thing_in E.F__law_thing_in.kp b__law_thing_in .nil pass0 (pa_cons (pe_ix (ix_U K rfl) (pv 1) (pv 5) (fun _ _ => rfl)) pa_nil)))
(pss_cons (ps_if (pt_cmpR (op_eqU K rfl hu) (pv 5) (pe_op op_sub (pe_callB (call_lenU K rfl) (by rfl) E.n_len boot_len (pa_cons (pv 1) pa_nil)) pe_int) (nomark _)) (pss_one (ps_ret (pe_tup (pa_cons (pv 2) (pa_cons (pe_join (pe_ifExp (pt_cmpR (op_eqU K rfl hu) (pe_ix (ix_U K rfl) (pv 1) (pv 5) (fun _ _ => rfl)) pe_str (nomark _)) pe_non (pv 5))) pa_nil))))) pss_nil)
(pss_cons (ps_if (pt_cmpR (op_isU) (pv 6) pe_non (nomark _)) (pss_one (ps_ret (pe_tup (pa_cons (pv 2) (pa_cons (pv 5) pa_nil))))) pss_nil)
(pss_cons (ps_if (PW.pt (pw_and (pt_cmpR (op_eqU K rfl hu) (pe_ix (ix_U K rfl) (pv 6) pe_int (fun _ _ => rfl)) pe_str (nomark _)) (pw_and1 (pt_cmpR (op_neU K rfl hu) (pe_ix (ix_U K rfl) (pv 6) pe_int (fun _ _ => rfl)) (pv 3) (nomark _))))) (pss_one (ps_ret (pe_tup (pa_cons (pv 2) (pa_cons (pv 5) pa_nil))))) pss_nil)
(pss_cons (ps_if (PW.pt (pw_and (pt_cmpR (op_eqU K rfl hu) (pe_ix (ix_U K rfl) (pv 6) pe_int (fun _ _ => rfl)) pe_str (nomark _)) (pw_and (pt_cmpR (op_isnotU) (pv 4) pe_non (nomark _)) (pw_and1 (pt_cmpR (op_lt) (pe_ix (ix_U K rfl) (pv 6) pe_int (fun _ _ => rfl)) (pv 4) (nomark _)))))) (pss_one (ps_ret (pe_tup (pa_cons (pv 2) (pa_cons (pv 5) pa_nil))))) pss_nil)
(pss_cons (ps_set (i := 3) sc__law_dump_read.nd rfl (Or.inl rfl) (pe_join (pe_ifExp (pt_cmpR (op_eqU K rfl hu) (pe_ix (ix_U K rfl) (pv 6) pe_int (fun _ _ => rfl)) pe_str (nomark _)) (pe_op (op_addU K rfl) (pv 3) (pe_ix (ix_U K rfl) (pv 6) pe_int (fun _ _ => rfl))) (pe_op (op_addU K rfl) (pv 3) pe_int))))
(pss_cons (ps_set (i := 4) sc__law_dump_read.nd rfl (Or.inl rfl) (pe_join (pe_ifExp (pt_cmpR (op_eqU K rfl hu) (pe_ix (ix_U K rfl) (pv 6) pe_int (fun _ _ => rfl)) pe_str (nomark _)) (pe_ix (ix_U K rfl) (pv 6) pe_int (fun _ _ => rfl)) (pv 4))))
(pss_one (ps_expr (kBM K rfl (pe_bm PySem.F.plainAttrs_list PySem.F.slot_list_append PySem.F.type_list_append mt_append (pv 2) (pa_cons (pv 6) pa_nil)))))))))))))
(pss_one (ps_ret (pe_tup (pa_cons (pv 2) (pa_cons pe_non pa_nil)))))))), ?_⟩
    refine k_body (s1 := some _ :: [none, none, none, none, none, none]) rfl ?_
    have hf := split_facts (z := z) (y := "\n") (s := 10) rfl (by decide +kernel)
    have htz := split_tz (z := z) (y := "\n") (s := 10) rfl (by decide +kernel) hz
    have hz1 := hz.1
    have hrs := @rdRows_some z
    have hrn := @rdRows_none z
    walk_at "s"
    refine k_splitU ?_
    walk_at "s"
    refine ⟨z, "\n", rfl, rfl, by decide +kernel, by rw [sizeLine_eq]; omega, k_newStrs hS fun pr H hS => ?_⟩
    generalize Txt.split z "\n" = rows at *
    obtain ⟨h1, h2, _⟩ := hf
    have hr0 : 0 < rows.length := List.length_pos_iff.mpr h2
    walk_at "s"
    refine k_par3 ?_
    walk_at "s"
    rename Addr => pf
    refine ⟨_, _, _, rfl, ?_⟩
    simp only [List.set_cons_succ, List.set_cons_zero]
    walk_at "s"
    rw [List.length_map]
    refine ⟨_, rfl, by omega, by omega, ?_⟩
    rw [Int.toNat_natCast]
    refine for_wk (L := Ls.ld pf [] :: Ls.ld pr (rows.map PyData.str) :: L) (n := rows.length) (fun i σ L' => ∃ (ts : List Dm) (c5 c6 : Option V), L' = Ls.ld pf (ts.map Dm.D) :: Ls.ld pr (rows.map PyData.str) :: L ∧ i < rows.length ∧ rdGo rows.dropLast [] 0 = rdGo (rows.dropLast.drop i) ts i ∧ ts.length ≤ i ∧ σ = [some (.str z), some (.ref pr), some (.ref pf), some (.int (dueD ts)), some (oV (tmsD ts).getLast?), c5, c6]) (fun i σ L' e => wk_rng) hS ⟨[], _, _, rfl, hr0, rfl, Nat.le_refl _, rfl⟩ (fun i σ L' hi iv => ?_) (fun σ L' H iv hS9 => ?_)
    · obtain ⟨ts, c5, c6, rfl, _, eg, hts, rfl⟩ := iv
      clear hS
      intro H hS
      obtain ⟨r, hr⟩ : ∃ r, rows[i]? = some r := ⟨_, List.getElem?_eq_getElem hi⟩
      have hrt := htz r (List.mem_of_getElem? hr)
      have ai : atI (rows.map PyData.str) (i : Nat) = some (.str r) := atI_nat (by rw [List.getElem?_map, hr]; rfl)
      walk_at "ns"
      rw [show (0 : Int) + (i : Nat) = (i : Nat) by omega]
      walk_at "s"
      refine ⟨r, _, rfl, hrt, hS, fun v H hS => ?_⟩
      walk_at "s"
      rw [List.length_map]
      by_cases hl : i = rows.length - 1
      · rw [if_pos (decide_eq_true (by omega))]
        rw [List.drop_of_length_le (by rw [List.length_dropLast]; omega), rdGo] at eg
        have er := hrn eg
        rw [er, last_get hr hl] at q
        walk_at "s"
        refine k_nojoin ?_
        walk_at "s"
        by_cases hx : r = ("" : Str)
        · rw [if_pos (by rw [hx])] at q
          dsimp only [wrongO, Option.map, oV] at q
          rw [if_pos (decide_eq_true hx)]
          walk_at "s"
          exact q _ _ _ (Sub.ok (by walk_at "sub") hS)
        · rw [if_neg (fun e => hx (Option.some.inj e)), ← hl] at q
          dsimp only [wrongO, Option.map, oV] at q
          rw [if_neg (by rw [decide_eq_false hx]; exact Bool.false_ne_true)]
          walk_at "s"
          exact q _ _ _ (Sub.ok (by walk_at "sub") hS)
      rw [if_neg (by rw [decide_eq_false (by omega)]; exact Bool.false_ne_true)]
      rw [drop_last_get hr (by omega)] at eg
      walk_at "s"
      cases ht : rdThing r with
      | none =>
        rw [ht] at hS
        obtain ⟨hv, hS2⟩ := Sep.im_iff.mp hS
        cases im_non hv
        rw [rdGo_none ht] at eg
        have er := hrs eg
        rw [er] at q
        dsimp only [wrongO, Option.map, oV] at q
        rw [if_pos (by decide)]
        walk_at "s"
        exact q _ _ _ (Sub.ok (by walk_at "sub") hS)
      | some t =>
        rw [ht] at hS
        obtain ⟨ds, ed2⟩ := Dm.ref t
        have hS3 := hS
        rw [show oM (some t) = t.D from rfl, ed2] at hS3
        obtain ⟨pt, rfl⟩ := im_isRef (v := v) hS3 (by walk_at "mem")
        clear hS3
        replace hS : Ls.Sep (im (.ref pt) t.D :: _) H := hS
        rw [if_neg (by simp)]
        have hsz : (ts.map Dm.D).length < sizeLine := by rw [List.length_map, sizeLine_eq]; omega
        have hd := dueD_step ts t
        have hg := getLast_step ts t
        have em : (ts ++ [t]).map Dm.D = ts.map Dm.D ++ [t.D] := by rw [List.map_append]; rfl
        cases t with
        | lost n =>
          have e9 : (Dm.lost n).D = .tuple [.str "lost", .int n] := rfl
          rw [rdGo_cons ht (show FitsD (.lost n) ts from trivial)] at eg
          rw [e9] at hS em
          walk_at "s"
          rw [if_neg (by decide +kernel)]
          walk_at "s"
          rw [if_neg (by decide +kernel)]
          walk_at "s"
          refine k_nojoin ?_
          walk_at "s"
          rw [if_pos (by decide +kernel)]
          walk_at "s"
          refine k_nojoin ?_
          walk_at "s"
          rw [if_neg (by decide +kernel)]
          walk_at "s"
          refine ⟨_, ⟨ts ++ [.lost n], _, _, rfl, by omega, eg, by rw [List.length_append]; show ts.length + 1 ≤ i + 1; omega, by rw [hd, hg]; rfl⟩, ?_⟩
          rw [em]
          exact Sub.ok (by walk_at "sub") hS
        | ev xp xt s vs =>
          have e9 : (Dm.ev xp xt s vs).D = .tuple [.str "event", .int xp, .int xt, .str s, .tuple (vs.map PyData.int)] := rfl
          rw [e9] at hS em
          have bad : ¬ FitsD (.ev xp xt s vs) ts → ∀ p q2 H', Ls.Sep (tu p [.ref q2, .int (i : Nat)] :: Ls.ld q2 (ts.map Dm.D) :: L) H' → Q (.ref p) H' := fun hf => by
            rw [rdGo_no ht hf] at eg
            have er := hrs eg
            rw [er] at q
            exact q
          walk_at "s"
          rw [if_pos (by decide +kernel)]
          walk_at "s"
          by_cases hp : xp = dueD ts
          case neg =>
            rw [if_pos (by rw [decide_eq_false hp]; rfl)]
            walk_at "s"
            exact bad (fun h => hp h.1) _ _ _ (Sub.ok (by walk_at "sub") hS)
          rw [if_neg (by rw [decide_eq_true hp]; exact Bool.false_ne_true)]
          walk_at "s"
          rw [if_pos (by decide +kernel)]
          walk_at "s"
          cases hg0 : (tmsD ts).getLast? with
          | none =>
            have hft : FitsD (.ev xp xt s vs) ts := ⟨hp, fun y hy => by rw [hg0] at hy; cases hy⟩
            rw [rdGo_cons ht hft] at eg
            rw [show oV none = V.non from rfl, if_neg (by decide)]
            walk_at "s"
            refine k_nojoin ?_
            walk_at "s"
            rw [if_neg (by decide +kernel)]
            walk_at "s"
            refine k_nojoin ?_
            walk_at "s"
            rw [if_pos (by decide +kernel)]
            walk_at "s"
            refine ⟨_, ⟨ts ++ [.ev xp xt s vs], _, _, rfl, by omega, eg, by rw [List.length_append]; show ts.length + 1 ≤ i + 1; omega, by rw [hd, hg]; rfl⟩, ?_⟩
            rw [em]
            exact Sub.ok (by walk_at "sub") hS
          | some y =>
            rw [show oV (some y) = V.int y from rfl, if_pos (by rfl)]
            walk_at "s"
            by_cases hy : xt < y
            · rw [if_pos (decide_eq_true hy)]
              walk_at "s"
              exact bad (fun h => by have := h.2 y hg0; omega) _ _ _ (Sub.ok (by walk_at "sub") hS)
            have hft : FitsD (.ev xp xt s vs) ts := ⟨hp, fun y2 hy2 => by rw [hg0] at hy2; cases hy2; omega⟩
            rw [rdGo_cons ht hft] at eg
            rw [if_neg (by rw [decide_eq_false hy]; exact Bool.false_ne_true)]
            walk_at "s"
            refine k_nojoin ?_
            walk_at "s"
            rw [if_neg (by decide +kernel)]
            walk_at "s"
            refine k_nojoin ?_
            walk_at "s"
            rw [if_pos (by decide +kernel)]
            walk_at "s"
            refine ⟨_, ⟨ts ++ [.ev xp xt s vs], _, _, rfl, by omega, eg, by rw [List.length_append]; show ts.length + 1 ≤ i + 1; omega, by rw [hd, hg]; rfl⟩, ?_⟩
            rw [em]
            exact Sub.ok (by walk_at "sub") hS
    · obtain ⟨ts, c5, c6, rfl, hlt, _⟩ := iv
      omega
end Lw
namespace Ls
open PySem PySem.Spec PyProof.Rows L2 TL
def txD : PyData → Str
  | .int i => numS i
  | .str z => z
  | _ => Str.empty
theorem rows_sum {ts : List Dm} (h : ∀ t ∈ ts, t.ok) : ((ts.map fun t => rowS t ++ ("\n" : Str)).map (·.length)).sum ≤ 4001 * ts.length := by
  have := sum_le (c := 4001) (ls := (ts.map fun t => rowS t ++ ("\n" : Str)).map (·.length)) fun l hl => by
    obtain ⟨w, hw, rfl⟩ := List.mem_map.mp hl
    obtain ⟨t, ht, rfl⟩ := List.mem_map.mp hw
    rw [sap]
    have := row_len (h t ht)
    have e : ("\n" : Str).length = 1 := by decide +kernel
    omega
  rw [List.length_map, List.length_map] at this
  exact this
end Ls
namespace Lw
open PySem PySem.Spec PyProof.Rows L2 Ls
theorem ok__law_thing_row {P : Program} {w : World} {K : PySem.W.Frag} {mg : Str → Option Value} {base : Heap} (E : Env K mg) : FnOk P w K mg base CX0 1 E.a__law_thing_row E.fd__law_thing_row ["_law_thing"] (spThingText K) := by
  refine E.F__law_thing_row.ok sc__law_thing_row (fun vs H Q E h => ?_) (fun cdv A outer s H vs Q E' hr h => ?_)
  · walk_at "hl"
  · have hu := huOf hr
    obtain ⟨a, t, L, rfl, hS, ha, ht, q⟩ := h
    refine ⟨_, PSs.nox (pss_cons (ps_if (pt_cmpR (op_eqU K rfl hu) (pe_ix (ix_U K rfl) (pv 0) pe_int (fun _ _ => rfl)) pe_str (nomark _)) (pss_one (ps_ret (pe_op (op_addU K rfl) pe_str (pe_callTy (call_strU) (by rfl) E.n_str boot_str (pa_cons (pe_ix (ix_U K rfl) (pv 0) pe_int (fun _ _ => rfl)) pa_nil))))) pss_nil)
(pss_one (ps_ret (pe_joinU K rfl pe_str (pe_op (op_addU K rfl) (pe_lc (own := [("_law_part", 1)]) rfl sc__law_thing_row.nd (pi_seqU K rfl (pe_slice (sl_U K rfl) (pv 0) po_none (po_some pe_int))) (blkOk_by (N := ["_law_thing", "_law_part", "_law_number"]) (sc := defScope s__law_thing_row) (by decide +kernel)) (fun _ _ _ _ _ => (pg_name (i := 1) sc__law_thing_row.nd rfl (Or.inl rfl))) (fun _ _ _ _ _ => pts_nil) (fun _ _ _ _ _ => (pe_callTy (call_strU) (by rfl) E.n_str boot_str (pa_cons (pv 1) pa_nil)))) (pe_lc (own := [("_law_number", 2)]) rfl sc__law_thing_row.nd (pi_seqU K rfl (pe_ix (ix_U K rfl) (pv 0) pe_int (fun _ _ => rfl))) (blkOk_by (N := ["_law_thing", "_law_part", "_law_number"]) (sc := defScope s__law_thing_row) (by decide +kernel)) (fun _ _ _ _ _ => (pg_name (i := 2) sc__law_thing_row.nd rfl (Or.inl rfl))) (fun _ _ _ _ _ => pts_nil) (fun _ _ _ _ _ => (pe_callTy (call_strU) (by rfl) E.n_str boot_str (pa_cons (pv 2) pa_nil))))))))), ?_⟩
    refine k_body (s1 := some _ :: [none, none]) rfl ?_
    have lg : ∀ i : Int, Nr i → i.natAbs.log2 < 1920 := fun i h => log_lt (Nat.lt_of_lt_of_le h (by decide))
    cases t with
    | lost n =>
      dsimp only [Dm.D] at ha
      have hnl := nr_len ht.2
      have e5 : ("lost " : Str).length = 5 := by decide +kernel
      walk_at "s"
      rw [if_pos (by decide +kernel)]
      walk_at "s"
      refine k_strI (lg n ht.2) ?_
      have hq : (Str.ofString (toString n)) = numS n := rfl
      refine k_addS (by rw [e5, sizeLine_eq, hq]; omega) ?_
      rw [lost_row] at q
      exact q _ (Sub.ok (by walk_at "sub") hS)
    | ev xp xt s vs =>
      dsimp only [Dm.D] at ha
      obtain ⟨hp, hx, hs, hvl, hvs⟩ := id ht
      walk_at "s"
      rw [if_neg (by decide +kernel)]
      walk_at "s"
      rename_i pc _
      rename Addr => pn
      rw [cutD_to (by decide), show [PyData.str (Str.ofString "event"), PyData.int xp, PyData.int xt, PyData.str s, PyData.tuple (List.map PyData.int vs)].take (4 : Int).toNat = [PyData.str "event", .int xp, .int xt, .str s] from rfl] at hS
      refine lc_flat (zs := [PyData.str "event", .int xp, .int xt, .str s]) (fun d => [PyData.str (txD d)]) hS (fun acc => wk_im (by walk_at "mem")) (fun j d acc hz hk _ la => ?_) (fun H hS => ?_)
      · clear hS
        have hj : j < 4 := (List.getElem?_eq_some_iff.mp hz).1
        rcases (show j = 0 ∨ j = 1 ∨ j = 2 ∨ j = 3 by omega) with rfl | rfl | rfl | rfl
        · have hz : some (PyData.str "event") = some d := hz
          cases hz
          walk_at "gi"
          walk_at "ls"
          refine k_strS ?_
          exact lc_keep hS (d := .str "event") (.str _) (by walk_at "sub") (by rw [sizeLine_eq]; omega) (hk _ rfl)
        · have hz : some (PyData.int xp) = some d := hz
          cases hz
          walk_at "gi"
          walk_at "ls"
          refine k_strI (lg xp hp) ?_
          exact lc_keep hS (d := .str (numS xp)) (.str _) (by walk_at "sub") (by rw [sizeLine_eq]; omega) (hk _ rfl)
        · have hz : some (PyData.int xt) = some d := hz
          cases hz
          walk_at "gi"
          walk_at "ls"
          refine k_strI (lg xt hx) ?_
          exact lc_keep hS (d := .str (numS xt)) (.str _) (by walk_at "sub") (by rw [sizeLine_eq]; omega) (hk _ rfl)
        · have hz : some (PyData.str s) = some d := hz
          cases hz
          walk_at "gi"
          walk_at "ls"
          refine k_strS ?_
          exact lc_keep hS (d := .str s) (.str _) (by walk_at "sub") (by rw [sizeLine_eq]; omega) (hk _ rfl)
      rw [flat_map (fun d : PyData => PyData.str (txD d)), show ([PyData.str "event", .int xp, .int xt, .str s].map fun d => PyData.str (txD d)) = [.str "event", .str (numS xp), .str (numS xt), .str s] from rfl] at hS
      walk_at "s"
      rename Addr => pm
      refine lc_flat (zs := vs) (fun v => [PyData.str (numS v)]) hS (fun acc => wk_imm (by walk_at "mem")) (fun j v acc hz hk _ la => ?_) (fun H hS => ?_)
      · clear hS
        have hj := (List.getElem?_eq_some_iff.mp hz).1
        walk_at "gi"
        walk_at "ls"
        refine k_strI (lg v (hvs v (List.mem_of_getElem? hz))) ?_
        exact lc_keep hS (d := .str (numS v)) (.str _) (by walk_at "sub") (by rw [sizeLine_eq]; omega) (hk _ rfl)
      rw [flat_map (fun v : Int => PyData.str (numS v))] at hS
      walk_at "s"
      rename Addr => pj
      rw [ev_words] at hS
      refine k_glueS hS (by walk_at "mem") (by have := words_sum ht; have e1 : (" " : Str).length = 1 := (by decide +kernel); rw [e1]; omega) ?_
      exact q _ (Sub.ok (by walk_at "sub") hS)
theorem ok__law_dump {P : Program} {w : World} {K : PySem.W.Frag} {mg : Str → Option Value} {base : Heap} (E : Env K mg) : FnOk P w K mg base CX0 2 E.a__law_dump E.fd__law_dump ["_law_told"] (spDump K) := by
  refine E.F__law_dump.ok sc__law_dump (fun vs H Q E h => ?_) (fun cdv A outer s H vs Q E' hr h => ?_)
  · walk_at "hl"
  · have hu := huOf hr
    have G__law_thing_row := ok__law_thing_row (P := P) (w := w) (base := base) E
    have hr__law_thing_row := hr.mono (show 1 ≤ 1 by decide)
    have b__law_thing_row := b__law_thing_row E
    obtain ⟨a, ts, L, rfl, hS, ha, hl, hok, q⟩ := h
    refine ⟨_, PSs.nox (pss_one (ps_ret (pe_joinU K rfl pe_str (pe_lc (own := [("_law_thing", 1)]) rfl sc__law_dump.nd (pi_seqU K rfl (pv 0)) (blkOk_by (N := ["_law_told", "_law_thing"]) (sc := defScope s__law_dump) (by decide +kernel)) (fun _ _ _ _ _ => (pg_name (i := 1) sc__law_dump.nd rfl (Or.inl rfl))) (fun _ _ _ _ _ => pts_nil) (fun _ _ _ _ _ => (pe_op (op_addU K rfl) (pe_call G__law_thing_row hr__law_thing_row rfl E.g__law_thing_row E.F__law_thing_row.kp b__law_thing_row .nil pass0 (pa_cons (pv 1) pa_nil)) pe_str)))))), ?_⟩
    refine k_body (s1 := some _ :: [none]) rfl ?_
    walk_at "s"
    rename Addr => pd
    refine lc_flat (zs := ts) (fun t => [PyData.str (rowS t ++ ("\n" : Str))]) hS (fun acc => wk_ldm (by walk_at "mem")) (fun j t acc hz hk _ la => ?_) (fun H hS => ?_)
    · clear hS
      have hj := (List.getElem?_eq_some_iff.mp hz).1
      have ht := hok t (List.mem_of_getElem? hz)
      have hrl := row_len ht
      have e1 : ("\n" : Str).length = 1 := by decide +kernel
      cases t with
      | lost n =>
        dsimp only [Dm.D]
        walk_at "gi"
        walk_at "ls"
        refine ⟨_, (.lost n), _, rfl, hS, by show im (V.ref _) (Dm.D (.lost n)) ∈ _; exact List.mem_cons_self, ht, fun H hS => ?_⟩
        walk_at "s"
        refine k_addS (by rw [e1, sizeLine_eq]; omega) ?_
        exact lc_keep hS (d := .str (rowS (.lost n) ++ ("\n" : Str))) (.str _) (by walk_at "sub") (by rw [sizeLine_eq]; omega) (hk _ rfl)
      | ev xp xt s vs =>
        dsimp only [Dm.D]
        walk_at "gi"
        walk_at "ls"
        refine ⟨_, (.ev xp xt s vs), _, rfl, hS, by show im (V.ref _) (Dm.D (.ev xp xt s vs)) ∈ _; exact List.mem_cons_self, ht, fun H hS => ?_⟩
        walk_at "s"
        refine k_addS (by rw [e1, sizeLine_eq]; omega) ?_
        exact lc_keep hS (d := .str (rowS (.ev xp xt s vs) ++ ("\n" : Str))) (.str _) (by walk_at "sub") (by rw [sizeLine_eq]; omega) (hk _ rfl)
    rw [flat_map (fun t : Dm => PyData.str (rowS t ++ ("\n" : Str))), show (ts.map fun t : Dm => PyData.str (rowS t ++ ("\n" : Str))) = (ts.map fun t => rowS t ++ ("\n" : Str)).map PyData.str by rw [List.map_map]; rfl] at hS
    walk_at "s"
    refine k_glueS hS (by walk_at "mem") (by have := rows_sum hok; have e0 : ("" : Str).length = 0 := (by decide +kernel); rw [e0]; omega) ?_
    exact q _ (Sub.ok (by walk_at "sub") hS)
end Lw
namespace Ls
open PySem PySem.Spec PyProof.Rows L2 TL
def spFarB (K : PySem.W.Frag) : Sp := fun vs H Q _ => ∃ (d : Addr) (L : List (As K)), vs = [.ref d] ∧ Ls.Sep L H ∧ dr d ∈ L ∧ ∀ (n : Int) H', -100000000001000000000 * 1000000000 ≤ n → n ≤ 100000000001000000000 * 1000000000 → Ls.Sep L H' → Q (.int n) H'
def RowsD (ts : List Dm) : Prop := ∀ i t, ts[i]? = some t → FitsD t (ts.take i)
def Dm.sm : Dm → Prop
  | .lost _ => True
  | .ev _ _ _ vs => vs.length ≤ 4
theorem rowsD_snoc {ts : List Dm} {t : Dm} (h : RowsD ts) (f : FitsD t ts) : RowsD (ts ++ [t]) := fun i u hu => by
  rcases Nat.lt_or_ge i ts.length with hi | hi
  · rw [List.getElem?_append_left hi] at hu
    rw [List.take_append_of_le_length (by omega)]
    exact h i u hu
  · have hl := (List.getElem?_eq_some_iff.mp hu).1
    rw [List.length_append, List.length_singleton] at hl
    obtain rfl : i = ts.length := by omega
    rw [List.getElem?_concat_length] at hu
    cases hu
    rw [List.take_append_of_le_length (Nat.le_refl _), List.take_length]
    exact f
theorem tmsD_lost (ts : List Dm) (n : Int) : tmsD (ts ++ [.lost n]) = tmsD ts := by
  unfold tmsD
  rw [List.flatMap_append]
  simp
theorem tmsD_ev (ts : List Dm) (p t : Int) (s : Str) (vs : List Int) : tmsD (ts ++ [.ev p t s vs]) = tmsD ts ++ [t] := by
  unfold tmsD
  rw [List.flatMap_append]
  simp
/-- what stands while a row is told -/
structure TellD (ts : List Dm) (pl tm : Int) (j : Nat) : Prop where
  len : ts.length ≤ j
  du : pl = dueD ts
  p0 : 0 ≤ pl
  p1 : pl ≤ 200000000000000000000 * (j : Int)
  t0 : -200000000000000000000 * 1000000000 ≤ tm
  t1 : tm ≤ 100000000001000000000 * 1000000000 + 1000 * (j : Int)
  lt : ∀ y, (tmsD ts).getLast? = some y → y ≤ tm
  rw : RowsD ts
  ok : ∀ t ∈ ts, t.ok ∧ t.sm
theorem nr_of {i : Int} (h1 : -1000000000000000000000 * 1000000000 < i) (h2 : i < 1000000000000000000000 * 1000000000) : Nr i := by
  have e : (10 : Nat) ^ 30 = 1000000000000000000000000000000 := by decide
  unfold Nr
  rw [e]
  omega
theorem TellD.lost {ts : List Dm} {pl tm : Int} {j : Nat} (h : TellD ts pl tm j) {m dt : Int} (hj : j < 12) (hm : 0 ≤ m ∧ m ≤ 100000000000000000000) (hd : 0 ≤ dt ∧ dt ≤ 500) : TellD (ts ++ [.lost (1 + m)]) (pl + (1 + m)) (tm + dt) (j + 1) := by
  obtain ⟨i1, i2, i3, i4, i5, i6, i7, i8, i9⟩ := h
  refine ⟨by rw [List.length_append, List.length_singleton]; omega, by rw [dueD_step, i2]; rfl, by omega, by omega, by omega, by omega, fun y hy => ?_, rowsD_snoc i8 True.intro, fun t ht => ?_⟩
  · rw [tmsD_lost] at hy
    have := i7 y hy
    omega
  · rcases List.mem_append.mp ht with z | z
    · exact i9 t z
    · rw [List.mem_singleton.mp z]
      exact ⟨⟨by omega, nr_of (by omega) (by omega)⟩, trivial⟩
theorem TellD.ev {ts : List Dm} {pl tm : Int} {j : Nat} (h : TellD ts pl tm j) {dt : Int} {s : Str} {vs : List Int} (hj : j < 12) (hd : 0 ≤ dt ∧ dt ≤ 500) (hs : IsNm s) (hl : vs.length ≤ 4) (hv : ∀ v ∈ vs, -999999 ≤ v ∧ v ≤ 999999) : TellD (ts ++ [.ev pl (tm + dt) s vs]) (pl + 1) (tm + dt) (j + 1) := by
  obtain ⟨i1, i2, i3, i4, i5, i6, i7, i8, i9⟩ := h
  refine ⟨by rw [List.length_append, List.length_singleton]; omega, by rw [dueD_step, i2]; rfl, by omega, by omega, by omega, by omega, fun y hy => ?_, rowsD_snoc i8 ⟨i2, fun y hy => by have := i7 y hy; omega⟩, fun t ht => ?_⟩
  · rw [tmsD_ev, List.getLast?_concat] at hy
    cases hy
    omega
  · rcases List.mem_append.mp ht with z | z
    · exact i9 t z
    · rw [List.mem_singleton.mp z]
      exact ⟨⟨nr_of (by omega) (by omega), nr_of (by omega) (by omega), hs, by omega, fun v hm => by have := hv v hm; exact nr_of (by omega) (by omega)⟩, hl⟩
def spDumpTold (K : PySem.W.Frag) : Sp := fun vs H Q _ => ∃ (d : Addr) (L : List (As K)), vs = [.ref d] ∧ Ls.Sep L H ∧ dr d ∈ L ∧ ∀ p (ts : List Dm) H', ts.length ≤ 12 → (∀ t ∈ ts, t.ok ∧ t.sm) → RowsD ts → Ls.Sep (Ls.ld p (ts.map Dm.D) :: L) H' → Q (.ref p) H'
end Ls
namespace Lw
open PySem PySem.Spec PyProof.Rows L2 Ls
theorem okO__law_far {P : Program} {w : World} {K : PySem.W.Frag} {mg : Str → Option Value} {base : Heap} (E : Env K mg) : FnOk P w K mg base CX0 2 E.a__law_far E.fd__law_far ["_law_d"] (spFarB K) := by
  refine E.F__law_far.ok sc__law_far (fun vs H Q E h => ?_) (fun cdv A outer s H vs Q E' hr h => ?_)
  · walk_at "hl"
  · have hu := huOf hr
    have G__law_pick := ok__law_pick (P := P) (w := w) (base := base) E
    have hr__law_pick := hr.mono (show 1 ≤ 1 by decide)
    have b__law_pick := b__law_pick E
    obtain ⟨d, L, rfl, hS, hd, q⟩ := h
    refine ⟨_, PSs.nox (pss_cons (ps_set (i := 1) sc__law_far.nd rfl (Or.inl rfl) (pe_op (op_addU K rfl) (pe_op op_pow pe_int pe_int) (pe_call G__law_pick hr__law_pick rfl E.g__law_pick E.F__law_pick.kp b__law_pick .nil pass0 (pa_cons (pv 0) (pa_cons (pe_op op_pow pe_int pe_int) pa_nil)))))
(pss_one (ps_ret (pe_ix (ix_U K rfl) (pe_lst (pa_cons (pv 1) (pa_cons (pe_op op_sub pe_int (pv 1)) pa_nil))) (pe_call G__law_pick hr__law_pick rfl E.g__law_pick E.F__law_pick.kp b__law_pick .nil pass0 (pa_cons (pv 0) (pa_cons pe_int pa_nil))) (fun _ _ => rfl))))), ?_⟩
    refine k_body (s1 := some _ :: [none]) rfl ?_
    walk_at "s"
    refine k_powL (v := 1000000000) (by decide) (by decide) (by decide) ?_
    walk_at "s"
    refine k_powL (v := 100000000000000000000000000000) (by decide) (by decide) (by decide) ?_
    walk_at "s"
    walk_at "pk"
    intro r H hS r0 r1
    walk_at "s"
    walk_at "pk"
    intro r2 H hS r3 r4
    have hm : atI [PyData.int (1000000000 + r), PyData.int (0 - (1000000000 + r))] r2 = some (.int (if r2 = 0 then 1000000000 + r else 0 - (1000000000 + r))) := by
      have : r2 = 0 ∨ r2 = 1 := by omega
      rcases this with rfl | rfl <;> rfl
    walk_at "s"
    refine q _ _ ?_ ?_ (Sub.ok (by walk_at "sub") hS)
    · split <;> omega
    · split <;> omega
theorem ok__law_dump_told {P : Program} {w : World} {K : PySem.W.Frag} {mg : Str → Option Value} {base : Heap} (E : Env K mg) : FnOk P w K mg base CX0 5 E.a__law_dump_told E.fd__law_dump_told ["_law_d"] (spDumpTold K) := by
  refine E.F__law_dump_told.ok sc__law_dump_told (fun vs H Q E h => ?_) (fun cdv A outer s H vs Q E' hr h => ?_)
  · walk_at "hl"
  · have hu := huOf hr
    have G__law_of := ok__law_of E (ok__law_pick (P := P) (w := w) (base := base) E)
    have hr__law_of := hr.mono (show 2 ≤ 4 by decide)
    have b__law_of := b__law_of E
    have G__law_pick := ok__law_pick (P := P) (w := w) (base := base) E
    have hr__law_pick := hr.mono (show 1 ≤ 4 by decide)
    have b__law_pick := b__law_pick E
    have G__law_far := okO__law_far (P := P) (w := w) (base := base) E
    have hr__law_far := hr.mono (show 2 ≤ 4 by decide)
    have b__law_far := b__law_far E
    have G__law_word := ok__law_word (P := P) (w := w) (base := base) E
    have hr__law_word := hr.mono (show 3 ≤ 4 by decide)
    have b__law_word := b__law_word E
    have G__law_bound := ok__law_bound (P := P) (w := w) (base := base) E
    have hr__law_bound := hr.mono (show 3 ≤ 4 by decide)
    have b__law_bound := b__law_bound E
    obtain ⟨d, L, rfl, hS, hd, q⟩ := h
    refine ⟨_, PSs.nox (pss_cons (ps_set (i := 1) sc__law_dump_told.nd rfl (Or.inl rfl) (pe_lst pa_nil))
(pss_cons (ps_set (i := 2) sc__law_dump_told.nd rfl (Or.inl rfl) pe_int)
(pss_cons (ps_set (i := 3) sc__law_dump_told.nd rfl (Or.inl rfl) (pe_call G__law_of hr__law_of rfl E.g__law_of E.F__law_of.kp b__law_of .nil pass0 (pa_cons (pv 0) (pa_cons (pe_lst (pa_cons pe_int (pa_cons (pe_un un_neg pe_int) (pa_cons (pe_call G__law_far hr__law_far rfl E.g__law_far E.F__law_far.kp b__law_far .nil pass0 (pa_cons (pv 0) pa_nil)) pa_nil)))) pa_nil))))
(pss_cons (ps_for PassesOwn.never rfl (pi_range1 rfl E.n_range (pa_cons (pe_call G__law_pick hr__law_pick rfl E.g__law_pick E.F__law_pick.kp b__law_pick .nil pass0 (pa_cons (pv 0) (pa_cons pe_int pa_nil))) pa_nil)) (pg_name (i := 4) sc__law_dump_told.nd rfl (Or.inl rfl))
(pss_cons (ps_set (i := 3) sc__law_dump_told.nd rfl (Or.inl rfl) (pe_op (op_addU K rfl) (pv 3) (pe_call G__law_of hr__law_of rfl E.g__law_of E.F__law_of.kp b__law_of .nil pass0 (pa_cons (pv 0) (pa_cons (pe_lst (pa_cons pe_int (pa_cons pe_int (pa_cons (pe_call G__law_pick hr__law_pick rfl E.g__law_pick E.F__law_pick.kp b__law_pick .nil pass0 (pa_cons (pv 0) (pa_cons pe_int pa_nil))) pa_nil)))) pa_nil)))))
(pss_one (ps_if (pt_cmpR (op_eqU K rfl hu) (pe_call G__law_pick hr__law_pick rfl E.g__law_pick E.F__law_pick.kp b__law_pick .nil pass0 (pa_cons (pv 0) (pa_cons pe_int pa_nil))) pe_int (nomark _)) (pss_cons (ps_expr (kBM K rfl (pe_bm PySem.F.plainAttrs_list PySem.F.slot_list_append PySem.F.type_list_append mt_append (pv 1) (pa_cons (pe_tup (pa_cons pe_str (pa_cons (pe_op (op_addU K rfl) pe_int (pe_call G__law_of hr__law_of rfl E.g__law_of E.F__law_of.kp b__law_of .nil pass0 (pa_cons (pv 0) (pa_cons (pe_lst (pa_cons pe_int (pa_cons pe_int (pa_cons (pe_call G__law_pick hr__law_pick rfl E.g__law_pick E.F__law_pick.kp b__law_pick .nil pass0 (pa_cons (pv 0) (pa_cons (pe_op op_pow pe_int pe_int) pa_nil))) pa_nil)))) pa_nil)))) pa_nil))) pa_nil))))
(pss_one (ps_set (i := 2) sc__law_dump_told.nd rfl (Or.inl rfl) (pe_op (op_addU K rfl) (pv 2) (pe_ix (ix_U K rfl) (pe_ix (ix_U K rfl) (pv 1) (pe_un un_neg pe_int) (fun _ _ => rfl)) pe_int (fun _ _ => rfl)))))) (pss_cons (ps_set (i := 5) sc__law_dump_told.nd rfl (Or.inl rfl) (pe_callTy (call_tupleU K rfl) (by rfl) E.n_tuple boot_tuple (pa_cons (pe_lc (own := [("_law_at", 6)]) rfl sc__law_dump_told.nd (pi_range1 rfl E.n_range (pa_cons (pe_call G__law_pick hr__law_pick rfl E.g__law_pick E.F__law_pick.kp b__law_pick .nil pass0 (pa_cons (pv 0) (pa_cons pe_int pa_nil))) pa_nil)) (blkOk_by (N := ["_law_d", "_law_told", "_law_place", "_law_time", "_law_step", "_law_values", "_law_at"]) (sc := defScope s__law_dump_told) (by decide +kernel)) (fun _ _ _ _ _ => (pg_name (i := 6) sc__law_dump_told.nd rfl (Or.inl rfl))) (fun _ _ _ _ _ => pts_nil) (fun _ _ _ _ _ => (pe_call G__law_of hr__law_of rfl E.g__law_of E.F__law_of.kp b__law_of .nil pass0 (pa_cons (pv 0) (pa_cons (pe_lst (pa_cons pe_int (pa_cons (pe_call G__law_bound hr__law_bound rfl E.g__law_bound E.F__law_bound.kp b__law_bound .nil pass0 (pa_cons (pv 0) pa_nil)) pa_nil))) pa_nil))))) pa_nil)))
(pss_cons (ps_expr (kBM K rfl (pe_bm PySem.F.plainAttrs_list PySem.F.slot_list_append PySem.F.type_list_append mt_append (pv 1) (pa_cons (pe_tup (pa_cons pe_str (pa_cons (pv 2) (pa_cons (pv 3) (pa_cons (pe_call G__law_word hr__law_word rfl E.g__law_word E.F__law_word.kp b__law_word .nil pass0 (pa_cons (pv 0) pa_nil)) (pa_cons (pv 5) pa_nil)))))) pa_nil))))
(pss_one (ps_set (i := 2) sc__law_dump_told.nd rfl (Or.inl rfl) (pe_op (op_addU K rfl) (pv 2) pe_int)))))))))
(pss_one (ps_ret (pv 1))))))), ?_⟩
    refine k_body (s1 := some _ :: [none, none, none, none, none, none]) rfl ?_
    walk_at "s"
    rename Addr => pt
    refine ⟨d, _, rfl, hS, by walk_at "mem", fun f0 H f1 f2 hS => ?_⟩
    walk_at "s"
    walk_at "ofI"
    intro tm0 H htm hS
    have hb0 : -200000000000000000000 * 1000000000 ≤ tm0 ∧ tm0 ≤ 100000000001000000000 * 1000000000 := by
      simp only [List.mem_cons, PyData.int.injEq, List.not_mem_nil, or_false] at htm
      omega
    clear htm
    replace hS : Ls.Sep (Ls.ld pt [] :: L) H := Sub.ok (by walk_at "sub") hS
    walk_at "s"
    walk_at "pk"
    intro r H hS r0 r1
    walk_at "s"
    refine for_wk (L := Ls.ld pt [] :: L) (n := r.toNat) (fun j σ L' => ∃ (ts : List Dm) (pl tm : Int) (c4 c5 : Option V), TellD ts pl tm j ∧ L' = Ls.ld pt (ts.map Dm.D) :: L ∧ σ = [some (.ref d), some (.ref pt), some (.int pl), some (.int tm), c4, c5, none]) (fun i σ L' _ => wk_rng) (Sub.ok (by walk_at "sub") hS) ⟨[], 0, tm0, _, _, ⟨Nat.le_refl 0, rfl, Int.le_refl 0, by omega, hb0.1, by omega, (fun y e => by cases e), (fun i t e => by cases e), (fun t h => by cases h)⟩, rfl, rfl⟩ (fun j σ L' hj iv H hS => ?_) (fun σ L' H iv hS => ?_)
    · obtain ⟨ts, pl, tm, c4, c5, iv, rfl, rfl⟩ := iv
      obtain ⟨i1, i2, i3, i4, i5, i6, i7, i8, i9⟩ := id iv
      walk_at "ns"
      have hj12 : j < 12 := by omega
      walk_at "s"
      walk_at "pk"
      intro s1 H hS s10 s11
      walk_at "s"
      walk_at "ofI"
      intro dt H hdt hS
      have hdt2 : 0 ≤ dt ∧ dt ≤ 500 := by
        simp only [List.mem_cons, PyData.int.injEq, List.not_mem_nil, or_false] at hdt
        omega
      clear hdt
      replace hS : Ls.Sep (Ls.ld pt (ts.map Dm.D) :: L) H := Sub.ok (by walk_at "sub") hS
      walk_at "s"
      walk_at "pk"
      intro s2 H hS s20 s21
      walk_at "s"
      by_cases b2 : s2 = 0
      · rw [if_pos (decide_eq_true b2)]
        walk_at "s"
        refine k_powL (v := 100000000000000000000) (by decide) (by decide) (by decide) ?_
        walk_at "s"
        walk_at "pk"
        intro r3 H hS r30 r31
        walk_at "s"
        walk_at "ofI"
        intro m H hm hS
        have hm2 : 0 ≤ m ∧ m ≤ 100000000000000000000 := by
          simp only [List.mem_cons, PyData.int.injEq, List.not_mem_nil, or_false] at hm
          omega
        clear hm
        replace hS : Ls.Sep (Ls.ld pt (ts.map Dm.D) :: L) H := Sub.ok (by walk_at "sub") hS
        have hsz : (ts.map Dm.D).length < sizeLine := by rw [List.length_map, sizeLine_eq]; omega
        walk_at "s"
        refine k_ixD hS (by walk_at "mem") (atm _ _) ?_
        clear hS
        walk_at "gv"
        walk_at "s"
        refine ⟨_, ⟨ts ++ [.lost (1 + m)], pl + (1 + m), tm + dt, _, _, iv.lost hj12 hm2 hdt2, rfl, rfl⟩, ?_⟩
        rw [List.map_append, List.map_cons, List.map_nil, show (Dm.lost (1 + m)).D = .tuple [.str "lost", .int (1 + m)] from rfl]
        exact Sub.ok (by walk_at "sub") hS
      · rw [if_neg (by rw [decide_eq_false b2]; exact Bool.false_ne_true)]
        walk_at "s"
        walk_at "pk"
        intro r3 H hS r30 r31
        walk_at "s"
        rename Addr => pv
        refine lc_wk (L := Ls.ld pt (ts.map Dm.D) :: L) (n := r3.toNat) (fun m acc L' => L' = Ls.ld pt (ts.map Dm.D) :: L ∧ ∃ vs : List Int, acc = vs.map PyData.int ∧ vs.length = m ∧ ∀ v ∈ vs, -999999 ≤ v ∧ v ≤ 999999) (fun m acc L' _ => wk_rng) (Sub.ok (by walk_at "sub") hS) ⟨rfl, [], rfl, rfl, fun v h => by cases h⟩ (fun m acc L' hm iv2 H hS => ?_) (fun acc L' H iv2 hS => ?_)
        · obtain ⟨rfl, vs, rfl, hvl, hvs⟩ := iv2
          walk_at "ls"
          refine ⟨d, _, rfl, hS, by walk_at "mem", fun nb H n1 n2 hS => ?_⟩
          walk_at "s"
          walk_at "ofI"
          intro x H hx hS
          have hx2 : -999999 ≤ x ∧ x ≤ 999999 := by
            simp only [List.mem_cons, PyData.int.injEq, List.not_mem_nil, or_false] at hx
            omega
          refine lc_keep hS (d := .int x) (.int _) (by walk_at "sub") (by rw [List.length_map, sizeLine_eq]; omega) ⟨rfl, vs ++ [x], by rw [List.map_append]; rfl, by rw [List.length_append, List.length_singleton, hvl], fun v hv => ?_⟩
          rcases List.mem_append.mp hv with z | z
          · exact hvs v z
          · rw [List.mem_singleton.mp z]
            exact hx2
        obtain ⟨rfl, vs, rfl, hvl, hvs⟩ := iv2
        have hsz : (ts.map Dm.D).length < sizeLine := by rw [List.length_map, sizeLine_eq]; omega
        walk_at "s"
        refine ⟨d, _, rfl, hS, by walk_at "mem", fun z H hz hS => ?_⟩
        walk_at "s"
        refine ⟨_, ⟨ts ++ [.ev pl (tm + dt) z vs], pl + 1, tm + dt, _, _, iv.ev hj12 hdt2 hz (by omega) hvs, rfl, rfl⟩, ?_⟩
        rw [List.map_append, List.map_cons, List.map_nil, show (Dm.ev pl (tm + dt) z vs).D = .tuple [.str "event", .int pl, .int (tm + dt), .str z, .tuple (vs.map PyData.int)] from rfl]
        exact Sub.ok (by walk_at "sub") hS
    obtain ⟨ts, pl, tm, c4, c5, iv, rfl, rfl⟩ := iv
    walk_at "s"
    exact q _ ts _ (by have := iv.len; omega) iv.ok iv.rw (Sub.ok (by walk_at "sub") hS)
end Lw
namespace Ls
open PySem PySem.Spec PyProof.Rows L2 TL
def Asl (ls : List Str) : Prop := ∀ z ∈ ls, Asc z
def wt (ls : List Str) : Nat := (ls.map fun z => z.length + 1).sum
theorem wt_app (a b : List Str) : wt (a ++ b) = wt a + wt b := by unfold wt; rw [List.map_append, List.sum_append]
theorem wt_cons (a : Str) (b : List Str) : wt (a :: b) = a.length + 1 + wt b := rfl
theorem wt_mem {a : Str} {ls : List Str} (h : a ∈ ls) : a.length + 1 ≤ wt ls := by
  induction ls with
  | nil => cases h
  | cons b ls ih =>
    rw [wt_cons]
    rcases List.mem_cons.mp h with rfl | h
    · omega
    · have := ih h; omega
theorem wt_len (ls : List Str) : ls.length ≤ wt ls := by
  induction ls with
  | nil => exact Nat.le_refl _
  | cons b ls ih => rw [wt_cons, List.length_cons]; omega
theorem wt_take (ls : List Str) (j : Nat) : wt (ls.take j) + wt (ls.drop j) = wt ls := by rw [← wt_app, List.take_append_drop]
theorem wt_setp {ls : List Str} {j : Nat} {r : Str} (h : ls[j]? = some r) (z : Str) : wt (ls.set j z) + (r.length + 1) = wt ls + (z.length + 1) := by
  induction ls generalizing j with
  | nil => cases h
  | cons b ls ih =>
    cases j with
    | zero =>
      cases h
      rw [List.set_cons_zero, wt_cons, wt_cons]
      omega
    | succ j =>
      rw [List.getElem?_cons_succ] at h
      rw [List.set_cons_succ, wt_cons, wt_cons]
      have := ih h
      omega
theorem asl_set {ls : List Str} {z : Str} (h : Asl ls) (hz : Asc z) (j : Nat) : Asl (ls.set j z) := fun x hx => by
  rcases List.mem_or_eq_of_mem_set hx with h1 | rfl
  · exact h x h1
  · exact hz
theorem wt_erase (ls : List Str) (j : Nat) : wt (ls.eraseIdx j) ≤ wt ls := by
  induction ls generalizing j with
  | nil => exact Nat.le_refl _
  | cons b ls ih =>
    cases j with
    | zero => rw [List.eraseIdx_cons_zero, wt_cons]; omega
    | succ j => rw [List.eraseIdx_cons_succ, wt_cons, wt_cons]; have := ih j; omega
theorem spl_wt {s : Nat} : ∀ (n : Nat) (acc l : List Nat), l.length = n → ((spl [s] 0 acc l).map fun p => p.length + 1).sum = acc.length + l.length + 1 := by
  intro n
  induction n with
  | zero =>
    intro acc l hl
    obtain rfl := List.length_eq_zero_iff.mp hl
    rw [spl_nil]
    rfl
  | succ n ih =>
    intro acc l hl
    cases l with
    | nil => cases hl
    | cons c r =>
      have hr : r.length = n := by simpa using hl
      cases h : pre [s] (c :: r) with
      | true =>
        rw [spl_hit h]
        show (acc.length + 1) + ((spl [s] 0 [] r).map fun p => p.length + 1).sum = _
        rw [ih [] r hr, List.length_cons, List.length_nil]
        omega
      | false =>
        rw [spl_miss h, ih (acc ++ [c]) r hr, List.length_append, List.length_singleton, List.length_cons]
        omega
theorem split_wt {z y : Str} {s : Nat} (ey : tl y = [s]) (hk : y.cps.all (· < 256) = true) : wt (Txt.split z y) = z.length + 1 := by
  have len : ∀ z : Str, (tl z).length = z.length := fun z => Array.length_toList
  have e := split_spl z y (by rw [ey]; exact List.cons_ne_nil _ _) (kind_ok hk)
  have h := spl_wt (s := s) _ [] (tl z) rfl
  rw [ey] at e
  rw [← e, List.map_map, len] at h
  unfold wt
  rw [show (fun z : Str => z.length + 1) = (fun p : List Nat => p.length + 1) ∘ tl from funext fun z => by show _ = (tl z).length + 1; rw [len]]
  rw [h, List.length_nil]
  omega
theorem join_wt (y : Str) (hy : y.length = 1) (ls : List Str) : (Txt.join y ls).length ≤ wt ls ∧ (ls.map (·.length)).sum + ls.length * y.length = wt ls := by
  have len : ∀ z : Str, (tl z).length = z.length := fun z => Array.length_toList
  constructor
  · rw [join_eq, ← len, tl_join]
    have hyl : (tl y).length = 1 := by rw [len, hy]
    generalize tl y = w at hyl
    induction ls with
    | nil => exact Nat.le_refl _
    | cons a ls ih =>
      cases ls with
      | nil =>
        show (tl a).length ≤ a.length + 1 + 0
        rw [len]
        omega
      | cons b ls =>
        have e : joinL w ((a :: b :: ls).map tl) = tl a ++ (w ++ joinL w ((b :: ls).map tl)) := by simp [joinL]
        rw [e, List.length_append, List.length_append, len, hyl, wt_cons]
        omega
  · rw [hy, Nat.mul_one]
    unfold wt
    induction ls with
    | nil => rfl
    | cons a ls ih =>
      rw [List.map_cons, List.sum_cons, List.map_cons, List.sum_cons, List.length_cons]
      omega
theorem asc_join {y : Str} (hy : Asc y) {ls : List Str} (h : Asl ls) : Asc (Txt.join y ls) := fun c hc => by
  replace hc : c ∈ tl (Txt.join y ls) := hc
  rw [join_eq, tl_join] at hc
  exact joinL_sg (P := fun c => c < 128) (y := tl y) hy (fun l hl => by
    obtain ⟨z, hz, rfl⟩ := List.mem_map.mp hl
    exact h z hz) c hc
theorem cutS_sub (z : Str) (lo hi : Option Int) : ∀ c ∈ tl (cutS z lo hi), c ∈ tl z := fun c hc => by
  unfold cutS at hc
  replace hc : c ∈ ((z.cps.toList.drop (HT.sIx z.length 0 lo)).take (HT.sIx z.length z.length hi - HT.sIx z.length 0 lo)).toArray.toList := hc
  rw [List.toList_toArray] at hc
  exact List.mem_of_mem_drop (List.mem_of_mem_take hc)
theorem asc_cut {z : Str} (h : Asc z) (lo hi : Option Int) : Asc (cutS z lo hi) := fun c hc => h c (cutS_sub z lo hi c hc)
theorem asc_app {x y : Str} (hx : Asc x) (hy : Asc y) : Asc (x ++ y) := fun c hc => by
  rw [show (x ++ y).cps.toList = tl x ++ tl y from tl_append _ _] at hc
  rcases List.mem_append.mp hc with h | h
  · exact hx c h
  · exact hy c h
theorem app_len9 (x y : Str) : (x ++ y).length = x.length + y.length := by
  have len : ∀ z : Str, (tl z).length = z.length := fun z => Array.length_toList
  rw [← len, tl_append, List.length_append, len, len]
theorem split_asl {z y : Str} {s : Nat} (ey : tl y = [s]) (hk : y.cps.all (· < 256) = true) (h : Asc z) : Asl (Txt.split z y) := fun w hw c hc => h c (((split_facts ey hk).2.2 w hw).1 c hc)
def bitsL : List Str := ["0", "1", "01", "-0", "-3", "", "lost", "event", "ab", "Ab", Txt.mul "9" 30, Txt.mul "9" 31, " "]
theorem bits_ok : ∀ z ∈ bitsL, (∀ c ∈ z.cps.toList, c < 128) ∧ z.length ≤ 31 := by decide +kernel
theorem mul_ok30 : MulOk "9" 30 := ⟨by decide, fun _ _ => by decide +kernel, fun _ _ => by decide +kernel⟩
theorem mul_ok31 : MulOk "9" 31 := ⟨by decide, fun _ _ => by decide +kernel, fun _ _ => by decide +kernel⟩
def bits5 : List Str := ["\n", " ", "-", "7", "x"]
theorem bits5_ok : ∀ z ∈ bits5, (∀ c ∈ z.cps.toList, c < 128) ∧ z.length ≤ 1 := by decide +kernel
def spBent (K : PySem.W.Frag) : Sp := fun vs H Q _ => ∃ (d : Addr) (z : Str) (L : List (As K)), vs = [.ref d, .str z] ∧ Ls.Sep L H ∧ dr d ∈ L ∧ Asc z ∧ z.length ≤ 20000 ∧ ∀ y H', Asc y → y.length ≤ 4 * z.length + 300 → Ls.Sep L H' → Q (.str y) H'
theorem cut_lens9 (z : Str) (i : Nat) : (cutS z none (some (i : Int))).length ≤ i ∧ (cutS z (some (i : Int)) none).length ≤ z.length - i := by
  have e : z.cps.toList.length = z.length := Array.length_toList
  constructor
  · show ((z.cps.toList.drop 0).take (HT.sIx z.length z.length (some (i : Int)) - 0)).toArray.size ≤ _
    rw [List.size_toArray, List.length_take, HT.sIx_nat]
    omega
  · show ((z.cps.toList.drop (HT.sIx z.length 0 (some (i : Int)))).take (z.length - HT.sIx z.length 0 (some (i : Int)))).toArray.size ≤ _
    rw [List.size_toArray, List.length_take, List.length_drop, HT.sIx_nat]
    omega
theorem map_erase (rs : List Str) (i : Nat) : (rs.eraseIdx i).map PyData.str = (rs.map PyData.str).eraseIdx i := by
  induction rs generalizing i with
  | nil => rfl
  | cons a rs ih =>
    cases i with
    | zero => rfl
    | succ i => rw [List.eraseIdx_cons_succ, List.map_cons, List.map_cons, List.eraseIdx_cons_succ, ih]
theorem ixN_nat9 {n j : Nat} (h : j < n) : ixN n (j : Int) = some j := by
  unfold ixN
  rw [if_pos (by omega), if_pos (by omega)]
  exact congrArg some (Int.toNat_natCast j)
end Ls
namespace Lw
open PySem PySem.Spec PyProof.Rows L2 Ls TL
theorem ok__law_bent_dump {P : Program} {w : World} {K : PySem.W.Frag} {mg : Str → Option Value} {base : Heap} (E : Env K mg) : FnOk P w K mg base CX0 3 E.a__law_bent_dump E.fd__law_bent_dump ["_law_d", "_law_text"] (spBent K) := by
  refine E.F__law_bent_dump.ok sc__law_bent_dump (fun vs H Q E h => ?_) (fun cdv A outer s H vs Q E' hr h => ?_)
  · walk_at "hl"
  · have hu := huOf hr
    have G__law_pick := ok__law_pick (P := P) (w := w) (base := base) E
    have hr__law_pick := hr.mono (show 1 ≤ 2 by decide)
    have b__law_pick := b__law_pick E
    have G__law_of := ok__law_of E (ok__law_pick (P := P) (w := w) (base := base) E)
    have hr__law_of := hr.mono (show 2 ≤ 2 by decide)
    have b__law_of := b__law_of E
    obtain ⟨d, z, L, rfl, hS, hd, hz, hzl, q⟩ := h
    refine ⟨_, PSs.nox (pss_cons (ps_set (i := 2) sc__law_bent_dump.nd rfl (Or.inl rfl) (pe_splitU (pv 1) pe_str))
(pss_cons (ps_par (i := 3) (j := 4) rfl sc__law_bent_dump.nd rfl rfl (by decide) rfl rfl (pa_cons (pe_call G__law_pick hr__law_pick rfl E.g__law_pick E.F__law_pick.kp b__law_pick .nil pass0 (pa_cons (pv 0) (pa_cons (pe_callB (call_lenU K rfl) (by rfl) E.n_len boot_len (pa_cons (pv 2) pa_nil)) pa_nil))) (pa_cons (pe_call G__law_pick hr__law_pick rfl E.g__law_pick E.F__law_pick.kp b__law_pick .nil pass0 (pa_cons (pv 0) (pa_cons (pe_callB (call_lenU K rfl) (by rfl) E.n_len boot_len (pa_cons (pv 2) pa_nil)) pa_nil))) pa_nil)) (by with_unfolding_all rfl))
(pss_cons (ps_set (i := 5) sc__law_bent_dump.nd rfl (Or.inl rfl) (pe_splitU (pe_ix (ix_U K rfl) (pv 2) (pv 3) (fun _ _ => rfl)) pe_str))
(pss_cons (ps_set (i := 6) sc__law_bent_dump.nd rfl (Or.inl rfl) (pe_call G__law_pick hr__law_pick rfl E.g__law_pick E.F__law_pick.kp b__law_pick .nil pass0 (pa_cons (pv 0) (pa_cons (pe_callB (call_lenU K rfl) (by rfl) E.n_len boot_len (pa_cons (pv 5) pa_nil)) pa_nil))))
(pss_cons (ps_set (i := 7) sc__law_bent_dump.nd rfl (Or.inl rfl) (pe_lst (pa_cons pe_str (pa_cons pe_str (pa_cons pe_str (pa_cons pe_str (pa_cons pe_str (pa_cons pe_str (pa_cons pe_str (pa_cons pe_str (pa_cons pe_str (pa_cons pe_str (pa_cons (pe_op op_mulS pe_str pe_int) (pa_cons (pe_op op_mulS pe_str pe_int) (pa_cons pe_str pa_nil)))))))))))))))
(pss_cons (ps_set (i := 8) sc__law_bent_dump.nd rfl (Or.inl rfl) (pe_call G__law_pick hr__law_pick rfl E.g__law_pick E.F__law_pick.kp b__law_pick .nil pass0 (pa_cons (pv 0) (pa_cons pe_int pa_nil))))
(pss_cut (ps_if (pt_cmpR (op_lt) (pv 8) pe_int (nomark _)) (pss_cons (ps_set (i := 9) sc__law_bent_dump.nd rfl (Or.inl rfl) (pe_ix (ix_U K rfl) (pe_lst (pa_cons (pe_lst (pa_cons (pe_call G__law_of hr__law_of rfl E.g__law_of E.F__law_of.kp b__law_of .nil pass0 (pa_cons (pv 0) (pa_cons (pv 7) pa_nil))) pa_nil)) (pa_cons (pe_lst (pa_cons (pe_ix (ix_U K rfl) (pv 5) (pv 6) (fun _ _ => rfl)) (pa_cons (pe_ix (ix_U K rfl) (pv 5) (pv 6) (fun _ _ => rfl)) pa_nil))) (pa_cons (pe_lst pa_nil) pa_nil)))) (pv 8) (fun _ _ => rfl)))
(pss_one (ps_asg (pe_joinU K rfl pe_str (pe_op (op_addU K rfl) (pe_op (op_addU K rfl) (pe_slice (sl_U K rfl) (pv 5) po_none (po_some (pv 6))) (pv 9)) (pe_slice (sl_U K rfl) (pv 5) (po_some (pe_op (op_addU K rfl) (pv 6) pe_int)) po_none))) (pg_sub (pv 2) (pv 3) set_list)))) pss_nil)
(pss_cut (ps_if (pt_cmpR (op_eqU K rfl hu) (pv 8) pe_int (nomark _)) (pss_one (ps_expr (kBM K rfl (pe_bm PySem.F.plainAttrs_list PySem.F.slot_list_pop PySem.F.type_list_pop mt_popAt (pv 2) (pa_cons (pv 3) pa_nil))))) pss_nil)
(pss_cut (ps_if (pt_cmpR (op_eqU K rfl hu) (pv 8) pe_int (nomark _)) (pss_one (ps_expr (kBM K rfl (pe_bm PySem.F.plainAttrs_list PySem.F.slot_list_insert PySem.F.type_list_insert mt_insU (pv 2) (pa_cons (pv 4) (pa_cons (pe_ix (ix_U K rfl) (pv 2) (pv 3) (fun _ _ => rfl)) pa_nil)))))) pss_nil)
(pss_cut (ps_if (pt_cmpR (op_eqU K rfl hu) (pv 8) pe_int (nomark _)) (pss_one (ps_asg (pe_tup (pa_cons (pe_ix (ix_U K rfl) (pv 2) (pv 4) (fun _ _ => rfl)) (pa_cons (pe_ix (ix_U K rfl) (pv 2) (pv 3) (fun _ _ => rfl)) pa_nil))) (kGTup (n := 2) K rfl (pg_tup rfl (pgs_cons (pg_sub (pv 2) (pv 3) set_list) (pgs_cons (pg_sub (pv 2) (pv 4) set_list) pgs_nil)))))) pss_nil)
(pss_cons (ps_set (i := 1) sc__law_bent_dump.nd rfl (Or.inl rfl) (pe_joinU K rfl pe_str (pv 2)))
(pss_cons (ps_set (i := 10) sc__law_bent_dump.nd rfl (Or.inl rfl) (pe_call G__law_pick hr__law_pick rfl E.g__law_pick E.F__law_pick.kp b__law_pick .nil pass0 (pa_cons (pv 0) (pa_cons (pe_op (op_addU K rfl) (pe_callB (call_lenU K rfl) (by rfl) E.n_len boot_len (pa_cons (pv 1) pa_nil)) pe_int) pa_nil))))
(pss_cons (ps_if (pt_cmpR (op_eqU K rfl hu) (pv 8) pe_int (nomark _)) (pss_one (ps_ret (pe_slice (sl_U K rfl) (pv 1) po_none (po_some (pv 10))))) pss_nil)
(pss_cons (ps_if (pt_cmpR (op_eqU K rfl hu) (pv 8) pe_int (nomark _)) (pss_one (ps_ret (pe_op (op_addU K rfl) (pe_op (op_addU K rfl) (pe_slice (sl_U K rfl) (pv 1) po_none (po_some (pv 10))) (pe_call G__law_of hr__law_of rfl E.g__law_of E.F__law_of.kp b__law_of .nil pass0 (pa_cons (pv 0) (pa_cons (pe_lst (pa_cons pe_str (pa_cons pe_str (pa_cons pe_str (pa_cons pe_str (pa_cons pe_str pa_nil)))))) pa_nil)))) (pe_slice (sl_U K rfl) (pv 1) (po_some (pv 10)) po_none)))) pss_nil)
(pss_one (ps_ret (pe_join (pe_ifExp (pt_cmpR (op_eqU K rfl hu) (pv 8) pe_int (nomark _)) (pe_op (op_addU K rfl) (pe_slice (sl_U K rfl) (pv 1) po_none (po_some (pv 10))) (pe_slice (sl_U K rfl) (pv 1) (po_some (pe_op (op_addU K rfl) (pv 10) pe_int)) po_none)) (pv 1))))))))))))))))))), ?_⟩
    refine k_body (s1 := some _ :: some _ :: [none, none, none, none, none, none, none, none, none]) rfl ?_
    have hf := split_facts (z := z) (y := "\n") (s := 10) rfl (by decide +kernel)
    have hw0 := split_wt (z := z) (y := "\n") (s := 10) rfl (by decide +kernel)
    have ha0 := split_asl (z := z) (y := "\n") (s := 10) rfl (by decide +kernel) hz
    walk_at "s"
    refine k_splitU ?_
    walk_at "s"
    refine ⟨z, "\n", rfl, rfl, by decide +kernel, by rw [sizeLine_eq]; omega, k_newStrs hS fun pr H hS => ?_⟩
    generalize Txt.split z "\n" = rows at *
    obtain ⟨h1, h2, h3⟩ := hf
    have hr0 : 0 < rows.length := List.length_pos_iff.mpr h2
    walk_at "s"
    rw [List.length_map]
    walk_at "pk"
    intro r H hS r0 r1
    walk_at "s"
    rw [List.length_map]
    walk_at "pk"
    intro r' H hS r'0 r'1
    obtain ⟨i, rfl⟩ := Int.eq_ofNat_of_zero_le r0
    obtain ⟨j, rfl⟩ := Int.eq_ofNat_of_zero_le r'0
    walk_at "s"
    simp only [List.set_cons_succ, List.set_cons_zero]
    obtain ⟨r, hr⟩ : ∃ r, rows[i]? = some r := ⟨_, List.getElem?_eq_getElem (by omega)⟩
    obtain ⟨r2, hr2⟩ : ∃ r, rows[j]? = some r := ⟨_, List.getElem?_eq_getElem (by omega)⟩
    have hrm := List.mem_of_getElem? hr
    have hrm2 := List.mem_of_getElem? hr2
    have hra := ha0 r hrm
    have hrl := wt_mem hrm
    have hrl2 := wt_mem hrm2
    have ai : atI (rows.map PyData.str) (i : Nat) = some (.str r) := atI_nat (by rw [List.getElem?_map, hr]; rfl)
    have aj : atI (rows.map PyData.str) (j : Nat) = some (.str r2) := atI_nat (by rw [List.getElem?_map, hr2]; rfl)
    refine k_splitU ?_
    walk_at "s"
    refine ⟨r, " ", rfl, rfl, by decide +kernel, by rw [sizeLine_eq]; omega, k_newStrs hS fun pw H hS => ?_⟩
    have hv1 := split_wt (z := r) (y := " ") (s := 32) rfl (by decide +kernel)
    have hv2 := split_asl (z := r) (y := " ") (s := 32) rfl (by decide +kernel) hra
    have hv3 := (split_facts (z := r) (y := " ") (s := 32) rfl (by decide +kernel)).2.1
    generalize Txt.split r " " = ws at *
    have hw00 : 0 < ws.length := List.length_pos_iff.mpr hv3
    have hwl := wt_len ws
    have hrwl := wt_len rows
    walk_at "s"
    rw [List.length_map]
    walk_at "pk"
    intro k H hS k0 k1
    obtain ⟨k, rfl⟩ := Int.eq_ofNat_of_zero_le k0
    walk_at "s"
    refine k_mulS mul_ok30 ?_
    walk_at "s"
    refine k_mulS mul_ok31 ?_
    walk_at "s"
    rename Addr => pb
    replace hS : Ls.Sep (Ls.ld pb (bitsL.map PyData.str) :: Ls.ld pw (ws.map PyData.str) :: Ls.ld pr (rows.map PyData.str) :: L) _ := hS
    walk_at "pk"
    intro u H hS u0 u1
    walk_at "s"
    refine k_cutS (fun σ (L' : List (As K)) => ∃ (rs : List Str) (c9 : Option V), L' = Ls.ld pr (rs.map PyData.str) :: L ∧ Asl rs ∧ wt rs ≤ 2 * wt rows + 40 ∧ rows.length = rs.length ∧ σ = [some (.ref d), some (.str z), some (.ref pr), some (.int (i : Nat)), some (.int (j : Nat)), some (.ref pw), some (.int (k : Nat)), some (.ref pb), some (.int u), c9, none]) ?_ ?_
    · walk_at "s"
      by_cases hu3 : u < 3
      case neg =>
        rw [if_neg (by rw [decide_eq_false hu3]; exact Bool.false_ne_true)]
        walk_at "s"
        exact ⟨_, ⟨rows, _, rfl, ha0, by omega, rfl, rfl⟩, Sub.ok (by walk_at "sub") hS⟩
      rw [if_pos (decide_eq_true hu3)]
      walk_at "s"
      refine use_ofS hS (by walk_at "mem") (by walk_at "mem") (all_str _) (by decide) (by decide) fun b H hb hS => ?_
      obtain ⟨hba, hbl⟩ : Asc b ∧ b.length ≤ 31 := by
        obtain ⟨b2, hb2, e⟩ := List.mem_map.mp hb
        cases e
        exact bits_ok b hb2
      obtain ⟨w, hw⟩ : ∃ w, ws[k]? = some w := ⟨_, List.getElem?_eq_getElem (by omega)⟩
      have hwm := List.mem_of_getElem? hw
      have hwa := hv2 w hwm
      have hww := wt_mem hwm
      have ak : atI (ws.map PyData.str) (k : Nat) = some (.str w) := atI_nat (by rw [List.getElem?_map, hw]; rfl)
      walk_at "s"
      obtain ⟨p1, p2, p3, hS2⟩ : ∃ p1 p2 p3, Ls.Sep (ob p (.lst [.ref p1, .ref p2, .ref p3]) :: Ls.ld p3 [] :: Ls.ld p2 [.str w, .str w] :: Ls.ld p1 [.str b] :: Ls.ld pb (bitsL.map PyData.str) :: Ls.ld pw (ws.map PyData.str) :: Ls.ld pr (rows.map PyData.str) :: L) H' := ⟨_, _, _, hS⟩
      clear hS
      obtain ⟨pm, more, eu, hS, hma, hmw⟩ : ∃ (pm : Addr) (more : List Str), atI [V.ref p1, V.ref p2, V.ref p3] u = some (.ref pm) ∧ Ls.Sep (ob p (.lst [.ref p1, .ref p2, .ref p3]) :: Ls.ld pm (more.map PyData.str) :: Ls.ld pw (ws.map PyData.str) :: Ls.ld pr (rows.map PyData.str) :: L) H' ∧ Asl more ∧ wt more ≤ 2 * (w.length + 1) + 32 := by
        have hu : u = 0 ∨ u = 1 ∨ u = 2 := by omega
        rcases hu with rfl | rfl | rfl
        · exact ⟨p1, [b], rfl, Sub.ok (by show Sub _ (ob p _ :: Ls.ld p1 [PyData.str b] :: _); walk_at "sub") hS2, fun x hx => by rw [List.mem_singleton.mp hx]; exact hba, by show b.length + 1 + 0 ≤ _; omega⟩
        · exact ⟨p2, [w, w], rfl, Sub.ok (by show Sub _ (ob p _ :: Ls.ld p2 [PyData.str w, PyData.str w] :: _); walk_at "sub") hS2, fun x hx => by
            simp only [List.mem_cons, List.not_mem_nil, or_false] at hx
            rcases hx with rfl | rfl <;> exact hwa, by show w.length + 1 + (w.length + 1 + 0) ≤ _; omega⟩
        · exact ⟨p3, [], rfl, Sub.ok (by show Sub _ (ob p _ :: Ls.ld p3 [] :: _); walk_at "sub") hS2, (show Asl [] from fun x hx => by cases hx), Nat.zero_le _⟩
      clear hS2
      refine k_ixO hS (by walk_at "mem") eu ?_
      replace hS : Ls.Sep (Ls.ld pm (more.map PyData.str) :: Ls.ld pw (ws.map PyData.str) :: Ls.ld pr (rows.map PyData.str) :: L) _ := Sub.ok (by walk_at "sub") hS
      have hml := wt_len more
      walk_at "s"
      have ht := wt_take ws k
      have ht1 : wt (ws.drop k) = w.length + 1 + wt (ws.drop (k + 1)) := by
        obtain ⟨e1, e2⟩ := List.getElem?_eq_some_iff.mp hw
        rw [List.drop_eq_getElem_cons e1, e2, wt_cons]
      have htl := wt_len (ws.take k)
      have hdl := wt_len (ws.drop (k + 1))
      rw [show Ls.cutD (List.map PyData.str ws) none (some ((k : Nat) : Int)) = (ws.take k).map PyData.str by rw [cutD_to (by omega), Int.toNat_natCast, List.map_take]] at hS
      refine k_addD hS (by walk_at "mem") (by walk_at "mem") (by rw [List.length_map, List.length_map, sizeLine_eq]; omega) fun p5 H hS => ?_
      rw [← List.map_append] at hS
      walk_at "s"
      rename Addr => p6
      rw [show Ls.cutD (List.map PyData.str ws) (some ((k : Int) + 1)) none = (ws.drop (k + 1)).map PyData.str by rw [cutD_from (by omega), List.map_drop]; rfl] at hS
      refine k_addD hS (by walk_at "mem") (by walk_at "mem") (by rw [List.length_map, List.length_map, List.length_append, sizeLine_eq]; omega) fun p7 H hS => ?_
      rw [← List.map_append] at hS
      obtain ⟨us, hus⟩ : ∃ us, us = ws.take k ++ more ++ ws.drop (k + 1) := ⟨_, rfl⟩
      have huw : wt us ≤ 2 * (r.length + 1) + 32 := by rw [hus, wt_app, wt_app]; omega
      have hua : Asl us := fun x hx => by
        rw [hus] at hx
        rcases List.mem_append.mp hx with hx | hx
        · rcases List.mem_append.mp hx with hx | hx
          · exact hv2 x (List.mem_of_mem_take hx)
          · exact hma x hx
        · exact hv2 x (List.mem_of_mem_drop hx)
      rw [← hus] at hS
      clear hus
      have hjn := join_wt " " (by decide +kernel) us
      have hja := asc_join (y := " ") (by exact fun c hc => by rw [List.mem_singleton.mp (show c ∈ [32] from hc)]; decide) hua
      refine ⟨" ", p7, us, rfl, rfl, .inl (Sep.sqs hS (by walk_at "mem")), by omega, ?_⟩
      generalize Txt.join " " us = y at *
      refine k_gsub ?_
      walk_at "s"
      refine k_setLd hS (by walk_at "rep") (.str y) (ixN_nat9 (by rw [List.length_map]; omega)) fun H hS => ?_
      have hst := wt_setp hr y
      rw [← List.map_set] at hS
      exact ⟨_, ⟨rows.set i y, _, rfl, asl_set ha0 hja i, by omega, by rw [List.length_set], rfl⟩, Sub.ok (by walk_at "sub") hS⟩
    clear hS
    rintro _ _ H ⟨rs, c9, rfl, hrs, hwr, hlr, rfl⟩ hS
    walk_at "s"
    refine k_cutS (fun σ (L' : List (As K)) => ∃ (rs : List Str), L' = Ls.ld pr (rs.map PyData.str) :: L ∧ Asl rs ∧ wt rs ≤ 2 * wt rows + 40 ∧ (u ≠ 3 → rows.length = rs.length) ∧ σ = [some (.ref d), some (.str z), some (.ref pr), some (.int (i : Nat)), some (.int (j : Nat)), some (.ref pw), some (.int (k : Nat)), some (.ref pb), some (.int u), c9, none]) ?_ ?_
    · walk_at "s"
      by_cases e3 : u = 3
      · rw [if_pos (decide_eq_true e3)]
        walk_at "s"
        obtain ⟨x, hx⟩ : ∃ x, (rs.map PyData.str)[i]? = some x := ⟨_, List.getElem?_eq_getElem (by rw [List.length_map]; omega)⟩
        refine k_popAtD hS (by walk_at "rep") hx (by omega) fun v H hS => ?_
        refine ⟨_, ⟨rs.eraseIdx i, rfl, fun y hy => hrs y (List.mem_of_mem_eraseIdx hy), by have := wt_erase rs i; omega, fun h => (h e3).elim, rfl⟩, ?_⟩
        rw [map_erase]
        exact hS
      · rw [if_neg (by rw [decide_eq_false e3]; exact Bool.false_ne_true)]
        walk_at "s"
        exact ⟨_, ⟨rs, rfl, hrs, hwr, fun _ => hlr, rfl⟩, hS⟩
    clear hS hrs hwr hlr rs
    rintro _ _ H ⟨rs, rfl, hrs, hwr, hlr, rfl⟩ hS
    walk_at "s"
    refine k_cutS (fun σ (L' : List (As K)) => ∃ (rs : List Str), L' = Ls.ld pr (rs.map PyData.str) :: L ∧ Asl rs ∧ wt rs ≤ 4 * wt rows + 80 ∧ (u = 5 → rows.length = rs.length) ∧ σ = [some (.ref d), some (.str z), some (.ref pr), some (.int (i : Nat)), some (.int (j : Nat)), some (.ref pw), some (.int (k : Nat)), some (.ref pb), some (.int u), c9, none]) ?_ ?_
    · walk_at "s"
      by_cases e4 : u = 4
      · rw [if_pos (decide_eq_true e4)]
        have hl4 := hlr (by omega)
        obtain ⟨y, hy⟩ : ∃ y, rs[i]? = some y := ⟨_, List.getElem?_eq_getElem (by omega)⟩
        have hym := List.mem_of_getElem? hy
        have hyw := wt_mem hym
        have ay : atI (rs.map PyData.str) (i : Nat) = some (.str y) := atI_nat (by rw [List.getElem?_map, hy]; rfl)
        walk_at "s"
        refine k_insD hS (by walk_at "rep") (.str _) (by omega) (by omega) (by rw [List.length_map, sizeLine_eq]; omega) fun H hS => ?_
        refine ⟨_, ⟨rs.take j ++ [y] ++ rs.drop j, rfl, fun x hx => ?_, ?_, fun h => by omega, rfl⟩, ?_⟩
        · rcases List.mem_append.mp hx with hx | hx
          · rcases List.mem_append.mp hx with hx | hx
            · exact hrs x (List.mem_of_mem_take hx)
            · rw [List.mem_singleton.mp hx]
              exact hrs y hym
          · exact hrs x (List.mem_of_mem_drop hx)
        · rw [wt_app, wt_app, wt_cons]
          have := wt_take rs j
          show _ + (y.length + 1 + 0) + _ ≤ _
          omega
        · rw [List.map_append, List.map_append, List.map_take, List.map_drop]
          exact hS
      · rw [if_neg (by rw [decide_eq_false e4]; exact Bool.false_ne_true)]
        walk_at "s"
        exact ⟨_, ⟨rs, rfl, hrs, by omega, fun h => hlr (by omega), rfl⟩, hS⟩
    clear hS hrs hwr hlr rs
    rintro _ _ H ⟨rs, rfl, hrs, hwr, hlr, rfl⟩ hS
    walk_at "s"
    refine k_cutS (fun σ (L' : List (As K)) => ∃ (rs : List Str), L' = Ls.ld pr (rs.map PyData.str) :: L ∧ Asl rs ∧ wt rs ≤ 4 * wt rows + 200 ∧ σ = [some (.ref d), some (.str z), some (.ref pr), some (.int (i : Nat)), some (.int (j : Nat)), some (.ref pw), some (.int (k : Nat)), some (.ref pb), some (.int u), c9, none]) ?_ ?_
    · walk_at "s"
      by_cases e5 : u = 5
      · rw [if_pos (decide_eq_true e5)]
        have hl5 := hlr e5
        obtain ⟨x, hx⟩ : ∃ y, rs[i]? = some y := ⟨_, List.getElem?_eq_getElem (by omega)⟩
        obtain ⟨y, hy⟩ : ∃ y, rs[j]? = some y := ⟨_, List.getElem?_eq_getElem (by omega)⟩
        have ax : atI (rs.map PyData.str) (i : Nat) = some (.str x) := atI_nat (by rw [List.getElem?_map, hx]; rfl)
        have ay : atI (rs.map PyData.str) (j : Nat) = some (.str y) := atI_nat (by rw [List.getElem?_map, hy]; rfl)
        have hxm := List.mem_of_getElem? hx
        have hym := List.mem_of_getElem? hy
        walk_at "s"
        have hs1 := wt_setp hx y
        have hy2 : (rs.set i y)[j]? = some y := by
          by_cases e : i = j
          · subst e
            rw [List.getElem?_set_self (by omega)]
          · rw [List.getElem?_set_ne e, hy]
        have hs2 := wt_setp hy2 x
        refine k_setLd hS (by walk_at "rep") (.str y) (ixN_nat9 (by rw [List.length_map]; omega)) fun H hS => ?_
        rw [← List.map_set] at hS
        walk_at "s"
        refine k_setLd hS (by walk_at "rep") (.str x) (ixN_nat9 (by rw [List.length_map, List.length_set]; omega)) fun H hS => ?_
        rw [← List.map_set] at hS
        walk_at "s"
        exact ⟨_, ⟨(rs.set i y).set j x, rfl, asl_set (asl_set hrs (hrs y hym) i) (hrs x hxm) j, by omega, rfl⟩, Sub.ok (by walk_at "sub") hS⟩
      · rw [if_neg (by rw [decide_eq_false e5]; exact Bool.false_ne_true)]
        walk_at "s"
        exact ⟨_, ⟨rs, rfl, hrs, by omega, rfl⟩, hS⟩
    clear hS hrs hwr hlr rs
    rintro _ _ H ⟨rs, rfl, hrs, hwr, rfl⟩ hS
    have hjn := join_wt "\n" (by decide +kernel) rs
    have hja := asc_join (y := "\n") (by exact fun c hc => by rw [List.mem_singleton.mp (show c ∈ [10] from hc)]; decide) hrs
    walk_at "s"
    generalize Txt.join "\n" rs = y at *
    walk_at "s"
    refine k_lenS (by rw [sizeLine_eq]; omega) ?_
    walk_at "s"
    walk_at "pk"
    intro g H hS g0 g1
    obtain ⟨g, rfl⟩ := Int.eq_ofNat_of_zero_le g0
    have l1 := cutS_length y none (some (g : Int))
    have l2 := cutS_length y (some (g : Int)) none
    have l3 := cutS_length y (some ((g : Int) + 1)) none
    have big : ∀ {m : Nat}, m ≤ 1000000 → m ≤ sizeLine := fun h => by rw [sizeLine_eq]; omega
    have hyl : y.length ≤ 4 * z.length + 204 := by omega
    walk_at "s"
    by_cases e6 : u = 6
    · rw [if_pos (decide_eq_true e6)]
      walk_at "s"
      refine k_slStr (big (by omega)) ?_
      exact q _ _ (asc_cut hja _ _) (by omega) (Sub.ok (by walk_at "sub") hS)
    rw [if_neg (by rw [decide_eq_false e6]; exact Bool.false_ne_true)]
    walk_at "s"
    by_cases e7 : u = 7
    · rw [if_pos (decide_eq_true e7)]
      walk_at "s"
      refine k_slStr (big (by omega)) ?_
      walk_at "s"
      rename Addr => p5
      replace hS : Ls.Sep (Ls.ld p5 (bits5.map PyData.str) :: Ls.ld pr (rs.map PyData.str) :: L) _ := hS
      refine use_ofS hS (by walk_at "mem") (by walk_at "mem") (all_str _) (by decide) (by decide) fun b H hb hS => ?_
      obtain ⟨hba, hbl⟩ : Asc b ∧ b.length ≤ 1 := by
        obtain ⟨b2, hb2, e⟩ := List.mem_map.mp hb
        cases e
        exact bits5_ok b hb2
      have c1 := cut_lens9 y g
      refine k_addS (big (by omega)) ?_
      walk_at "s"
      refine k_slStr (big (by omega)) ?_
      walk_at "s"
      refine k_addS (big (by rw [app_len9]; omega)) ?_
      exact q _ _ (asc_app (asc_app (asc_cut hja _ _) hba) (asc_cut hja _ _)) (by rw [app_len9, app_len9]; omega) (Sub.ok (by walk_at "sub") hS)
    rw [if_neg (by rw [decide_eq_false e7]; exact Bool.false_ne_true)]
    walk_at "s"
    refine k_nojoin ?_
    walk_at "s"
    by_cases e8 : u = 8
    · rw [if_pos (decide_eq_true e8)]
      walk_at "s"
      have c1 := cut_lens9 y g
      have c2 := cut_lens9 y (g + 1)
      rw [Int.natCast_add] at c2
      refine k_slStr (big (by omega)) ?_
      walk_at "s"
      refine k_slStr (big (by omega)) ?_
      walk_at "s"
      refine k_addS (big (by omega)) ?_
      exact q _ _ (asc_app (asc_cut hja _ _) (asc_cut hja _ _)) (by rw [app_len9]; have := c2.2; simp only [Int.natCast_one] at this; omega) (Sub.ok (by walk_at "sub") hS)
    · rw [if_neg (by rw [decide_eq_false e8]; exact Bool.false_ne_true)]
      walk_at "s"
      exact q _ _ hja (by omega) (Sub.ok (by walk_at "sub") hS)
end Lw
namespace Ls
open PySem PySem.Spec PyProof.Rows L2 TL
def spAskD (K : PySem.W.Frag) : Sp := fun vs H Q _ => ∃ (z : Str) (L : List (As K)), vs = [.str z] ∧ Tz z ∧ Ls.Sep L H ∧ ((rdRows z).2 = none → ∀ q H', Ls.Sep (Ls.ld q ((rdRows z).1.map Dm.D) :: L) H' → Q (.ref q) H') ∧ (∀ i, (rdRows z).2 = some i → ∀ H', Ls.Sep L H' → Q (.int (i : Nat)) H')
end Ls
namespace Lw
open PySem PySem.Spec PyProof.Rows L2 Ls
theorem ok__law_ask_dump {P : Program} {w : World} {K : PySem.W.Frag} {mg : Str → Option Value} {base : Heap} (E : Env K mg) : FnOk P w K mg base CX0 9 E.a__law_ask_dump E.fd__law_ask_dump ["_law_text"] (spAskD K) := by
  refine E.F__law_ask_dump.ok sc__law_ask_dump (fun vs H Q E h => ?_) (fun cdv A outer s H vs Q E' hr h => ?_)
  · walk_at "hl"
  · have hu := huOf hr
    have G_read_dump := okX_read_dump (P := P) (w := w) (base := base) E
    have hr_read_dump := hr.mono (show 8 ≤ 8 by decide)
    have b_read_dump := b_read_dump E
    obtain ⟨z, L, rfl, hz, hS, q1, q2⟩ := h
    refine ⟨_, PSs.nox (pss_cut (ps_try_cl (l := [(.ref E.C_BadDump, 2, fun a cls d => _)]) rfl rfl sc__law_ask_dump.nd LamX.takes0 (fun W pn xe tk _ => (pss_one (ps_set (i := 1) sc__law_ask_dump.nd rfl (Or.inl rfl) (pe_callW G_read_dump hr_read_dump rfl E.g_read_dump E.F_read_dump.kp b_read_dump .nil tk (pa_cons (pv 0) pa_nil))))) (.cons ⟨rfl, by decide, .inl E.g_BadDump⟩ rfl rfl (fun a oe cls d pn hz hf => (pss_one (ps_set (i := 1) sc__law_ask_dump.nd rfl (Or.inl rfl) (pe_xfA K rfl hz hf (pv 2))))) .nil))
(pss_one (ps_ret (pv 1)))), ?_⟩
    refine k_body (s1 := some _ :: [none, none]) rfl ?_
    refine k_cutS (fun σ (L' : List (As K)) => (∃ q c2, (rdRows z).2 = none ∧ L' = Ls.ld q ((rdRows z).1.map Dm.D) :: L ∧ σ = [some (.str z), some (.ref q), c2]) ∨ (∃ i c2, (rdRows z).2 = some i ∧ L' = L ∧ σ = [some (.str z), some (.int (i : Nat)), c2])) ?_ ?_
    · walk_at "s"
      refine k_callW ?_
      walk_at "s"
      refine ⟨z, _, rfl, hz, hS, fun e pq H hS => ⟨_, .inl ⟨pq, _, e, rfl, rfl⟩, hS⟩, fun i e dd H hS => ?_⟩
      refine ⟨true, E.e_BadDump_BadDump, fun _ a _ => ?_, fun z => by cases z⟩
      refine k_body (s1 := [some (.str z), none, some (.ref a)]) rfl ?_
      have hd := hS.obm (a := dd) (o := .xd [("row", .int (i : Nat)), ("word", .str "baddump")]) (by walk_at "mem")
      refine ⟨E.C_BadDump, E.x_BadDump, E.f_BadDump, _, rfl, rfl, rfl, dd, [("row", .int (i : Nat)), ("word", .str "baddump")], .int (i : Nat), rfl, hd, by simp [List.lookup], ?_⟩
      dsimp only [gone]
      walk_at "s"
      exact ⟨_, .inr ⟨i, _, e, rfl, rfl⟩, Sub.ok (by walk_at "sub") hS⟩
    clear hS
    rintro _ _ H (⟨pq, c2, e, rfl, rfl⟩ | ⟨i, c2, e, rfl, rfl⟩) hS
    · walk_at "s"
      exact q1 e _ _ hS
    · walk_at "s"
      exact q2 i e _ hS
end Lw
namespace Ls
open PySem PySem.Spec PyProof.Rows L2 TL
theorem joinL_len9 : ∀ ls : List (List Nat), (joinL [] ls).length = (ls.map (·.length)).sum
  | [] => rfl
  | l :: ls => by
    rw [joinL_nil, List.length_append, joinL_len9 ls, List.map_cons, List.sum_cons]
theorem words_sm {t : Dm} (h : t.ok) (hs : t.sm) : wt (wordsD t) ≤ 256 ∧ Asl (wordsD t) := by
  have hl := (words_len h).2
  have an : ∀ i : Int, Asc (numS i) := fun i c hc => by
    rcases numS_sg i c hc with h | h
    · subst h; decide
    · have := h.2; omega
  have al : ∀ c ∈ ("lost" : Str).cps.toList, c < 128 := by decide +kernel
  have ae : ∀ c ∈ ("event" : Str).cps.toList, c < 128 := by decide +kernel
  have wl : ∀ {ls : List Str} {k : Nat}, ls.length ≤ k → (∀ w ∈ ls, w.length ≤ 31) → wt ls ≤ 32 * k := fun {ls k} hk hw => by
    have := sum_le (c := 32) (ls := ls.map fun z => z.length + 1) fun l hl => by
      obtain ⟨w, hw', rfl⟩ := List.mem_map.mp hl
      have := hw w hw'
      omega
    rw [List.length_map] at this
    show (ls.map fun z => z.length + 1).sum ≤ _
    have := Nat.mul_le_mul_left 32 hk
    omega
  cases t with
  | lost n =>
    refine ⟨wl (k := 8) (by show 2 ≤ 8; decide) hl, fun z hz => ?_⟩
    rcases List.mem_cons.mp hz with rfl | hz
    · exact al
    · rw [List.mem_singleton.mp hz]; exact an n
  | ev p x s vs =>
    refine ⟨wl (k := 8) (by show ((["event", numS p, numS x, s] : List Str) ++ vs.map numS).length ≤ 8; rw [List.length_append, List.length_map]; have : vs.length ≤ 4 := hs; show 4 + _ ≤ 8; omega) hl, fun z hz => ?_⟩
    rcases List.mem_append.mp hz with hz | hz
    · simp only [List.mem_cons, List.not_mem_nil, or_false] at hz
      rcases hz with rfl | rfl | rfl | rfl
      · exact ae
      · exact an p
      · exact an x
      · exact fun c hc => by have := h.2.2.1.2.2 c hc; omega
    · obtain ⟨v, _, rfl⟩ := List.mem_map.mp hz
      exact an v
theorem row_sm {t : Dm} (h : t.ok) (hs : t.sm) : (rowS t ++ ("\n" : Str)).length ≤ 257 ∧ Asc (rowS t ++ ("\n" : Str)) := by
  obtain ⟨h1, h2⟩ := words_sm h hs
  have hj := (join_wt " " (by decide +kernel) (wordsD t)).1
  refine ⟨?_, asc_app (asc_join (y := " ") (by exact fun c hc => by rw [List.mem_singleton.mp (show c ∈ [32] from hc)]; decide) h2) (by exact fun c hc => by rw [List.mem_singleton.mp (show c ∈ [10] from hc)]; decide)⟩
  rw [app_len9, show ("\n" : Str).length = 1 by decide +kernel]
  show (Txt.join " " (wordsD t)).length + 1 ≤ 257
  omega
theorem dump_sm {ts : List Dm} (h : ∀ t ∈ ts, t.ok ∧ t.sm) (hl : ts.length ≤ 12) : (dumpS ts).length ≤ 3084 ∧ Asc (dumpS ts) := by
  have l : ∀ z : Str, (tl z).length = z.length := fun z => Array.length_toList
  constructor
  · unfold dumpS
    rw [join_eq, ← l, tl_join, show tl ("" : Str) = [] from rfl, joinL_len9, List.map_map, show (List.length ∘ tl) = fun z : Str => z.length from funext l]
    have := sum_le (c := 257) (ls := (ts.map fun t => rowS t ++ ("\n" : Str)).map fun z : Str => z.length) fun x hx => by
      obtain ⟨y, hy, rfl⟩ := List.mem_map.mp hx
      obtain ⟨t, ht, rfl⟩ := List.mem_map.mp hy
      exact (row_sm (h t ht).1 (h t ht).2).1
    rw [List.length_map, List.length_map] at this
    omega
  · refine asc_join (y := "") (fun c hc => by cases hc) fun z hz => ?_
    obtain ⟨t, ht, rfl⟩ := List.mem_map.mp hz
    exact (row_sm (h t ht).1 (h t ht).2).2
theorem tz_asc {z : Str} (h : Asc z) (k : z.length ≤ 90000) : Tz z := ⟨k, by
  unfold PyData.strOk
  rw [← Array.all_toList, List.all_eq_true]
  exact fun c hc => by
    have := h c hc
    exact decide_eq_true (by omega)⟩
theorem rdGo_okm : ∀ {rs : List Str} {ts : List Dm} {i : Nat}, (∀ r ∈ rs, Tz r) → (∀ t ∈ ts, Okm t) → (∀ t ∈ (rdGo rs ts i).1, Okm t) ∧ (rdGo rs ts i).1.length ≤ ts.length + rs.length
  | [], ts, i, _, ht => by rw [rdGo]; exact ⟨ht, Nat.le_refl _⟩
  | r :: rs, ts, i, hr, ht => by
    cases e : rdThing r with
    | none => rw [rdGo_none e]; exact ⟨ht, Nat.le_add_right _ _⟩
    | some t =>
      by_cases f : FitsD t ts
      · rw [rdGo_cons e f]
        have := rdGo_okm (rs := rs) (ts := ts ++ [t]) (i := i + 1) (fun x hx => hr x (List.mem_cons_of_mem _ hx)) (fun x hx => by
          rcases List.mem_append.mp hx with hx | hx
          · exact ht x hx
          · rw [List.mem_singleton.mp hx]; exact rdThing_ok (hr r List.mem_cons_self) e)
        refine ⟨this.1, ?_⟩
        have h2 := this.2
        rw [List.length_append, List.length_singleton] at h2
        rw [List.length_cons]
        omega
      · rw [rdGo_no e f]; exact ⟨ht, Nat.le_add_right _ _⟩
theorem okd_m {t : Dm} (h : Okm t) : OkD 3 t.D := by
  cases t with
  | lost n =>
    refine ⟨by show 2 ≤ 100000; decide, fun d hd => ?_⟩
    simp only [List.mem_cons, List.not_mem_nil, or_false] at hd
    rcases hd with rfl | rfl
    · show PyData.strOk _ = true; decide +kernel
    · trivial
  | ev p x s vs =>
    refine ⟨by show 5 ≤ 100000; decide, fun d hd => ?_⟩
    simp only [List.mem_cons, List.not_mem_nil, or_false] at hd
    rcases hd with rfl | rfl | rfl | rfl | rfl
    · show PyData.strOk _ = true; decide +kernel
    · trivial
    · trivial
    · show PyData.strOk _ = true
      unfold PyData.strOk
      rw [← Array.all_toList, List.all_eq_true]
      exact fun c hc => by
        have := nm_sg h.1 c hc
        exact decide_eq_true (by omega)
    · have hv : vs.length ≤ 90001 := h.2
      exact ⟨by show (vs.map PyData.int).length ≤ 100000; rw [List.length_map]; omega, fun d hd => by
        obtain ⟨v, _, rfl⟩ := List.mem_map.mp hd
        trivial⟩
theorem rows_okd {z : Str} (hz : Tz z) : OkD 4 (.list ((rdRows z).1.map Dm.D)) := by
  have h1 := split_facts (z := z) (y := "\n") (s := 10) rfl (by decide +kernel)
  have h2 := split_tz (z := z) (y := "\n") (s := 10) rfl (by decide +kernel) hz
  have h3 := rdGo_okm (rs := (Txt.split z "\n").dropLast) (ts := []) (i := 0) (fun r hr => h2 r (mem_dropLast hr)) (fun t ht => by cases ht)
  have e : (rdRows z).1 = (rdGo (Txt.split z "\n").dropLast [] 0).1 := by
    unfold rdRows
    split
    · rename_i e; rw [e]
    · rename_i e; rw [e]
  rw [e]
  refine ⟨?_, fun d hd => ?_⟩
  · rw [List.length_map]
    have := h3.2
    have := hz.1
    rw [List.length_dropLast, List.length_nil] at *
    omega
  · obtain ⟨t, ht, rfl⟩ := List.mem_map.mp hd
    exact okd_m (h3.1 t ht)
theorem bad_rows : (rdRows "\n").2 = some 0 ∧ (rdRows "lost 1").2 = some 0 ∧ (rdRows "lost 0\n").2 = some 0 := by
  have s1 : Txt.split "\n" "\n" = ([("" : Str), ""] : List Str) := by decide +kernel
  have s2 : Txt.split "lost 1" "\n" = ([("lost 1" : Str)] : List Str) := by decide +kernel
  have s3 : Txt.split "lost 0\n" "\n" = ([("lost 0" : Str), ""] : List Str) := by decide +kernel
  have t1 : (rdThing "").isNone = true := by decide +kernel
  have t3 : (rdThing "lost 0").isNone = true := by decide +kernel
  have n1 : rdThing "" = none := Option.isNone_iff_eq_none.mp t1
  have n3 : rdThing "lost 0" = none := Option.isNone_iff_eq_none.mp t3
  refine ⟨?_, ?_, ?_⟩
  · rw [rdRows_some (ts := []) (i := 0) (by rw [s1]; exact rdGo_none n1)]
  · rw [rdRows_none (ts := []) (by rw [s2]; rfl), s2]
    rfl
  · rw [rdRows_some (ts := []) (i := 0) (by rw [s3]; exact rdGo_none n3)]
theorem tz_lits : Tz "\n" ∧ Tz "lost 1" ∧ Tz "lost 0\n" := ⟨⟨by decide +kernel, by decide +kernel⟩, ⟨by decide +kernel, by decide +kernel⟩, ⟨by decide +kernel, by decide +kernel⟩⟩
end Ls
namespace Lw
open PySem PySem.Spec PyProof.Rows L2 Ls
theorem ok_law {P : Program} {w : World} {K : PySem.W.Frag} {mg : Str → Option Value} {base : Heap} (E : Env K mg) : FnOk P w K mg base (L2.CX P w) 20 E.a_law E.fd_law ["_law_script"] (spLaw K []) := by
  refine E.F_law.ok sc_law (fun vs H Q E h => ?_) (fun cdv A outer s H vs Q E' hr h => ?_)
  · walk_at "hl"
  · have hu := huOf hr
    have G__law_begin := ok__law_begin (P := P) (w := w) (base := base) E
    have hr__law_begin := hr.mono (show 1 ≤ 19 by decide)
    have b__law_begin := b__law_begin E
    have G__law_dump := ok__law_dump (P := P) (w := w) (base := base) E
    have hr__law_dump := hr.mono (show 2 ≤ 19 by decide)
    have b__law_dump := b__law_dump E
    have G__law_same := ok__law_same (P := P) (w := w) (base := base) E 4
    have hr__law_same := hr.mono (show 5 ≤ 19 by decide)
    have b__law_same := b__law_same E
    have G__law_dump_told := ok__law_dump_told (P := P) (w := w) (base := base) E
    have hr__law_dump_told := hr.mono (show 5 ≤ 19 by decide)
    have b__law_dump_told := b__law_dump_told E
    have G__law_dump_read := ok__law_dump_read (P := P) (w := w) (base := base) E
    have hr__law_dump_read := hr.mono (show 4 ≤ 19 by decide)
    have b__law_dump_read := b__law_dump_read E
    have G__law_bent_dump := ok__law_bent_dump (P := P) (w := w) (base := base) E
    have hr__law_bent_dump := hr.mono (show 3 ≤ 19 by decide)
    have b__law_bent_dump := b__law_bent_dump E
    have G__law_ask_dump := ok__law_ask_dump (P := P) (w := w) (base := base) E
    have hr__law_ask_dump := hr.mono (show 9 ≤ 19 by decide)
    have b__law_ask_dump := b__law_ask_dump E
    have G__law_pick := ok__law_pick (P := P) (w := w) (base := base) E
    have hr__law_pick := hr.mono (show 1 ≤ 19 by decide)
    have b__law_pick := b__law_pick E
    have G_mended := ok_mended (P := P) (w := w) (base := base) E
    have hr_mended := hr.mono (show 5 ≤ 19 by decide)
    have b_mended := b_mended E
    obtain ⟨a, ns, rfl, _, hs, hl, q⟩ := h
    refine ⟨_, PSs.nox (pss_cons (ps_set (i := 1) sc_law.nd rfl (Or.inl rfl) (pe_call G__law_begin hr__law_begin rfl E.g__law_begin E.F__law_begin.kp b__law_begin .nil pass0 (pa_cons (pv 0) pa_nil)))
(pss_cons (ps_set (i := 2) sc_law.nd rfl (Or.inl rfl) (pe_call G__law_dump hr__law_dump rfl E.g__law_dump E.F__law_dump.kp b__law_dump .nil pass0 (pa_cons (pe_call G__law_dump_told hr__law_dump_told rfl E.g__law_dump_told E.F__law_dump_told.kp b__law_dump_told .nil pass0 (pa_cons (pv 1) pa_nil)) pa_nil)))
(pss_cons (ps_for PassesOwn.never rfl (pi_range1 rfl E.n_range (pa_cons pe_int pa_nil)) (pg_name (i := 3) sc_law.nd rfl (Or.inl rfl))
(pss_cons (ps_set (i := 4) sc_law.nd rfl (Or.inl rfl) (pv 2))
(pss_cons (ps_for PassesOwn.never rfl (pi_range1 rfl E.n_range (pa_cons (pe_op (op_addU K rfl) pe_int (pe_call G__law_pick hr__law_pick rfl E.g__law_pick E.F__law_pick.kp b__law_pick .nil pass0 (pa_cons (pv 1) (pa_cons pe_int pa_nil)))) pa_nil)) (pg_name (i := 5) sc_law.nd rfl (Or.inl rfl))
(pss_one (ps_set (i := 4) sc_law.nd rfl (Or.inl rfl) (pe_call G__law_bent_dump hr__law_bent_dump rfl E.g__law_bent_dump E.F__law_bent_dump.kp b__law_bent_dump .nil pass0 (pa_cons (pv 1) (pa_cons (pv 4) pa_nil))))))
(pss_cons (ps_asg (pe_call G__law_dump_read hr__law_dump_read rfl E.g__law_dump_read E.F__law_dump_read.kp b__law_dump_read .nil pass0 (pa_cons (pv 4) pa_nil)) (kGTup (n := 2) K rfl (pg_tup rfl (pgs_cons (pg_name (i := 6) sc_law.nd rfl (Or.inl rfl)) (pgs_cons (pg_name (i := 7) sc_law.nd rfl (Or.inl rfl)) pgs_nil)))))
(pss_cons (ps_if (pt_not (pt_val (pe_call G__law_same hr__law_same rfl E.g__law_same E.F__law_same.kp b__law_same .nil pass0 (pa_cons (pe_call G_mended hr_mended rfl E.g_mended E.F_mended.kp b_mended .nil pass0 (pa_cons (pv 4) pa_nil)) (pa_cons (pv 6) pa_nil))))) (pss_one (ps_ret pe_bl)) pss_nil)
(pss_one (ps_if (pt_not (pt_val (pe_call G__law_same hr__law_same rfl E.g__law_same E.F__law_same.kp b__law_same .nil pass0 (pa_cons (pe_call G__law_ask_dump hr__law_ask_dump rfl E.g__law_ask_dump E.F__law_ask_dump.kp b__law_ask_dump .nil pass0 (pa_cons (pv 4) pa_nil)) (pa_cons (pe_join (pe_ifExp (pt_cmpR (op_isU) (pv 7) pe_non (nomark _)) (pv 6) (pv 7))) pa_nil))))) (pss_one (ps_ret pe_bl)) pss_nil)))))))
(pss_one (ps_ret (pe_call G__law_same hr__law_same rfl E.g__law_same E.F__law_same.kp b__law_same .nil pass0 (pa_cons (pe_lst (pa_cons (pe_call G__law_ask_dump hr__law_ask_dump rfl E.g__law_ask_dump E.F__law_ask_dump.kp b__law_ask_dump .nil pass0 (pa_cons pe_str pa_nil)) (pa_cons (pe_call G__law_ask_dump hr__law_ask_dump rfl E.g__law_ask_dump E.F__law_ask_dump.kp b__law_ask_dump .nil pass0 (pa_cons pe_str pa_nil)) (pa_cons (pe_call G__law_ask_dump hr__law_ask_dump rfl E.g__law_ask_dump E.F__law_ask_dump.kp b__law_ask_dump .nil pass0 (pa_cons pe_str pa_nil)) pa_nil)))) (pa_cons (pe_lst (pa_cons pe_int (pa_cons pe_int (pa_cons pe_int pa_nil)))) pa_nil)))))))), ?_⟩
    refine k_body (s1 := some _ :: [none, none, none, none, none, none, none]) rfl ?_
    walk_at "s"
    refine use_beginS (L := []) Sep.nil hs hl (fun d H hS => ?_)
    walk_at "s"
    refine ⟨d, _, rfl, hS, by walk_at "mem", fun pt ts H htl hok _ hS => ?_⟩
    walk_at "s"
    refine ⟨pt, ts, _, rfl, hS, by walk_at "mem", by omega, fun t ht => (hok t ht).1, fun H hS => ?_⟩
    obtain ⟨hdl, hda⟩ := dump_sm hok htl
    generalize dumpS ts = w0 at *
    replace hS : Ls.Sep (K := K) [dr d] H := Sub.ok (by walk_at "sub") hS
    walk_at "s"
    refine for_wk (n := (6 : Int).toNat) (fun i σ L' => L' = [dr d] ∧ ∃ c3 c4 c5 c6 c7, σ = [some (.ref a), some (.ref d), some (.str w0), c3, c4, c5, c6, c7]) (fun i σ L' _ => wk_rng) hS ⟨rfl, _, _, _, _, _, rfl⟩ (fun i σ L' hi iv => ?_) (fun σ L' H iv hS9 => ?_)
    · obtain ⟨rfl, c3, c4, c5, c6, c7, rfl⟩ := iv
      clear hS
      intro H hS
      walk_at "ns"
      walk_at "s"
      walk_at "pk"
      intro u H hS u0 u1
      walk_at "s"
      refine for_wk (n := (1 + u).toNat) (fun j σ L' => L' = [dr d] ∧ ∃ y cy, σ = [some (.ref a), some (.ref d), some (.str w0), some (.int (0 + i)), some (.str y), cy, c6, c7] ∧ Asc y ∧ ((j = 0 ∧ y.length ≤ 3084) ∨ (j = 1 ∧ y.length ≤ 12636) ∨ (j = 2 ∧ y.length ≤ 50844))) (fun i σ L' _ => wk_rng) hS ⟨rfl, _, _, rfl, hda, by omega⟩ (fun j σ L' hj iv => ?_) (fun σ L' H iv hS9 => ?_)
      · obtain ⟨rfl, y, cy, rfl, hya, hyl⟩ := iv
        clear hS
        intro H hS
        walk_at "ns"
        walk_at "s"
        refine ⟨d, y, _, rfl, hS, by walk_at "mem", hya, by omega, fun y2 H hya2 hyl2 hS => ?_⟩
        walk_at "s"
        exact ⟨_, ⟨rfl, _, _, rfl, hya2, by omega⟩, Sub.ok (by walk_at "sub") hS⟩
      obtain ⟨rfl, z, cy, rfl, hza, hzl⟩ := iv
      have hS := hS9
      have hz : Tz z := tz_asc hza (by omega)
      have ho := rows_okd hz
      walk_at "s"
      refine ⟨z, _, rfl, hz, hS, fun p1 q1 H hS => ?_⟩
      walk_at "s"
      refine ⟨z, _, rfl, hz, hS, fun q2 H hS => ?_⟩
      walk_at "s"
      refine use_sameD hS (.ld (by walk_at "mem")) (.ld (by walk_at "mem")) ho fun H hS => ?_
      refine ⟨_, rfl, ?_⟩
      rw [if_neg (by decide)]
      walk_at "s"
      cases e : (rdRows z).2 with
      | none =>
        rw [e] at hS
        refine ⟨z, _, rfl, hz, hS, fun _ q3 H hS => ?_, fun i h => by rw [e] at h; cases h⟩
        walk_at "s"
        refine k_nojoin ?_
        walk_at "s"
        rw [if_pos (by decide)]
        walk_at "s"
        refine use_sameD hS (.ld (by walk_at "mem")) (.ld (by walk_at "mem")) ho fun H hS => ?_
        refine ⟨_, rfl, ?_⟩
        rw [if_neg (by decide)]
        walk_at "s"
        exact ⟨_, ⟨rfl, _, _, _, _, _, rfl⟩, Sub.ok (by walk_at "sub") hS⟩
      | some n =>
        rw [e] at hS
        refine ⟨z, _, rfl, hz, hS, (fun h => by rw [e] at h; cases h), fun i h H hS => ?_⟩
        obtain rfl : n = i := by rw [e] at h; exact Option.some.inj h
        walk_at "s"
        refine k_nojoin ?_
        walk_at "s"
        rw [if_neg (by show ¬ decide (V.int (n : Nat) = V.non) = true; simp)]
        walk_at "s"
        refine use_sameD hS (.dat (.int _)) (.dat (.int _)) (n := 4) (d := .int (n : Nat)) trivial fun H hS => ?_
        refine ⟨_, rfl, ?_⟩
        rw [if_neg (by decide)]
        walk_at "s"
        exact ⟨_, ⟨rfl, _, _, _, _, _, rfl⟩, Sub.ok (by walk_at "sub") hS⟩
    · obtain ⟨rfl, c3, c4, c5, c6, c7, rfl⟩ := iv
      have hS := hS9
      obtain ⟨b1, b2, b3⟩ := bad_rows
      obtain ⟨t1, t2, t3⟩ := tz_lits
      walk_at "s"
      refine ⟨_, _, rfl, t1, hS, (fun h => by rw [b1] at h; cases h), fun i h H hS => ?_⟩
      obtain rfl : 0 = i := by rw [b1] at h; exact Option.some.inj h
      walk_at "s"
      refine ⟨_, _, rfl, t2, hS, (fun h => by rw [b2] at h; cases h), fun i h H hS => ?_⟩
      obtain rfl : 0 = i := by rw [b2] at h; exact Option.some.inj h
      walk_at "s"
      refine ⟨_, _, rfl, t3, hS, (fun h => by rw [b3] at h; cases h), fun i h H hS => ?_⟩
      obtain rfl : 0 = i := by rw [b3] at h; exact Option.some.inj h
      walk_at "s"
      simp only [Int.natCast_zero, Int.ofNat_zero] at hS ⊢
      refine use_sameD hS (.ld (by walk_at "mem")) (.ld (by walk_at "mem")) (n := 4) (d := .list [.int 0, .int 0, .int 0]) ⟨by decide, fun d hd => by
        simp only [List.mem_cons, List.not_mem_nil, or_false] at hd
        rcases hd with rfl | rfl | rfl <;> trivial⟩ fun H hS => ?_
      exact q _
end Lw
theorem PySem.Challenge.cw_lanescribe_k33_dumps_bent_and_mended_holds : PySem.Challenge.rw_lanescribe_k33_dumps_bent_and_mended.Holds :=
  Lw.head_of @Lw.ok_law
