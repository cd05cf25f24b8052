import PyProof.Rows.All
import Wide.All
import OpenK.AllK
import Wide.FinOn
import KE.KStateDown
import HandS.ForMost
import HandS.Exc
import HandS.TryOnly
import HandS.TryMany
import HandS.WordsExc
import HandS.Flow
import HandS.Style
import HandS.DictComp
import HandS.Deep
import HandS.Wide
import HandS.Defaults
import HandS.MakeKwOnly
import HandS.Zip
import HandS.TupAny
import HandS.TupLe
import HandS.IsInst
import HandS.Walk
import HandS.Head2
import HandS.HeadEnd
import HandS.HeadHook1
import HandS.HeadHook2
import HandS.HeadHook3
import HandS.HeadHook4
import HandS.HeadWalk
import HandS.EndTab
import HandS.EndBits
import HandS.SetFor
import HandS.Strs
import HandS.Conv
import HandS.ClsMeth
import HandS.ExcInit
import HandS.ExcField
import PySem.Challenge.RW_lanescribe_k26_clocks_refused
import HandS.Lambda
import HandS.ExcOwn
import HandS.Head0
import HandS.Head1
import KE.KNestM
set_option Elab.async false
set_option linter.all false
set_option maxRecDepth 100000
set_option maxHeartbeats 4000000
open PySem PySem.Spec PyProof.Rows L2
namespace Ls
end Ls
open Ls
namespace Ls
open PySem PySem.Spec PyProof.Rows L2

/-! ### rules joined: one for each sign, whatever the values -/
section
variable {X : Cx}
def rAddU (K : PySem.W.Frag) : R2 := fun x y H Q => (∃ i j, x = .int i ∧ y = .int j ∧ Q (.int (i + j)) H) ∨ (∃ i j, x = .str i ∧ y = .str j ∧ i.length + j.length ≤ sizeLine ∧ Q (.str (i ++ j)) H) ∨ rCat x y H Q ∨ rCatA K x y H Q
theorem op_addU0 : OpR X (binaryOp .Add) (rAddU X.K) := OpR.or op_add (OpR.or op_add_str (OpR.or op_cat op_catA))
def rEqU (K : PySem.W.Frag) : R2 := fun x y H Q => rEq x y H Q ∨ rEqD K x y H Q
def rNeU (K : PySem.W.Frag) : R2 := fun x y H Q => rNe x y H Q ∨ rNeD K x y H Q
theorem op_eqU0 (hu : X.A.units + 66 < cLine) : OpR X (compareOp .Eq) (rEqU X.K) := OpR.or op_eq (op_eqD (by omega))
theorem op_neU0 (hu : X.A.units + 66 < cLine) : OpR X (compareOp .NotEq) (rNeU X.K) := OpR.or op_ne (op_neD (by omega))
def rIsU : R2 := fun x y H Q => (y = .non ∧ Q (.bl (decide (x = .non))) H) ∨ (∃ a b, x = .bl a ∧ y = .bl b ∧ Q (.bl (decide (a = b))) H)
def rIsNotU : R2 := fun x y H Q => (y = .non ∧ Q (.bl (!decide (x = .non))) H) ∨ (∃ a b, x = .bl a ∧ y = .bl b ∧ Q (.bl (!decide (a = b))) H)
theorem op_isU : OpR X (compareOp .Is) rIsU := OpR.or op_isN op_is_bl
theorem op_isnotU : OpR X (compareOp .IsNot) rIsNotU := OpR.or op_notN op_isnot_bl
def rInSg : R2 := fun x y H Q => ∃ (c : Nat) (z : Str), x = .str ⟨#[c]⟩ ∧ y = .str z ∧ Q (.bl (decide (c ∈ z.cps.toList))) H
def rNotInSg : R2 := fun x y H Q => ∃ (c : Nat) (z : Str), x = .str ⟨#[c]⟩ ∧ y = .str z ∧ Q (.bl (!decide (c ∈ z.cps.toList))) H
def rInU (K : PySem.W.Frag) : R2 := fun x y H Q => rIn K false x y H Q ∨ rInD K x y H Q ∨ rInSg x y H Q
def rNotInU (K : PySem.W.Frag) : R2 := fun x y H Q => rIn K true x y H Q ∨ rNotInD K x y H Q ∨ rNotInSg x y H Q
theorem op_inU0 (hu : X.A.units + 66 < cLine) : OpR X (compareOp .In) (rInU X.K) := OpR.or op_in_seq (OpR.or (op_inD (by omega)) op_in_sign)
theorem op_notinU0 (hu : X.A.units + 66 < cLine) : OpR X (compareOp .NotIn) (rNotInU X.K) := OpR.or op_notIn_seq (OpR.or (op_notInD (by omega)) op_notIn_sign)
def rLenU (K : PySem.W.Frag) : List V → Hp → VK → Prop := fun xs H Q => (∃ p ys, xs = [.ref p] ∧ (SqL K H p ys ∨ SqT K H p ys) ∧ Q (.int ys.length) H) ∨ (∃ z, xs = [.str z] ∧ z.length ≤ sizeLine ∧ Q (.int z.length) H) ∨ (∃ a kvs, xs = [V.ref a] ∧ H a = some (.dK kvs) ∧ Q (.int kvs.length) H)
theorem call_lenU0 : CallR X (.builtin "len") (rLenU X.K) := CallR.or call_len_seq (CallR.or call_len_str call_lenD)
def rSlU (K : PySem.W.Frag) : V → Option Int → Option Int → Hp → VK → Prop := fun x lo hi H Q => rSlL K x lo hi H Q ∨ rSlA K x lo hi H Q ∨ rSlS x lo hi H Q
theorem sl_U0 : SlR X (rSlU X.K) := SlR.or sl_list (SlR.or sl_tupA sl_str)
def rMaxU (K : PySem.W.Frag) : List V → Hp → VK → Prop := fun vs H Q => (∃ i j, vs = [.int i, .int j] ∧ Q (.int (if j > i then j else i)) H) ∨ rMax K vs H Q
def rMinU (K : PySem.W.Frag) : List V → Hp → VK → Prop := fun vs H Q => (∃ i j, vs = [.int i, .int j] ∧ Q (.int (if j < i then j else i)) H) ∨ rMin K vs H Q
theorem call_maxU0 (hc : X.calm = true) : CallR X (.builtin "max") (rMaxU X.K) := CallR.or (call_max2 hc) (cr_max hc)
theorem call_minU0 (hc : X.calm = true) : CallR X (.builtin "min") (rMinU X.K) := CallR.or (call_min2 hc) (cr_min hc)
end
section
variable {X : Cx}
theorem op_addU (K : PySem.W.Frag) (hK : X.K = K)  : OpR X (binaryOp .Add) (rAddU K) := by
  subst hK
  exact op_addU0
theorem op_eqU (K : PySem.W.Frag) (hK : X.K = K) (hu : X.A.units + 66 < cLine) : OpR X (compareOp .Eq) (rEqU K) := by
  subst hK
  exact op_eqU0 hu
theorem op_neU (K : PySem.W.Frag) (hK : X.K = K) (hu : X.A.units + 66 < cLine) : OpR X (compareOp .NotEq) (rNeU K) := by
  subst hK
  exact op_neU0 hu
theorem op_inU (K : PySem.W.Frag) (hK : X.K = K) (hu : X.A.units + 66 < cLine) : OpR X (compareOp .In) (rInU K) := by
  subst hK
  exact op_inU0 hu
theorem op_notinU (K : PySem.W.Frag) (hK : X.K = K) (hu : X.A.units + 66 < cLine) : OpR X (compareOp .NotIn) (rNotInU K) := by
  subst hK
  exact op_notinU0 hu
theorem call_lenU (K : PySem.W.Frag) (hK : X.K = K)  : CallR X (.builtin "len") (rLenU K) := by
  subst hK
  exact call_lenU0
theorem sl_U (K : PySem.W.Frag) (hK : X.K = K)  : SlR X (rSlU K) := by
  subst hK
  exact sl_U0
theorem call_maxU (K : PySem.W.Frag) (hK : X.K = K) (hc : X.calm = true) : CallR X (.builtin "max") (rMaxU K) := by
  subst hK
  exact call_maxU0 hc
theorem call_minU (K : PySem.W.Frag) (hK : X.K = K) (hc : X.calm = true) : CallR X (.builtin "min") (rMinU K) := by
  subst hK
  exact call_minU0 hc
def rListU (K : PySem.W.Frag) : List V → Hp → VK → Prop := fun xs H Q => ∃ p ys, xs = [V.ref p] ∧ (SqL K H p ys ∨ SqT K H p ys) ∧ ∀ l, H l = none → Q (.ref l) (upd H l (.lst ys))
def rTupleU (K : PySem.W.Frag) : List V → Hp → VK → Prop := fun xs H Q => ∃ p ys, xs = [.ref p] ∧ ((SqL K H p ys ∧ ∀ l, H l = none → Q (.ref l) (upd H l (.tup ys))) ∨ (SqT K H p ys ∧ Q (.ref p) H))
theorem call_listU (K : PySem.W.Frag) (hK : X.K = K) : CallR X (.type "list") (rListU K) := by
  subst hK
  exact call_list_of
theorem call_tupleU (K : PySem.W.Frag) (hK : X.K = K) : CallR X (.type "tuple") (rTupleU K) := by
  subst hK
  exact call_tuple_of
theorem cr_sumU (K : PySem.W.Frag) (hK : X.K = K) (hc : X.calm = true) : CallR X (.builtin "sum") (rSum K) := by
  subst hK
  exact cr_sum hc
theorem cr_allU (K : PySem.W.Frag) (hK : X.K = K) (hc : X.calm = true) : CallR X (.builtin "all") (rAll K) := by
  subst hK
  exact cr_all hc
theorem cr_anyU (K : PySem.W.Frag) (hK : X.K = K) (hc : X.calm = true) : CallR X (.builtin "any") (rAny K) := by
  subst hK
  exact cr_any hc
theorem call_isiU (K : PySem.W.Frag) (hK : X.K = K) : CallR X (.builtin "isinstance") (rIsi K) := by
  subst hK
  exact call_isi
theorem call_isiTU (K : PySem.W.Frag) (hK : X.K = K) : CallR X (.builtin "isinstance") (rIsiT K) := by
  subst hK
  exact call_isiT
theorem ix_U (K : PySem.W.Frag) (hK : X.K = K) : IxR X (rIx K) := by
  subst hK
  exact ix_seq
theorem kBM {e : Expr} {T : String} {r : V → List V → Hp → VK → Prop} {to : TE} {t : TA} (K : PySem.W.Frag) (hK : X.K = K) (h : PE X e (tBM X.K T r to t)) : PE X e (tBM K T r to t) := hK ▸ h
theorem kBM0 {e : Expr} {T : String} {r : V → List V → Hp → VK → Prop} {to : TE} (K : PySem.W.Frag) (hK : X.K = K) (h : PE X e (tBM0 X.K T r to)) : PE X e (tBM0 K T r to) := hK ▸ h
theorem kFld {e : Expr} {f : Str} {ta : TE} (K : PySem.W.Frag) (hK : X.K = K) (h : PE X e (tFld X.K ta f)) : PE X e (tFld K ta f) := hK ▸ h
theorem kGTup {e : Expr} {n : Nat} {t : TGs} (K : PySem.W.Frag) (hK : X.K = K) (h : PG X e (gTup X.K n t)) : PG X e (gTup K n t) := hK ▸ h
theorem kIL {tg l : Expr} {tl : TE} (K : PySem.W.Frag) (hK : X.K = K) (h : PI X tg l (iList X.K tl)) : PI X tg l (iList K tl) := hK ▸ h
theorem kIT {tg l : Expr} {tl : TE} (K : PySem.W.Frag) (hK : X.K = K) (h : PI X tg l (iTup X.K tl)) : PI X tg l (iTup K tl) := hK ▸ h
theorem kIE {tg l : Expr} {tl : TA} (K : PySem.W.Frag) (hK : X.K = K) (h : PI X tg l (iEnum X.K tl)) : PI X tg l (iEnum K tl) := hK ▸ h
theorem kIZ {tg l : Expr} {tl : TA} (K : PySem.W.Frag) (hK : X.K = K) (h : PI X tg l (RZ.iZipA X.K tl)) : PI X tg l (RZ.iZipA K tl) := hK ▸ h
theorem kIV {tg l : Expr} {tl : TA} (K : PySem.W.Frag) (hK : X.K = K) (h : PI X tg l (iRev X.K tl)) : PI X tg l (iRev K tl) := hK ▸ h
end
theorem huOf {A : Around} {k : Nat} (hr : Room k A) : A.units + 66 < cLine := by
  have := hr.un
  omega
end Ls
namespace Ls
open PySem PySem.Spec PyProof.Rows L2

/-! ### y = {k: v for ..} -/
theorem swd_true {kx vx : Expr} {gs : List Comprehension} {scope : Scope} {pos py : Pos} {y : Str} {l : Nat} {env : Env} (hk : env.scope.kind = .function) (hy : env.scope.names.lookup y = some .local) (hl : (py.line == pos.line) = true)
    (ha : (scope.names.any fun (n, k) => n == y && (k == .local || k == .cell)) = false) : swapsWith (.DictComp kx vx gs scope pos) (some (.Name y py)) l env = pure true := by
  have ky : env.kindOf y = some .local := hy
  have hb : env.blockKind = .function := by unfold Env.blockKind; rw [hk]; rfl
  unfold swapsWith
  simp only [hb, ky, ha, Expr.pos, hl]
  rfl
theorem ps_setDc {X : Cx} {i : Nat} {y : Str} {py : Pos} {kx vx tg iter : Expr} {ifs : List Expr} {scope : Scope} {own : List (Str × Nat)} {pos spos : Pos} {wi : TI} {g : TG} {tt : TT} {tk tv : TE} (hc : X.calm = true) (hN : X.N.Nodup) (hy : X.N[i]? = some y) (hyl : X.env.scope.names.lookup y = some .local)
    (hsw : swapsWith (.DictComp kx vx [⟨tg, iter, ifs, 0⟩] scope pos) (some (.Name y py)) spos.line X.env = pure true) (hi : PI X tg iter wi) (ok : BlkOk X.N X.env.scope scope own)
    (hg : ∀ (s : Shared) (H : Hp) (C : Addr) (cl : List (Str × Addr)) (fp : List Addr), PG (X.blk s H scope (compEnvC scope cl C X.env) fp) tg g) (ht : ∀ (s : Shared) (H : Hp) (C : Addr) (cl : List (Str × Addr)) (fp : List Addr), PTs (X.blk s H scope (compEnvC scope cl C X.env) fp) ifs tt)
    (hk : ∀ (s : Shared) (H : Hp) (C : Addr) (cl : List (Str × Addr)) (fp : List Addr), PE (X.blk s H scope (compEnvC scope cl C X.env) fp) kx tk)
    (he : ∀ (s : Shared) (H : Hp) (C : Addr) (cl : List (Str × Addr)) (fp : List Addr), PE (X.blk s H scope (compEnvC scope cl C X.env) fp) vx tv) (hs : ∀ x, foldedSetIterable iter X.env x = pure x := by intro _; rfl) :
    PS X (.Assign [.Name y py] (.DictComp kx vx [⟨tg, iter, ifs, 0⟩] scope pos) spos) (tAsg (tDc wi g tt tk tv (own.map (·.2))) (gName i)) := by
  refine ⟨fun pins s σ H D I h => ?_⟩
  rw [exec_Assign_Name_used _ _ _ _ hsw]
  refine wpAny_bind (wpAny_standAt (wpAny_bind ?_))
  show wpAny _ X.A (do let _ ← comprehension (.DictComp kx vx [⟨tg, iter, ifs, 0⟩] scope pos) scope X.env (firstIterPos [⟨tg, iter, ifs, 0⟩] pos) newDict false (eval iter X.env) (some (assign (.Name y py) X.env))) _ _ s
  have h : tDc wi g tt tk tv (own.map (·.2)) σ H (fun x H1 => gName i x σ H1 D.nx) := h
  refine wpAny_bind (thn (dc_core (Qf := fun _ s' => SP X pins D .next s') hc hN I hi ok hg ht hk he hs h fun L C s' m H' I' q hn f => ?_) fun _ s' hq => wpAny_pure (wpAny_pure hq))
  show wpAny _ _ (assign (.Name y py) X.env (.ref L)) _ _ _
  refine wpAny_assign_Name (store_ok2 (v := V.ref L) I' hN hy (.inl hyl) rfl (fun s2 I2 ⟨a, sb, ha⟩ => ?_) (.inr hyl))
  obtain ⟨f0, f1, f2, f3, f4, f5⟩ := f
  have haC : C ≠ a := by
    rcases ha with z | z
    · rw [z]; exact f1
    · exact fun e => f4 y a z e.symm
  refine ⟨m, hn.sameBut sb haC, fun h3 sb3 => ?_⟩
  exact ⟨_, H', I2.turned (t' := s2.toks) (fun b o hb e => (sb3.2 b hb).trans e) f0 f1 f3 f4 f5, q⟩

/-! ### heaps: what stays -/
/-- tuples stay (they always do) -/
def Tp (K : PySem.W.Frag) (H H' : Hp) : Prop := ∀ a xs, SqT K H a xs → SqT K H' a xs
/-- all but the object at d stays -/
def Keep (d : Addr) (H H' : Hp) : Prop := ∀ b o, b ≠ d → H b = some o → H' b = some o
theorem same_new {H : Hp} {p : Addr} {o : HO} (h : H p = none) : Same H (upd H p o) := fun b x e => by
  rw [upd_ne (ne_of_none e h)]
  exact e
theorem rd_same {H H' : Hp} {a : Addr} {u : HO} (e : Same H H') (h : Rd H a u) : Rd H' a u := by
  rcases h with h | ⟨o, h⟩
  · exact .inl (e _ _ h)
  · exact .inr ⟨o, e _ _ h⟩
theorem sqt_same {K : PySem.W.Frag} {H H' : Hp} {a : Addr} {xs : List V} (e : Same H H') (h : SqT K H a xs) : SqT K H' a xs := by
  rcases h with h | h
  · exact .inl (rd_same e h)
  · exact .inr h
theorem Tp.refl {K : PySem.W.Frag} {H : Hp} : Tp K H H := fun _ _ h => h
theorem Tp.trans {K : PySem.W.Frag} {H H1 H2 : Hp} (a : Tp K H H1) (b : Tp K H1 H2) : Tp K H H2 := fun x xs h => b x xs (a x xs h)
theorem Tp.same {K : PySem.W.Frag} {H H' : Hp} (e : Same H H') : Tp K H H' := fun _ _ h => sqt_same e h
theorem Tp.new {K : PySem.W.Frag} {H : Hp} {p : Addr} {o : HO} (h : H p = none) : Tp K H (upd H p o) := Tp.same (same_new h)
/-- an object that is no tuple (nor a locked one) -/
def NoT : HO → Bool
  | .tup _ => false
  | .frz _ _ => false
  | _ => true
theorem keep_tp {K : PySem.W.Frag} {d : Addr} {H H' : Hp} {o : HO} (k : Keep d H H') (h : H d = some o) (n : NoT o = true) : Tp K H H' := fun a xs q => by
  have ne : ∀ u, NoT u = false → H a = some u → a ≠ d := fun u hu e z => by
    rw [z, h] at e
    cases e
    rw [n] at hu
    cases hu
  rcases q with (q | ⟨u, q⟩) | q
  · exact .inl (.inl (k _ _ (ne _ rfl q) q))
  · exact .inl (.inr ⟨u, k _ _ (ne _ rfl q) q⟩)
  · exact .inr q
theorem Keep.refl {d : Addr} {H : Hp} : Keep d H H := fun _ _ _ h => h
theorem Keep.trans {d : Addr} {H H1 H2 : Hp} (a : Keep d H H1) (b : Keep d H1 H2) : Keep d H H2 := fun c o n h => b c o n (a c o n h)
theorem Keep.same {d : Addr} {H H' : Hp} (e : Same H H') : Keep d H H' := fun b o _ h => e b o h
theorem Keep.new {d p : Addr} {H H' : Hp} {o : HO} (k : Keep d H H') (h : H' p = none) : Keep d H (upd H' p o) := fun b u n e => same_new h _ _ (k b u n e)
theorem Keep.put {d : Addr} {H H' : Hp} {o : HO} (k : Keep d H H') : Keep d H (upd H' d o) := fun b u n e => by
  rw [upd_ne n]
  exact k b u n e
/-- a write to what did not stand there at first -/
theorem Keep.wr {d p : Addr} {H H' : Hp} {o : HO} (k : Keep d H H') (h : H p = none) : Keep d H (upd H' p o) := fun b u n e => by
  rw [upd_ne (ne_of_none e h)]
  exact k b u n e
theorem Same.wr {p : Addr} {H H' : Hp} {o : HO} (k : Same H H') (h : H p = none) : Same H (upd H' p o) := fun b u e => by
  rw [upd_ne (ne_of_none e h)]
  exact k b u e
theorem Keep.free {d p : Addr} {H H' : Hp} {o : HO} (k : Keep d H H') (hd : H' d = some o) (h : H' p = none) : H p = none := by
  cases q : H p with
  | none => rfl
  | some u =>
    by_cases e : p = d
    · rw [e, hd] at h
      cases h
    · rw [k p u e q] at h
      cases h
theorem wr_tp {K : PySem.W.Frag} {l : Addr} {H : Hp} {o u : HO} (h : H l = some o) (n : NoT o = true) : Tp K H (upd H l u) := keep_tp (d := l) (Keep.put Keep.refl) h n
theorem sql_same {K : PySem.W.Frag} {H H' : Hp} {a : Addr} {xs : List V} (e : Same H H') (h : SqL K H a xs) : SqL K H' a xs := e.seq h
theorem sql_keep {K : PySem.W.Frag} {d : Addr} {H H' : Hp} {a : Addr} {xs : List V} {kvs : List (Key × V)} (k : Keep d H H') (hd : H d = some (.dK kvs)) (h : SqL K H a xs) : SqL K H' a xs := by
  have ne : ∀ u, (∀ ks, u ≠ .dK ks) → H a = some u → a ≠ d := fun u hu e z => by
    rw [z, hd] at e
    exact hu _ (Option.some.inj e).symm
  rcases h with (q | ⟨u, q⟩) | q
  · exact .inl (.inl (k _ _ (ne _ (fun _ z => by cases z) q) q))
  · exact .inl (.inr ⟨u, k _ _ (ne _ (fun _ z => by cases z) q) q⟩)
  · exact .inr q

/-! ### data that never changes -/
mutual
inductive Im (K : PySem.W.Frag) (H : Hp) : V → PyData → Prop
  | non : Im K H .non .none
  | bl (b : Bool) : Im K H (.bl b) (.bool b)
  | int (i : Int) : Im K H (.int i) (.int i)
  | str (x : Str) : Im K H (.str x) (.str x)
  | tup {a : Addr} {xs : List V} {ds : List PyData} : SqT K H a xs → ImAll K H xs ds → Im K H (.ref a) (.tuple ds)
inductive ImAll (K : PySem.W.Frag) (H : Hp) : List V → List PyData → Prop
  | nil : ImAll K H [] []
  | cons {v : V} {vs : List V} {d : PyData} {ds : List PyData} : Im K H v d → ImAll K H vs ds → ImAll K H (v :: vs) (d :: ds)
end
section
variable {K : PySem.W.Frag} {H H' : Hp}
mutual
theorem Im.mono (t : Tp K H H') : ∀ {v : V} {d : PyData}, Im K H v d → Im K H' v d
  | _, _, .non => .non
  | _, _, .bl b => .bl b
  | _, _, .int i => .int i
  | _, _, .str x => .str x
  | _, _, .tup h hs => .tup (t _ _ h) (ImAll.mono t hs)
theorem ImAll.mono (t : Tp K H H') : ∀ {vs : List V} {ds : List PyData}, ImAll K H vs ds → ImAll K H' vs ds
  | _, _, .nil => .nil
  | _, _, .cons h hs => .cons (Im.mono t h) (ImAll.mono t hs)
end
mutual
theorem Im.dp : ∀ {v : V} {d : PyData}, Im K H v d → Dp K H v d
  | _, _, .non => .non
  | _, _, .bl b => .bl b
  | _, _, .int i => .int i
  | _, _, .str x => .str x
  | _, _, .tup h hs => .tup h (ImAll.dp hs)
theorem ImAll.dp : ∀ {vs : List V} {ds : List PyData}, ImAll K H vs ds → DpAll K H vs ds
  | _, _, .nil => .nil
  | _, _, .cons h hs => .cons (Im.dp h) (ImAll.dp hs)
end
theorem ImAll.length : ∀ {vs : List V} {ds : List PyData}, ImAll K H vs ds → vs.length = ds.length
  | _, _, .nil => rfl
  | _, _, .cons _ hs => congrArg Nat.succ (ImAll.length hs)
theorem ImAll.app : ∀ {vs ws : List V} {ds es : List PyData}, ImAll K H vs ds → ImAll K H ws es → ImAll K H (vs ++ ws) (ds ++ es)
  | _, _, _, _, .nil, h => h
  | _, _, _, _, .cons a b, h => .cons a (ImAll.app b h)
theorem ImAll.snoc {vs : List V} {ds : List PyData} {v : V} {d : PyData} (h : ImAll K H vs ds) (a : Im K H v d) : ImAll K H (vs ++ [v]) (ds ++ [d]) := h.app (.cons a .nil)
theorem ImAll.get : ∀ {vs : List V} {ds : List PyData} {i : Nat} {v : V}, ImAll K H vs ds → vs[i]? = some v → ∃ d, ds[i]? = some d ∧ Im K H v d
  | _, _, i, _, .nil, e => by simp at e
  | _, _, 0, _, .cons a _, e => by
    simp at e
    subst e
    exact ⟨_, rfl, a⟩
  | _, _, i + 1, v, .cons _ b, e => by
    obtain ⟨d, h1, h2⟩ := ImAll.get (i := i) (v := v) b (by simpa using e)
    exact ⟨d, by simpa using h1, h2⟩
theorem ImAll.getD : ∀ {vs : List V} {ds : List PyData} {i : Nat} {d : PyData}, ImAll K H vs ds → ds[i]? = some d → ∃ v, vs[i]? = some v ∧ Im K H v d
  | _, _, i, _, .nil, e => by simp at e
  | _, _, 0, _, .cons a _, e => by
    simp at e
    subst e
    exact ⟨_, rfl, a⟩
  | _, _, i + 1, d, .cons _ b, e => by
    obtain ⟨v, h1, h2⟩ := ImAll.getD (i := i) (d := d) b (by simpa using e)
    exact ⟨v, by simpa using h1, h2⟩
theorem ImAll.take : ∀ {vs : List V} {ds : List PyData} (n : Nat), ImAll K H vs ds → ImAll K H (vs.take n) (ds.take n)
  | _, _, 0, _ => by simp only [List.take_zero]; exact .nil
  | _, _, n + 1, .nil => by simp only [List.take_nil]; exact .nil
  | _, _, n + 1, .cons a b => .cons a (ImAll.take n b)
theorem ImAll.drop : ∀ {vs : List V} {ds : List PyData} (n : Nat), ImAll K H vs ds → ImAll K H (vs.drop n) (ds.drop n)
  | _, _, 0, h => h
  | _, _, n + 1, .nil => by simp only [List.drop_nil]; exact .nil
  | _, _, n + 1, .cons a b => ImAll.drop n b
theorem im_int {v : V} {i : Int} (h : Im K H v (.int i)) : v = .int i := by cases h; rfl
theorem im_str {v : V} {x : Str} (h : Im K H v (.str x)) : v = .str x := by cases h; rfl
theorem im_bl {v : V} {b : Bool} (h : Im K H v (.bool b)) : v = .bl b := by cases h; rfl
theorem im_non {v : V} (h : Im K H v .none) : v = .non := by cases h; rfl
theorem im_tup {v : V} {ds : List PyData} (h : Im K H v (.tuple ds)) : ∃ a xs, v = .ref a ∧ SqT K H a xs ∧ ImAll K H xs ds := by
  cases h with
  | tup h hs => exact ⟨_, _, rfl, h, hs⟩
theorem ImAll.ints : ∀ (ns : List Int), ImAll K H (ns.map V.int) (ns.map PyData.int)
  | [] => .nil
  | n :: r => .cons (.int n) (ImAll.ints r)
theorem ImAll.strs : ∀ (ns : List Str), ImAll K H (ns.map V.str) (ns.map PyData.str)
  | [] => .nil
  | n :: r => .cons (.str n) (ImAll.strs r)
end
/-- a new tuple -/
theorem sqt_new {K : PySem.W.Frag} {H : Hp} {p : Addr} {xs : List V} : SqT K (upd H p (.tup xs)) p xs := .inl (.inl upd_same)
theorem sqt_of {K : PySem.W.Frag} {H : Hp} {p : Addr} {xs : List V} (h : H p = some (.tup xs)) : SqT K H p xs := .inl (.inl h)
theorem sql_of {K : PySem.W.Frag} {H : Hp} {p : Addr} {xs : List V} (h : H p = some (.lst xs)) : SqL K H p xs := .inl (.inl h)
end Ls
namespace Ls
open PySem PySem.Spec PyProof.Rows L2

/-! ### the readings step by step: what is left to show -/
section
variable {K : PySem.W.Frag} {σ : L2.St} {H : Hp} {Q : VK} {D : Ends} {ta tb tc te td ty tv : TE} {tt tu : TT} {t u : TS} {tl : TA} {x y z v : V} {i j : Int} {b c : Bool} {a p l : Addr} {xs ys : List V}
theorem k_seq (h : t { D with nx := u D } σ H) : tSeq t u D σ H := h
theorem k_next (h : D.nx σ H) : tNext D σ H := h
theorem k_brk (h : D.bk σ H) : tBreak D σ H := h
theorem k_cont (h : D.ct σ H) : tCont D σ H := h
theorem k_drop (h : te σ H fun _ H1 => D.nx σ H1) : tDrop te D σ H := h
theorem k_ret (h : te σ H D.rt) : tRet te D σ H := h
theorem k_retN (h : D.rt .non H) : tRetN D σ H := h
theorem k_if (h : tt σ H fun b H1 => if b = true then t D σ H1 else u D σ H1) : tIfS tt t u D σ H := h
theorem k_set {i : Nat} (h : te σ H fun x H1 => D.nx (σ.set i (some x)) H1) : tAsg te (gName i) D σ H := h
theorem k_asg {g : TG} (h : te σ H fun x H1 => g x σ H1 D.nx) : tAsg te g D σ H := h
theorem k_par {i j : Nat} (h : tl σ H fun vs H1 => ∃ v w, vs = [v, w] ∧ D.nx ((σ.set i (some v)).set j (some w)) H1) : tPar i j tl D σ H := h
theorem k_par2 {Q : V → V → Prop} (h : Q x y) : ∃ v w, [x, y] = [v, w] ∧ Q v w := ⟨x, y, rfl, h⟩
theorem k_gname {i : Nat} {R : L2.St → Hp → Prop} (h : R (σ.set i (some v)) H) : gName i v σ H R := h
theorem k_gtup {n : Nat} {tg : TGs} {R : L2.St → Hp → Prop} (h1 : SqT K H a xs) (h2 : xs.length = n) (h : tg xs σ H R) : gTup K n tg (.ref a) σ H R := ⟨a, xs, rfl, h1, h2, h⟩
theorem k_gcons {tg : TG} {ug : TGs} {R : L2.St → Hp → Prop} (h : tg x σ H fun σ' H' => ug xs σ' H' R) : gCons tg ug (x :: xs) σ H R := ⟨x, xs, rfl, h⟩
theorem k_gnil {R : L2.St → Hp → Prop} (h : R σ H) : gNil [] σ H R := ⟨rfl, h⟩
theorem k_var {i : Nat} (e : σ[i]? = some (some v)) (q : Q v H) : tVar i σ H Q := ⟨v, e, q⟩
theorem k_c (q : Q v H) : tC v σ H Q := q
theorem k_op {r : R2} (h : ta σ H fun x H1 => tb σ H1 fun y H2 => r x y H2 Q) : tOp r ta tb σ H Q := h
theorem k_un {r : V → Hp → VK → Prop} (h : ta σ H fun x H1 => r x H1 Q) : tUn r ta σ H Q := h
theorem k_cb {r : List V → Hp → VK → Prop} (h : tl σ H fun vs H1 => r vs H1 Q) : tCB r tl σ H Q := h
theorem k_nil {R : List V → Hp → Prop} (h : R [] H) : tNil σ H R := h
theorem k_cons {R : List V → Hp → Prop} (h : ta σ H fun x H1 => tl σ H1 fun xs H2 => R (x :: xs) H2) : tCons ta tl σ H R := h
theorem k_call {sp : Sp} {dvs : List V} {E : XK} (h : tl σ H fun vs H1 => sp (vs ++ dvs) H1 Q E) : tCall sp dvs E tl σ H Q := h
theorem k_callN {n m : Nat} {sp : Sp} {gV : List V → List V → List V} {E : XK} {tk : TA} (h : tl σ H fun vs H1 => tk σ H1 fun zs H2 => vs.length = n ∧ zs.length = m ∧ sp (gV vs zs) H2 Q E) : tCallN n m sp gV E tl tk σ H Q := h
theorem k_tup (h : tl σ H fun xs H1 => xs.length ≤ sizeLine ∧ ∀ p, H1 p = none → Q (.ref p) (upd H1 p (.tup xs))) : tTup tl σ H Q := h
theorem k_lst (h : tl σ H fun xs H1 => xs.length ≤ sizeLine ∧ ∀ p, H1 p = none → Q (.ref p) (upd H1 p (.lst xs))) : tLst tl σ H Q := h
theorem k_new {P : Prop} (h1 : xs.length ≤ sizeLine) (h : P) : xs.length ≤ sizeLine ∧ P := ⟨h1, h⟩
theorem k_test {R : Bool → Hp → Prop} (h : te σ H fun x H' => ∃ k, x = .bl k ∧ R k H') : tTest te σ H R := h
theorem k_B {R : Bool → Hp → Prop} (h : te σ H fun x H' => ∃ k, x = .bl k ∧ R k H') : tB te σ H R := h
theorem k_bl {R : Bool → Prop} (h : R b) : ∃ k, V.bl b = .bl k ∧ R k := ⟨b, rfl, h⟩
theorem k_and {R : Bool → Hp → Prop} (h : tt σ H fun c H1 => if c = true then tu σ H1 R else R false H1) : tAnd tt tu σ H R := h
theorem k_or {R : Bool → Hp → Prop} (h : tt σ H fun c H1 => if c = true then R true H1 else tu σ H1 R) : tOr tt tu σ H R := h
theorem k_not {R : Bool → Hp → Prop} (h : tt σ H fun c H1 => R (!c) H1) : tNot tt σ H R := h
theorem k_andV (h : ta σ H fun x H1 => ∃ c, x = .bl c ∧ if c = true then tb σ H1 Q else Q (.bl false) H1) : tAndV ta tb σ H Q := h
theorem k_orV (h : ta σ H fun x H1 => ∃ c, x = .bl c ∧ if c = true then Q (.bl true) H1 else tb σ H1 Q) : tOrV ta tb σ H Q := h
theorem k_notV (h : ta σ H fun x H1 => ∃ c, x = .bl c ∧ Q (.bl (!c)) H1) : tNotV ta σ H Q := h
theorem k_ifE (h : tt σ H fun c H1 => if c = true then ta σ H1 Q else tb σ H1 Q) : tIf tt ta tb σ H Q := h
theorem k_yes {R : Bool → Hp → Prop} (h : R true H) : tYes σ H R := h
theorem k_chain {r r' : R2} (h : ta σ H fun x H1 => tb σ H1 fun y H2 => r x y H2 fun z H3 => ∃ k, z = .bl k ∧ (if k = true then tc σ H3 fun w' H4 => r' y w' H4 Q else Q (.bl false) H3)) : tChain r r' ta tb tc σ H Q := h
theorem k_dget (h : td σ H fun x H1 => ty σ H1 fun y H2 => ∃ a v, x = .ref a ∧ DGet H2 a y (some v) ∧ Q v H2) : tDGet td ty σ H Q := h
theorem k_dput (h : tv σ H fun v H1 => td σ H1 fun x H2 => ty σ H2 fun y H3 => ∃ a H4, x = .ref a ∧ DPut H3 a y v H4 ∧ D.nx σ H4) : sDPut td ty tv D σ H := h
theorem k_din (h : ty σ H fun y H1 => td σ H1 fun x H2 => ∃ a o, x = .ref a ∧ DGet H2 a y o ∧ Q (.bl o.isSome) H2) : tDIn ty td σ H Q := h
theorem k_dnotin (h : ty σ H fun y H1 => td σ H1 fun x H2 => ∃ a o, x = .ref a ∧ DGet H2 a y o ∧ Q (.bl (!o.isSome)) H2) : tDNotIn ty td σ H Q := h
theorem k_getI {kvs : List (Key × V)} {R : V → Prop} {k : Int} (h1 : H a = some (.dK kvs)) (h2 : valV kvs (.inl k) = some v) (h : R v) : ∃ b w, V.ref a = .ref b ∧ DGet H b (.int k) (some w) ∧ R w :=
  ⟨a, v, rfl, .inl ⟨kvs, .inl k, .inl h1, rfl, h2.symm⟩, h⟩
theorem k_getS {kvs : List (Key × V)} {R : V → Prop} {k : Str} (h1 : H a = some (.dK kvs)) (h2 : valV kvs (.inr k) = some v) (h : R v) : ∃ b w, V.ref a = .ref b ∧ DGet H b (.str k) (some w) ∧ R w :=
  ⟨a, v, rfl, .inl ⟨kvs, .inr k, .inl h1, rfl, h2.symm⟩, h⟩
theorem k_isI {kvs : List (Key × V)} {R : Option V → Prop} {k : Int} (h1 : H a = some (.dK kvs)) (h : R (valV kvs (.inl k))) : ∃ b o, V.ref a = .ref b ∧ DGet H b (.int k) o ∧ R o := ⟨a, _, rfl, .inl ⟨kvs, .inl k, .inl h1, rfl, rfl⟩, h⟩
theorem k_isS {kvs : List (Key × V)} {R : Option V → Prop} {k : Str} (h1 : H a = some (.dK kvs)) (h : R (valV kvs (.inr k))) : ∃ b o, V.ref a = .ref b ∧ DGet H b (.str k) o ∧ R o := ⟨a, _, rfl, .inl ⟨kvs, .inr k, .inl h1, rfl, rfl⟩, h⟩
theorem k_putI {kvs : List (Key × V)} {R : Hp → Prop} {k : Int} (h1 : H a = some (.dK kvs)) (h2 : kvs.length < sizeLine) (h : R (upd H a (.dK (putK kvs (.inl k) v)))) : ∃ b H4, V.ref a = .ref b ∧ DPut H b (.int k) v H4 ∧ R H4 :=
  ⟨a, _, rfl, .inl ⟨kvs, .inl k, h1, rfl, h2, rfl⟩, h⟩
theorem k_putS {kvs : List (Key × V)} {R : Hp → Prop} {k : Str} (h1 : H a = some (.dK kvs)) (h2 : kvs.length < sizeLine) (h : R (upd H a (.dK (putK kvs (.inr k) v)))) : ∃ b H4, V.ref a = .ref b ∧ DPut H b (.str k) v H4 ∧ R H4 :=
  ⟨a, _, rfl, .inl ⟨kvs, .inr k, h1, rfl, h2, rfl⟩, h⟩
theorem k_addI (q : Q (.int (i + j)) H) : rAddU K (.int i) (.int j) H Q := .inl ⟨i, j, rfl, rfl, q⟩
theorem k_addS {x y : Str} (h : x.length + y.length ≤ sizeLine) (q : Q (.str (x ++ y)) H) : rAddU K (.str x) (.str y) H Q := .inr (.inl ⟨x, y, rfl, rfl, h, q⟩)
theorem k_addL (h1 : H a = some (.lst xs)) (h2 : H l = some (.lst ys)) (h3 : xs.length + ys.length ≤ sizeLine) (q : ∀ p, H p = none → Q (.ref p) (upd H p (.lst (xs ++ ys)))) : rAddU K (.ref a) (.ref l) H Q := .inr (.inr (.inl ⟨a, l, xs, ys, rfl, rfl, h1, h2, h3, q⟩))
theorem k_addT (h1 : SqT K H a xs) (h2 : SqT K H l ys) (h3 : xs.length + ys.length ≤ sizeLine) (q1 : xs = [] → Q (.ref l) H) (q2 : xs ≠ [] → ys = [] → Q (.ref a) H) (q : ∀ p, H p = none → Q (.ref p) (upd H p (.tup (xs ++ ys)))) : rAddU K (.ref a) (.ref l) H Q :=
  .inr (.inr (.inr ⟨a, l, xs, ys, rfl, rfl, h1, h2, h3, q1, q2, fun _ _ => q⟩))
theorem k_sub (q : Q (.int (i - j)) H) : rI0 (fun i j => .int (i - j)) (.int i) (.int j) H Q := ⟨i, j, rfl, rfl, q⟩
theorem k_mulR (h : -(2 ^ 64) < j ∧ j < 2 ^ 64) (q : Q (.int (i * j)) H) : rI CMul (fun i j => .int (i * j)) (.int i) (.int j) H Q := ⟨i, j, rfl, rfl, .inr h, q⟩
theorem k_mulL (h : -(2 ^ 64) < i ∧ i < 2 ^ 64) (q : Q (.int (i * j)) H) : rI CMul (fun i j => .int (i * j)) (.int i) (.int j) H Q := ⟨i, j, rfl, rfl, .inl h, q⟩
theorem k_mod (h : 0 < j) (q : Q (.int (i % j)) H) : rI (fun _ j => 0 < j) (fun i j => .int (i % j)) (.int i) (.int j) H Q := ⟨i, j, rfl, rfl, h, q⟩
theorem k_fdiv (h : 0 < j) (h2 : j < 2 ^ 200) (q : Q (.int (i / j)) H) : rI CDivW (fun i j => .int (i / j)) (.int i) (.int j) H Q := ⟨i, j, rfl, rfl, wide_div h (b := 200) (by omega) (by decide) (by decide), q⟩
theorem k_pow {n : Nat} (h2 : n ≤ 1000000) (h3 : i.natAbs < 2 ^ 64) (q : Q (.int (i ^ n)) H) : rI CPow (fun i j => .int (i ^ j.toNat)) (.int i) (.int (n : Int)) H Q := ⟨i, n, rfl, rfl, ⟨by omega, by omega, h3⟩, q⟩
theorem k_neg (q : Q (.int (-i)) H) : rU (fun i => .int (-i)) (.int i) H Q := ⟨i, rfl, q⟩
theorem k_lt (q : Q (.bl (decide (i < j))) H) : rI0 (fun i j => .bl (decide (i < j))) (.int i) (.int j) H Q := ⟨i, j, rfl, rfl, q⟩
theorem k_le (q : Q (.bl (decide (i ≤ j))) H) : rI0 (fun i j => .bl (decide (i ≤ j))) (.int i) (.int j) H Q := ⟨i, j, rfl, rfl, q⟩
theorem k_gt (q : Q (.bl (decide (j < i))) H) : rI0 (fun i j => .bl (decide (j < i))) (.int i) (.int j) H Q := ⟨i, j, rfl, rfl, q⟩
theorem k_ge (q : Q (.bl (decide (j ≤ i))) H) : rI0 (fun i j => .bl (decide (j ≤ i))) (.int i) (.int j) H Q := ⟨i, j, rfl, rfl, q⟩
theorem dec_eqI : decide (V.int i = V.int j) = decide (i = j) := by
  by_cases h : i = j
  · subst h; simp
  · rw [decide_eq_false h]; exact decide_eq_false fun e => h (V.int.inj e)
theorem dec_eqS {x y : Str} : decide (V.str x = V.str y) = decide (x = y) := by
  by_cases h : x = y
  · subst h; simp
  · rw [decide_eq_false h]; exact decide_eq_false fun e => h (V.str.inj e)
theorem k_eqI (q : Q (.bl (decide (i = j))) H) : rEqU K (.int i) (.int j) H Q := .inl ⟨rfl, by rw [dec_eqI]; exact q⟩
theorem k_neI (q : Q (.bl (!decide (i = j))) H) : rNeU K (.int i) (.int j) H Q := .inl ⟨rfl, by rw [dec_eqI]; exact q⟩
theorem k_eqS {x y : Str} (q : Q (.bl (decide (x = y))) H) : rEqU K (.str x) (.str y) H Q := .inl ⟨rfl, by rw [dec_eqS]; exact q⟩
theorem k_neS {x y : Str} (q : Q (.bl (!decide (x = y))) H) : rNeU K (.str x) (.str y) H Q := .inl ⟨rfl, by rw [dec_eqS]; exact q⟩
theorem k_eqB (q : Q (.bl (decide (b = c))) H) : rEqU K (.bl b) (.bl c) H Q := .inl ⟨rfl, by
  have e : decide (V.bl b = V.bl c) = decide (b = c) := by cases b <;> cases c <;> decide
  rw [e]; exact q⟩
theorem k_neB (q : Q (.bl (!decide (b = c))) H) : rNeU K (.bl b) (.bl c) H Q := .inl ⟨rfl, by
  have e : decide (V.bl b = V.bl c) = decide (b = c) := by cases b <;> cases c <;> decide
  rw [e]; exact q⟩
theorem k_eqD {d e : PyData} (h1 : Dp K H x d) (h2 : Dp K H y e) (s1 : SeqAt.shaped d = true) (s2 : SeqAt.shaped e = true) (q : Q (.bl (PyData.eqv d e)) H) : rEqU K x y H Q := .inr ⟨d, e, h1, h2, s1, s2, q⟩
theorem k_neD {d e : PyData} (h1 : Dp K H x d) (h2 : Dp K H y e) (s1 : SeqAt.shaped d = true) (s2 : SeqAt.shaped e = true) (q : Q (.bl (!PyData.eqv d e)) H) : rNeU K x y H Q := .inr ⟨d, e, h1, h2, s1, s2, q⟩
theorem k_isN (q : Q (.bl (decide (x = .non))) H) : rIsU x .non H Q := .inl ⟨rfl, q⟩
theorem k_isnotN (q : Q (.bl (!decide (x = .non))) H) : rIsNotU x .non H Q := .inl ⟨rfl, q⟩
theorem k_lenL (h : SqL K H a xs) (q : Q (.int xs.length) H) : rLenU K [.ref a] H Q := .inl ⟨a, xs, rfl, .inl h, q⟩
theorem k_lenT (h : SqT K H a xs) (q : Q (.int xs.length) H) : rLenU K [.ref a] H Q := .inl ⟨a, xs, rfl, .inr h, q⟩
theorem k_lenS {w : Str} (h : w.length ≤ sizeLine) (q : Q (.int w.length) H) : rLenU K [.str w] H Q := .inr (.inl ⟨w, rfl, h, q⟩)
theorem k_ixL (h : SqL K H a xs) (h2 : atI xs i = some v) (q : Q v H) : rIx K (.ref a) (.int i) H Q := .inl ⟨a, xs, i, v, rfl, rfl, h, h2, q⟩
theorem k_ixT (h : SqT K H a xs) (h2 : atI xs i = some v) (q : Q v H) : rIx K (.ref a) (.int i) H Q := .inr (.inl ⟨a, xs, i, v, rfl, rfl, h, h2, q⟩)
theorem k_ixS {w : Str} {c : Nat} (h : w.length ≤ sizeLine) (h2 : atI w.cps.toList i = some c) (q : Q (.str ⟨#[c]⟩) H) : rIx K (.str w) (.int i) H Q := .inr (.inr ⟨w, i, c, rfl, rfl, h, h2, q⟩)
theorem k_bm {T : String} {r : V → List V → Hp → VK → Prop} (h : ta σ H fun x H1 => tyV K T x H1 ∧ tl σ H1 fun xs H2 => r x xs H2 Q) : tBM K T r ta tl σ H Q := h
theorem k_bm0 {T : String} {r : V → List V → Hp → VK → Prop} (h : ta σ H fun x H1 => tyV K T x H1 ∧ r x [] H1 Q) : tBM0 K T r ta σ H Q := h
theorem k_tyL {P : Prop} (h : SqL K H a xs) (q : P) : tyV K "list" (.ref a) H ∧ P := ⟨.inl ⟨rfl, _, h⟩, q⟩
theorem k_app (h : H a = some (.lst xs)) (hl : xs.length < sizeLine) (q : Q .non (upd H a (.lst (xs ++ [x])))) : rAppend (.ref a) [x] H Q := ⟨a, xs, x, rfl, rfl, h, hl, q⟩
theorem k_sl {r : V → Option Int → Option Int → Hp → VK → Prop} {tlo thi : TO} (h : te σ H fun x H1 => tlo σ H1 fun l H2 => thi σ H2 fun u H3 => r x l u H3 Q) : tSl r te tlo thi σ H Q := h
theorem k_nop {R : Option Int → Hp → Prop} (h : R none H) : tNoPart σ H R := h
theorem k_part {R : Option Int → Hp → Prop} (h : te σ H fun x H1 => ∃ i, x = .int i ∧ R (some i) H1) : tPart te σ H R := h
theorem k_partI {R : Int → Prop} (h : R i) : ∃ k, V.int i = .int k ∧ R k := ⟨i, rfl, h⟩
theorem k_slL {lo hi : Option Int} (h : SqL K H a xs) (q : ∀ p, H p = none → Q (.ref p) (upd H p (.lst (cutV xs lo hi)))) : rSlU K (.ref a) lo hi H Q := .inl ⟨a, xs, rfl, h, q⟩
theorem k_list (h : SqL K H a xs) (q : ∀ p, H p = none → Q (.ref p) (upd H p (.lst xs))) : rListU K [V.ref a] H Q := ⟨a, xs, rfl, .inl h, q⟩
theorem k_for {wi : TI} {g : TG} {tb : TS} (h : wi σ H fun J H1 => ∃ W : Nat → Nat → L2.St → Hp → Prop, (∃ m, W 0 m σ H1) ∧ ∀ i m σ H, W i m σ H → (J.stop i H ∧ D.nx σ H) ∨ (J.go i H ∧ ∃ N : L2.St → Hp → Prop, (∀ σ' H', N σ' H' → ∃ m', m' < m ∧ W (i + 1) m' σ' H') ∧ ∀ x H', J.yld i H x H' → g x σ H' fun σ2 H2 => tb { D with nx := N, ct := N, bk := D.nx } σ2 H2)) : tFor wi g tb D σ H := h
theorem k_itL {R : It → Hp → Prop} (h : te σ H fun x H1 => ∃ a, x = .ref a ∧ (∃ xs, SqL K H1 a xs) ∧ R (Itl K a) H1) : iList K te σ H R := h
theorem k_itl {R : Addr → Prop} (h1 : SqL K H a xs) (h : R a) : ∃ b, V.ref a = .ref b ∧ (∃ xs, SqL K H b xs) ∧ R b := ⟨a, rfl, ⟨xs, h1⟩, h⟩
theorem k_itT {R : It → Hp → Prop} (h : te σ H fun x H1 => ∃ a, x = .ref a ∧ (∃ xs, SqT K H1 a xs) ∧ R (Itt K a) H1) : iTup K te σ H R := h
theorem k_itt {R : Addr → Prop} (h1 : SqT K H a xs) (h : R a) : ∃ b, V.ref a = .ref b ∧ (∃ xs, SqT K H b xs) ∧ R b := ⟨a, rfl, ⟨xs, h1⟩, h⟩
theorem k_itR1 {R : It → Hp → Prop} (h : tl σ H fun vs H1 => ∃ j : Int, vs = [.int j] ∧ -(2 ^ 62) ≤ j ∧ j < 2 ^ 62 ∧ R (Itr 0 j.toNat) H1) : iRng1 tl σ H R := h
theorem k_itr1 {R : Int → Prop} (h1 : -(2 ^ 62) ≤ j ∧ j < 2 ^ 62) (h : R j) : ∃ k : Int, [V.int j] = [.int k] ∧ -(2 ^ 62) ≤ k ∧ k < 2 ^ 62 ∧ R k := ⟨j, rfl, h1.1, h1.2, h⟩
theorem k_itR2 {R : It → Hp → Prop} (h : tl σ H fun vs H1 => ∃ i j : Int, vs = [.int i, .int j] ∧ (-(2 ^ 62) ≤ i ∧ i < 2 ^ 62 ∧ -(2 ^ 62) ≤ j ∧ j < 2 ^ 62) ∧ R (Itr i (j - i).toNat) H1) : iRng2 tl σ H R := h
theorem k_itr2 {R : Int → Int → Prop} (h1 : -(2 ^ 62) ≤ i ∧ i < 2 ^ 62 ∧ -(2 ^ 62) ≤ j ∧ j < 2 ^ 62) (h : R i j) : ∃ k m : Int, [V.int i, V.int j] = [.int k, .int m] ∧ (-(2 ^ 62) ≤ k ∧ k < 2 ^ 62 ∧ -(2 ^ 62) ≤ m ∧ m < 2 ^ 62) ∧ R k m := ⟨i, j, rfl, h1, h⟩
theorem k_dnew (q : ∀ p, H p = none → Q (.ref p) (upd H p (.dK []))) : tDNewK σ H Q := q
end
/-! ### ifs -/
theorem k_ite {b : Bool} {A B : Prop} (h1 : b = true → A) (h2 : b = false → B) : if b = true then A else B := by
  cases b with
  | true => rw [if_pos rfl]; exact h1 rfl
  | false => rw [if_neg Bool.false_ne_true]; exact h2 rfl
theorem k_itd {p A B : Prop} [Decidable p] (h1 : p → A) (h2 : ¬ p → B) : if decide p = true then A else B := k_ite (fun h => h1 (of_decide_eq_true h)) fun h => h2 (of_decide_eq_false h)
theorem k_itn {p A B : Prop} [Decidable p] (h1 : ¬ p → A) (h2 : p → B) : if (!decide p) = true then A else B := k_ite (fun h => h1 (of_decide_eq_false (by simpa using h))) fun h => h2 (of_decide_eq_true (by simpa using h))
theorem k_pos {p A B : Prop} [Decidable p] (hp : p) (h1 : A) : if decide p = true then A else B := k_itd (fun _ => h1) fun h => absurd hp h
theorem k_neg' {p A B : Prop} [Decidable p] (hp : ¬ p) (h1 : B) : if decide p = true then A else B := k_itd (fun h => absurd h hp) fun _ => h1
theorem k_npos {p A B : Prop} [Decidable p] (hp : ¬ p) (h1 : A) : if (!decide p) = true then A else B := k_itn (fun _ => h1) fun h => absurd h hp
theorem k_nneg {p A B : Prop} [Decidable p] (hp : p) (h1 : B) : if (!decide p) = true then A else B := k_itn (fun h => absurd hp h) fun _ => h1
theorem k_tt {A B : Prop} (h : A) : if true = true then A else B := by rw [if_pos rfl]; exact h
theorem k_ff {A B : Prop} (h : B) : if false = true then A else B := by rw [if_neg Bool.false_ne_true]; exact h
/-! ### what stands where -/
theorem up_new {H : Hp} {a p : Addr} {o u : HO} (hp : H p = none) (h : H a = some o) : upd H p u a = some o := same_new hp _ _ h
theorem up_ne {H : Hp} {a p : Addr} {o u : HO} (n : a ≠ p) (h : H a = some o) : upd H p u a = some o := by rw [upd_ne n]; exact h
theorem Keep.at {d a : Addr} {H H' : Hp} {o : HO} (k : Keep d H H') (n : a ≠ d) (h : H a = some o) : H' a = some o := k a o n h
end Ls
namespace Ls
theorem hu1 {n : Nat} (h : n + 66 < PySem.cLine) : n + 1 < PySem.cLine := by omega
end Ls
namespace Ls
open PySem PySem.Spec PyProof.Rows L2
theorem k_body {t : TS} {D : Ends} {s0 s1 : L2.St} {H : Hp} (e : s0 = s1) (h : t D s1 H) : t D s0 H := e ▸ h
end Ls
namespace Ls
open PySem PySem.Spec PyProof.Rows L2
/-- a statement, then the rest, the ways joined between: M what holds there -/
def tCut (t u : TS) : TS := fun D σ H => ∃ M : L2.St → Hp → Prop, t { D with nx := M } σ H ∧ ∀ σ' H', M σ' H' → u D σ' H'
theorem k_cut {t u : TS} {D : Ends} {σ : L2.St} {H : Hp} (M : L2.St → Hp → Prop) (h1 : t { D with nx := M } σ H) (h2 : ∀ σ' H', M σ' H' → u D σ' H') : tCut t u D σ H := ⟨M, h1, h2⟩
end Ls
namespace Ls
open PySem PySem.Spec PyProof.Rows L2
theorem pss_cut {X : Cx} {st : Stmt} {rest : List Stmt} {t u : TS} (h1 : PS X st t) (h2 : PSs X rest u) : PSs X (st :: rest) (tCut t u) := by
  refine ⟨fun pins s σ H D I h => ?_⟩
  obtain ⟨M, hm, hu⟩ := h
  refine wpAny_execs_cons (thn (h1.run pins s σ H { D with nx := M } I hm) fun f s1 q => ?_)
  cases f with
  | next =>
    obtain ⟨σ', H', I', q⟩ := q
    exact h2.run pins s1 σ' H' D I' (hu σ' H' q)
  | ret v => exact q
  | brk => exact q
  | cont => exact q
theorem k_powL {H : Hp} {Q : VK} {i j v : Int} (h1 : 0 ≤ j ∧ j ≤ 1000000) (h3 : i.natAbs < 2 ^ 64) (e : i ^ j.toNat = v) (q : Q (.int v) H) : rI CPow (fun i j => .int (i ^ j.toNat)) (.int i) (.int j) H Q := ⟨i, j, rfl, rfl, ⟨h1.1, h1.2, h3⟩, by
  show Q (.int (i ^ j.toNat)) H
  rw [e]
  exact q⟩
end Ls
namespace Ls
open PySem PySem.Spec PyProof.Rows L2
theorem pe_ty {X : Cx} {x : Str} {pos : Pos} (T : String) (hg : Gl X x) (hm : X.mg x = none) (hv : bootBuiltins x = some (.type T)) (hn : x ≠ "__name__" := by decide) (hd : (x == ("__debug__" : Str)) = false := by decide) : PE X (.Name x pos) (tC (.ty T)) := pe_bltn (v := .ty T) hg hm hv rfl hn hd
end Ls
namespace Ls
open PySem PySem.Spec PyProof.Rows L2
theorem pe_gc {X : Cx} {x : Str} {pos : Pos} {v : V} (hg : Gl X x) (h : ∃ u, X.mg x = some u ∧ RelV v u) (hd : (x == ("__debug__" : Str)) = false := by decide) : PE X (.Name x pos) (tC v) := by
  obtain ⟨u, h1, h2⟩ := h
  exact pe_glob hg h1 h2 hd
end Ls
namespace Ls
open PySem PySem.Spec PyProof.Rows L2
/-! ### slots by number -/
section
variable {H : Hp} {Q : VK} {D : Ends} {te : TE} {v x : V} {s : L2.St} {R : L2.St → Hp → Prop} {o0 o1 o2 o3 o4 o5 o6 o7 o8 o9 o10 o11 o12 o13 o14 o15 o16 o17 o18 o19 o20 o21 o22 o23 o24 o25 o26 o27 o28 o29 o30 o31 o32 o33 o34 o35 o36 o37 o38 o39 o40 o41 o42 o43 : Option V}
theorem k_v0 (q : Q v H) : tVar 0 (some v :: s) H Q := ⟨v, rfl, q⟩
theorem k_s0 (q : te (o0 :: s) H fun x H1 => D.nx (some x :: s) H1) : tAsg te (gName 0) D (o0 :: s) H := q
theorem k_g0 (q : R (some x :: s) H) : gName 0 x (o0 :: s) H R := q
theorem k_v1 (q : Q v H) : tVar 1 (o0 :: some v :: s) H Q := ⟨v, rfl, q⟩
theorem k_s1 (q : te (o0 :: o1 :: s) H fun x H1 => D.nx (o0 :: some x :: s) H1) : tAsg te (gName 1) D (o0 :: o1 :: s) H := q
theorem k_g1 (q : R (o0 :: some x :: s) H) : gName 1 x (o0 :: o1 :: s) H R := q
theorem k_v2 (q : Q v H) : tVar 2 (o0 :: o1 :: some v :: s) H Q := ⟨v, rfl, q⟩
theorem k_s2 (q : te (o0 :: o1 :: o2 :: s) H fun x H1 => D.nx (o0 :: o1 :: some x :: s) H1) : tAsg te (gName 2) D (o0 :: o1 :: o2 :: s) H := q
theorem k_g2 (q : R (o0 :: o1 :: some x :: s) H) : gName 2 x (o0 :: o1 :: o2 :: s) H R := q
theorem k_v3 (q : Q v H) : tVar 3 (o0 :: o1 :: o2 :: some v :: s) H Q := ⟨v, rfl, q⟩
theorem k_s3 (q : te (o0 :: o1 :: o2 :: o3 :: s) H fun x H1 => D.nx (o0 :: o1 :: o2 :: some x :: s) H1) : tAsg te (gName 3) D (o0 :: o1 :: o2 :: o3 :: s) H := q
theorem k_g3 (q : R (o0 :: o1 :: o2 :: some x :: s) H) : gName 3 x (o0 :: o1 :: o2 :: o3 :: s) H R := q
theorem k_v4 (q : Q v H) : tVar 4 (o0 :: o1 :: o2 :: o3 :: some v :: s) H Q := ⟨v, rfl, q⟩
theorem k_s4 (q : te (o0 :: o1 :: o2 :: o3 :: o4 :: s) H fun x H1 => D.nx (o0 :: o1 :: o2 :: o3 :: some x :: s) H1) : tAsg te (gName 4) D (o0 :: o1 :: o2 :: o3 :: o4 :: s) H := q
theorem k_g4 (q : R (o0 :: o1 :: o2 :: o3 :: some x :: s) H) : gName 4 x (o0 :: o1 :: o2 :: o3 :: o4 :: s) H R := q
theorem k_v5 (q : Q v H) : tVar 5 (o0 :: o1 :: o2 :: o3 :: o4 :: some v :: s) H Q := ⟨v, rfl, q⟩
theorem k_s5 (q : te (o0 :: o1 :: o2 :: o3 :: o4 :: o5 :: s) H fun x H1 => D.nx (o0 :: o1 :: o2 :: o3 :: o4 :: some x :: s) H1) : tAsg te (gName 5) D (o0 :: o1 :: o2 :: o3 :: o4 :: o5 :: s) H := q
theorem k_g5 (q : R (o0 :: o1 :: o2 :: o3 :: o4 :: some x :: s) H) : gName 5 x (o0 :: o1 :: o2 :: o3 :: o4 :: o5 :: s) H R := q
theorem k_v6 (q : Q v H) : tVar 6 (o0 :: o1 :: o2 :: o3 :: o4 :: o5 :: some v :: s) H Q := ⟨v, rfl, q⟩
theorem k_s6 (q : te (o0 :: o1 :: o2 :: o3 :: o4 :: o5 :: o6 :: s) H fun x H1 => D.nx (o0 :: o1 :: o2 :: o3 :: o4 :: o5 :: some x :: s) H1) : tAsg te (gName 6) D (o0 :: o1 :: o2 :: o3 :: o4 :: o5 :: o6 :: s) H := q
theorem k_g6 (q : R (o0 :: o1 :: o2 :: o3 :: o4 :: o5 :: some x :: s) H) : gName 6 x (o0 :: o1 :: o2 :: o3 :: o4 :: o5 :: o6 :: s) H R := q
theorem k_v7 (q : Q v H) : tVar 7 (o0 :: o1 :: o2 :: o3 :: o4 :: o5 :: o6 :: some v :: s) H Q := ⟨v, rfl, q⟩
theorem k_s7 (q : te (o0 :: o1 :: o2 :: o3 :: o4 :: o5 :: o6 :: o7 :: s) H fun x H1 => D.nx (o0 :: o1 :: o2 :: o3 :: o4 :: o5 :: o6 :: some x :: s) H1) : tAsg te (gName 7) D (o0 :: o1 :: o2 :: o3 :: o4 :: o5 :: o6 :: o7 :: s) H := q
theorem k_g7 (q : R (o0 :: o1 :: o2 :: o3 :: o4 :: o5 :: o6 :: some x :: s) H) : gName 7 x (o0 :: o1 :: o2 :: o3 :: o4 :: o5 :: o6 :: o7 :: s) H R := q
theorem k_v8 (q : Q v H) : tVar 8 (o0 :: o1 :: o2 :: o3 :: o4 :: o5 :: o6 :: o7 :: some v :: s) H Q := ⟨v, rfl, q⟩
theorem k_s8 (q : te (o0 :: o1 :: o2 :: o3 :: o4 :: o5 :: o6 :: o7 :: o8 :: s) H fun x H1 => D.nx (o0 :: o1 :: o2 :: o3 :: o4 :: o5 :: o6 :: o7 :: some x :: s) H1) : tAsg te (gName 8) D (o0 :: o1 :: o2 :: o3 :: o4 :: o5 :: o6 :: o7 :: o8 :: s) H := q
theorem k_g8 (q : R (o0 :: o1 :: o2 :: o3 :: o4 :: o5 :: o6 :: o7 :: some x :: s) H) : gName 8 x (o0 :: o1 :: o2 :: o3 :: o4 :: o5 :: o6 :: o7 :: o8 :: s) H R := q
theorem k_v9 (q : Q v H) : tVar 9 (o0 :: o1 :: o2 :: o3 :: o4 :: o5 :: o6 :: o7 :: o8 :: some v :: s) H Q := ⟨v, rfl, q⟩
theorem k_s9 (q : te (o0 :: o1 :: o2 :: o3 :: o4 :: o5 :: o6 :: o7 :: o8 :: o9 :: s) H fun x H1 => D.nx (o0 :: o1 :: o2 :: o3 :: o4 :: o5 :: o6 :: o7 :: o8 :: some x :: s) H1) : tAsg te (gName 9) D (o0 :: o1 :: o2 :: o3 :: o4 :: o5 :: o6 :: o7 :: o8 :: o9 :: s) H := q
theorem k_g9 (q : R (o0 :: o1 :: o2 :: o3 :: o4 :: o5 :: o6 :: o7 :: o8 :: some x :: s) H) : gName 9 x (o0 :: o1 :: o2 :: o3 :: o4 :: o5 :: o6 :: o7 :: o8 :: o9 :: s) H R := q
theorem k_v10 (q : Q v H) : tVar 10 (o0 :: o1 :: o2 :: o3 :: o4 :: o5 :: o6 :: o7 :: o8 :: o9 :: some v :: s) H Q := ⟨v, rfl, q⟩
theorem k_s10 (q : te (o0 :: o1 :: o2 :: o3 :: o4 :: o5 :: o6 :: o7 :: o8 :: o9 :: o10 :: s) H fun x H1 => D.nx (o0 :: o1 :: o2 :: o3 :: o4 :: o5 :: o6 :: o7 :: o8 :: o9 :: some x :: s) H1) : tAsg te (gName 10) D (o0 :: o1 :: o2 :: o3 :: o4 :: o5 :: o6 :: o7 :: o8 :: o9 :: o10 :: s) H := q
theorem k_g10 (q : R (o0 :: o1 :: o2 :: o3 :: o4 :: o5 :: o6 :: o7 :: o8 :: o9 :: some x :: s) H) : gName 10 x (o0 :: o1 :: o2 :: o3 :: o4 :: o5 :: o6 :: o7 :: o8 :: o9 :: o10 :: s) H R := q
theorem k_v11 (q : Q v H) : tVar 11 (o0 :: o1 :: o2 :: o3 :: o4 :: o5 :: o6 :: o7 :: o8 :: o9 :: o10 :: some v :: s) H Q := ⟨v, rfl, q⟩
theorem k_s11 (q : te (o0 :: o1 :: o2 :: o3 :: o4 :: o5 :: o6 :: o7 :: o8 :: o9 :: o10 :: o11 :: s) H fun x H1 => D.nx (o0 :: o1 :: o2 :: o3 :: o4 :: o5 :: o6 :: o7 :: o8 :: o9 :: o10 :: some x :: s) H1) : tAsg te (gName 11) D (o0 :: o1 :: o2 :: o3 :: o4 :: o5 :: o6 :: o7 :: o8 :: o9 :: o10 :: o11 :: s) H := q
theorem k_g11 (q : R (o0 :: o1 :: o2 :: o3 :: o4 :: o5 :: o6 :: o7 :: o8 :: o9 :: o10 :: some x :: s) H) : gName 11 x (o0 :: o1 :: o2 :: o3 :: o4 :: o5 :: o6 :: o7 :: o8 :: o9 :: o10 :: o11 :: s) H R := q
theorem k_v12 (q : Q v H) : tVar 12 (o0 :: o1 :: o2 :: o3 :: o4 :: o5 :: o6 :: o7 :: o8 :: o9 :: o10 :: o11 :: some v :: s) H Q := ⟨v, rfl, q⟩
theorem k_s12 (q : te (o0 :: o1 :: o2 :: o3 :: o4 :: o5 :: o6 :: o7 :: o8 :: o9 :: o10 :: o11 :: o12 :: s) H fun x H1 => D.nx (o0 :: o1 :: o2 :: o3 :: o4 :: o5 :: o6 :: o7 :: o8 :: o9 :: o10 :: o11 :: some x :: s) H1) : tAsg te (gName 12) D (o0 :: o1 :: o2 :: o3 :: o4 :: o5 :: o6 :: o7 :: o8 :: o9 :: o10 :: o11 :: o12 :: s) H := q
theorem k_g12 (q : R (o0 :: o1 :: o2 :: o3 :: o4 :: o5 :: o6 :: o7 :: o8 :: o9 :: o10 :: o11 :: some x :: s) H) : gName 12 x (o0 :: o1 :: o2 :: o3 :: o4 :: o5 :: o6 :: o7 :: o8 :: o9 :: o10 :: o11 :: o12 :: s) H R := q
theorem k_v13 (q : Q v H) : tVar 13 (o0 :: o1 :: o2 :: o3 :: o4 :: o5 :: o6 :: o7 :: o8 :: o9 :: o10 :: o11 :: o12 :: some v :: s) H Q := ⟨v, rfl, q⟩
theorem k_s13 (q : te (o0 :: o1 :: o2 :: o3 :: o4 :: o5 :: o6 :: o7 :: o8 :: o9 :: o10 :: o11 :: o12 :: o13 :: s) H fun x H1 => D.nx (o0 :: o1 :: o2 :: o3 :: o4 :: o5 :: o6 :: o7 :: o8 :: o9 :: o10 :: o11 :: o12 :: some x :: s) H1) : tAsg te (gName 13) D (o0 :: o1 :: o2 :: o3 :: o4 :: o5 :: o6 :: o7 :: o8 :: o9 :: o10 :: o11 :: o12 :: o13 :: s) H := q
theorem k_g13 (q : R (o0 :: o1 :: o2 :: o3 :: o4 :: o5 :: o6 :: o7 :: o8 :: o9 :: o10 :: o11 :: o12 :: some x :: s) H) : gName 13 x (o0 :: o1 :: o2 :: o3 :: o4 :: o5 :: o6 :: o7 :: o8 :: o9 :: o10 :: o11 :: o12 :: o13 :: s) H R := q
theorem k_v14 (q : Q v H) : tVar 14 (o0 :: o1 :: o2 :: o3 :: o4 :: o5 :: o6 :: o7 :: o8 :: o9 :: o10 :: o11 :: o12 :: o13 :: some v :: s) H Q := ⟨v, rfl, q⟩
theorem k_s14 (q : te (o0 :: o1 :: o2 :: o3 :: o4 :: o5 :: o6 :: o7 :: o8 :: o9 :: o10 :: o11 :: o12 :: o13 :: o14 :: s) H fun x H1 => D.nx (o0 :: o1 :: o2 :: o3 :: o4 :: o5 :: o6 :: o7 :: o8 :: o9 :: o10 :: o11 :: o12 :: o13 :: some x :: s) H1) : tAsg te (gName 14) D (o0 :: o1 :: o2 :: o3 :: o4 :: o5 :: o6 :: o7 :: o8 :: o9 :: o10 :: o11 :: o12 :: o13 :: o14 :: s) H := q
theorem k_g14 (q : R (o0 :: o1 :: o2 :: o3 :: o4 :: o5 :: o6 :: o7 :: o8 :: o9 :: o10 :: o11 :: o12 :: o13 :: some x :: s) H) : gName 14 x (o0 :: o1 :: o2 :: o3 :: o4 :: o5 :: o6 :: o7 :: o8 :: o9 :: o10 :: o11 :: o12 :: o13 :: o14 :: s) H R := q
theorem k_v15 (q : Q v H) : tVar 15 (o0 :: o1 :: o2 :: o3 :: o4 :: o5 :: o6 :: o7 :: o8 :: o9 :: o10 :: o11 :: o12 :: o13 :: o14 :: some v :: s) H Q := ⟨v, rfl, q⟩
theorem k_s15 (q : te (o0 :: o1 :: o2 :: o3 :: o4 :: o5 :: o6 :: o7 :: o8 :: o9 :: o10 :: o11 :: o12 :: o13 :: o14 :: o15 :: s) H fun x H1 => D.nx (o0 :: o1 :: o2 :: o3 :: o4 :: o5 :: o6 :: o7 :: o8 :: o9 :: o10 :: o11 :: o12 :: o13 :: o14 :: some x :: s) H1) : tAsg te (gName 15) D (o0 :: o1 :: o2 :: o3 :: o4 :: o5 :: o6 :: o7 :: o8 :: o9 :: o10 :: o11 :: o12 :: o13 :: o14 :: o15 :: s) H := q
theorem k_g15 (q : R (o0 :: o1 :: o2 :: o3 :: o4 :: o5 :: o6 :: o7 :: o8 :: o9 :: o10 :: o11 :: o12 :: o13 :: o14 :: some x :: s) H) : gName 15 x (o0 :: o1 :: o2 :: o3 :: o4 :: o5 :: o6 :: o7 :: o8 :: o9 :: o10 :: o11 :: o12 :: o13 :: o14 :: o15 :: s) H R := q
theorem k_v16 (q : Q v H) : tVar 16 (o0 :: o1 :: o2 :: o3 :: o4 :: o5 :: o6 :: o7 :: o8 :: o9 :: o10 :: o11 :: o12 :: o13 :: o14 :: o15 :: some v :: s) H Q := ⟨v, rfl, q⟩
theorem k_s16 (q : te (o0 :: o1 :: o2 :: o3 :: o4 :: o5 :: o6 :: o7 :: o8 :: o9 :: o10 :: o11 :: o12 :: o13 :: o14 :: o15 :: o16 :: s) H fun x H1 => D.nx (o0 :: o1 :: o2 :: o3 :: o4 :: o5 :: o6 :: o7 :: o8 :: o9 :: o10 :: o11 :: o12 :: o13 :: o14 :: o15 :: some x :: s) H1) : tAsg te (gName 16) D (o0 :: o1 :: o2 :: o3 :: o4 :: o5 :: o6 :: o7 :: o8 :: o9 :: o10 :: o11 :: o12 :: o13 :: o14 :: o15 :: o16 :: s) H := q
theorem k_g16 (q : R (o0 :: o1 :: o2 :: o3 :: o4 :: o5 :: o6 :: o7 :: o8 :: o9 :: o10 :: o11 :: o12 :: o13 :: o14 :: o15 :: some x :: s) H) : gName 16 x (o0 :: o1 :: o2 :: o3 :: o4 :: o5 :: o6 :: o7 :: o8 :: o9 :: o10 :: o11 :: o12 :: o13 :: o14 :: o15 :: o16 :: s) H R := q
theorem k_v17 (q : Q v H) : tVar 17 (o0 :: o1 :: o2 :: o3 :: o4 :: o5 :: o6 :: o7 :: o8 :: o9 :: o10 :: o11 :: o12 :: o13 :: o14 :: o15 :: o16 :: some v :: s) H Q := ⟨v, rfl, q⟩
theorem k_s17 (q : te (o0 :: o1 :: o2 :: o3 :: o4 :: o5 :: o6 :: o7 :: o8 :: o9 :: o10 :: o11 :: o12 :: o13 :: o14 :: o15 :: o16 :: o17 :: s) H fun x H1 => D.nx (o0 :: o1 :: o2 :: o3 :: o4 :: o5 :: o6 :: o7 :: o8 :: o9 :: o10 :: o11 :: o12 :: o13 :: o14 :: o15 :: o16 :: some x :: s) H1) : tAsg te (gName 17) D (o0 :: o1 :: o2 :: o3 :: o4 :: o5 :: o6 :: o7 :: o8 :: o9 :: o10 :: o11 :: o12 :: o13 :: o14 :: o15 :: o16 :: o17 :: s) H := q
theorem k_g17 (q : R (o0 :: o1 :: o2 :: o3 :: o4 :: o5 :: o6 :: o7 :: o8 :: o9 :: o10 :: o11 :: o12 :: o13 :: o14 :: o15 :: o16 :: some x :: s) H) : gName 17 x (o0 :: o1 :: o2 :: o3 :: o4 :: o5 :: o6 :: o7 :: o8 :: o9 :: o10 :: o11 :: o12 :: o13 :: o14 :: o15 :: o16 :: o17 :: s) H R := q
theorem k_v18 (q : Q v H) : tVar 18 (o0 :: o1 :: o2 :: o3 :: o4 :: o5 :: o6 :: o7 :: o8 :: o9 :: o10 :: o11 :: o12 :: o13 :: o14 :: o15 :: o16 :: o17 :: some v :: s) H Q := ⟨v, rfl, q⟩
theorem k_s18 (q : te (o0 :: o1 :: o2 :: o3 :: o4 :: o5 :: o6 :: o7 :: o8 :: o9 :: o10 :: o11 :: o12 :: o13 :: o14 :: o15 :: o16 :: o17 :: o18 :: s) H fun x H1 => D.nx (o0 :: o1 :: o2 :: o3 :: o4 :: o5 :: o6 :: o7 :: o8 :: o9 :: o10 :: o11 :: o12 :: o13 :: o14 :: o15 :: o16 :: o17 :: some x :: s) H1) : tAsg te (gName 18) D (o0 :: o1 :: o2 :: o3 :: o4 :: o5 :: o6 :: o7 :: o8 :: o9 :: o10 :: o11 :: o12 :: o13 :: o14 :: o15 :: o16 :: o17 :: o18 :: s) H := q
theorem k_g18 (q : R (o0 :: o1 :: o2 :: o3 :: o4 :: o5 :: o6 :: o7 :: o8 :: o9 :: o10 :: o11 :: o12 :: o13 :: o14 :: o15 :: o16 :: o17 :: some x :: s) H) : gName 18 x (o0 :: o1 :: o2 :: o3 :: o4 :: o5 :: o6 :: o7 :: o8 :: o9 :: o10 :: o11 :: o12 :: o13 :: o14 :: o15 :: o16 :: o17 :: o18 :: s) H R := q
theorem k_v19 (q : Q v H) : tVar 19 (o0 :: o1 :: o2 :: o3 :: o4 :: o5 :: o6 :: o7 :: o8 :: o9 :: o10 :: o11 :: o12 :: o13 :: o14 :: o15 :: o16 :: o17 :: o18 :: some v :: s) H Q := ⟨v, rfl, q⟩
theorem k_s19 (q : te (o0 :: o1 :: o2 :: o3 :: o4 :: o5 :: o6 :: o7 :: o8 :: o9 :: o10 :: o11 :: o12 :: o13 :: o14 :: o15 :: o16 :: o17 :: o18 :: o19 :: s) H fun x H1 => D.nx (o0 :: o1 :: o2 :: o3 :: o4 :: o5 :: o6 :: o7 :: o8 :: o9 :: o10 :: o11 :: o12 :: o13 :: o14 :: o15 :: o16 :: o17 :: o18 :: some x :: s) H1) : tAsg te (gName 19) D (o0 :: o1 :: o2 :: o3 :: o4 :: o5 :: o6 :: o7 :: o8 :: o9 :: o10 :: o11 :: o12 :: o13 :: o14 :: o15 :: o16 :: o17 :: o18 :: o19 :: s) H := q
theorem k_g19 (q : R (o0 :: o1 :: o2 :: o3 :: o4 :: o5 :: o6 :: o7 :: o8 :: o9 :: o10 :: o11 :: o12 :: o13 :: o14 :: o15 :: o16 :: o17 :: o18 :: some x :: s) H) : gName 19 x (o0 :: o1 :: o2 :: o3 :: o4 :: o5 :: o6 :: o7 :: o8 :: o9 :: o10 :: o11 :: o12 :: o13 :: o14 :: o15 :: o16 :: o17 :: o18 :: o19 :: s) H R := q
theorem k_v20 (q : Q v H) : tVar 20 (o0 :: o1 :: o2 :: o3 :: o4 :: o5 :: o6 :: o7 :: o8 :: o9 :: o10 :: o11 :: o12 :: o13 :: o14 :: o15 :: o16 :: o17 :: o18 :: o19 :: some v :: s) H Q := ⟨v, rfl, q⟩
theorem k_s20 (q : te (o0 :: o1 :: o2 :: o3 :: o4 :: o5 :: o6 :: o7 :: o8 :: o9 :: o10 :: o11 :: o12 :: o13 :: o14 :: o15 :: o16 :: o17 :: o18 :: o19 :: o20 :: s) H fun x H1 => D.nx (o0 :: o1 :: o2 :: o3 :: o4 :: o5 :: o6 :: o7 :: o8 :: o9 :: o10 :: o11 :: o12 :: o13 :: o14 :: o15 :: o16 :: o17 :: o18 :: o19 :: some x :: s) H1) : tAsg te (gName 20) D (o0 :: o1 :: o2 :: o3 :: o4 :: o5 :: o6 :: o7 :: o8 :: o9 :: o10 :: o11 :: o12 :: o13 :: o14 :: o15 :: o16 :: o17 :: o18 :: o19 :: o20 :: s) H := q
theorem k_g20 (q : R (o0 :: o1 :: o2 :: o3 :: o4 :: o5 :: o6 :: o7 :: o8 :: o9 :: o10 :: o11 :: o12 :: o13 :: o14 :: o15 :: o16 :: o17 :: o18 :: o19 :: some x :: s) H) : gName 20 x (o0 :: o1 :: o2 :: o3 :: o4 :: o5 :: o6 :: o7 :: o8 :: o9 :: o10 :: o11 :: o12 :: o13 :: o14 :: o15 :: o16 :: o17 :: o18 :: o19 :: o20 :: s) H R := q
theorem k_v21 (q : Q v H) : tVar 21 (o0 :: o1 :: o2 :: o3 :: o4 :: o5 :: o6 :: o7 :: o8 :: o9 :: o10 :: o11 :: o12 :: o13 :: o14 :: o15 :: o16 :: o17 :: o18 :: o19 :: o20 :: some v :: s) H Q := ⟨v, rfl, q⟩
theorem k_s21 (q : te (o0 :: o1 :: o2 :: o3 :: o4 :: o5 :: o6 :: o7 :: o8 :: o9 :: o10 :: o11 :: o12 :: o13 :: o14 :: o15 :: o16 :: o17 :: o18 :: o19 :: o20 :: o21 :: s) H fun x H1 => D.nx (o0 :: o1 :: o2 :: o3 :: o4 :: o5 :: o6 :: o7 :: o8 :: o9 :: o10 :: o11 :: o12 :: o13 :: o14 :: o15 :: o16 :: o17 :: o18 :: o19 :: o20 :: some x :: s) H1) : tAsg te (gName 21) D (o0 :: o1 :: o2 :: o3 :: o4 :: o5 :: o6 :: o7 :: o8 :: o9 :: o10 :: o11 :: o12 :: o13 :: o14 :: o15 :: o16 :: o17 :: o18 :: o19 :: o20 :: o21 :: s) H := q
theorem k_g21 (q : R (o0 :: o1 :: o2 :: o3 :: o4 :: o5 :: o6 :: o7 :: o8 :: o9 :: o10 :: o11 :: o12 :: o13 :: o14 :: o15 :: o16 :: o17 :: o18 :: o19 :: o20 :: some x :: s) H) : gName 21 x (o0 :: o1 :: o2 :: o3 :: o4 :: o5 :: o6 :: o7 :: o8 :: o9 :: o10 :: o11 :: o12 :: o13 :: o14 :: o15 :: o16 :: o17 :: o18 :: o19 :: o20 :: o21 :: s) H R := q
theorem k_v22 (q : Q v H) : tVar 22 (o0 :: o1 :: o2 :: o3 :: o4 :: o5 :: o6 :: o7 :: o8 :: o9 :: o10 :: o11 :: o12 :: o13 :: o14 :: o15 :: o16 :: o17 :: o18 :: o19 :: o20 :: o21 :: some v :: s) H Q := ⟨v, rfl, q⟩
theorem k_s22 (q : te (o0 :: o1 :: o2 :: o3 :: o4 :: o5 :: o6 :: o7 :: o8 :: o9 :: o10 :: o11 :: o12 :: o13 :: o14 :: o15 :: o16 :: o17 :: o18 :: o19 :: o20 :: o21 :: o22 :: s) H fun x H1 => D.nx (o0 :: o1 :: o2 :: o3 :: o4 :: o5 :: o6 :: o7 :: o8 :: o9 :: o10 :: o11 :: o12 :: o13 :: o14 :: o15 :: o16 :: o17 :: o18 :: o19 :: o20 :: o21 :: some x :: s) H1) : tAsg te (gName 22) D (o0 :: o1 :: o2 :: o3 :: o4 :: o5 :: o6 :: o7 :: o8 :: o9 :: o10 :: o11 :: o12 :: o13 :: o14 :: o15 :: o16 :: o17 :: o18 :: o19 :: o20 :: o21 :: o22 :: s) H := q
theorem k_g22 (q : R (o0 :: o1 :: o2 :: o3 :: o4 :: o5 :: o6 :: o7 :: o8 :: o9 :: o10 :: o11 :: o12 :: o13 :: o14 :: o15 :: o16 :: o17 :: o18 :: o19 :: o20 :: o21 :: some x :: s) H) : gName 22 x (o0 :: o1 :: o2 :: o3 :: o4 :: o5 :: o6 :: o7 :: o8 :: o9 :: o10 :: o11 :: o12 :: o13 :: o14 :: o15 :: o16 :: o17 :: o18 :: o19 :: o20 :: o21 :: o22 :: s) H R := q
theorem k_v23 (q : Q v H) : tVar 23 (o0 :: o1 :: o2 :: o3 :: o4 :: o5 :: o6 :: o7 :: o8 :: o9 :: o10 :: o11 :: o12 :: o13 :: o14 :: o15 :: o16 :: o17 :: o18 :: o19 :: o20 :: o21 :: o22 :: some v :: s) H Q := ⟨v, rfl, q⟩
theorem k_s23 (q : te (o0 :: o1 :: o2 :: o3 :: o4 :: o5 :: o6 :: o7 :: o8 :: o9 :: o10 :: o11 :: o12 :: o13 :: o14 :: o15 :: o16 :: o17 :: o18 :: o19 :: o20 :: o21 :: o22 :: o23 :: s) H fun x H1 => D.nx (o0 :: o1 :: o2 :: o3 :: o4 :: o5 :: o6 :: o7 :: o8 :: o9 :: o10 :: o11 :: o12 :: o13 :: o14 :: o15 :: o16 :: o17 :: o18 :: o19 :: o20 :: o21 :: o22 :: some x :: s) H1) : tAsg te (gName 23) D (o0 :: o1 :: o2 :: o3 :: o4 :: o5 :: o6 :: o7 :: o8 :: o9 :: o10 :: o11 :: o12 :: o13 :: o14 :: o15 :: o16 :: o17 :: o18 :: o19 :: o20 :: o21 :: o22 :: o23 :: s) H := q
theorem k_g23 (q : R (o0 :: o1 :: o2 :: o3 :: o4 :: o5 :: o6 :: o7 :: o8 :: o9 :: o10 :: o11 :: o12 :: o13 :: o14 :: o15 :: o16 :: o17 :: o18 :: o19 :: o20 :: o21 :: o22 :: some x :: s) H) : gName 23 x (o0 :: o1 :: o2 :: o3 :: o4 :: o5 :: o6 :: o7 :: o8 :: o9 :: o10 :: o11 :: o12 :: o13 :: o14 :: o15 :: o16 :: o17 :: o18 :: o19 :: o20 :: o21 :: o22 :: o23 :: s) H R := q
theorem k_v24 (q : Q v H) : tVar 24 (o0 :: o1 :: o2 :: o3 :: o4 :: o5 :: o6 :: o7 :: o8 :: o9 :: o10 :: o11 :: o12 :: o13 :: o14 :: o15 :: o16 :: o17 :: o18 :: o19 :: o20 :: o21 :: o22 :: o23 :: some v :: s) H Q := ⟨v, rfl, q⟩
theorem k_s24 (q : te (o0 :: o1 :: o2 :: o3 :: o4 :: o5 :: o6 :: o7 :: o8 :: o9 :: o10 :: o11 :: o12 :: o13 :: o14 :: o15 :: o16 :: o17 :: o18 :: o19 :: o20 :: o21 :: o22 :: o23 :: o24 :: s) H fun x H1 => D.nx (o0 :: o1 :: o2 :: o3 :: o4 :: o5 :: o6 :: o7 :: o8 :: o9 :: o10 :: o11 :: o12 :: o13 :: o14 :: o15 :: o16 :: o17 :: o18 :: o19 :: o20 :: o21 :: o22 :: o23 :: some x :: s) H1) : tAsg te (gName 24) D (o0 :: o1 :: o2 :: o3 :: o4 :: o5 :: o6 :: o7 :: o8 :: o9 :: o10 :: o11 :: o12 :: o13 :: o14 :: o15 :: o16 :: o17 :: o18 :: o19 :: o20 :: o21 :: o22 :: o23 :: o24 :: s) H := q
theorem k_g24 (q : R (o0 :: o1 :: o2 :: o3 :: o4 :: o5 :: o6 :: o7 :: o8 :: o9 :: o10 :: o11 :: o12 :: o13 :: o14 :: o15 :: o16 :: o17 :: o18 :: o19 :: o20 :: o21 :: o22 :: o23 :: some x :: s) H) : gName 24 x (o0 :: o1 :: o2 :: o3 :: o4 :: o5 :: o6 :: o7 :: o8 :: o9 :: o10 :: o11 :: o12 :: o13 :: o14 :: o15 :: o16 :: o17 :: o18 :: o19 :: o20 :: o21 :: o22 :: o23 :: o24 :: s) H R := q
theorem k_v25 (q : Q v H) : tVar 25 (o0 :: o1 :: o2 :: o3 :: o4 :: o5 :: o6 :: o7 :: o8 :: o9 :: o10 :: o11 :: o12 :: o13 :: o14 :: o15 :: o16 :: o17 :: o18 :: o19 :: o20 :: o21 :: o22 :: o23 :: o24 :: some v :: s) H Q := ⟨v, rfl, q⟩
theorem k_s25 (q : te (o0 :: o1 :: o2 :: o3 :: o4 :: o5 :: o6 :: o7 :: o8 :: o9 :: o10 :: o11 :: o12 :: o13 :: o14 :: o15 :: o16 :: o17 :: o18 :: o19 :: o20 :: o21 :: o22 :: o23 :: o24 :: o25 :: s) H fun x H1 => D.nx (o0 :: o1 :: o2 :: o3 :: o4 :: o5 :: o6 :: o7 :: o8 :: o9 :: o10 :: o11 :: o12 :: o13 :: o14 :: o15 :: o16 :: o17 :: o18 :: o19 :: o20 :: o21 :: o22 :: o23 :: o24 :: some x :: s) H1) : tAsg te (gName 25) D (o0 :: o1 :: o2 :: o3 :: o4 :: o5 :: o6 :: o7 :: o8 :: o9 :: o10 :: o11 :: o12 :: o13 :: o14 :: o15 :: o16 :: o17 :: o18 :: o19 :: o20 :: o21 :: o22 :: o23 :: o24 :: o25 :: s) H := q
theorem k_g25 (q : R (o0 :: o1 :: o2 :: o3 :: o4 :: o5 :: o6 :: o7 :: o8 :: o9 :: o10 :: o11 :: o12 :: o13 :: o14 :: o15 :: o16 :: o17 :: o18 :: o19 :: o20 :: o21 :: o22 :: o23 :: o24 :: some x :: s) H) : gName 25 x (o0 :: o1 :: o2 :: o3 :: o4 :: o5 :: o6 :: o7 :: o8 :: o9 :: o10 :: o11 :: o12 :: o13 :: o14 :: o15 :: o16 :: o17 :: o18 :: o19 :: o20 :: o21 :: o22 :: o23 :: o24 :: o25 :: s) H R := q
theorem k_v26 (q : Q v H) : tVar 26 (o0 :: o1 :: o2 :: o3 :: o4 :: o5 :: o6 :: o7 :: o8 :: o9 :: o10 :: o11 :: o12 :: o13 :: o14 :: o15 :: o16 :: o17 :: o18 :: o19 :: o20 :: o21 :: o22 :: o23 :: o24 :: o25 :: some v :: s) H Q := ⟨v, rfl, q⟩
theorem k_s26 (q : te (o0 :: o1 :: o2 :: o3 :: o4 :: o5 :: o6 :: o7 :: o8 :: o9 :: o10 :: o11 :: o12 :: o13 :: o14 :: o15 :: o16 :: o17 :: o18 :: o19 :: o20 :: o21 :: o22 :: o23 :: o24 :: o25 :: o26 :: s) H fun x H1 => D.nx (o0 :: o1 :: o2 :: o3 :: o4 :: o5 :: o6 :: o7 :: o8 :: o9 :: o10 :: o11 :: o12 :: o13 :: o14 :: o15 :: o16 :: o17 :: o18 :: o19 :: o20 :: o21 :: o22 :: o23 :: o24 :: o25 :: some x :: s) H1) : tAsg te (gName 26) D (o0 :: o1 :: o2 :: o3 :: o4 :: o5 :: o6 :: o7 :: o8 :: o9 :: o10 :: o11 :: o12 :: o13 :: o14 :: o15 :: o16 :: o17 :: o18 :: o19 :: o20 :: o21 :: o22 :: o23 :: o24 :: o25 :: o26 :: s) H := q
theorem k_g26 (q : R (o0 :: o1 :: o2 :: o3 :: o4 :: o5 :: o6 :: o7 :: o8 :: o9 :: o10 :: o11 :: o12 :: o13 :: o14 :: o15 :: o16 :: o17 :: o18 :: o19 :: o20 :: o21 :: o22 :: o23 :: o24 :: o25 :: some x :: s) H) : gName 26 x (o0 :: o1 :: o2 :: o3 :: o4 :: o5 :: o6 :: o7 :: o8 :: o9 :: o10 :: o11 :: o12 :: o13 :: o14 :: o15 :: o16 :: o17 :: o18 :: o19 :: o20 :: o21 :: o22 :: o23 :: o24 :: o25 :: o26 :: s) H R := q
theorem k_v27 (q : Q v H) : tVar 27 (o0 :: o1 :: o2 :: o3 :: o4 :: o5 :: o6 :: o7 :: o8 :: o9 :: o10 :: o11 :: o12 :: o13 :: o14 :: o15 :: o16 :: o17 :: o18 :: o19 :: o20 :: o21 :: o22 :: o23 :: o24 :: o25 :: o26 :: some v :: s) H Q := ⟨v, rfl, q⟩
theorem k_s27 (q : te (o0 :: o1 :: o2 :: o3 :: o4 :: o5 :: o6 :: o7 :: o8 :: o9 :: o10 :: o11 :: o12 :: o13 :: o14 :: o15 :: o16 :: o17 :: o18 :: o19 :: o20 :: o21 :: o22 :: o23 :: o24 :: o25 :: o26 :: o27 :: s) H fun x H1 => D.nx (o0 :: o1 :: o2 :: o3 :: o4 :: o5 :: o6 :: o7 :: o8 :: o9 :: o10 :: o11 :: o12 :: o13 :: o14 :: o15 :: o16 :: o17 :: o18 :: o19 :: o20 :: o21 :: o22 :: o23 :: o24 :: o25 :: o26 :: some x :: s) H1) : tAsg te (gName 27) D (o0 :: o1 :: o2 :: o3 :: o4 :: o5 :: o6 :: o7 :: o8 :: o9 :: o10 :: o11 :: o12 :: o13 :: o14 :: o15 :: o16 :: o17 :: o18 :: o19 :: o20 :: o21 :: o22 :: o23 :: o24 :: o25 :: o26 :: o27 :: s) H := q
theorem k_g27 (q : R (o0 :: o1 :: o2 :: o3 :: o4 :: o5 :: o6 :: o7 :: o8 :: o9 :: o10 :: o11 :: o12 :: o13 :: o14 :: o15 :: o16 :: o17 :: o18 :: o19 :: o20 :: o21 :: o22 :: o23 :: o24 :: o25 :: o26 :: some x :: s) H) : gName 27 x (o0 :: o1 :: o2 :: o3 :: o4 :: o5 :: o6 :: o7 :: o8 :: o9 :: o10 :: o11 :: o12 :: o13 :: o14 :: o15 :: o16 :: o17 :: o18 :: o19 :: o20 :: o21 :: o22 :: o23 :: o24 :: o25 :: o26 :: o27 :: s) H R := q
theorem k_v28 (q : Q v H) : tVar 28 (o0 :: o1 :: o2 :: o3 :: o4 :: o5 :: o6 :: o7 :: o8 :: o9 :: o10 :: o11 :: o12 :: o13 :: o14 :: o15 :: o16 :: o17 :: o18 :: o19 :: o20 :: o21 :: o22 :: o23 :: o24 :: o25 :: o26 :: o27 :: some v :: s) H Q := ⟨v, rfl, q⟩
theorem k_s28 (q : te (o0 :: o1 :: o2 :: o3 :: o4 :: o5 :: o6 :: o7 :: o8 :: o9 :: o10 :: o11 :: o12 :: o13 :: o14 :: o15 :: o16 :: o17 :: o18 :: o19 :: o20 :: o21 :: o22 :: o23 :: o24 :: o25 :: o26 :: o27 :: o28 :: s) H fun x H1 => D.nx (o0 :: o1 :: o2 :: o3 :: o4 :: o5 :: o6 :: o7 :: o8 :: o9 :: o10 :: o11 :: o12 :: o13 :: o14 :: o15 :: o16 :: o17 :: o18 :: o19 :: o20 :: o21 :: o22 :: o23 :: o24 :: o25 :: o26 :: o27 :: some x :: s) H1) : tAsg te (gName 28) D (o0 :: o1 :: o2 :: o3 :: o4 :: o5 :: o6 :: o7 :: o8 :: o9 :: o10 :: o11 :: o12 :: o13 :: o14 :: o15 :: o16 :: o17 :: o18 :: o19 :: o20 :: o21 :: o22 :: o23 :: o24 :: o25 :: o26 :: o27 :: o28 :: s) H := q
theorem k_g28 (q : R (o0 :: o1 :: o2 :: o3 :: o4 :: o5 :: o6 :: o7 :: o8 :: o9 :: o10 :: o11 :: o12 :: o13 :: o14 :: o15 :: o16 :: o17 :: o18 :: o19 :: o20 :: o21 :: o22 :: o23 :: o24 :: o25 :: o26 :: o27 :: some x :: s) H) : gName 28 x (o0 :: o1 :: o2 :: o3 :: o4 :: o5 :: o6 :: o7 :: o8 :: o9 :: o10 :: o11 :: o12 :: o13 :: o14 :: o15 :: o16 :: o17 :: o18 :: o19 :: o20 :: o21 :: o22 :: o23 :: o24 :: o25 :: o26 :: o27 :: o28 :: s) H R := q
theorem k_v29 (q : Q v H) : tVar 29 (o0 :: o1 :: o2 :: o3 :: o4 :: o5 :: o6 :: o7 :: o8 :: o9 :: o10 :: o11 :: o12 :: o13 :: o14 :: o15 :: o16 :: o17 :: o18 :: o19 :: o20 :: o21 :: o22 :: o23 :: o24 :: o25 :: o26 :: o27 :: o28 :: some v :: s) H Q := ⟨v, rfl, q⟩
theorem k_s29 (q : te (o0 :: o1 :: o2 :: o3 :: o4 :: o5 :: o6 :: o7 :: o8 :: o9 :: o10 :: o11 :: o12 :: o13 :: o14 :: o15 :: o16 :: o17 :: o18 :: o19 :: o20 :: o21 :: o22 :: o23 :: o24 :: o25 :: o26 :: o27 :: o28 :: o29 :: s) H fun x H1 => D.nx (o0 :: o1 :: o2 :: o3 :: o4 :: o5 :: o6 :: o7 :: o8 :: o9 :: o10 :: o11 :: o12 :: o13 :: o14 :: o15 :: o16 :: o17 :: o18 :: o19 :: o20 :: o21 :: o22 :: o23 :: o24 :: o25 :: o26 :: o27 :: o28 :: some x :: s) H1) : tAsg te (gName 29) D (o0 :: o1 :: o2 :: o3 :: o4 :: o5 :: o6 :: o7 :: o8 :: o9 :: o10 :: o11 :: o12 :: o13 :: o14 :: o15 :: o16 :: o17 :: o18 :: o19 :: o20 :: o21 :: o22 :: o23 :: o24 :: o25 :: o26 :: o27 :: o28 :: o29 :: s) H := q
theorem k_g29 (q : R (o0 :: o1 :: o2 :: o3 :: o4 :: o5 :: o6 :: o7 :: o8 :: o9 :: o10 :: o11 :: o12 :: o13 :: o14 :: o15 :: o16 :: o17 :: o18 :: o19 :: o20 :: o21 :: o22 :: o23 :: o24 :: o25 :: o26 :: o27 :: o28 :: some x :: s) H) : gName 29 x (o0 :: o1 :: o2 :: o3 :: o4 :: o5 :: o6 :: o7 :: o8 :: o9 :: o10 :: o11 :: o12 :: o13 :: o14 :: o15 :: o16 :: o17 :: o18 :: o19 :: o20 :: o21 :: o22 :: o23 :: o24 :: o25 :: o26 :: o27 :: o28 :: o29 :: s) H R := q
theorem k_v30 (q : Q v H) : tVar 30 (o0 :: o1 :: o2 :: o3 :: o4 :: o5 :: o6 :: o7 :: o8 :: o9 :: o10 :: o11 :: o12 :: o13 :: o14 :: o15 :: o16 :: o17 :: o18 :: o19 :: o20 :: o21 :: o22 :: o23 :: o24 :: o25 :: o26 :: o27 :: o28 :: o29 :: some v :: s) H Q := ⟨v, rfl, q⟩
theorem k_s30 (q : te (o0 :: o1 :: o2 :: o3 :: o4 :: o5 :: o6 :: o7 :: o8 :: o9 :: o10 :: o11 :: o12 :: o13 :: o14 :: o15 :: o16 :: o17 :: o18 :: o19 :: o20 :: o21 :: o22 :: o23 :: o24 :: o25 :: o26 :: o27 :: o28 :: o29 :: o30 :: s) H fun x H1 => D.nx (o0 :: o1 :: o2 :: o3 :: o4 :: o5 :: o6 :: o7 :: o8 :: o9 :: o10 :: o11 :: o12 :: o13 :: o14 :: o15 :: o16 :: o17 :: o18 :: o19 :: o20 :: o21 :: o22 :: o23 :: o24 :: o25 :: o26 :: o27 :: o28 :: o29 :: some x :: s) H1) : tAsg te (gName 30) D (o0 :: o1 :: o2 :: o3 :: o4 :: o5 :: o6 :: o7 :: o8 :: o9 :: o10 :: o11 :: o12 :: o13 :: o14 :: o15 :: o16 :: o17 :: o18 :: o19 :: o20 :: o21 :: o22 :: o23 :: o24 :: o25 :: o26 :: o27 :: o28 :: o29 :: o30 :: s) H := q
theorem k_g30 (q : R (o0 :: o1 :: o2 :: o3 :: o4 :: o5 :: o6 :: o7 :: o8 :: o9 :: o10 :: o11 :: o12 :: o13 :: o14 :: o15 :: o16 :: o17 :: o18 :: o19 :: o20 :: o21 :: o22 :: o23 :: o24 :: o25 :: o26 :: o27 :: o28 :: o29 :: some x :: s) H) : gName 30 x (o0 :: o1 :: o2 :: o3 :: o4 :: o5 :: o6 :: o7 :: o8 :: o9 :: o10 :: o11 :: o12 :: o13 :: o14 :: o15 :: o16 :: o17 :: o18 :: o19 :: o20 :: o21 :: o22 :: o23 :: o24 :: o25 :: o26 :: o27 :: o28 :: o29 :: o30 :: s) H R := q
theorem k_v31 (q : Q v H) : tVar 31 (o0 :: o1 :: o2 :: o3 :: o4 :: o5 :: o6 :: o7 :: o8 :: o9 :: o10 :: o11 :: o12 :: o13 :: o14 :: o15 :: o16 :: o17 :: o18 :: o19 :: o20 :: o21 :: o22 :: o23 :: o24 :: o25 :: o26 :: o27 :: o28 :: o29 :: o30 :: some v :: s) H Q := ⟨v, rfl, q⟩
theorem k_s31 (q : te (o0 :: o1 :: o2 :: o3 :: o4 :: o5 :: o6 :: o7 :: o8 :: o9 :: o10 :: o11 :: o12 :: o13 :: o14 :: o15 :: o16 :: o17 :: o18 :: o19 :: o20 :: o21 :: o22 :: o23 :: o24 :: o25 :: o26 :: o27 :: o28 :: o29 :: o30 :: o31 :: s) H fun x H1 => D.nx (o0 :: o1 :: o2 :: o3 :: o4 :: o5 :: o6 :: o7 :: o8 :: o9 :: o10 :: o11 :: o12 :: o13 :: o14 :: o15 :: o16 :: o17 :: o18 :: o19 :: o20 :: o21 :: o22 :: o23 :: o24 :: o25 :: o26 :: o27 :: o28 :: o29 :: o30 :: some x :: s) H1) : tAsg te (gName 31) D (o0 :: o1 :: o2 :: o3 :: o4 :: o5 :: o6 :: o7 :: o8 :: o9 :: o10 :: o11 :: o12 :: o13 :: o14 :: o15 :: o16 :: o17 :: o18 :: o19 :: o20 :: o21 :: o22 :: o23 :: o24 :: o25 :: o26 :: o27 :: o28 :: o29 :: o30 :: o31 :: s) H := q
theorem k_g31 (q : R (o0 :: o1 :: o2 :: o3 :: o4 :: o5 :: o6 :: o7 :: o8 :: o9 :: o10 :: o11 :: o12 :: o13 :: o14 :: o15 :: o16 :: o17 :: o18 :: o19 :: o20 :: o21 :: o22 :: o23 :: o24 :: o25 :: o26 :: o27 :: o28 :: o29 :: o30 :: some x :: s) H) : gName 31 x (o0 :: o1 :: o2 :: o3 :: o4 :: o5 :: o6 :: o7 :: o8 :: o9 :: o10 :: o11 :: o12 :: o13 :: o14 :: o15 :: o16 :: o17 :: o18 :: o19 :: o20 :: o21 :: o22 :: o23 :: o24 :: o25 :: o26 :: o27 :: o28 :: o29 :: o30 :: o31 :: s) H R := q
theorem k_v32 (q : Q v H) : tVar 32 (o0 :: o1 :: o2 :: o3 :: o4 :: o5 :: o6 :: o7 :: o8 :: o9 :: o10 :: o11 :: o12 :: o13 :: o14 :: o15 :: o16 :: o17 :: o18 :: o19 :: o20 :: o21 :: o22 :: o23 :: o24 :: o25 :: o26 :: o27 :: o28 :: o29 :: o30 :: o31 :: some v :: s) H Q := ⟨v, rfl, q⟩
theorem k_s32 (q : te (o0 :: o1 :: o2 :: o3 :: o4 :: o5 :: o6 :: o7 :: o8 :: o9 :: o10 :: o11 :: o12 :: o13 :: o14 :: o15 :: o16 :: o17 :: o18 :: o19 :: o20 :: o21 :: o22 :: o23 :: o24 :: o25 :: o26 :: o27 :: o28 :: o29 :: o30 :: o31 :: o32 :: s) H fun x H1 => D.nx (o0 :: o1 :: o2 :: o3 :: o4 :: o5 :: o6 :: o7 :: o8 :: o9 :: o10 :: o11 :: o12 :: o13 :: o14 :: o15 :: o16 :: o17 :: o18 :: o19 :: o20 :: o21 :: o22 :: o23 :: o24 :: o25 :: o26 :: o27 :: o28 :: o29 :: o30 :: o31 :: some x :: s) H1) : tAsg te (gName 32) D (o0 :: o1 :: o2 :: o3 :: o4 :: o5 :: o6 :: o7 :: o8 :: o9 :: o10 :: o11 :: o12 :: o13 :: o14 :: o15 :: o16 :: o17 :: o18 :: o19 :: o20 :: o21 :: o22 :: o23 :: o24 :: o25 :: o26 :: o27 :: o28 :: o29 :: o30 :: o31 :: o32 :: s) H := q
theorem k_g32 (q : R (o0 :: o1 :: o2 :: o3 :: o4 :: o5 :: o6 :: o7 :: o8 :: o9 :: o10 :: o11 :: o12 :: o13 :: o14 :: o15 :: o16 :: o17 :: o18 :: o19 :: o20 :: o21 :: o22 :: o23 :: o24 :: o25 :: o26 :: o27 :: o28 :: o29 :: o30 :: o31 :: some x :: s) H) : gName 32 x (o0 :: o1 :: o2 :: o3 :: o4 :: o5 :: o6 :: o7 :: o8 :: o9 :: o10 :: o11 :: o12 :: o13 :: o14 :: o15 :: o16 :: o17 :: o18 :: o19 :: o20 :: o21 :: o22 :: o23 :: o24 :: o25 :: o26 :: o27 :: o28 :: o29 :: o30 :: o31 :: o32 :: s) H R := q
theorem k_v33 (q : Q v H) : tVar 33 (o0 :: o1 :: o2 :: o3 :: o4 :: o5 :: o6 :: o7 :: o8 :: o9 :: o10 :: o11 :: o12 :: o13 :: o14 :: o15 :: o16 :: o17 :: o18 :: o19 :: o20 :: o21 :: o22 :: o23 :: o24 :: o25 :: o26 :: o27 :: o28 :: o29 :: o30 :: o31 :: o32 :: some v :: s) H Q := ⟨v, rfl, q⟩
theorem k_s33 (q : te (o0 :: o1 :: o2 :: o3 :: o4 :: o5 :: o6 :: o7 :: o8 :: o9 :: o10 :: o11 :: o12 :: o13 :: o14 :: o15 :: o16 :: o17 :: o18 :: o19 :: o20 :: o21 :: o22 :: o23 :: o24 :: o25 :: o26 :: o27 :: o28 :: o29 :: o30 :: o31 :: o32 :: o33 :: s) H fun x H1 => D.nx (o0 :: o1 :: o2 :: o3 :: o4 :: o5 :: o6 :: o7 :: o8 :: o9 :: o10 :: o11 :: o12 :: o13 :: o14 :: o15 :: o16 :: o17 :: o18 :: o19 :: o20 :: o21 :: o22 :: o23 :: o24 :: o25 :: o26 :: o27 :: o28 :: o29 :: o30 :: o31 :: o32 :: some x :: s) H1) : tAsg te (gName 33) D (o0 :: o1 :: o2 :: o3 :: o4 :: o5 :: o6 :: o7 :: o8 :: o9 :: o10 :: o11 :: o12 :: o13 :: o14 :: o15 :: o16 :: o17 :: o18 :: o19 :: o20 :: o21 :: o22 :: o23 :: o24 :: o25 :: o26 :: o27 :: o28 :: o29 :: o30 :: o31 :: o32 :: o33 :: s) H := q
theorem k_g33 (q : R (o0 :: o1 :: o2 :: o3 :: o4 :: o5 :: o6 :: o7 :: o8 :: o9 :: o10 :: o11 :: o12 :: o13 :: o14 :: o15 :: o16 :: o17 :: o18 :: o19 :: o20 :: o21 :: o22 :: o23 :: o24 :: o25 :: o26 :: o27 :: o28 :: o29 :: o30 :: o31 :: o32 :: some x :: s) H) : gName 33 x (o0 :: o1 :: o2 :: o3 :: o4 :: o5 :: o6 :: o7 :: o8 :: o9 :: o10 :: o11 :: o12 :: o13 :: o14 :: o15 :: o16 :: o17 :: o18 :: o19 :: o20 :: o21 :: o22 :: o23 :: o24 :: o25 :: o26 :: o27 :: o28 :: o29 :: o30 :: o31 :: o32 :: o33 :: s) H R := q
theorem k_v34 (q : Q v H) : tVar 34 (o0 :: o1 :: o2 :: o3 :: o4 :: o5 :: o6 :: o7 :: o8 :: o9 :: o10 :: o11 :: o12 :: o13 :: o14 :: o15 :: o16 :: o17 :: o18 :: o19 :: o20 :: o21 :: o22 :: o23 :: o24 :: o25 :: o26 :: o27 :: o28 :: o29 :: o30 :: o31 :: o32 :: o33 :: some v :: s) H Q := ⟨v, rfl, q⟩
theorem k_s34 (q : te (o0 :: o1 :: o2 :: o3 :: o4 :: o5 :: o6 :: o7 :: o8 :: o9 :: o10 :: o11 :: o12 :: o13 :: o14 :: o15 :: o16 :: o17 :: o18 :: o19 :: o20 :: o21 :: o22 :: o23 :: o24 :: o25 :: o26 :: o27 :: o28 :: o29 :: o30 :: o31 :: o32 :: o33 :: o34 :: s) H fun x H1 => D.nx (o0 :: o1 :: o2 :: o3 :: o4 :: o5 :: o6 :: o7 :: o8 :: o9 :: o10 :: o11 :: o12 :: o13 :: o14 :: o15 :: o16 :: o17 :: o18 :: o19 :: o20 :: o21 :: o22 :: o23 :: o24 :: o25 :: o26 :: o27 :: o28 :: o29 :: o30 :: o31 :: o32 :: o33 :: some x :: s) H1) : tAsg te (gName 34) D (o0 :: o1 :: o2 :: o3 :: o4 :: o5 :: o6 :: o7 :: o8 :: o9 :: o10 :: o11 :: o12 :: o13 :: o14 :: o15 :: o16 :: o17 :: o18 :: o19 :: o20 :: o21 :: o22 :: o23 :: o24 :: o25 :: o26 :: o27 :: o28 :: o29 :: o30 :: o31 :: o32 :: o33 :: o34 :: s) H := q
theorem k_g34 (q : R (o0 :: o1 :: o2 :: o3 :: o4 :: o5 :: o6 :: o7 :: o8 :: o9 :: o10 :: o11 :: o12 :: o13 :: o14 :: o15 :: o16 :: o17 :: o18 :: o19 :: o20 :: o21 :: o22 :: o23 :: o24 :: o25 :: o26 :: o27 :: o28 :: o29 :: o30 :: o31 :: o32 :: o33 :: some x :: s) H) : gName 34 x (o0 :: o1 :: o2 :: o3 :: o4 :: o5 :: o6 :: o7 :: o8 :: o9 :: o10 :: o11 :: o12 :: o13 :: o14 :: o15 :: o16 :: o17 :: o18 :: o19 :: o20 :: o21 :: o22 :: o23 :: o24 :: o25 :: o26 :: o27 :: o28 :: o29 :: o30 :: o31 :: o32 :: o33 :: o34 :: s) H R := q
theorem k_v35 (q : Q v H) : tVar 35 (o0 :: o1 :: o2 :: o3 :: o4 :: o5 :: o6 :: o7 :: o8 :: o9 :: o10 :: o11 :: o12 :: o13 :: o14 :: o15 :: o16 :: o17 :: o18 :: o19 :: o20 :: o21 :: o22 :: o23 :: o24 :: o25 :: o26 :: o27 :: o28 :: o29 :: o30 :: o31 :: o32 :: o33 :: o34 :: some v :: s) H Q := ⟨v, rfl, q⟩
theorem k_s35 (q : te (o0 :: o1 :: o2 :: o3 :: o4 :: o5 :: o6 :: o7 :: o8 :: o9 :: o10 :: o11 :: o12 :: o13 :: o14 :: o15 :: o16 :: o17 :: o18 :: o19 :: o20 :: o21 :: o22 :: o23 :: o24 :: o25 :: o26 :: o27 :: o28 :: o29 :: o30 :: o31 :: o32 :: o33 :: o34 :: o35 :: s) H fun x H1 => D.nx (o0 :: o1 :: o2 :: o3 :: o4 :: o5 :: o6 :: o7 :: o8 :: o9 :: o10 :: o11 :: o12 :: o13 :: o14 :: o15 :: o16 :: o17 :: o18 :: o19 :: o20 :: o21 :: o22 :: o23 :: o24 :: o25 :: o26 :: o27 :: o28 :: o29 :: o30 :: o31 :: o32 :: o33 :: o34 :: some x :: s) H1) : tAsg te (gName 35) D (o0 :: o1 :: o2 :: o3 :: o4 :: o5 :: o6 :: o7 :: o8 :: o9 :: o10 :: o11 :: o12 :: o13 :: o14 :: o15 :: o16 :: o17 :: o18 :: o19 :: o20 :: o21 :: o22 :: o23 :: o24 :: o25 :: o26 :: o27 :: o28 :: o29 :: o30 :: o31 :: o32 :: o33 :: o34 :: o35 :: s) H := q
theorem k_g35 (q : R (o0 :: o1 :: o2 :: o3 :: o4 :: o5 :: o6 :: o7 :: o8 :: o9 :: o10 :: o11 :: o12 :: o13 :: o14 :: o15 :: o16 :: o17 :: o18 :: o19 :: o20 :: o21 :: o22 :: o23 :: o24 :: o25 :: o26 :: o27 :: o28 :: o29 :: o30 :: o31 :: o32 :: o33 :: o34 :: some x :: s) H) : gName 35 x (o0 :: o1 :: o2 :: o3 :: o4 :: o5 :: o6 :: o7 :: o8 :: o9 :: o10 :: o11 :: o12 :: o13 :: o14 :: o15 :: o16 :: o17 :: o18 :: o19 :: o20 :: o21 :: o22 :: o23 :: o24 :: o25 :: o26 :: o27 :: o28 :: o29 :: o30 :: o31 :: o32 :: o33 :: o34 :: o35 :: s) H R := q
theorem k_v36 (q : Q v H) : tVar 36 (o0 :: o1 :: o2 :: o3 :: o4 :: o5 :: o6 :: o7 :: o8 :: o9 :: o10 :: o11 :: o12 :: o13 :: o14 :: o15 :: o16 :: o17 :: o18 :: o19 :: o20 :: o21 :: o22 :: o23 :: o24 :: o25 :: o26 :: o27 :: o28 :: o29 :: o30 :: o31 :: o32 :: o33 :: o34 :: o35 :: some v :: s) H Q := ⟨v, rfl, q⟩
theorem k_s36 (q : te (o0 :: o1 :: o2 :: o3 :: o4 :: o5 :: o6 :: o7 :: o8 :: o9 :: o10 :: o11 :: o12 :: o13 :: o14 :: o15 :: o16 :: o17 :: o18 :: o19 :: o20 :: o21 :: o22 :: o23 :: o24 :: o25 :: o26 :: o27 :: o28 :: o29 :: o30 :: o31 :: o32 :: o33 :: o34 :: o35 :: o36 :: s) H fun x H1 => D.nx (o0 :: o1 :: o2 :: o3 :: o4 :: o5 :: o6 :: o7 :: o8 :: o9 :: o10 :: o11 :: o12 :: o13 :: o14 :: o15 :: o16 :: o17 :: o18 :: o19 :: o20 :: o21 :: o22 :: o23 :: o24 :: o25 :: o26 :: o27 :: o28 :: o29 :: o30 :: o31 :: o32 :: o33 :: o34 :: o35 :: some x :: s) H1) : tAsg te (gName 36) D (o0 :: o1 :: o2 :: o3 :: o4 :: o5 :: o6 :: o7 :: o8 :: o9 :: o10 :: o11 :: o12 :: o13 :: o14 :: o15 :: o16 :: o17 :: o18 :: o19 :: o20 :: o21 :: o22 :: o23 :: o24 :: o25 :: o26 :: o27 :: o28 :: o29 :: o30 :: o31 :: o32 :: o33 :: o34 :: o35 :: o36 :: s) H := q
theorem k_g36 (q : R (o0 :: o1 :: o2 :: o3 :: o4 :: o5 :: o6 :: o7 :: o8 :: o9 :: o10 :: o11 :: o12 :: o13 :: o14 :: o15 :: o16 :: o17 :: o18 :: o19 :: o20 :: o21 :: o22 :: o23 :: o24 :: o25 :: o26 :: o27 :: o28 :: o29 :: o30 :: o31 :: o32 :: o33 :: o34 :: o35 :: some x :: s) H) : gName 36 x (o0 :: o1 :: o2 :: o3 :: o4 :: o5 :: o6 :: o7 :: o8 :: o9 :: o10 :: o11 :: o12 :: o13 :: o14 :: o15 :: o16 :: o17 :: o18 :: o19 :: o20 :: o21 :: o22 :: o23 :: o24 :: o25 :: o26 :: o27 :: o28 :: o29 :: o30 :: o31 :: o32 :: o33 :: o34 :: o35 :: o36 :: s) H R := q
theorem k_v37 (q : Q v H) : tVar 37 (o0 :: o1 :: o2 :: o3 :: o4 :: o5 :: o6 :: o7 :: o8 :: o9 :: o10 :: o11 :: o12 :: o13 :: o14 :: o15 :: o16 :: o17 :: o18 :: o19 :: o20 :: o21 :: o22 :: o23 :: o24 :: o25 :: o26 :: o27 :: o28 :: o29 :: o30 :: o31 :: o32 :: o33 :: o34 :: o35 :: o36 :: some v :: s) H Q := ⟨v, rfl, q⟩
theorem k_s37 (q : te (o0 :: o1 :: o2 :: o3 :: o4 :: o5 :: o6 :: o7 :: o8 :: o9 :: o10 :: o11 :: o12 :: o13 :: o14 :: o15 :: o16 :: o17 :: o18 :: o19 :: o20 :: o21 :: o22 :: o23 :: o24 :: o25 :: o26 :: o27 :: o28 :: o29 :: o30 :: o31 :: o32 :: o33 :: o34 :: o35 :: o36 :: o37 :: s) H fun x H1 => D.nx (o0 :: o1 :: o2 :: o3 :: o4 :: o5 :: o6 :: o7 :: o8 :: o9 :: o10 :: o11 :: o12 :: o13 :: o14 :: o15 :: o16 :: o17 :: o18 :: o19 :: o20 :: o21 :: o22 :: o23 :: o24 :: o25 :: o26 :: o27 :: o28 :: o29 :: o30 :: o31 :: o32 :: o33 :: o34 :: o35 :: o36 :: some x :: s) H1) : tAsg te (gName 37) D (o0 :: o1 :: o2 :: o3 :: o4 :: o5 :: o6 :: o7 :: o8 :: o9 :: o10 :: o11 :: o12 :: o13 :: o14 :: o15 :: o16 :: o17 :: o18 :: o19 :: o20 :: o21 :: o22 :: o23 :: o24 :: o25 :: o26 :: o27 :: o28 :: o29 :: o30 :: o31 :: o32 :: o33 :: o34 :: o35 :: o36 :: o37 :: s) H := q
theorem k_g37 (q : R (o0 :: o1 :: o2 :: o3 :: o4 :: o5 :: o6 :: o7 :: o8 :: o9 :: o10 :: o11 :: o12 :: o13 :: o14 :: o15 :: o16 :: o17 :: o18 :: o19 :: o20 :: o21 :: o22 :: o23 :: o24 :: o25 :: o26 :: o27 :: o28 :: o29 :: o30 :: o31 :: o32 :: o33 :: o34 :: o35 :: o36 :: some x :: s) H) : gName 37 x (o0 :: o1 :: o2 :: o3 :: o4 :: o5 :: o6 :: o7 :: o8 :: o9 :: o10 :: o11 :: o12 :: o13 :: o14 :: o15 :: o16 :: o17 :: o18 :: o19 :: o20 :: o21 :: o22 :: o23 :: o24 :: o25 :: o26 :: o27 :: o28 :: o29 :: o30 :: o31 :: o32 :: o33 :: o34 :: o35 :: o36 :: o37 :: s) H R := q
theorem k_v38 (q : Q v H) : tVar 38 (o0 :: o1 :: o2 :: o3 :: o4 :: o5 :: o6 :: o7 :: o8 :: o9 :: o10 :: o11 :: o12 :: o13 :: o14 :: o15 :: o16 :: o17 :: o18 :: o19 :: o20 :: o21 :: o22 :: o23 :: o24 :: o25 :: o26 :: o27 :: o28 :: o29 :: o30 :: o31 :: o32 :: o33 :: o34 :: o35 :: o36 :: o37 :: some v :: s) H Q := ⟨v, rfl, q⟩
theorem k_s38 (q : te (o0 :: o1 :: o2 :: o3 :: o4 :: o5 :: o6 :: o7 :: o8 :: o9 :: o10 :: o11 :: o12 :: o13 :: o14 :: o15 :: o16 :: o17 :: o18 :: o19 :: o20 :: o21 :: o22 :: o23 :: o24 :: o25 :: o26 :: o27 :: o28 :: o29 :: o30 :: o31 :: o32 :: o33 :: o34 :: o35 :: o36 :: o37 :: o38 :: s) H fun x H1 => D.nx (o0 :: o1 :: o2 :: o3 :: o4 :: o5 :: o6 :: o7 :: o8 :: o9 :: o10 :: o11 :: o12 :: o13 :: o14 :: o15 :: o16 :: o17 :: o18 :: o19 :: o20 :: o21 :: o22 :: o23 :: o24 :: o25 :: o26 :: o27 :: o28 :: o29 :: o30 :: o31 :: o32 :: o33 :: o34 :: o35 :: o36 :: o37 :: some x :: s) H1) : tAsg te (gName 38) D (o0 :: o1 :: o2 :: o3 :: o4 :: o5 :: o6 :: o7 :: o8 :: o9 :: o10 :: o11 :: o12 :: o13 :: o14 :: o15 :: o16 :: o17 :: o18 :: o19 :: o20 :: o21 :: o22 :: o23 :: o24 :: o25 :: o26 :: o27 :: o28 :: o29 :: o30 :: o31 :: o32 :: o33 :: o34 :: o35 :: o36 :: o37 :: o38 :: s) H := q
theorem k_g38 (q : R (o0 :: o1 :: o2 :: o3 :: o4 :: o5 :: o6 :: o7 :: o8 :: o9 :: o10 :: o11 :: o12 :: o13 :: o14 :: o15 :: o16 :: o17 :: o18 :: o19 :: o20 :: o21 :: o22 :: o23 :: o24 :: o25 :: o26 :: o27 :: o28 :: o29 :: o30 :: o31 :: o32 :: o33 :: o34 :: o35 :: o36 :: o37 :: some x :: s) H) : gName 38 x (o0 :: o1 :: o2 :: o3 :: o4 :: o5 :: o6 :: o7 :: o8 :: o9 :: o10 :: o11 :: o12 :: o13 :: o14 :: o15 :: o16 :: o17 :: o18 :: o19 :: o20 :: o21 :: o22 :: o23 :: o24 :: o25 :: o26 :: o27 :: o28 :: o29 :: o30 :: o31 :: o32 :: o33 :: o34 :: o35 :: o36 :: o37 :: o38 :: s) H R := q
theorem k_v39 (q : Q v H) : tVar 39 (o0 :: o1 :: o2 :: o3 :: o4 :: o5 :: o6 :: o7 :: o8 :: o9 :: o10 :: o11 :: o12 :: o13 :: o14 :: o15 :: o16 :: o17 :: o18 :: o19 :: o20 :: o21 :: o22 :: o23 :: o24 :: o25 :: o26 :: o27 :: o28 :: o29 :: o30 :: o31 :: o32 :: o33 :: o34 :: o35 :: o36 :: o37 :: o38 :: some v :: s) H Q := ⟨v, rfl, q⟩
theorem k_s39 (q : te (o0 :: o1 :: o2 :: o3 :: o4 :: o5 :: o6 :: o7 :: o8 :: o9 :: o10 :: o11 :: o12 :: o13 :: o14 :: o15 :: o16 :: o17 :: o18 :: o19 :: o20 :: o21 :: o22 :: o23 :: o24 :: o25 :: o26 :: o27 :: o28 :: o29 :: o30 :: o31 :: o32 :: o33 :: o34 :: o35 :: o36 :: o37 :: o38 :: o39 :: s) H fun x H1 => D.nx (o0 :: o1 :: o2 :: o3 :: o4 :: o5 :: o6 :: o7 :: o8 :: o9 :: o10 :: o11 :: o12 :: o13 :: o14 :: o15 :: o16 :: o17 :: o18 :: o19 :: o20 :: o21 :: o22 :: o23 :: o24 :: o25 :: o26 :: o27 :: o28 :: o29 :: o30 :: o31 :: o32 :: o33 :: o34 :: o35 :: o36 :: o37 :: o38 :: some x :: s) H1) : tAsg te (gName 39) D (o0 :: o1 :: o2 :: o3 :: o4 :: o5 :: o6 :: o7 :: o8 :: o9 :: o10 :: o11 :: o12 :: o13 :: o14 :: o15 :: o16 :: o17 :: o18 :: o19 :: o20 :: o21 :: o22 :: o23 :: o24 :: o25 :: o26 :: o27 :: o28 :: o29 :: o30 :: o31 :: o32 :: o33 :: o34 :: o35 :: o36 :: o37 :: o38 :: o39 :: s) H := q
theorem k_g39 (q : R (o0 :: o1 :: o2 :: o3 :: o4 :: o5 :: o6 :: o7 :: o8 :: o9 :: o10 :: o11 :: o12 :: o13 :: o14 :: o15 :: o16 :: o17 :: o18 :: o19 :: o20 :: o21 :: o22 :: o23 :: o24 :: o25 :: o26 :: o27 :: o28 :: o29 :: o30 :: o31 :: o32 :: o33 :: o34 :: o35 :: o36 :: o37 :: o38 :: some x :: s) H) : gName 39 x (o0 :: o1 :: o2 :: o3 :: o4 :: o5 :: o6 :: o7 :: o8 :: o9 :: o10 :: o11 :: o12 :: o13 :: o14 :: o15 :: o16 :: o17 :: o18 :: o19 :: o20 :: o21 :: o22 :: o23 :: o24 :: o25 :: o26 :: o27 :: o28 :: o29 :: o30 :: o31 :: o32 :: o33 :: o34 :: o35 :: o36 :: o37 :: o38 :: o39 :: s) H R := q
theorem k_v40 (q : Q v H) : tVar 40 (o0 :: o1 :: o2 :: o3 :: o4 :: o5 :: o6 :: o7 :: o8 :: o9 :: o10 :: o11 :: o12 :: o13 :: o14 :: o15 :: o16 :: o17 :: o18 :: o19 :: o20 :: o21 :: o22 :: o23 :: o24 :: o25 :: o26 :: o27 :: o28 :: o29 :: o30 :: o31 :: o32 :: o33 :: o34 :: o35 :: o36 :: o37 :: o38 :: o39 :: some v :: s) H Q := ⟨v, rfl, q⟩
theorem k_s40 (q : te (o0 :: o1 :: o2 :: o3 :: o4 :: o5 :: o6 :: o7 :: o8 :: o9 :: o10 :: o11 :: o12 :: o13 :: o14 :: o15 :: o16 :: o17 :: o18 :: o19 :: o20 :: o21 :: o22 :: o23 :: o24 :: o25 :: o26 :: o27 :: o28 :: o29 :: o30 :: o31 :: o32 :: o33 :: o34 :: o35 :: o36 :: o37 :: o38 :: o39 :: o40 :: s) H fun x H1 => D.nx (o0 :: o1 :: o2 :: o3 :: o4 :: o5 :: o6 :: o7 :: o8 :: o9 :: o10 :: o11 :: o12 :: o13 :: o14 :: o15 :: o16 :: o17 :: o18 :: o19 :: o20 :: o21 :: o22 :: o23 :: o24 :: o25 :: o26 :: o27 :: o28 :: o29 :: o30 :: o31 :: o32 :: o33 :: o34 :: o35 :: o36 :: o37 :: o38 :: o39 :: some x :: s) H1) : tAsg te (gName 40) D (o0 :: o1 :: o2 :: o3 :: o4 :: o5 :: o6 :: o7 :: o8 :: o9 :: o10 :: o11 :: o12 :: o13 :: o14 :: o15 :: o16 :: o17 :: o18 :: o19 :: o20 :: o21 :: o22 :: o23 :: o24 :: o25 :: o26 :: o27 :: o28 :: o29 :: o30 :: o31 :: o32 :: o33 :: o34 :: o35 :: o36 :: o37 :: o38 :: o39 :: o40 :: s) H := q
theorem k_g40 (q : R (o0 :: o1 :: o2 :: o3 :: o4 :: o5 :: o6 :: o7 :: o8 :: o9 :: o10 :: o11 :: o12 :: o13 :: o14 :: o15 :: o16 :: o17 :: o18 :: o19 :: o20 :: o21 :: o22 :: o23 :: o24 :: o25 :: o26 :: o27 :: o28 :: o29 :: o30 :: o31 :: o32 :: o33 :: o34 :: o35 :: o36 :: o37 :: o38 :: o39 :: some x :: s) H) : gName 40 x (o0 :: o1 :: o2 :: o3 :: o4 :: o5 :: o6 :: o7 :: o8 :: o9 :: o10 :: o11 :: o12 :: o13 :: o14 :: o15 :: o16 :: o17 :: o18 :: o19 :: o20 :: o21 :: o22 :: o23 :: o24 :: o25 :: o26 :: o27 :: o28 :: o29 :: o30 :: o31 :: o32 :: o33 :: o34 :: o35 :: o36 :: o37 :: o38 :: o39 :: o40 :: s) H R := q
theorem k_v41 (q : Q v H) : tVar 41 (o0 :: o1 :: o2 :: o3 :: o4 :: o5 :: o6 :: o7 :: o8 :: o9 :: o10 :: o11 :: o12 :: o13 :: o14 :: o15 :: o16 :: o17 :: o18 :: o19 :: o20 :: o21 :: o22 :: o23 :: o24 :: o25 :: o26 :: o27 :: o28 :: o29 :: o30 :: o31 :: o32 :: o33 :: o34 :: o35 :: o36 :: o37 :: o38 :: o39 :: o40 :: some v :: s) H Q := ⟨v, rfl, q⟩
theorem k_s41 (q : te (o0 :: o1 :: o2 :: o3 :: o4 :: o5 :: o6 :: o7 :: o8 :: o9 :: o10 :: o11 :: o12 :: o13 :: o14 :: o15 :: o16 :: o17 :: o18 :: o19 :: o20 :: o21 :: o22 :: o23 :: o24 :: o25 :: o26 :: o27 :: o28 :: o29 :: o30 :: o31 :: o32 :: o33 :: o34 :: o35 :: o36 :: o37 :: o38 :: o39 :: o40 :: o41 :: s) H fun x H1 => D.nx (o0 :: o1 :: o2 :: o3 :: o4 :: o5 :: o6 :: o7 :: o8 :: o9 :: o10 :: o11 :: o12 :: o13 :: o14 :: o15 :: o16 :: o17 :: o18 :: o19 :: o20 :: o21 :: o22 :: o23 :: o24 :: o25 :: o26 :: o27 :: o28 :: o29 :: o30 :: o31 :: o32 :: o33 :: o34 :: o35 :: o36 :: o37 :: o38 :: o39 :: o40 :: some x :: s) H1) : tAsg te (gName 41) D (o0 :: o1 :: o2 :: o3 :: o4 :: o5 :: o6 :: o7 :: o8 :: o9 :: o10 :: o11 :: o12 :: o13 :: o14 :: o15 :: o16 :: o17 :: o18 :: o19 :: o20 :: o21 :: o22 :: o23 :: o24 :: o25 :: o26 :: o27 :: o28 :: o29 :: o30 :: o31 :: o32 :: o33 :: o34 :: o35 :: o36 :: o37 :: o38 :: o39 :: o40 :: o41 :: s) H := q
theorem k_g41 (q : R (o0 :: o1 :: o2 :: o3 :: o4 :: o5 :: o6 :: o7 :: o8 :: o9 :: o10 :: o11 :: o12 :: o13 :: o14 :: o15 :: o16 :: o17 :: o18 :: o19 :: o20 :: o21 :: o22 :: o23 :: o24 :: o25 :: o26 :: o27 :: o28 :: o29 :: o30 :: o31 :: o32 :: o33 :: o34 :: o35 :: o36 :: o37 :: o38 :: o39 :: o40 :: some x :: s) H) : gName 41 x (o0 :: o1 :: o2 :: o3 :: o4 :: o5 :: o6 :: o7 :: o8 :: o9 :: o10 :: o11 :: o12 :: o13 :: o14 :: o15 :: o16 :: o17 :: o18 :: o19 :: o20 :: o21 :: o22 :: o23 :: o24 :: o25 :: o26 :: o27 :: o28 :: o29 :: o30 :: o31 :: o32 :: o33 :: o34 :: o35 :: o36 :: o37 :: o38 :: o39 :: o40 :: o41 :: s) H R := q
theorem k_v42 (q : Q v H) : tVar 42 (o0 :: o1 :: o2 :: o3 :: o4 :: o5 :: o6 :: o7 :: o8 :: o9 :: o10 :: o11 :: o12 :: o13 :: o14 :: o15 :: o16 :: o17 :: o18 :: o19 :: o20 :: o21 :: o22 :: o23 :: o24 :: o25 :: o26 :: o27 :: o28 :: o29 :: o30 :: o31 :: o32 :: o33 :: o34 :: o35 :: o36 :: o37 :: o38 :: o39 :: o40 :: o41 :: some v :: s) H Q := ⟨v, rfl, q⟩
theorem k_s42 (q : te (o0 :: o1 :: o2 :: o3 :: o4 :: o5 :: o6 :: o7 :: o8 :: o9 :: o10 :: o11 :: o12 :: o13 :: o14 :: o15 :: o16 :: o17 :: o18 :: o19 :: o20 :: o21 :: o22 :: o23 :: o24 :: o25 :: o26 :: o27 :: o28 :: o29 :: o30 :: o31 :: o32 :: o33 :: o34 :: o35 :: o36 :: o37 :: o38 :: o39 :: o40 :: o41 :: o42 :: s) H fun x H1 => D.nx (o0 :: o1 :: o2 :: o3 :: o4 :: o5 :: o6 :: o7 :: o8 :: o9 :: o10 :: o11 :: o12 :: o13 :: o14 :: o15 :: o16 :: o17 :: o18 :: o19 :: o20 :: o21 :: o22 :: o23 :: o24 :: o25 :: o26 :: o27 :: o28 :: o29 :: o30 :: o31 :: o32 :: o33 :: o34 :: o35 :: o36 :: o37 :: o38 :: o39 :: o40 :: o41 :: some x :: s) H1) : tAsg te (gName 42) D (o0 :: o1 :: o2 :: o3 :: o4 :: o5 :: o6 :: o7 :: o8 :: o9 :: o10 :: o11 :: o12 :: o13 :: o14 :: o15 :: o16 :: o17 :: o18 :: o19 :: o20 :: o21 :: o22 :: o23 :: o24 :: o25 :: o26 :: o27 :: o28 :: o29 :: o30 :: o31 :: o32 :: o33 :: o34 :: o35 :: o36 :: o37 :: o38 :: o39 :: o40 :: o41 :: o42 :: s) H := q
theorem k_g42 (q : R (o0 :: o1 :: o2 :: o3 :: o4 :: o5 :: o6 :: o7 :: o8 :: o9 :: o10 :: o11 :: o12 :: o13 :: o14 :: o15 :: o16 :: o17 :: o18 :: o19 :: o20 :: o21 :: o22 :: o23 :: o24 :: o25 :: o26 :: o27 :: o28 :: o29 :: o30 :: o31 :: o32 :: o33 :: o34 :: o35 :: o36 :: o37 :: o38 :: o39 :: o40 :: o41 :: some x :: s) H) : gName 42 x (o0 :: o1 :: o2 :: o3 :: o4 :: o5 :: o6 :: o7 :: o8 :: o9 :: o10 :: o11 :: o12 :: o13 :: o14 :: o15 :: o16 :: o17 :: o18 :: o19 :: o20 :: o21 :: o22 :: o23 :: o24 :: o25 :: o26 :: o27 :: o28 :: o29 :: o30 :: o31 :: o32 :: o33 :: o34 :: o35 :: o36 :: o37 :: o38 :: o39 :: o40 :: o41 :: o42 :: s) H R := q
theorem k_v43 (q : Q v H) : tVar 43 (o0 :: o1 :: o2 :: o3 :: o4 :: o5 :: o6 :: o7 :: o8 :: o9 :: o10 :: o11 :: o12 :: o13 :: o14 :: o15 :: o16 :: o17 :: o18 :: o19 :: o20 :: o21 :: o22 :: o23 :: o24 :: o25 :: o26 :: o27 :: o28 :: o29 :: o30 :: o31 :: o32 :: o33 :: o34 :: o35 :: o36 :: o37 :: o38 :: o39 :: o40 :: o41 :: o42 :: some v :: s) H Q := ⟨v, rfl, q⟩
theorem k_s43 (q : te (o0 :: o1 :: o2 :: o3 :: o4 :: o5 :: o6 :: o7 :: o8 :: o9 :: o10 :: o11 :: o12 :: o13 :: o14 :: o15 :: o16 :: o17 :: o18 :: o19 :: o20 :: o21 :: o22 :: o23 :: o24 :: o25 :: o26 :: o27 :: o28 :: o29 :: o30 :: o31 :: o32 :: o33 :: o34 :: o35 :: o36 :: o37 :: o38 :: o39 :: o40 :: o41 :: o42 :: o43 :: s) H fun x H1 => D.nx (o0 :: o1 :: o2 :: o3 :: o4 :: o5 :: o6 :: o7 :: o8 :: o9 :: o10 :: o11 :: o12 :: o13 :: o14 :: o15 :: o16 :: o17 :: o18 :: o19 :: o20 :: o21 :: o22 :: o23 :: o24 :: o25 :: o26 :: o27 :: o28 :: o29 :: o30 :: o31 :: o32 :: o33 :: o34 :: o35 :: o36 :: o37 :: o38 :: o39 :: o40 :: o41 :: o42 :: some x :: s) H1) : tAsg te (gName 43) D (o0 :: o1 :: o2 :: o3 :: o4 :: o5 :: o6 :: o7 :: o8 :: o9 :: o10 :: o11 :: o12 :: o13 :: o14 :: o15 :: o16 :: o17 :: o18 :: o19 :: o20 :: o21 :: o22 :: o23 :: o24 :: o25 :: o26 :: o27 :: o28 :: o29 :: o30 :: o31 :: o32 :: o33 :: o34 :: o35 :: o36 :: o37 :: o38 :: o39 :: o40 :: o41 :: o42 :: o43 :: s) H := q
theorem k_g43 (q : R (o0 :: o1 :: o2 :: o3 :: o4 :: o5 :: o6 :: o7 :: o8 :: o9 :: o10 :: o11 :: o12 :: o13 :: o14 :: o15 :: o16 :: o17 :: o18 :: o19 :: o20 :: o21 :: o22 :: o23 :: o24 :: o25 :: o26 :: o27 :: o28 :: o29 :: o30 :: o31 :: o32 :: o33 :: o34 :: o35 :: o36 :: o37 :: o38 :: o39 :: o40 :: o41 :: o42 :: some x :: s) H) : gName 43 x (o0 :: o1 :: o2 :: o3 :: o4 :: o5 :: o6 :: o7 :: o8 :: o9 :: o10 :: o11 :: o12 :: o13 :: o14 :: o15 :: o16 :: o17 :: o18 :: o19 :: o20 :: o21 :: o22 :: o23 :: o24 :: o25 :: o26 :: o27 :: o28 :: o29 :: o30 :: o31 :: o32 :: o33 :: o34 :: o35 :: o36 :: o37 :: o38 :: o39 :: o40 :: o41 :: o42 :: o43 :: s) H R := q
end
end Ls
/-! ### the law's draws -/
namespace Ls
open PySem PySem.Spec PyProof.Rows L2
def dd (c : Addr) (n r s : Int) : List (Key × V) := [(.inr ("cells" : Str), .ref c), (.inr ("at" : Str), .int n), (.inr ("rest" : Str), .int r), (.inr ("seed" : Str), .int s)]
theorem kne {a b : Str} (h : ¬ a = b) : ¬ (Sum.inr a : Key) = Sum.inr b := fun e => h (Sum.inr.inj e)
theorem n_ca : ¬ ("cells" : Str) = "at" := by decide +kernel
theorem n_cr : ¬ ("cells" : Str) = "rest" := by decide +kernel
theorem n_cs : ¬ ("cells" : Str) = "seed" := by decide +kernel
theorem n_ar : ¬ ("at" : Str) = "rest" := by decide +kernel
theorem n_as : ¬ ("at" : Str) = "seed" := by decide +kernel
theorem n_rs : ¬ ("rest" : Str) = "seed" := by decide +kernel
section
variable {c : Addr} {n r s m : Int}
theorem dd_cells : valV (dd c n r s) (.inr ("cells" : Str)) = some (.ref c) := valV_pos rfl
theorem dd_at : valV (dd c n r s) (.inr ("at" : Str)) = some (.int n) := (valV_neg (kne n_ca)).trans (valV_pos rfl)
theorem dd_rest : valV (dd c n r s) (.inr ("rest" : Str)) = some (.int r) := (valV_neg (kne n_cr)).trans ((valV_neg (kne n_ar)).trans (valV_pos rfl))
theorem dd_seed : valV (dd c n r s) (.inr ("seed" : Str)) = some (.int s) := (valV_neg (kne n_cs)).trans ((valV_neg (kne n_as)).trans ((valV_neg (kne n_rs)).trans (valV_pos rfl)))
theorem dd_len : (dd c n r s).length < sizeLine := by show 4 < sizeLine; decide
theorem put_of {kvs : List (Key × V)} {k : Key} {v w : V} (h : valV kvs k = some w) : putK kvs k v = kvs.map (fun kv => if kv.1 = k then (kv.1, v) else kv) := by
  unfold putK
  rw [valV_any, h]
  rfl
theorem dd_put_at : putK (dd c n r s) (.inr ("at" : Str)) (.int m) = dd c m r s := by
  rw [put_of dd_at]
  simp only [dd, List.map_cons, List.map_nil, if_neg (kne n_ca), if_neg (kne (fun e => n_ar e.symm)), if_neg (kne (fun e => n_as e.symm)), if_true]
theorem dd_put_rest : putK (dd c n r s) (.inr ("rest" : Str)) (.int m) = dd c n m s := by
  rw [put_of dd_rest]
  simp only [dd, List.map_cons, List.map_nil, if_neg (kne n_cr), if_neg (kne n_ar), if_neg (kne (fun e => n_rs e.symm)), if_true]
theorem dd_put_seed : putK (dd c n r s) (.inr ("seed" : Str)) (.int m) = dd c n r m := by
  rw [put_of dd_seed]
  simp only [dd, List.map_cons, List.map_nil, if_neg (kne n_cs), if_neg (kne n_as), if_neg (kne n_rs), if_true]
end
/-- the draws' dict: any state of it -/
def Draw (K : PySem.W.Frag) (H : Hp) (d c : Addr) : Prop := ∃ (n r s : Int) (ns : List Int), H d = some (.dK (dd c n r s)) ∧ H c = some (.lst (ns.map V.int)) ∧ 0 ≤ n ∧ 0 ≤ r ∧ 0 ≤ s ∧ s < 2305843009213693951
theorem Draw.keeps {K : PySem.W.Frag} {H H' : Hp} {d c : Addr} (h : Draw K H d c) (k : Same H H') : Draw K H' d c := by
  obtain ⟨n, r, s, ns, h1, h2, h3⟩ := h
  exact ⟨n, r, s, ns, k _ _ h1, k _ _ h2, h3⟩
theorem Draw.is {K : PySem.W.Frag} {H : Hp} {d c : Addr} (h : Draw K H d c) : ∃ kvs, H d = some (.dK kvs) := by
  obtain ⟨n, r, s, ns, h1, _⟩ := h
  exact ⟨_, h1⟩
theorem Draw.ne {K : PySem.W.Frag} {H : Hp} {d c a : Addr} {o : HO} (h : Draw K H d c) (e : H a = some o) (n : ∀ kvs, o ≠ .dK kvs) : a ≠ d := by
  obtain ⟨kvs, h1⟩ := h.is
  exact ne_of e h1 (n kvs)
theorem Draw.free {K : PySem.W.Frag} {H : Hp} {d c p : Addr} (h : Draw K H d c) (e : H p = none) : p ≠ d := by
  obtain ⟨kvs, h1⟩ := h.is
  exact fun z => by
    rw [z, h1] at e
    cases e
theorem Draw.tp {K : PySem.W.Frag} {H H' : Hp} {d c : Addr} (h : Draw K H d c) (k : Keep d H H') : Tp K H H' := by
  obtain ⟨kvs, h1⟩ := h.is
  exact keep_tp k h1 rfl
theorem Draw.sql {K : PySem.W.Frag} {H H' : Hp} {d c a : Addr} {xs : List V} (h : Draw K H d c) (k : Keep d H H') (q : SqL K H a xs) : SqL K H' a xs := by
  obtain ⟨kvs, h1⟩ := h.is
  exact sql_keep k h1 q
/-- a write to a list that the draws do not hold -/
theorem Draw.new {K : PySem.W.Frag} {H : Hp} {d c p : Addr} {o : HO} (h : Draw K H d c) (e : H p = none) : Draw K (upd H p o) d c := h.keeps (same_new e)
theorem Draw.nec {K : PySem.W.Frag} {H : Hp} {d c p : Addr} (h : Draw K H d c) (e : H p = none) : p ≠ c := by
  obtain ⟨n, r, s, ns, h1, h2, _⟩ := h
  rintro rfl
  rw [h2] at e
  cases e
theorem Draw.wr {K : PySem.W.Frag} {H : Hp} {d c p : Addr} {o : HO} (h : Draw K H d c) (n1 : p ≠ d) (n2 : p ≠ c) : Draw K (upd H p o) d c := by
  obtain ⟨n, r, s, ns, h1, h2, h3⟩ := h
  exact ⟨n, r, s, ns, by rw [upd_ne n1.symm]; exact h1, by rw [upd_ne n2.symm]; exact h2, h3⟩
def spBegin (K : PySem.W.Frag) : Sp := fun vs H Q _ => ∃ (a : Addr) (ns : List Int), vs = [.ref a] ∧ SqL K H a (ns.map V.int) ∧ ns.length ≤ 63 ∧ ∀ d c H', H d = none → H c = none → Same H H' → Draw K H' d c → Q (.ref d) H'
def spPick (K : PySem.W.Frag) : Sp := fun vs H Q _ => ∃ (d c : Addr) (many : Int), vs = [.ref d, .int many] ∧ Draw K H d c ∧ 0 < many ∧ many < 2 ^ 200 ∧ ∀ r H', Keep d H H' → Draw K H' d c → 0 ≤ r → r < many → Q (.int r) H'
theorem use_pick {K : PySem.W.Frag} {d c : Addr} {many : Int} {H : Hp} {Q : VK} {E : XK} (hD : Draw K H d c) (h1 : 0 < many) (h2 : many < 2 ^ 200) (q : ∀ r H', Keep d H H' → Draw K H' d c → 0 ≤ r → r < many → Q (.int r) H') : spPick K ([.ref d, .int many] ++ []) H Q E := ⟨d, c, many, rfl, hD, h1, h2, q⟩
end Ls
namespace Ls
open PySem PySem.Spec PyProof.Rows L2
/-! ### data and their types -/
/-- data of at most this depth, its lists not too long -/
def OkD : Nat → PyData → Prop
  | _, .none => True
  | _, .bool _ => True
  | _, .int _ => True
  | _, .str x => PyData.strOk x = true
  | n + 1, .list xs => xs.length ≤ 100000 ∧ ∀ d ∈ xs, OkD n d
  | n + 1, .tuple xs => xs.length ≤ 100000 ∧ ∀ d ∈ xs, OkD n d
  | _, _ => False
theorem lay_all : ∀ {xs : List PyData}, (∀ d ∈ xs, d.canLay0 = true) → PyData.canLayAll0 xs = true
  | [], _ => by simp only [PyData.canLayAll0]
  | d :: r, h => by
    simp only [PyData.canLayAll0, Bool.and_eq_true]
    exact ⟨h d List.mem_cons_self, lay_all fun e he => h e (List.mem_cons_of_mem _ he)⟩
theorem depth_all {n : Nat} : ∀ {xs : List PyData}, (∀ d ∈ xs, d.depth ≤ n) → PyData.depthAll xs ≤ n
  | [], _ => by simp only [PyData.depthAll]; omega
  | d :: r, h => by
    simp only [PyData.depthAll]
    have h1 := h d List.mem_cons_self
    have h2 := depth_all fun e he => h e (List.mem_cons_of_mem _ he)
    omega
theorem OkD.lay : ∀ {n : Nat} {d : PyData}, OkD n d → d.canLay0 = true ∧ d.depth ≤ n
  | _, .none, _ => by simp only [PyData.canLay0, PyData.depth]; exact ⟨trivial, Nat.zero_le _⟩
  | _, .bool _, _ => by simp only [PyData.canLay0, PyData.depth]; exact ⟨trivial, Nat.zero_le _⟩
  | _, .int _, _ => by simp only [PyData.canLay0, PyData.depth]; exact ⟨trivial, Nat.zero_le _⟩
  | n, .str x, h => by
    cases n <;> exact ⟨by simp only [PyData.canLay0]; exact h, by simp only [PyData.depth]; omega⟩
  | n + 1, .list xs, h => by
    have ih : ∀ d ∈ xs, d.canLay0 = true ∧ d.depth ≤ n := fun d hd => OkD.lay (h.2 d hd)
    simp only [PyData.canLay0, PyData.depth]
    exact ⟨lay_all fun d hd => (ih d hd).1, Nat.succ_le_succ (depth_all fun d hd => (ih d hd).2)⟩
  | n + 1, .tuple xs, h => by
    have ih : ∀ d ∈ xs, d.canLay0 = true ∧ d.depth ≤ n := fun d hd => OkD.lay (h.2 d hd)
    simp only [PyData.canLay0, PyData.depth]
    exact ⟨lay_all fun d hd => (ih d hd).1, Nat.succ_le_succ (depth_all fun d hd => (ih d hd).2)⟩
  | 0, .list _, h => (show False from h).elim
  | 0, .tuple _, h => (show False from h).elim
  | n, .dict _, h => by
    cases n <;> exact (show False from h).elim
theorem OkD.shaped {n : Nat} {d : PyData} (h : OkD n d) (hn : n ≤ 64) : SeqAt.shaped d = true := by
  obtain ⟨h1, h2⟩ := h.lay
  show (d.canLay0 && decide (d.depth ≤ 64)) = true
  rw [h1, decide_eq_true (Nat.le_trans h2 hn)]
  rfl
theorem OkD.mono : ∀ {n m : Nat} {d : PyData}, n ≤ m → OkD n d → OkD m d
  | n, m, .none, _, _ => by cases m <;> trivial
  | n, m, .bool _, _, _ => by cases m <;> trivial
  | n, m, .int _, _, _ => by cases m <;> trivial
  | n, m, .str x, _, h => by cases n <;> cases m <;> exact h
  | n + 1, m + 1, .list xs, hl, h => ⟨h.1, fun d hd => OkD.mono (Nat.le_of_succ_le_succ hl) (h.2 d hd)⟩
  | n + 1, m + 1, .tuple xs, hl, h => ⟨h.1, fun d hd => OkD.mono (Nat.le_of_succ_le_succ hl) (h.2 d hd)⟩
  | 0, _, .list _, _, h => (show False from h).elim
  | 0, _, .tuple _, _, h => (show False from h).elim
  | n + 1, 0, .list _, hl, _ => absurd hl (by omega)
  | n + 1, 0, .tuple _, hl, _ => absurd hl (by omega)
  | n, m, .dict _, _, h => by cases n <;> exact (show False from h).elim
theorem kt_none_bool : kitB "NoneType" "bool" = some false := by decide +kernel
theorem kt_none_int : kitB "NoneType" "int" = some false := by decide +kernel
theorem kt_none_str : kitB "NoneType" "str" = some false := by decide +kernel
theorem kt_none_list : kitB "NoneType" "list" = some false := by decide +kernel
theorem kt_none_tuple : kitB "NoneType" "tuple" = some false := by decide +kernel
theorem kt_bool_bool : kitB "bool" "bool" = some true := by decide +kernel
theorem kt_bool_int : kitB "bool" "int" = some true := by decide +kernel
theorem kt_bool_str : kitB "bool" "str" = some false := by decide +kernel
theorem kt_bool_list : kitB "bool" "list" = some false := by decide +kernel
theorem kt_bool_tuple : kitB "bool" "tuple" = some false := by decide +kernel
theorem kt_int_bool : kitB "int" "bool" = some false := by decide +kernel
theorem kt_int_int : kitB "int" "int" = some true := by decide +kernel
theorem kt_int_str : kitB "int" "str" = some false := by decide +kernel
theorem kt_int_list : kitB "int" "list" = some false := by decide +kernel
theorem kt_int_tuple : kitB "int" "tuple" = some false := by decide +kernel
theorem kt_str_bool : kitB "str" "bool" = some false := by decide +kernel
theorem kt_str_int : kitB "str" "int" = some false := by decide +kernel
theorem kt_str_str : kitB "str" "str" = some true := by decide +kernel
theorem kt_str_list : kitB "str" "list" = some false := by decide +kernel
theorem kt_str_tuple : kitB "str" "tuple" = some false := by decide +kernel
theorem kt_list_bool : kitB "list" "bool" = some false := by decide +kernel
theorem kt_list_int : kitB "list" "int" = some false := by decide +kernel
theorem kt_list_str : kitB "list" "str" = some false := by decide +kernel
theorem kt_list_list : kitB "list" "list" = some true := by decide +kernel
theorem kt_list_tuple : kitB "list" "tuple" = some false := by decide +kernel
theorem kt_tuple_bool : kitB "tuple" "bool" = some false := by decide +kernel
theorem kt_tuple_int : kitB "tuple" "int" = some false := by decide +kernel
theorem kt_tuple_str : kitB "tuple" "str" = some false := by decide +kernel
theorem kt_tuple_list : kitB "tuple" "list" = some false := by decide +kernel
theorem kt_tuple_tuple : kitB "tuple" "tuple" = some true := by decide +kernel
/-- a datum's type -/
def tyn : PyData → String
  | .none => "NoneType"
  | .bool _ => "bool"
  | .int _ => "int"
  | .str _ => "str"
  | .list _ => "list"
  | .tuple _ => "tuple"
  | .dict _ => "dict"
section
variable {K : PySem.W.Frag} {H H' : Hp} {Q : VK} {x : V} {d : PyData} {b : Bool}
theorem sql_ty {a : Addr} {xs : List V} (h : SqL K H a xs) : TyX K H (.ref a) (.type "list") := by
  rcases h with (h | ⟨o, h⟩) | ⟨o, its, n, h1, h2, _⟩
  · exact .base (.lst h)
  · exact .base (.frz h)
  · exact .kList h1 h2
theorem sqt_ty {a : Addr} {xs : List V} (h : SqT K H a xs) : TyX K H (.ref a) (.type "tuple") := by
  rcases h with (h | ⟨o, h⟩) | ⟨o, its, n, h1, h2, _⟩
  · exact .base (.tup h)
  · exact .fTuple h
  · exact .kTuple h1 h2
theorem dp_ty (h : Dp K H x d) : TyX K H x (.type (tyn d)) := by
  cases h with
  | non => exact .base .non
  | bl b => exact .base (.bl b)
  | int i => exact .base (.int i)
  | str x => exact .base (.str x)
  | lst h _ => exact sql_ty h
  | tup h _ => exact sqt_ty h
theorem k_isi {T U : String} (h : Dp K H x d) (e0 : tyn d = U) (e : kitB U T = some b) (q : Q (.bl b) H) : rIsi K [x, .ty T] H Q := ⟨x, .ty T, _, _, b, rfl, .ty T, dp_ty h, kit_ty (by rw [e0]; exact e), q⟩
theorem k_isi2 {T U W : String} {b1 b2 b : Bool} {tp : Addr} (h : Dp K H x d) (ht : H tp = some (.tup [.ty T, .ty U])) (e0 : tyn d = W) (e1 : kitB W T = some b1) (e2 : kitB W U = some b2) (eb : (b1 || b2) = b) (q : Q (.bl b) H) : rIsiT K [x, .ref tp] H Q :=
  ⟨x, tp, _, _, [.type T, .type U], b1 || b2, rfl, ht, .cons (.ty T) (.cons (.ty U) .nil), dp_ty h, by
    subst e0
    refine kitAny_cons (kit_ty e1) (fun h1 => ?_) fun h1 => by rw [h1]; rfl
    rw [h1, Bool.false_or]
    refine kitAny_cons (kit_ty e2) (fun h2 => by rw [h2]; rfl) fun h2 => h2, by rw [eb]; exact q⟩
theorem k_all {a : Addr} {bs : List Bool} (h : SqL K H a (bs.map V.bl)) (q : Q (.bl (bs.all id)) H) : rAll K [.ref a] H Q := ⟨a, bs, rfl, h, q⟩
theorem k_any {a : Addr} {bs : List Bool} (h : SqL K H a (bs.map V.bl)) (q : Q (.bl (bs.any id)) H) : rAny K [.ref a] H Q := ⟨a, bs, rfl, h, q⟩
theorem k_lc {wi : TI} {g : TG} {tt : TT} {te : TE} {vs : List Nat} {σ : L2.St} (h : wi σ H fun J H1 => ∀ D, H1 D = none → ∃ W : Nat → Nat → Hp → Prop, (∃ m, W 0 m (upd H1 D (.lst []))) ∧ ∀ i m H, W i m H →
  (J.stop i H ∧ Q (.ref D) H) ∨ (J.go i H ∧ ∃ Nx : Hp → Prop, (∀ H', Nx H' → ∃ m', m' < m ∧ W (i + 1) m' H') ∧ ∀ x H', J.yld i H x H' → g x (wipe σ vs) H' fun σ2 H2 => wipe σ2 vs = wipe σ vs ∧ tt σ2 H2 fun b H3 =>
    if b = true then te σ2 H3 fun y H4 => ∃ acc, H4 D = some (.lst acc) ∧ acc.length < sizeLine ∧ Nx (upd H4 D (.lst (acc ++ [y]))) else Nx H3)) : tLc wi g tt te vs σ H Q := h
theorem k_lenE {a : Addr} {xs : List V} (h : SqL K H a xs ∨ SqT K H a xs) (q : Q (.int xs.length) H) : rLenU K [.ref a] H Q := .inl ⟨a, xs, rfl, h, q⟩
theorem k_ixE {a : Addr} {xs : List V} {v : V} {i : Int} (h : SqL K H a xs ∨ SqT K H a xs) (h2 : atI xs i = some v) (q : Q v H) : rIx K (.ref a) (.int i) H Q := by
  rcases h with h | h
  · exact k_ixL h h2 q
  · exact k_ixT h h2 q
theorem seq_same {a : Addr} {xs : List V} (e : Same H H') (h : SqL K H a xs ∨ SqT K H a xs) : SqL K H' a xs ∨ SqT K H' a xs := by
  rcases h with h | h
  · exact .inl (e.seq h)
  · exact .inr (sqt_same e h)
theorem dp_same (e : Same H H') : ∀ {x : V} {d : PyData}, Dp K H x d → Dp K H' x d := by
  intro x d h
  induction h using Dp.rec (motive_2 := fun vs ds _ => DpAll K H' vs ds) with
  | non => exact .non
  | bl b => exact .bl b
  | int i => exact .int i
  | str x => exact .str x
  | lst h _ ih => exact .lst (e.seq h) ih
  | tup h _ ih => exact .tup (sqt_same e h) ih
  | nil => exact .nil
  | cons _ _ h1 h2 => exact .cons h1 h2
theorem dpall_same (e : Same H H') : ∀ {vs : List V} {ds : List PyData}, DpAll K H vs ds → DpAll K H' vs ds
  | _, _, .nil => .nil
  | _, _, .cons a b => .cons (dp_same e a) (dpall_same e b)
theorem DpAll.length' : ∀ {vs : List V} {ds : List PyData}, DpAll K H vs ds → vs.length = ds.length
  | _, _, .nil => rfl
  | _, _, .cons _ hs => congrArg Nat.succ (DpAll.length' hs)
theorem DpAll.getD' : ∀ {vs : List V} {ds : List PyData} {i : Nat} {d : PyData}, DpAll K H vs ds → ds[i]? = some d → ∃ v, vs[i]? = some v ∧ Dp K H v d
  | _, _, i, _, .nil, e => by simp at e
  | _, _, 0, _, .cons a _, e => by
    simp at e
    subst e
    exact ⟨_, rfl, a⟩
  | _, _, i + 1, d, .cons _ b, e => by
    obtain ⟨v, h1, h2⟩ := DpAll.getD' (i := i) (d := d) b (by simpa using e)
    exact ⟨v, by simpa using h1, h2⟩
end
def spSame (K : PySem.W.Frag) (n : Nat) : Sp := fun vs H Q _ => ∃ (x y : V) (d : PyData), vs = [x, y] ∧ Dp K H x d ∧ Dp K H y d ∧ OkD n d ∧ ∀ H', Same H H' → Q (.bl true) H'
theorem use_same {K : PySem.W.Frag} {n : Nat} {x y : V} {d : PyData} {H : Hp} {Q : VK} {E : XK} (h1 : Dp K H x d) (h2 : Dp K H y d) (h3 : OkD n d) (q : ∀ H', Same H H' → Q (.bl true) H') : spSame K n ([x, y] ++ []) H Q E := ⟨x, y, d, rfl, h1, h2, h3, q⟩
end Ls
namespace Ls
open PySem PySem.Spec PyProof.Rows L2
section
variable {σ : L2.St} {H : Hp} {Q : VK} {tk tv : TE} {r : List (TE × TE)}
theorem k_disp {trs : List (TE × TE)} (q : ∀ p, H p = none → tPairs trs σ (upd H p (.dK [])) fun ps H2 => H2 p = some (.dK []) ∧ ∃ kvs : List (Key × V), ps = kvs.map (fun kv => (kV kv.1, kv.2)) ∧ kvs.length ≤ 15 ∧ Q (.ref p) (upd H2 p (.dK (mergeK [] kvs)))) : tDisp trs σ H Q := q
theorem k_prs {R : List (V × V) → Hp → Prop} (h : tk σ H fun x H1 => tv σ H1 fun y H2 => tPairs r σ H2 fun ps H3 => R ((x, y) :: ps) H3) : tPairs ((tk, tv) :: r) σ H R := h
theorem k_prn {R : List (V × V) → Hp → Prop} (h : R [] H) : tPairs [] σ H R := h
theorem cut_to {xs : List V} {i : Int} (h : 0 ≤ i) : cutV xs none (some i) = xs.take i.toNat := by
  obtain ⟨k, rfl⟩ := Int.eq_ofNat_of_zero_le h
  show (xs.drop 0).take (HT.sIx xs.length xs.length (some (k : Int)) - 0) = _
  rw [HT.sIx_nat, List.drop_zero, Nat.sub_zero, Int.toNat_natCast]
  by_cases hk : k ≤ xs.length
  · rw [Nat.min_eq_left hk]
  · rw [Nat.min_eq_right (by omega), List.take_of_length_le (Nat.le_refl _), List.take_of_length_le (by omega)]
theorem cut_from {xs : List V} {i : Int} (h : 0 ≤ i) : cutV xs (some i) none = xs.drop i.toNat := by
  obtain ⟨k, rfl⟩ := Int.eq_ofNat_of_zero_le h
  show (xs.drop (HT.sIx xs.length 0 (some (k : Int)))).take (xs.length - HT.sIx xs.length 0 (some (k : Int))) = _
  rw [HT.sIx_nat, Int.toNat_natCast]
  by_cases hk : k ≤ xs.length
  · rw [Nat.min_eq_left hk]
    exact List.take_of_length_le (by rw [List.length_drop]; omega)
  · rw [Nat.min_eq_right (by omega), List.drop_of_length_le (Nat.le_refl _), List.drop_of_length_le (by omega), List.take_nil]
theorem cut_all {xs : List V} {i : Int} (h : (xs.length : Int) ≤ i) : cutV xs none (some i) = xs := by
  rw [cut_to (by omega), List.take_of_length_le (by omega)]
theorem put_none {kvs : List (Key × V)} {k : Key} {v : V} (h : valV kvs k = none) : putK kvs k v = kvs ++ [(k, v)] := by
  unfold putK
  rw [valV_any, h]
  rfl
theorem dd_merge {c : Addr} {n r s : Int} : mergeK [] (dd c n r s) = dd c n r s := by
  show putK (putK (putK (putK ([] : List (Key × V)) (Sum.inr ("cells" : Str) : Key) (V.ref c)) (Sum.inr ("at" : Str) : Key) (V.int n)) (Sum.inr ("rest" : Str) : Key) (V.int r)) (Sum.inr ("seed" : Str) : Key) (V.int s) = _
  rw [put_none (kvs := []) rfl]
  rw [put_none (kvs := [] ++ _) ((valV_neg (kne n_ca)).trans rfl)]
  rw [put_none (kvs := [] ++ _ ++ _) ((valV_neg (kne n_cr)).trans ((valV_neg (kne n_ar)).trans rfl))]
  rw [put_none (kvs := [] ++ _ ++ _ ++ _) ((valV_neg (kne n_cs)).trans ((valV_neg (kne n_as)).trans ((valV_neg (kne n_rs)).trans rfl)))]
  rfl
end
/-- some element of a list -/
def spOf (K : PySem.W.Frag) : Sp := fun vs H Q _ => ∃ (d c l : Addr) (xs : List V), vs = [.ref d, .ref l] ∧ Draw K H d c ∧ SqL K H l xs ∧ 0 < xs.length ∧ xs.length < 2 ^ 100 ∧ ∀ x H', Keep d H H' → Draw K H' d c → x ∈ xs → Q x H'
theorem use_of {K : PySem.W.Frag} {d c l : Addr} {xs : List V} {H : Hp} {Q : VK} {E : XK} (hD : Draw K H d c) (h : SqL K H l xs) (h1 : 0 < xs.length) (h2 : xs.length < 2 ^ 100) (q : ∀ x H', Keep d H H' → Draw K H' d c → x ∈ xs → Q x H') : spOf K ([.ref d, .ref l] ++ []) H Q E := ⟨d, c, l, xs, rfl, hD, h, h1, h2, q⟩
end Ls
namespace Lm
/-! ### least amounts and rings, in plain Lean -/
abbrev Tie := Int × Int × Int
structure S where
  row : Int → Int
  way : Int → Option Tie
  last : Option Int
def push1 (s : S) (t : Tie) : S :=
  if s.row t.1 < s.row t.2.1 + t.2.2 then ⟨fun p => if p = t.1 then s.row t.2.1 + t.2.2 else s.row p, fun p => if p = t.1 then some t else s.way p, some t.1⟩ else s
def pushedS (s : S) (es : List Tie) : S := es.foldl push1 { s with last := none }
def iter (es : List Tie) (s : S) : Nat → S
  | 0 => s
  | k + 1 => pushedS (iter es s k) es
/-- a tie is met -/
def Met (x : Int → Int) (t : Tie) : Prop := x t.2.1 + t.2.2 ≤ x t.1
theorem push1_pos {s : S} {t : Tie} (h : s.row t.1 < s.row t.2.1 + t.2.2) : push1 s t = ⟨fun p => if p = t.1 then s.row t.2.1 + t.2.2 else s.row p, fun p => if p = t.1 then some t else s.way p, some t.1⟩ := if_pos h
theorem push1_neg {s : S} {t : Tie} (h : ¬ s.row t.1 < s.row t.2.1 + t.2.2) : push1 s t = s := if_neg h
theorem push1_mono (s : S) (t : Tie) (p : Int) : s.row p ≤ (push1 s t).row p := by
  by_cases h : s.row t.1 < s.row t.2.1 + t.2.2
  · rw [push1_pos h]
    show s.row p ≤ if p = t.1 then s.row t.2.1 + t.2.2 else s.row p
    by_cases e : p = t.1
    · rw [if_pos e, e]; omega
    · rw [if_neg e]; omega
  · rw [push1_neg h]; omega
theorem fold_mono (p : Int) : ∀ (ts : List Tie) (s : S), s.row p ≤ (ts.foldl push1 s).row p
  | [], s => Int.le_refl _
  | t :: ts, s => Int.le_trans (push1_mono s t p) (fold_mono p ts (push1 s t))
theorem fold_none : ∀ (ts : List Tie) (s : S), (ts.foldl push1 s).last = none → s.last = none ∧ ts.foldl push1 s = s ∧ ∀ t ∈ ts, Met s.row t
  | [], s, h => ⟨h, rfl, fun t ht => by cases ht⟩
  | t :: ts, s, h => by
    obtain ⟨h1, h2, h3⟩ := fold_none ts (push1 s t) h
    by_cases c : s.row t.1 < s.row t.2.1 + t.2.2
    · rw [push1_pos c] at h1; cases h1
    · rw [push1_neg c] at h1 h2 h3
      refine ⟨h1, ?_, fun u hu => ?_⟩
      · show ts.foldl push1 (push1 s t) = s
        rw [push1_neg c]; exact h2
      · rcases List.mem_cons.mp hu with rfl | hu
        · show s.row u.2.1 + u.2.2 ≤ s.row u.1
          omega
        · exact h3 u hu
theorem fold_least (R : Int → Prop) (x : Int → Int) : ∀ (ts : List Tie) (s : S), (∀ t ∈ ts, R t.1 ∧ R t.2.1 ∧ Met x t) → (∀ p, R p → s.row p ≤ x p) → ∀ p, R p → (ts.foldl push1 s).row p ≤ x p
  | [], s, _, h => h
  | t :: ts, s, ht, h => by
    refine fold_least R x ts (push1 s t) (fun u hu => ht u (List.mem_cons_of_mem _ hu)) fun p hp => ?_
    by_cases c : s.row t.1 < s.row t.2.1 + t.2.2
    · rw [push1_pos c]
      show (if p = t.1 then s.row t.2.1 + t.2.2 else s.row p) ≤ x p
      obtain ⟨r1, r2, m⟩ := ht t List.mem_cons_self
      have m : x t.2.1 + t.2.2 ≤ x t.1 := m
      have := h _ r2
      by_cases e : p = t.1
      · rw [if_pos e, e]; omega
      · rw [if_neg e]; exact h p hp
    · rw [push1_neg c]; exact h p hp
theorem fold_push : ∀ (ts : List Tie) (s : S) (t : Tie), t ∈ ts → s.row t.2.1 + t.2.2 ≤ (ts.foldl push1 s).row t.1
  | u :: ts, s, t, h => by
    rcases List.mem_cons.mp h with rfl | h
    · refine Int.le_trans ?_ (fold_mono t.1 ts (push1 s t))
      by_cases c : s.row t.1 < s.row t.2.1 + t.2.2
      · rw [push1_pos c]
        show _ ≤ if t.1 = t.1 then s.row t.2.1 + t.2.2 else s.row t.1
        rw [if_pos rfl]; omega
      · rw [push1_neg c]; omega
    · have := fold_push ts (push1 s u) t h
      have := push1_mono s u t.2.1
      show _ ≤ (ts.foldl push1 (push1 s u)).row t.1
      omega
/-! ### counting -/
theorem count_le {α : Type} {p q : α → Bool} : ∀ (l : List α), (∀ a ∈ l, p a = true → q a = true) → l.countP p ≤ l.countP q
  | [], _ => Nat.le_refl _
  | a :: l, h => by
    have ih := count_le l fun b hb => h b (List.mem_cons_of_mem _ hb)
    have := h a List.mem_cons_self
    rw [List.countP_cons, List.countP_cons]
    by_cases c : p a = true
    · rw [if_pos c, if_pos (this c)]; omega
    · rw [if_neg c]; omega
theorem count_lt {α : Type} {p q : α → Bool} : ∀ (l : List α), (∀ a ∈ l, p a = true → q a = true) → (∃ a ∈ l, p a = false ∧ q a = true) → l.countP p < l.countP q
  | [], _, ⟨a, h, _⟩ => by cases h
  | a :: l, h, ⟨b, hb, b1, b2⟩ => by
    have h' := fun b hb => h b (List.mem_cons_of_mem a hb)
    have ih := count_le l h'
    have := h a List.mem_cons_self
    rw [List.countP_cons, List.countP_cons]
    rcases List.mem_cons.mp hb with rfl | hb
    · rw [b1, b2, if_neg (by decide), if_pos rfl]; omega
    · have ih := count_lt l h' ⟨b, hb, b1, b2⟩
      by_cases c : p a = true
      · rw [if_pos c, if_pos (this c)]; omega
      · rw [if_neg c]; omega
theorem sum_le (f g : Int → Int) : ∀ (l : List Int), (∀ a ∈ l, f a ≤ g a) → (l.map f).sum ≤ (l.map g).sum
  | [], _ => Int.le_refl _
  | a :: l, h => by
    have ih := sum_le f g l fun b hb => h b (List.mem_cons_of_mem _ hb)
    have := h a List.mem_cons_self
    rw [List.map_cons, List.map_cons, List.sum_cons, List.sum_cons]
    omega
theorem sum_lt (f g : Int → Int) : ∀ (l : List Int), (∀ a ∈ l, f a ≤ g a) → (∃ a ∈ l, f a < g a) → (l.map f).sum < (l.map g).sum
  | [], _, ⟨a, h, _⟩ => by cases h
  | a :: l, h, ⟨b, hb, b1⟩ => by
    have h' := fun b hb => h b (List.mem_cons_of_mem a hb)
    have ih := sum_le f g l h'
    have := h a List.mem_cons_self
    rw [List.map_cons, List.map_cons, List.sum_cons, List.sum_cons]
    rcases List.mem_cons.mp hb with rfl | hb
    · omega
    · have ih := sum_lt f g l h' ⟨b, hb, b1⟩
      omega
theorem sum_nn (f : Int → Int) : ∀ (l : List Int), (∀ a ∈ l, 0 ≤ f a) → 0 ≤ (l.map f).sum
  | [], _ => Int.le_refl _
  | a :: l, h => by
    have ih := sum_nn f l fun b hb => h b (List.mem_cons_of_mem _ hb)
    have := h a List.mem_cons_self
    rw [List.map_cons, List.sum_cons]
    omega
/-! ### when amounts there are, pushing ends -/
/-- amounts over the places ps -/
def Sol (ps : List Int) (es : List Tie) (x : Int → Int) : Prop := (∀ p ∈ ps, 0 ≤ x p) ∧ x (-1) = 0 ∧ ∀ t ∈ es, Met x t
theorem sol_min (ps : List Int) (es : List Tie) : ∀ (n : Nat) (x : Int → Int), Sol ps es x → ((ps.map x).sum).toNat = n → ∃ m, Sol ps es m ∧ ∀ y, Sol ps es y → (ps.map m).sum ≤ (ps.map y).sum := by
  intro n
  induction n using Nat.strongRecOn with
  | _ n ih =>
    intro x hx e
    by_cases c : ∃ y, Sol ps es y ∧ (ps.map y).sum < (ps.map x).sum
    · obtain ⟨y, hy, hl⟩ := c
      have := sum_nn y ps hy.1
      exact ih _ (by omega) y hy rfl
    · refine ⟨x, hx, fun y hy => ?_⟩
      by_cases d : (ps.map x).sum ≤ (ps.map y).sum
      · exact d
      · exact (c ⟨y, hy, by omega⟩).elim
theorem tight {ps : List Int} {es : List Tie} {m r : Int → Int} (hm : Sol ps es m) (mn : ∀ y, Sol ps es y → (ps.map m).sum ≤ (ps.map y).sum) (h0 : ∀ p ∈ ps, 0 ≤ r p) (h1 : ∀ p ∈ ps, r p ≤ m p) (hz : -1 ∈ ps) (hd : ∃ p ∈ ps, r p ≠ m p) :
    ∃ t ∈ es, r t.2.1 = m t.2.1 ∧ r t.1 ≠ m t.1 ∧ m t.1 = m t.2.1 + t.2.2 := by
  apply Classical.byContradiction
  intro hn
  have key : ∀ t ∈ es, r t.2.1 = m t.2.1 → r t.1 ≠ m t.1 → m t.2.1 + t.2.2 + 1 ≤ m t.1 := fun t ht a b => by
    have c := hm.2.2 t ht
    have c : m t.2.1 + t.2.2 ≤ m t.1 := c
    by_cases e : m t.1 = m t.2.1 + t.2.2
    · exact (hn ⟨t, ht, a, b, e⟩).elim
    · omega
  have hs : Sol ps es (fun p => if r p = m p then m p else m p - 1) := by
    refine ⟨fun p hp => ?_, ?_, fun t ht => ?_⟩
    · show 0 ≤ if r p = m p then m p else m p - 1
      have a := h0 p hp
      have b := h1 p hp
      by_cases c : r p = m p
      · rw [if_pos c]; omega
      · rw [if_neg c]; omega
    · show (if r (-1) = m (-1) then m (-1) else m (-1) - 1) = 0
      have a := h0 _ hz
      have b := h1 _ hz
      have c := hm.2.1
      rw [if_pos (by omega)]; exact c
    · show (if r t.2.1 = m t.2.1 then m t.2.1 else m t.2.1 - 1) + t.2.2 ≤ (if r t.1 = m t.1 then m t.1 else m t.1 - 1)
      have c : m t.2.1 + t.2.2 ≤ m t.1 := hm.2.2 t ht
      by_cases a : r t.2.1 = m t.2.1
      · by_cases b : r t.1 = m t.1
        · rw [if_pos a, if_pos b]; exact c
        · have := key t ht a b
          rw [if_pos a, if_neg b]; omega
      · by_cases b : r t.1 = m t.1
        · rw [if_neg a, if_pos b]; omega
        · rw [if_neg a, if_neg b]; omega
  have := mn _ hs
  obtain ⟨p, hp, hne⟩ := hd
  have lt := sum_lt (fun p => if r p = m p then m p else m p - 1) m ps (fun p _ => by
    show (if r p = m p then m p else m p - 1) ≤ m p
    by_cases c : r p = m p
    · rw [if_pos c]; omega
    · rw [if_neg c]; omega) ⟨p, hp, by
      show (if r p = m p then m p else m p - 1) < m p
      rw [if_neg hne]; omega⟩
  omega
/-- how many places are not at their amounts yet -/
def off (ps : List Int) (m : Int → Int) (s : S) : Nat := ps.countP fun p => decide (s.row p ≠ m p)
theorem off_round {ps : List Int} {es : List Tie} {m : Int → Int} {s : S} (hm : Sol ps es m) (mn : ∀ y, Sol ps es y → (ps.map m).sum ≤ (ps.map y).sum) (hp : ∀ t ∈ es, t.1 ∈ ps ∧ t.2.1 ∈ ps) (h0 : ∀ p ∈ ps, 0 ≤ s.row p) (h1 : ∀ p ∈ ps, s.row p ≤ m p) (hz : -1 ∈ ps) :
    (∀ p ∈ ps, 0 ≤ (pushedS s es).row p) ∧ (∀ p ∈ ps, (pushedS s es).row p ≤ m p) ∧ (off ps m (pushedS s es) < off ps m s ∨ off ps m s = 0 ∧ off ps m (pushedS s es) = 0) := by
  have up : ∀ p ∈ ps, (pushedS s es).row p ≤ m p := fold_least (fun p => p ∈ ps) m es { s with last := none } (fun t ht => ⟨(hp t ht).1, (hp t ht).2, hm.2.2 t ht⟩) h1
  have lo : ∀ p, s.row p ≤ (pushedS s es).row p := fun p => fold_mono p es { s with last := none }
  refine ⟨fun p hp => Int.le_trans (h0 p hp) (lo p), up, ?_⟩
  have keep : ∀ p ∈ ps, decide ((pushedS s es).row p ≠ m p) = true → decide (s.row p ≠ m p) = true := fun p hp h => by
    have h := of_decide_eq_true h
    have a := lo p
    have b := up p hp
    exact decide_eq_true (by omega)
  by_cases hd : ∃ p ∈ ps, s.row p ≠ m p
  · left
    obtain ⟨t, ht, a, b, c⟩ := tight hm mn h0 h1 hz hd
    refine count_lt ps keep ⟨t.1, (hp t ht).1, ?_, decide_eq_true b⟩
    have d : s.row t.2.1 + t.2.2 ≤ (pushedS s es).row t.1 := fold_push es { s with last := none } t ht
    have e := up t.1 (hp t ht).1
    exact decide_eq_false (by omega)
  · right
    have z : off ps m s = 0 := List.countP_eq_zero.mpr fun p hp h => hd ⟨p, hp, of_decide_eq_true h⟩
    refine ⟨z, ?_⟩
    have := count_le ps keep
    unfold off at z ⊢
    omega
theorem off_iter {ps : List Int} {es : List Tie} {m : Int → Int} {s : S} (hm : Sol ps es m) (mn : ∀ y, Sol ps es y → (ps.map m).sum ≤ (ps.map y).sum) (hp : ∀ t ∈ es, t.1 ∈ ps ∧ t.2.1 ∈ ps) (h0 : ∀ p ∈ ps, 0 ≤ s.row p) (h1 : ∀ p ∈ ps, s.row p ≤ m p) (hz : -1 ∈ ps) :
    ∀ k, (∀ p ∈ ps, 0 ≤ (iter es s k).row p) ∧ (∀ p ∈ ps, (iter es s k).row p ≤ m p) ∧ off ps m (iter es s k) ≤ off ps m s - k
  | 0 => ⟨h0, h1, Nat.le_refl _⟩
  | k + 1 => by
    obtain ⟨a, b, c⟩ := off_iter hm mn hp h0 h1 hz k
    obtain ⟨d, e, f⟩ := off_round hm mn hp a b hz
    refine ⟨d, e, ?_⟩
    show off ps m (pushedS (iter es s k) es) ≤ _
    omega
theorem fold_still : ∀ (ts : List Tie) (s : S), (∀ t ∈ ts, Met s.row t) → ts.foldl push1 s = s
  | [], s, _ => rfl
  | t :: ts, s, h => by
    have a : s.row t.2.1 + t.2.2 ≤ s.row t.1 := h t List.mem_cons_self
    show ts.foldl push1 (push1 s t) = s
    rw [push1_neg (by omega)]
    exact fold_still ts s fun u hu => h u (List.mem_cons_of_mem _ hu)
/-- when there are amounts, nothing is pushed any more after as many rounds as places -/
theorem ends {ps : List Int} {es : List Tie} {x : Int → Int} {s : S} (hx : Sol ps es x) (hp : ∀ t ∈ es, t.1 ∈ ps ∧ t.2.1 ∈ ps) (h0 : ∀ p, s.row p = 0) (hz : -1 ∈ ps) {k : Nat} (hk : ps.length ≤ k) : (iter es s (k + 1)).last = none := by
  obtain ⟨m, hm, mn⟩ := sol_min ps es _ x hx rfl
  obtain ⟨a, b, c⟩ := off_iter (s := s) hm mn hp (fun p _ => by rw [h0]; exact Int.le_refl _) (fun p q => by rw [h0]; exact hm.1 p q) hz k
  have d : off ps m s ≤ ps.length := List.countP_le_length
  have e : off ps m (iter es s k) = 0 := by omega
  have f : ∀ p ∈ ps, (iter es s k).row p = m p := fun p hp => by
    have := List.countP_eq_zero.mp e p hp
    exact Classical.byContradiction fun h => this (decide_eq_true h)
  show (pushedS (iter es s k) es).last = none
  unfold pushedS
  rw [fold_still es { iter es s k with last := none } fun t ht => by
    show (iter es s k).row t.2.1 + t.2.2 ≤ (iter es s k).row t.1
    rw [f _ (hp t ht).1, f _ (hp t ht).2]
    exact hm.2.2 t ht]
/-- when nothing is pushed any more, the row is the least amounts -/
theorem least {ps : List Int} {es : List Tie} {s : S} (hp : ∀ t ∈ es, t.1 ∈ ps ∧ t.2.1 ∈ ps) (h0 : ∀ p, s.row p = 0) (hz : -1 ∈ ps) {k : Nat} (hl : (iter es s (k + 1)).last = none) (hb : ∀ p ∈ ps, p ≠ -1 → (p, -1, 0) ∈ es) :
    Sol ps es (fun p => (iter es s (k + 1)).row p - (iter es s (k + 1)).row (-1)) ∧ (∀ x, Sol ps es x → ∀ p ∈ ps, (iter es s (k + 1)).row p ≤ x p) ∧ (iter es s (k + 1)).row (-1) = 0 := by
  obtain ⟨_, e, mt⟩ := fold_none es { iter es s k with last := none } hl
  have e : iter es s (k + 1) = { iter es s k with last := none } := e
  have rw0 : (iter es s (k + 1)).row = (iter es s k).row := by rw [e]
  have mt : ∀ t ∈ es, Met (iter es s (k + 1)).row t := fun t ht => by rw [rw0]; exact mt t ht
  have lo : ∀ j, ∀ p, 0 ≤ (iter es s j).row p := by
    intro j
    induction j with
    | zero => intro p; show 0 ≤ s.row p; rw [h0]; exact Int.le_refl _
    | succ j ih => exact fun p => Int.le_trans (ih p) (fold_mono p es { iter es s j with last := none })
  have up : ∀ x, Sol ps es x → ∀ j, ∀ p ∈ ps, (iter es s j).row p ≤ x p := by
    intro x hx j
    induction j with
    | zero => intro p hp; show s.row p ≤ x p; rw [h0]; exact hx.1 p hp
    | succ j ih => exact fold_least (fun p => p ∈ ps) x es { iter es s j with last := none } (fun t ht => ⟨(hp t ht).1, (hp t ht).2, hx.2.2 t ht⟩) ih
  have hs : Sol ps es (fun p => (iter es s (k + 1)).row p - (iter es s (k + 1)).row (-1)) := by
    refine ⟨fun p hp => ?_, ?_, fun t ht => ?_⟩
    · show 0 ≤ (iter es s (k + 1)).row p - (iter es s (k + 1)).row (-1)
      by_cases c : p = -1
      · rw [c]; omega
      · have := mt _ (hb p hp c)
        have : (iter es s (k + 1)).row (-1) + 0 ≤ (iter es s (k + 1)).row p := this
        omega
    · show (iter es s (k + 1)).row (-1) - (iter es s (k + 1)).row (-1) = 0
      omega
    · show (iter es s (k + 1)).row t.2.1 - (iter es s (k + 1)).row (-1) + t.2.2 ≤ (iter es s (k + 1)).row t.1 - (iter es s (k + 1)).row (-1)
      have : (iter es s (k + 1)).row t.2.1 + t.2.2 ≤ (iter es s (k + 1)).row t.1 := mt t ht
      omega
  refine ⟨hs, fun x hx => up x hx (k + 1), ?_⟩
  have a := up _ hs (k + 1) (-1) hz
  have b := lo (k + 1) (-1)
  have a : (iter es s (k + 1)).row (-1) ≤ (iter es s (k + 1)).row (-1) - (iter es s (k + 1)).row (-1) := a
  omega
end Lm
namespace Lm
/-! ### the ring -/
theorem pigeon : ∀ (m : Nat) (f : Nat → Int) (a : Int), (∀ i, i ≤ m → a ≤ f i ∧ f i < a + m) → ∃ i j, i < j ∧ j ≤ m ∧ f i = f j
  | 0, f, a, h => by
    have := h 0 (Nat.le_refl _)
    omega
  | m + 1, f, a, h => by
    by_cases c : ∃ i, i ≤ m ∧ f i = f (m + 1)
    · obtain ⟨i, hi, e⟩ := c
      exact ⟨i, m + 1, by omega, Nat.le_refl _, e⟩
    · have c : ∀ i, i ≤ m → f i ≠ f (m + 1) := fun i hi e => c ⟨i, hi, e⟩
      have hl := h (m + 1) (Nat.le_refl _)
      obtain ⟨i, j, h1, h2, e⟩ := pigeon m (fun i => if f i = a + m then f (m + 1) else f i) a (fun i hi => by
        have := h i (by omega)
        have := c i hi
        show a ≤ (if f i = a + m then f (m + 1) else f i) ∧ (if f i = a + m then f (m + 1) else f i) < a + m
        by_cases d : f i = a + m
        · rw [if_pos d]; omega
        · rw [if_neg d]; omega)
      have e : (if f i = a + m then f (m + 1) else f i) = (if f j = a + m then f (m + 1) else f j) := e
      refine ⟨i, j, h1, by omega, ?_⟩
      have c1 := c i (by omega)
      have c2 := c j h2
      by_cases d1 : f i = a + m
      · by_cases d2 : f j = a + m
        · rw [d1, d2]
        · rw [if_pos d1, if_neg d2] at e
          exact (c2 e.symm).elim
      · by_cases d2 : f j = a + m
        · rw [if_neg d1, if_pos d2] at e
          exact (c1 e).elim
        · rw [if_neg d1, if_neg d2] at e
          exact e
/-- the tie that pushed a place, when there is one -/
def wy (w : Int → Option Tie) (v : Int) : Tie := (w v).getD (0, 0, 0)
def nx (w : Int → Option Tie) (v : Int) : Int := (wy w v).2.1
def go (w : Int → Option Tie) : Nat → Int → Int
  | 0, v => v
  | k + 1, v => nx w (go w k v)
theorem go_add (w : Int → Option Tie) (a v) : ∀ b, go w (a + b) v = go w b (go w a v)
  | 0 => rfl
  | b + 1 => by
    show nx w (go w (a + b) v) = nx w (go w b (go w a v))
    rw [go_add w a v b]
/-- what holds of a row and the ties that pushed it -/
def InvT (es : List Tie) (s : S) (T : Int → Nat) (c : Nat) : Prop :=
  (∀ p, T p ≤ c) ∧ ∀ v t, s.way v = some t → t.1 = v ∧ t ∈ es ∧ s.row v ≤ s.row t.2.1 + t.2.2 ∧ (T v ≤ T t.2.1 → s.row v < s.row t.2.1 + t.2.2)
theorem invT_push {es : List Tie} {s : S} {T : Int → Nat} {c : Nat} {t : Tie} (h : InvT es s T c) (ht : t ∈ es) (hn : t.1 ≠ t.2.1) : ∃ T' c', InvT es (push1 s t) T' c' := by
  by_cases q : s.row t.1 < s.row t.2.1 + t.2.2
  · rw [push1_pos q]
    refine ⟨fun p => if p = t.1 then c + 1 else T p, c + 1, fun p => ?_, fun v u hv => ?_⟩
    · show (if p = t.1 then c + 1 else T p) ≤ c + 1
      have := h.1 p
      by_cases e : p = t.1
      · rw [if_pos e]; omega
      · rw [if_neg e]; omega
    · have hv : (if v = t.1 then some t else s.way v) = some u := hv
      show u.1 = v ∧ u ∈ es ∧ (if v = t.1 then s.row t.2.1 + t.2.2 else s.row v) ≤ (if u.2.1 = t.1 then s.row t.2.1 + t.2.2 else s.row u.2.1) + u.2.2 ∧
        ((if v = t.1 then c + 1 else T v) ≤ (if u.2.1 = t.1 then c + 1 else T u.2.1) → (if v = t.1 then s.row t.2.1 + t.2.2 else s.row v) < (if u.2.1 = t.1 then s.row t.2.1 + t.2.2 else s.row u.2.1) + u.2.2)
      by_cases e : v = t.1
      · rw [if_pos e] at hv
        cases hv
        rw [if_pos e, if_neg hn.symm, if_pos e, if_neg hn.symm]
        refine ⟨e.symm, ht, by omega, fun z => ?_⟩
        have := h.1 t.2.1
        omega
      · rw [if_neg e] at hv
        obtain ⟨a, b, d, f⟩ := h.2 v u hv
        rw [if_neg e, if_neg e]
        by_cases g : u.2.1 = t.1
        · rw [if_pos g, if_pos g]
          rw [g] at d
          exact ⟨a, b, by omega, fun _ => by omega⟩
        · rw [if_neg g, if_neg g]
          exact ⟨a, b, d, f⟩
  · rw [push1_neg q]
    exact ⟨T, c, h⟩
theorem invT_fold {es : List Tie} : ∀ (ts : List Tie) (s : S), (∀ t ∈ ts, t ∈ es ∧ t.1 ≠ t.2.1) → (∃ T c, InvT es s T c) → ∃ T c, InvT es (ts.foldl push1 s) T c
  | [], _, _, h => h
  | t :: ts, s, ht, ⟨T, c, h⟩ => invT_fold ts (push1 s t) (fun u hu => ht u (List.mem_cons_of_mem _ hu)) (invT_push h (ht t List.mem_cons_self).1 (ht t List.mem_cons_self).2)
theorem invT_iter {es : List Tie} {s : S} (hn : ∀ t ∈ es, t.1 ≠ t.2.1) (h0 : ∀ p, s.way p = none) : ∀ k, ∃ T c, InvT es (iter es s k) T c
  | 0 => ⟨fun _ => 0, 0, fun _ => Nat.le_refl _, fun v t h => by
    have h : s.way v = some t := h
    rw [h0] at h; cases h⟩
  | k + 1 => by
    obtain ⟨T, c, h⟩ := invT_iter hn h0 k
    exact invT_fold es { iter es s k with last := none } (fun t ht => ⟨ht, hn t ht⟩) ⟨T, c, h⟩
/-- the rounds in which places were pushed last -/
structure InvR (r : Nat) (pre suf : List Tie) (s : S) (R : Int → Nat) : Prop where
  way : ∀ v t, s.way v = some t → R v ≤ R t.2.1 + 1
  has : ∀ v, s.way v = none → R v = 0
  top : ∀ v, R v ≤ r
  pre : ∀ t ∈ pre, Met s.row t ∨ r ≤ R t.2.1
  suf : ∀ t ∈ suf, Met s.row t ∨ r ≤ R t.2.1 + 1
  last : ∀ v, s.last = some v → R v = r
theorem met_push {s : S} {t u : Tie} (h : Met s.row u) (n : u.2.1 ≠ t.1) : Met (push1 s t).row u := by
  have a := push1_mono s t u.1
  have h : s.row u.2.1 + u.2.2 ≤ s.row u.1 := h
  show (push1 s t).row u.2.1 + u.2.2 ≤ (push1 s t).row u.1
  have b : (push1 s t).row u.2.1 = s.row u.2.1 := by
    by_cases q : s.row t.1 < s.row t.2.1 + t.2.2
    · rw [push1_pos q]
      exact if_neg n
    · rw [push1_neg q]
  omega
theorem met_self {s : S} {t : Tie} (n : t.1 ≠ t.2.1) : Met (push1 s t).row t := by
  by_cases q : s.row t.1 < s.row t.2.1 + t.2.2
  · rw [push1_pos q]
    show (if t.2.1 = t.1 then s.row t.2.1 + t.2.2 else s.row t.2.1) + t.2.2 ≤ (if t.1 = t.1 then s.row t.2.1 + t.2.2 else s.row t.1)
    rw [if_neg n.symm, if_pos rfl]
    exact Int.le_refl _
  · rw [push1_neg q]
    show s.row t.2.1 + t.2.2 ≤ s.row t.1
    omega
theorem invR_push {r : Nat} {pre suf : List Tie} {s : S} {R : Int → Nat} {t : Tie} (h : InvR r pre (t :: suf) s R) (hn : t.1 ≠ t.2.1) : ∃ R', InvR r (pre ++ [t]) suf (push1 s t) R' := by
  by_cases q : s.row t.1 < s.row t.2.1 + t.2.2
  · have ht : r ≤ R t.2.1 + 1 := by
      rcases h.suf t List.mem_cons_self with a | a
      · have a : s.row t.2.1 + t.2.2 ≤ s.row t.1 := a
        omega
      · exact a
    have up : ∀ p, R p ≤ (if p = t.1 then r else R p) := fun p => by
      by_cases e : p = t.1
      · rw [if_pos e]; exact h.top p
      · rw [if_neg e]; exact Nat.le_refl _
    refine ⟨fun p => if p = t.1 then r else R p, ⟨fun v u hv => ?_, fun v hv => ?_, fun v => ?_, fun u hu => ?_, fun u hu => ?_, fun v hv => ?_⟩⟩
    · rw [push1_pos q] at hv
      have hv : (if v = t.1 then some t else s.way v) = some u := hv
      show (if v = t.1 then r else R v) ≤ (if u.2.1 = t.1 then r else R u.2.1) + 1
      have := up u.2.1
      by_cases e : v = t.1
      · rw [if_pos e] at hv
        cases hv
        rw [if_pos e]
        omega
      · rw [if_neg e] at hv
        have := h.way v u hv
        rw [if_neg e]
        omega
    · rw [push1_pos q] at hv
      have hv : (if v = t.1 then some t else s.way v) = none := hv
      show (if v = t.1 then r else R v) = 0
      by_cases e : v = t.1
      · rw [if_pos e] at hv
        cases hv
      · rw [if_neg e] at hv
        rw [if_neg e]
        exact h.has v hv
    · show (if v = t.1 then r else R v) ≤ r
      have := h.top v
      by_cases e : v = t.1
      · rw [if_pos e]; omega
      · rw [if_neg e]; omega
    · show Met _ u ∨ r ≤ (if u.2.1 = t.1 then r else R u.2.1)
      by_cases e : u.2.1 = t.1
      · right; rw [if_pos e]; exact Nat.le_refl _
      · rw [if_neg e]
        rcases List.mem_append.mp hu with hu | hu
        · rcases h.pre u hu with a | a
          · exact .inl (met_push a e)
          · exact .inr a
        · rw [List.mem_singleton] at hu
          subst hu
          exact .inl (met_self hn)
    · show Met _ u ∨ r ≤ (if u.2.1 = t.1 then r else R u.2.1) + 1
      by_cases e : u.2.1 = t.1
      · right; rw [if_pos e]; omega
      · rw [if_neg e]
        rcases h.suf u (List.mem_cons_of_mem _ hu) with a | a
        · exact .inl (met_push a e)
        · exact .inr a
    · rw [push1_pos q] at hv
      have hv : some t.1 = some v := hv
      cases hv
      show (if t.1 = t.1 then r else R t.1) = r
      rw [if_pos rfl]
  · have hm : Met (push1 s t).row t := met_self hn
    rw [push1_neg q] at hm ⊢
    exact ⟨R, ⟨h.way, h.has, h.top, fun u hu => by
      rcases List.mem_append.mp hu with hu | hu
      · exact h.pre u hu
      · rw [List.mem_singleton] at hu
        subst hu
        exact .inl hm, fun u hu => h.suf u (List.mem_cons_of_mem _ hu), h.last⟩⟩
theorem invR_fold {r : Nat} : ∀ (suf pre : List Tie) (s : S), (∀ t ∈ suf, t.1 ≠ t.2.1) → (∃ R, InvR r pre suf s R) → ∃ R, InvR r (pre ++ suf) [] (suf.foldl push1 s) R
  | [], pre, s, _, h => by rw [List.append_nil]; exact h
  | t :: suf, pre, s, hn, ⟨R, h⟩ => by
    have := invR_fold suf (pre ++ [t]) (push1 s t) (fun u hu => hn u (List.mem_cons_of_mem _ hu)) (invR_push h (hn t List.mem_cons_self))
    rw [List.append_assoc] at this
    exact this
theorem invR_iter {es : List Tie} {s : S} (hn : ∀ t ∈ es, t.1 ≠ t.2.1) (h0 : ∀ p, s.way p = none) : ∀ k, ∃ R, InvR (k + 1) es [] (iter es s (k + 1)) R
  | 0 => by
    have := invR_fold (r := 1) es [] { s with last := none } hn ⟨fun _ => 0, fun v t h => by show 0 ≤ _; omega, fun _ _ => rfl, fun _ => by show 0 ≤ 1; decide, fun u hu => (by cases hu), fun u _ => .inr (by show 1 ≤ 0 + 1; decide), fun v h => by cases h⟩
    rw [List.nil_append] at this
    exact this
  | k + 1 => by
    obtain ⟨R, h⟩ := invR_iter hn h0 k
    have := invR_fold (r := k + 2) es [] { iter es s (k + 1) with last := none } hn ⟨R, fun v t hv => h.way v t hv, fun v hv => h.has v hv, fun v => Nat.le_succ_of_le (h.top v), fun u hu => (by cases hu), fun u hu => by
      rcases h.pre u hu with a | a
      · exact .inl a
      · exact .inr (by omega), fun v h => by cases h⟩
    rw [List.nil_append] at this
    exact this
/-- ties in a ring that come to more than nothing -/
structure Ring (es : List Tie) (rs : List Tie) : Prop where
  ne : rs ≠ []
  mem : ∀ r ∈ rs, r ∈ es
  link : ∀ (i : Nat) (t u : Tie), rs[i]? = some t → rs[i + 1]? = some u → t.2.1 = u.1
  clos : ∀ (t u : Tie), rs[0]? = some t → rs[rs.length - 1]? = some u → u.2.1 = t.1
  nodup : ∀ (i j : Nat) (t u : Tie), rs[i]? = some t → rs[j]? = some u → t.1 = u.1 → i = j
  sum : 0 < (rs.map (·.2.2)).sum
/-- what the ways show when pushing has not ended -/
structure Runs (es : List Tie) (w : Int → Option Tie) (n : Nat) (v b : Int) (q : Nat) : Prop where
  steps : ∀ k, k < n → ∃ t, w (go w k v) = some t ∧ t.2.1 = go w (k + 1) v
  begin : b = go w n v
  pos : 1 ≤ q
  le : q < n
  back : go w q b = b
  first : ∀ k, 0 < k → k < q → go w k b ≠ b
  all : ∀ k, ∃ t, w (go w k b) = some t ∧ t.1 = go w k b ∧ t.2.1 = go w (k + 1) b
  ring : Ring es ((List.range q).map fun k => wy w (go w k b))
theorem sum_range (f : Nat → Int) (n : Nat) : ((List.range (n + 1)).map f).sum = ((List.range n).map f).sum + f n := by
  rw [List.range_succ, List.map_append, List.sum_append]
  simp
theorem runs {lanes : Nat} {es : List Tie} {s : S} (hn : ∀ t ∈ es, t.1 ≠ t.2.1) (hp : ∀ t ∈ es, (-1 ≤ t.1 ∧ t.1 < lanes) ∧ -1 ≤ t.2.1 ∧ t.2.1 < lanes) (h0 : ∀ p, s.way p = none) {v : Int} (hl : (iter es s (lanes + 2)).last = some v) :
    ∃ q, Runs es (iter es s (lanes + 2)).way (lanes + 2) v (go (iter es s (lanes + 2)).way (lanes + 2) v) q := by
  obtain ⟨R, hR⟩ := invR_iter hn h0 (lanes + 1)
  obtain ⟨T, c, hT⟩ := invT_iter hn h0 (lanes + 2)
  generalize hs : iter es s (lanes + 2) = f at hl hT ⊢
  have hR : InvR (lanes + 2) es [] f R := by rw [← hs]; exact hR
  have wyS : ∀ u t, f.way u = some t → wy f.way u = t ∧ nx f.way u = t.2.1 := fun u t h => by
    have : wy f.way u = t := by unfold wy; rw [h]; rfl
    exact ⟨this, by unfold nx; rw [this]⟩
  have rnd : ∀ k, k ≤ lanes + 2 → lanes + 2 - k ≤ R (go f.way k v) := by
    intro k
    induction k with
    | zero => intro _; show _ ≤ R v; rw [hR.last v hl]; exact Nat.sub_le _ _
    | succ k ih =>
      intro hk
      have a := ih (by omega)
      cases hw : f.way (go f.way k v) with
      | none =>
        have := hR.has _ hw
        omega
      | some t =>
        have b := hR.way _ _ hw
        have e : go f.way (k + 1) v = t.2.1 := (wyS _ _ hw).2
        rw [e]
        omega
  have some1 : ∀ k, k < lanes + 2 → ∃ t, f.way (go f.way k v) = some t ∧ t.1 = go f.way k v ∧ t.2.1 = go f.way (k + 1) v := fun k hk => by
    cases hw : f.way (go f.way k v) with
    | none =>
      have := hR.has _ hw
      have := rnd k (by omega)
      omega
    | some t => exact ⟨t, rfl, (hT.2 _ _ hw).1, ((wyS _ _ hw).2).symm⟩
  obtain ⟨i, j, hij, hj, e⟩ := pigeon (lanes + 1) (fun k => go f.way k v) (-1) (fun k hk => by
    obtain ⟨t, h1, h2, _⟩ := some1 k (by omega)
    have a := hp t (hT.2 _ _ h1).2.1
    rw [h2] at a
    show -1 ≤ go f.way k v ∧ go f.way k v < -1 + ((lanes + 1 : Nat) : Int)
    omega)
  have e : go f.way i v = go f.way j v := e
  -- from i on, the way turns with period j - i
  have per : ∀ k, go f.way (i + k + (j - i)) v = go f.way (i + k) v := fun k => by
    have : i + k + (j - i) = j + k := by omega
    rw [this, go_add, go_add, e]
  have all1 : ∀ k, ∃ t, f.way (go f.way (i + k) v) = some t ∧ t.1 = go f.way (i + k) v ∧ t.2.1 = go f.way (i + k + 1) v := by
    intro k
    induction k using Nat.strongRecOn with
    | _ k ih =>
      by_cases hk : i + k < lanes + 2
      · exact some1 _ hk
      · have := ih (k - (j - i)) (by omega)
        have e1 : go f.way (i + k) v = go f.way (i + (k - (j - i))) v := by
          have := per (k - (j - i))
          have e2 : i + (k - (j - i)) + (j - i) = i + k := by omega
          rw [e2] at this
          exact this
        have e3 : go f.way (i + k + 1) v = go f.way (i + (k - (j - i)) + 1) v := congrArg (nx f.way) e1
        rw [e1, e3]
        exact this
  generalize hb : go f.way (lanes + 2) v = b
  have gb : ∀ k, go f.way k b = go f.way (i + (lanes + 2 - i + k)) v := fun k => by
    have : i + (lanes + 2 - i + k) = lanes + 2 + k := by omega
    rw [this, go_add, hb]
  have all : ∀ k, ∃ t, f.way (go f.way k b) = some t ∧ t.1 = go f.way k b ∧ t.2.1 = go f.way (k + 1) b := fun k => by
    have := all1 (lanes + 2 - i + k)
    rw [gb k, gb (k + 1)]
    exact this
  have hper : go f.way (j - i) b = b := by
    rw [gb]
    have := per (lanes + 2 - i)
    have e1 : i + (lanes + 2 - i) + (j - i) = i + (lanes + 2 - i + (j - i)) := by omega
    rw [e1] at this
    rw [this]
    have e2 : i + (lanes + 2 - i) = lanes + 2 := by omega
    rw [e2, hb]
  -- the first return
  have least : ∀ n, 1 ≤ n → go f.way n b = b → ∃ q, 1 ≤ q ∧ q ≤ n ∧ go f.way q b = b ∧ ∀ k, 0 < k → k < q → go f.way k b ≠ b := by
    intro n
    induction n using Nat.strongRecOn with
    | _ n ih =>
      intro h1 h2
      by_cases d : ∃ k, 0 < k ∧ k < n ∧ go f.way k b = b
      · obtain ⟨k, a, b', c'⟩ := d
        obtain ⟨q, q1, q2, q3⟩ := ih k b' a c'
        exact ⟨q, q1, by omega, q3⟩
      · exact ⟨n, h1, Nat.le_refl _, h2, fun k a b' c' => d ⟨k, a, b', c'⟩⟩
  obtain ⟨q, q1, q2, q3, q4⟩ := least (j - i) (by omega) hper
  have edge : ∀ k, wy f.way (go f.way k b) ∈ es ∧ (wy f.way (go f.way k b)).1 = go f.way k b ∧ (wy f.way (go f.way k b)).2.1 = go f.way (k + 1) b ∧ f.row (go f.way k b) ≤ f.row (go f.way (k + 1) b) + (wy f.way (go f.way k b)).2.2 ∧
      (T (go f.way k b) ≤ T (go f.way (k + 1) b) → f.row (go f.way k b) < f.row (go f.way (k + 1) b) + (wy f.way (go f.way k b)).2.2) := fun k => by
    obtain ⟨t, h1, h2, h3⟩ := all k
    obtain ⟨a, b', c', d⟩ := hT.2 _ _ h1
    rw [(wyS _ _ h1).1]
    rw [h3] at c' d
    exact ⟨b', h2, h3, c', d⟩
  have tele : ∀ n, f.row b ≤ f.row (go f.way n b) + ((List.range n).map fun k => (wy f.way (go f.way k b)).2.2).sum ∧
      (T (go f.way n b) + n ≤ T b ∨ f.row b < f.row (go f.way n b) + ((List.range n).map fun k => (wy f.way (go f.way k b)).2.2).sum) := by
    intro n
    induction n with
    | zero => exact ⟨by show f.row b ≤ f.row b + 0; omega, .inl (Nat.le_refl _)⟩
    | succ n ih =>
      obtain ⟨a, b'⟩ := ih
      obtain ⟨_, _, _, c', d⟩ := edge n
      rw [sum_range]
      refine ⟨by omega, ?_⟩
      by_cases z : T (go f.way n b) ≤ T (go f.way (n + 1) b)
      · have := d z
        right
        omega
      · rcases b' with b' | b'
        · left; omega
        · right; omega
  have inj : ∀ x y, x < y → y < q → go f.way x b ≠ go f.way y b := fun x y hx hy e => by
    have e1 : go f.way (x + (q - y)) b = go f.way (y + (q - y)) b := by rw [go_add, go_add, e]
    rw [show y + (q - y) = q by omega, q3] at e1
    exact q4 _ (by omega) (by omega) e1
  have get : ∀ x t, ((List.range q).map fun k => wy f.way (go f.way k b))[x]? = some t → x < q ∧ t = wy f.way (go f.way x b) := fun x t h => by
    rw [List.getElem?_map] at h
    obtain ⟨z, hz, rfl⟩ := Option.map_eq_some_iff.mp h
    obtain ⟨hz1, hz2⟩ := List.getElem?_eq_some_iff.mp hz
    rw [List.length_range] at hz1
    rw [List.getElem_range] at hz2
    subst hz2
    exact ⟨hz1, rfl⟩
  refine ⟨q, ⟨fun k hk => ?_, hb.symm ▸ rfl, q1, by omega, q3, q4, all, ⟨?_, ?_, ?_, ?_, ?_, ?_⟩⟩⟩
  · obtain ⟨t, h1, _, h3⟩ := some1 k hk
    exact ⟨t, h1, h3⟩
  · intro h
    have := congrArg List.length h
    rw [List.length_map, List.length_range] at this
    have : q = 0 := this
    omega
  · intro r hr
    obtain ⟨k, _, rfl⟩ := List.mem_map.mp hr
    exact (edge k).1
  · intro x t u h1 h2
    obtain ⟨a, rfl⟩ := get _ _ h1
    obtain ⟨b', rfl⟩ := get _ _ h2
    rw [(edge x).2.2.1, (edge (x + 1)).2.1]
  · intro t u h1 h2
    rw [List.length_map, List.length_range] at h2
    obtain ⟨a, rfl⟩ := get _ _ h1
    obtain ⟨b', rfl⟩ := get _ _ h2
    rw [(edge (q - 1)).2.2.1, (edge 0).2.1, show q - 1 + 1 = q by omega, q3]
    rfl
  · intro x y t u h1 h2 e
    obtain ⟨a, rfl⟩ := get _ _ h1
    obtain ⟨b', rfl⟩ := get _ _ h2
    rw [(edge x).2.1, (edge y).2.1] at e
    rcases Nat.lt_trichotomy x y with h | h | h
    · exact (inj x y h b' e).elim
    · exact h
    · exact (inj y x h a e.symm).elim
  · rw [List.map_map]
    have := (tele q).2
    rw [q3] at this
    have e1 : ((List.range q).map ((fun (x : Tie) => x.2.2) ∘ fun k => wy f.way (go f.way k b))).sum = ((List.range q).map fun k => (wy f.way (go f.way k b)).2.2).sum := rfl
    rw [e1]
    rcases this with h | h
    · omega
    · omega
/-- no amounts meet the ties of a ring -/
theorem Ring.bars {es rs : List Tie} (h : Ring es rs) (x : Int → Int) (hx : ∀ r ∈ rs, Met x r) : False := by
  have key : ∀ (n : Nat) (t u : Tie), n < rs.length → rs[0]? = some t → rs[n]? = some u → x u.2.1 + ((rs.take (n + 1)).map (·.2.2)).sum ≤ x t.1 := by
    intro n
    induction n with
    | zero =>
      intro t u _ h1 h2
      rw [h1] at h2
      cases h2
      have := hx t (List.mem_of_getElem? h1)
      have : x t.2.1 + t.2.2 ≤ x t.1 := this
      rw [List.take_add_one, h1]
      simp
      exact this
    | succ n ih =>
      intro t u hl h1 h2
      have hn : rs[n]? = some rs[n] := List.getElem?_eq_getElem (by omega)
      have a := ih t rs[n] (by omega) h1 hn
      have b := h.link n _ _ hn h2
      have c := hx u (List.mem_of_getElem? h2)
      have c : x u.2.1 + u.2.2 ≤ x u.1 := c
      rw [b] at a
      rw [List.take_add_one, h2, List.map_append, List.sum_append]
      have e1 : ((some u).toList.map fun (z : Tie) => z.2.2).sum = u.2.2 := by simp
      rw [e1]
      omega
  have hl : 0 < rs.length := List.length_pos_iff.mpr h.ne
  have a := key (rs.length - 1) rs[0] rs[rs.length - 1] (by omega) (List.getElem?_eq_getElem hl) (List.getElem?_eq_getElem (by omega))
  have b := h.clos _ _ (List.getElem?_eq_getElem hl) (List.getElem?_eq_getElem (by omega))
  rw [List.take_of_length_le (by omega)] at a
  have c := h.sum
  rw [b] at a
  omega
end Lm
namespace Ls
open PySem PySem.Spec PyProof.Rows L2
/-! ### ties -/
abbrev Tie := Lm.Tie
def tieD (t : Tie) : PyData := .tuple [.int t.1, .int t.2.1, .int t.2.2]
def GoodT (lanes wide : Int) (t : Tie) : Prop := 0 ≤ t.1 ∧ t.1 < lanes ∧ 0 ≤ t.2.1 ∧ t.2.1 < lanes ∧ t.1 ≠ t.2.1 ∧ -wide ≤ t.2.2 ∧ t.2.2 ≤ wide
/-- a list of ties -/
def TieL (K : PySem.W.Frag) (H : Hp) (vs : List V) (ts : List Tie) : Prop := ImAll K H vs (ts.map tieD)
theorem TieL.mono {K : PySem.W.Frag} {H H' : Hp} {vs : List V} {ts : List Tie} (t : Tp K H H') (h : TieL K H vs ts) : TieL K H' vs ts := ImAll.mono t h
theorem TieL.len {K : PySem.W.Frag} {H : Hp} {vs : List V} {ts : List Tie} (h : TieL K H vs ts) : vs.length = ts.length := by
  have := ImAll.length h
  rwa [List.length_map] at this
theorem TieL.snoc {K : PySem.W.Frag} {H : Hp} {vs : List V} {ts : List Tie} {p : Addr} {a b c : Int} (h : TieL K H vs ts) (hp : SqT K H p [.int a, .int b, .int c]) : TieL K H (vs ++ [.ref p]) (ts ++ [(a, b, c)]) := by
  unfold TieL
  rw [List.map_append]
  exact ImAll.snoc h (.tup hp (.cons (.int a) (.cons (.int b) (.cons (.int c) .nil))))
theorem TieL.app {K : PySem.W.Frag} {H : Hp} {vs us : List V} {ts ss : List Tie} (h : TieL K H vs ts) (h2 : TieL K H us ss) : TieL K H (vs ++ us) (ts ++ ss) := by
  unfold TieL
  rw [List.map_append]
  exact ImAll.app h h2
theorem tie_of {K : PySem.W.Frag} {H : Hp} {v : V} {t : Tie} (h : Im K H v (tieD t)) : ∃ a, v = .ref a ∧ SqT K H a [.int t.1, .int t.2.1, .int t.2.2] := by
  obtain ⟨a, xs, rfl, h1, h2⟩ := im_tup h
  refine ⟨a, rfl, ?_⟩
  cases h2 with
  | cons a1 r1 =>
    cases r1 with
    | cons a2 r2 =>
      cases r2 with
      | cons a3 r3 =>
        cases r3
        cases im_int a1
        cases im_int a2
        cases im_int a3
        exact h1
theorem TieL.get {K : PySem.W.Frag} {H : Hp} {vs : List V} {ts : List Tie} {i : Nat} {v : V} (h : TieL K H vs ts) (e : vs[i]? = some v) : ∃ t a, ts[i]? = some t ∧ v = .ref a ∧ SqT K H a [.int t.1, .int t.2.1, .int t.2.2] := by
  obtain ⟨d, h1, h2⟩ := ImAll.get h e
  rw [List.getElem?_map] at h1
  obtain ⟨t, ht, rfl⟩ := Option.map_eq_some_iff.mp h1
  obtain ⟨a, rfl, h3⟩ := tie_of h2
  exact ⟨t, a, ht, rfl, h3⟩
theorem TieL.take {K : PySem.W.Frag} {H : Hp} {vs : List V} {ts : List Tie} (n : Nat) (h : TieL K H vs ts) : TieL K H (vs.take n) (ts.take n) := by
  unfold TieL
  rw [List.map_take]
  exact ImAll.take n h
theorem TieL.drop {K : PySem.W.Frag} {H : Hp} {vs : List V} {ts : List Tie} (n : Nat) (h : TieL K H vs ts) : TieL K H (vs.drop n) (ts.drop n) := by
  unfold TieL
  rw [List.map_drop]
  exact ImAll.drop n h
def spTies (K : PySem.W.Frag) : Sp := fun vs H Q _ => ∃ (d c : Addr) (lanes wide : Int), vs = [.ref d, .int lanes, .int wide] ∧ Draw K H d c ∧ 1 ≤ lanes ∧ lanes < 1000 ∧ 0 ≤ wide ∧ wide < 10000000 ∧
  ∀ p us ts H', H p = none → Keep d H H' → Draw K H' d c → H' p = some (.lst us) → TieL K H' us ts → ts.length ≤ 15 → (∀ t ∈ ts, GoodT lanes wide t) → Q (.ref p) H'
theorem use_ties {K : PySem.W.Frag} {d c : Addr} {lanes wide : Int} {H : Hp} {Q : VK} {E : XK} (hD : Draw K H d c) (h1 : 1 ≤ lanes) (h2 : lanes < 1000) (h3 : 0 ≤ wide) (h4 : wide < 10000000)
    (q : ∀ p us ts H', H p = none → Keep d H H' → Draw K H' d c → H' p = some (.lst us) → TieL K H' us ts → ts.length ≤ 15 → (∀ t ∈ ts, GoodT lanes wide t) → Q (.ref p) H') : spTies K ([.ref d, .int lanes, .int wide] ++ []) H Q E := ⟨d, c, lanes, wide, rfl, hD, h1, h2, h3, h4, q⟩
def moveT (lanes by' : Int) (t : Tie) : Tie := ((t.1 + by') % lanes, (t.2.1 + by') % lanes, t.2.2)
def spMoved (K : PySem.W.Frag) : Sp := fun vs H Q _ => ∃ (a : Addr) (lanes b : Int) (us : List V) (ts : List Tie), vs = [.ref a, .int lanes, .int b] ∧ SqL K H a us ∧ TieL K H us ts ∧ ts.length ≤ 1000 ∧ 0 < lanes ∧
  ∀ p us' H', H p = none → Same H H' → H' p = some (.lst us') → TieL K H' us' (ts.map (moveT lanes b)) → Q (.ref p) H'
theorem use_moved {K : PySem.W.Frag} {a : Addr} {lanes b : Int} {us : List V} {ts : List Tie} {H : Hp} {Q : VK} {E : XK} (h : SqL K H a us) (h1 : TieL K H us ts) (h2 : ts.length ≤ 1000) (h3 : 0 < lanes)
    (q : ∀ p us' H', H p = none → Same H H' → H' p = some (.lst us') → TieL K H' us' (ts.map (moveT lanes b)) → Q (.ref p) H') : spMoved K ([.ref a, .int lanes, .int b] ++ []) H Q E := ⟨a, lanes, b, us, ts, rfl, h, h1, h2, h3, q⟩
end Ls
namespace Ls
open PySem PySem.Spec PyProof.Rows L2
/-! ### the program's own: clocks -/
/-- all but the objects at d and e stays -/
def Keep2 (d e : Addr) (H H' : Hp) : Prop := ∀ b o, b ≠ d → b ≠ e → H b = some o → H' b = some o
theorem Keep2.refl {d e : Addr} {H : Hp} : Keep2 d e H H := fun _ _ _ _ h => h
theorem Keep2.trans {d e : Addr} {H H1 H2 : Hp} (a : Keep2 d e H H1) (b : Keep2 d e H1 H2) : Keep2 d e H H2 := fun c o n m h => b c o n m (a c o n m h)
theorem Keep2.same {d e : Addr} {H H' : Hp} (k : Same H H') : Keep2 d e H H' := fun b o _ _ h => k b o h
theorem Keep2.put1 {d e : Addr} {H H' : Hp} {o : HO} (k : Keep2 d e H H') : Keep2 d e H (upd H' d o) := fun b u n m h => by
  rw [upd_ne n]
  exact k b u n m h
theorem Keep2.put2 {d e : Addr} {H H' : Hp} {o : HO} (k : Keep2 d e H H') : Keep2 d e H (upd H' e o) := fun b u n m h => by
  rw [upd_ne m]
  exact k b u n m h
theorem Keep2.tp {K : PySem.W.Frag} {d e : Addr} {H H' : Hp} {o u : HO} (k : Keep2 d e H H') (h1 : H d = some o) (n1 : NoT o = true) (h2 : H e = some u) (n2 : NoT u = true) : Tp K H H' := fun a xs q => by
  have ne : ∀ z, NoT z = false → H a = some z → a ≠ d := fun z hz e y => by
    rw [y, h1] at e
    cases e
    rw [n1] at hz
    cases hz
  have ne2 : ∀ z, NoT z = false → H a = some z → a ≠ e := fun z hz f y => by
    rw [y, h2] at f
    cases f
    rw [n2] at hz
    cases hz
  rcases q with (q | ⟨z, q⟩) | q
  · exact .inl (.inl (k _ _ (ne _ rfl q) (ne2 _ rfl q) q))
  · exact .inl (.inr ⟨z, k _ _ (ne _ rfl q) (ne2 _ rfl q) q⟩)
  · exact .inr q
theorem sql_keep2 {K : PySem.W.Frag} {d e : Addr} {H H' : Hp} {a : Addr} {xs : List V} {kvs kus : List (Key × V)} (k : Keep2 d e H H') (hd : H d = some (.dK kvs)) (he : H e = some (.dK kus)) (h : SqL K H a xs) : SqL K H' a xs := by
  have ne : ∀ (f : Addr) (kvs : List (Key × V)) u, H f = some (.dK kvs) → (∀ ks, u ≠ .dK ks) → H a = some u → a ≠ f := fun f kvs u hf hu e z => by
    rw [z, hf] at e
    exact hu _ (Option.some.inj e).symm
  rcases h with (q | ⟨u, q⟩) | q
  · exact .inl (.inl (k _ _ (ne _ _ _ hd (fun _ z => by cases z) q) (ne _ _ _ he (fun _ z => by cases z) q) q))
  · exact .inl (.inr ⟨u, k _ _ (ne _ _ _ hd (fun _ z => by cases z) q) (ne _ _ _ he (fun _ z => by cases z) q) q⟩)
  · exact .inr q
theorem Keep2.free {d e p : Addr} {H H' : Hp} {o u : HO} (k : Keep2 d e H H') (hd : H' d = some o) (he : H' e = some u) (h : H' p = none) : H p = none := by
  cases q : H p with
  | none => rfl
  | some z =>
    by_cases a : p = d
    · rw [a, hd] at h; cases h
    · by_cases b : p = e
      · rw [b, he] at h; cases h
      · rw [k p z a b q] at h; cases h
theorem k_dc {wi : TI} {g : TG} {tt : TT} {tk tv : TE} {vs : List Nat} {σ : L2.St} {H : Hp} {Q : VK} (h : wi σ H fun J H1 => ∀ D, H1 D = none → ∃ W : Nat → Nat → Hp → Prop, (∃ m, W 0 m (upd H1 D (.dK []))) ∧ ∀ i m H, W i m H →
  (J.stop i H ∧ Q (.ref D) H) ∨ (J.go i H ∧ ∃ Nx : Hp → Prop, (∀ H', Nx H' → ∃ m', m' < m ∧ W (i + 1) m' H') ∧ ∀ x H', J.yld i H x H' → g x (wipe σ vs) H' fun σ2 H2 => wipe σ2 vs = wipe σ vs ∧ tt σ2 H2 fun b H3 =>
    if b = true then tk σ2 H3 fun y H4 => tv σ2 H4 fun z H5 => ∃ kvs k, y = kV k ∧ H5 D = some (.dK kvs) ∧ kvs.length < sizeLine ∧ Nx (upd H5 D (.dK (putK kvs k z))) else Nx H3)) : tDc wi g tt tk tv vs σ H Q := h
theorem it_range {lo : Int} {n : Nat} {H0 : Hp} {Qd : Hp → Prop} {B : (Hp → Prop) → V → Hp → Prop} (Pv : Nat → Hp → Prop) (h0 : Pv 0 H0) (hs : ∀ i H, i < n → Pv i H → B (Pv (i + 1)) (.int (lo + i)) H) (hd : ∀ H, Pv n H → Qd H) :
    ∃ W : Nat → Nat → Hp → Prop, (∃ m, W 0 m H0) ∧ ∀ i m H, W i m H → ((Itr lo n).stop i H ∧ Qd H) ∨ ((Itr lo n).go i H ∧ ∃ Nx : Hp → Prop, (∀ H', Nx H' → ∃ m', m' < m ∧ W (i + 1) m' H') ∧ ∀ x H', (Itr lo n).yld i H x H' → B Nx x H') := by
  refine ⟨fun i m H => m = n - i ∧ i ≤ n ∧ Pv i H, ⟨n, (Nat.sub_zero n).symm, Nat.zero_le _, h0⟩, ?_⟩
  rintro i m H ⟨rfl, hi, p⟩
  by_cases hlt : i < n
  · exact .inr ⟨hlt, Pv (i + 1), fun H' p' => ⟨n - (i + 1), by omega, rfl, hlt, p'⟩, fun x H' ⟨e1, e2⟩ => by subst e1 e2; exact hs i _ hlt p⟩
  · have e : i = n := by omega
    subst e
    exact .inl ⟨Nat.le_refl _, hd H p⟩
theorem Keep2.over {d e : Addr} {H H1 H2 : Hp} (k : Keep2 d e H1 H2) (s : Same H H1) (hd : H d = none) (he : H e = none) : Same H H2 := fun b o h => k b o (ne_of_none h hd) (ne_of_none h he) (s b o h)
/-- amounts by places, in a dict -/
def RowK (n : Int) (kvs : List (Key × V)) (r : Int → Int) : Prop := (∀ p, -1 ≤ p → p < n → valV kvs (.inl p) = some (.int (r p))) ∧ kvs.length ≤ 1000
theorem RowK.put {n : Int} {kvs : List (Key × V)} {r : Int → Int} {p x : Int} (h : RowK n kvs r) (h1 : -1 ≤ p) (h2 : p < n) : RowK n (putK kvs (.inl p) (.int x)) (fun q => if q = p then x else r q) := by
  refine ⟨fun q q1 q2 => ?_, ?_⟩
  · rw [valV_put, h.1 q q1 q2]
    show _ = some (V.int (if q = p then x else r q))
    by_cases e : q = p
    · rw [if_pos (by rw [e]), if_pos e]
    · rw [if_neg (fun z => e (Sum.inl.inj z)), if_neg e]
  · rw [put_of (h.1 p h1 h2), List.length_map]
    exact h.2
/-- the ties that pushed places, in a dict -/
def WayK (K : PySem.W.Frag) (H : Hp) (kvs : List (Key × V)) (w : Int → Option Tie) : Prop := ∀ p, (w p = none → valV kvs (.inl p) = none) ∧ ∀ t, w p = some t → ∃ a, valV kvs (.inl p) = some (.ref a) ∧ SqT K H a [.int t.1, .int t.2.1, .int t.2.2]
theorem WayK.mono {K : PySem.W.Frag} {H H' : Hp} {kvs : List (Key × V)} {w : Int → Option Tie} (h : WayK K H kvs w) (t : Tp K H H') : WayK K H' kvs w := fun p => ⟨(h p).1, fun u hu => by
  obtain ⟨a, h1, h2⟩ := (h p).2 u hu
  exact ⟨a, h1, t _ _ h2⟩⟩
theorem WayK.put {K : PySem.W.Frag} {H : Hp} {kvs : List (Key × V)} {w : Int → Option Tie} {p : Int} {t : Tie} {a : Addr} (h : WayK K H kvs w) (ht : SqT K H a [.int t.1, .int t.2.1, .int t.2.2]) : WayK K H (putK kvs (.inl p) (.ref a)) (fun q => if q = p then some t else w q) := fun q => by
  rw [valV_put]
  show ((if q = p then some t else w q) = none → _) ∧ ∀ u, (if q = p then some t else w q) = some u → _
  by_cases e : q = p
  · rw [if_pos e, if_pos (by rw [e])]
    refine ⟨fun z => by (cases z), fun u hu => ?_⟩
    cases hu
    exact ⟨a, rfl, ht⟩
  · rw [if_neg e, if_neg (fun z => e (Sum.inl.inj z))]
    exact h q
def bnd (n : Nat) (most : Int) : List Tie := ((List.range n).map fun (i : Nat) => ((i : Int), (-1 : Int), (0 : Int))) ++ (List.range n).map fun (i : Nat) => ((-1 : Int), (i : Int), -most)
def lastV : Option Int → V
  | none => .non
  | some p => .int p
def spLook (K : PySem.W.Frag) : Sp := fun vs H Q _ => ∃ (lanes most : Int) (a : Addr) (us : List V) (ts : List Tie), vs = [.int lanes, .ref a, .int most] ∧ 1 ≤ lanes ∧ lanes ≤ 6 ∧ 0 ≤ most ∧ most ≤ 1000000000000 ∧ SqL K H a us ∧ TieL K H us ts ∧ (∀ t ∈ ts, GoodT lanes 999999 t) ∧ Q .non H
def spBounds (K : PySem.W.Frag) : Sp := fun vs H Q _ => ∃ (n : Nat) (most : Int), vs = [.int n, .int most] ∧ n ≤ 6 ∧ ∀ p us H', H p = none → Same H H' → H' p = some (.lst us) → TieL K H' us (bnd n most) → Q (.ref p) H'
def spPushed (K : PySem.W.Frag) : Sp := fun vs H Q _ => ∃ (n : Int) (rw' l wa : Addr) (kr kw : List (Key × V)) (us : List V) (ts : List Tie) (s : Lm.S), vs = [.ref rw', .ref l, .ref wa] ∧ rw' ≠ wa ∧ H rw' = some (.dK kr) ∧ RowK n kr s.row ∧ H wa = some (.dK kw) ∧ WayK K H kw s.way ∧
  SqL K H l us ∧ TieL K H us ts ∧ (∀ t ∈ ts, (-1 ≤ t.1 ∧ t.1 < n) ∧ -1 ≤ t.2.1 ∧ t.2.1 < n) ∧ kw.length + ts.length ≤ 1000000 ∧
  ∀ H' kr' kw', Keep2 rw' wa H H' → H' rw' = some (.dK kr') → RowK n kr' (Lm.pushedS s ts).row → H' wa = some (.dK kw') → WayK K H' kw' (Lm.pushedS s ts).way → kw'.length ≤ kw.length + ts.length → Q (lastV (Lm.pushedS s ts).last) H'
/-- nothing pushed yet -/
def s0 : Lm.S := ⟨fun _ => 0, fun _ => none, none⟩
def spSettled (K : PySem.W.Frag) : Sp := fun vs H Q _ => ∃ (n : Nat) (most : Int) (l : Addr) (us : List V) (ts : List Tie), vs = [.int n, .ref l, .int most] ∧ 1 ≤ n ∧ n ≤ 6 ∧ H l = some (.lst us) ∧ TieL K H us ts ∧ (∀ t ∈ ts, GoodT n 999999 t) ∧ ts.length ≤ 1000 ∧
  ∀ t rw' wa kr kw k H', Same H H' → SqT K H' t [.ref rw', .ref wa, lastV (Lm.iter (bnd n most ++ ts) s0 k).last] → H' rw' = some (.dK kr) → RowK n kr (Lm.iter (bnd n most ++ ts) s0 k).row → H' wa = some (.dK kw) → WayK K H' kw (Lm.iter (bnd n most ++ ts) s0 k).way →
    k ≤ n + 2 → 0 < k → ((Lm.iter (bnd n most ++ ts) s0 k).last = none ∨ k = n + 2) → Q (.ref t) H'
theorem bnd_ok {n : Nat} {most : Int} : ∀ t ∈ bnd n most, (-1 ≤ t.1 ∧ t.1 < n) ∧ (-1 ≤ t.2.1 ∧ t.2.1 < n) ∧ t.1 ≠ t.2.1 := by
  intro t ht
  rcases List.mem_append.mp ht with ht | ht
  · obtain ⟨i, hi, rfl⟩ := List.mem_map.mp ht
    have := List.mem_range.mp hi
    exact ⟨⟨by show -1 ≤ (i : Int); omega, by show (i : Int) < n; omega⟩, ⟨by show (-1 : Int) ≤ -1; omega, by show (-1 : Int) < n; omega⟩, by show (i : Int) ≠ -1; omega⟩
  · obtain ⟨i, hi, rfl⟩ := List.mem_map.mp ht
    have := List.mem_range.mp hi
    exact ⟨⟨by show (-1 : Int) ≤ -1; omega, by show (-1 : Int) < n; omega⟩, ⟨by show -1 ≤ (i : Int); omega, by show (i : Int) < n; omega⟩, by show (-1 : Int) ≠ (i : Int); omega⟩
theorem all_ok {n : Nat} {most : Int} {ts : List Tie} (h : ∀ t ∈ ts, GoodT n 999999 t) : ∀ t ∈ bnd n most ++ ts, (-1 ≤ t.1 ∧ t.1 < n) ∧ (-1 ≤ t.2.1 ∧ t.2.1 < n) ∧ t.1 ≠ t.2.1 := by
  intro t ht
  rcases List.mem_append.mp ht with ht | ht
  · exact bnd_ok t ht
  · obtain ⟨a, b, c, d, e, _⟩ := h t ht
    exact ⟨⟨by omega, b⟩, ⟨by omega, d⟩, e⟩
theorem bnd_len {n : Nat} {most : Int} : (bnd n most).length = 2 * n := by
  unfold bnd
  rw [List.length_append, List.length_map, List.length_map, List.length_range]
  omega
end Ls
namespace Ls
open PySem PySem.Spec PyProof.Rows L2
/-! ### what amounts and ring answer -/
/-- amounts that lie within their bounds and meet the ties -/
def FeasT (n : Nat) (most : Int) (ts : List Tie) (x : Int → Int) : Prop := (∀ p : Int, 0 ≤ p → p < n → 0 ≤ x p ∧ x p ≤ most) ∧ ∀ t ∈ ts, Lm.Met x t
def LeastT (n : Nat) (most : Int) (ts : List Tie) (x : Int → Int) : Prop := FeasT n most ts x ∧ ∀ y, FeasT n most ts y → ∀ p : Int, 0 ≤ p → p < n → x p ≤ y p
def places (n : Nat) : List Int := (List.range (n + 1)).map fun (i : Nat) => (i : Int) - 1
theorem mem_places {n : Nat} {p : Int} : p ∈ places n ↔ -1 ≤ p ∧ p < n := by
  constructor
  · intro h
    obtain ⟨i, hi, rfl⟩ := List.mem_map.mp h
    have := List.mem_range.mp hi
    omega
  · intro h
    exact List.mem_map.mpr ⟨(p + 1).toNat, List.mem_range.mpr (by omega), by omega⟩
theorem sol_of {n : Nat} {most : Int} {ts : List Tie} {x : Int → Int} (h0 : ∀ t ∈ ts, GoodT n 999999 t) (h : FeasT n most ts x) : Lm.Sol (places n) (bnd n most ++ ts) (fun p => if 0 ≤ p ∧ p < n then x p else 0) := by
  refine ⟨fun p hp => ?_, ?_, fun t ht => ?_⟩
  · show 0 ≤ if 0 ≤ p ∧ p < n then x p else 0
    by_cases c : 0 ≤ p ∧ p < n
    · rw [if_pos c]; exact (h.1 p c.1 c.2).1
    · rw [if_neg c]; exact Int.le_refl _
  · show (if 0 ≤ (-1 : Int) ∧ (-1 : Int) < n then x (-1) else 0) = 0
    rw [if_neg (by omega)]
  · show (if 0 ≤ t.2.1 ∧ t.2.1 < n then x t.2.1 else 0) + t.2.2 ≤ (if 0 ≤ t.1 ∧ t.1 < n then x t.1 else 0)
    rcases List.mem_append.mp ht with ht | ht
    · rcases List.mem_append.mp ht with ht | ht
      · obtain ⟨i, hi, rfl⟩ := List.mem_map.mp ht
        have hi := List.mem_range.mp hi
        have := h.1 (i : Int) (by omega) (by omega)
        show (if 0 ≤ (-1 : Int) ∧ (-1 : Int) < n then x (-1) else 0) + 0 ≤ (if 0 ≤ (i : Int) ∧ (i : Int) < n then x i else 0)
        rw [if_neg (by omega), if_pos (by omega)]
        omega
      · obtain ⟨i, hi, rfl⟩ := List.mem_map.mp ht
        have hi := List.mem_range.mp hi
        have := h.1 (i : Int) (by omega) (by omega)
        show (if 0 ≤ (i : Int) ∧ (i : Int) < n then x i else 0) + -most ≤ (if 0 ≤ (-1 : Int) ∧ (-1 : Int) < n then x (-1) else 0)
        rw [if_pos (by omega), if_neg (by omega)]
        omega
    · obtain ⟨a, b, c, d, _⟩ := h0 t ht
      rw [if_pos ⟨c, d⟩, if_pos ⟨a, b⟩]
      exact h.2 t ht
theorem feas_of {n : Nat} {most : Int} {ts : List Tie} {y : Int → Int} (h : Lm.Sol (places n) (bnd n most ++ ts) y) : FeasT n most ts y := by
  refine ⟨fun p p0 p1 => ⟨h.1 p (mem_places.mpr ⟨by omega, p1⟩), ?_⟩, fun t ht => h.2.2 t (List.mem_append_right _ ht)⟩
  have a := h.2.2 (-1, p, -most) (List.mem_append_left _ (List.mem_append_right _ (List.mem_map.mpr ⟨p.toNat, List.mem_range.mpr (by omega), by rw [Int.toNat_of_nonneg p0]⟩)))
  have a : y p + -most ≤ y (-1) := a
  have b := h.2.1
  omega
theorem iter_some {n : Nat} {most : Int} {ts : List Tie} (h0 : ∀ t ∈ ts, GoodT n 999999 t) {v : Int} (hl : (Lm.iter (bnd n most ++ ts) s0 (n + 2)).last = some v) (x : Int → Int) : ¬ FeasT n most ts x := fun h => by
  have := Lm.ends (s := s0) (sol_of h0 h) (fun t ht => ⟨mem_places.mpr (all_ok h0 t ht).1, mem_places.mpr (all_ok h0 t ht).2.1⟩) (fun _ => rfl) (mem_places.mpr ⟨by omega, by omega⟩) (k := n + 1) (by unfold places; rw [List.length_map, List.length_range]; omega)
  rw [show n + 1 + 1 = n + 2 from rfl] at this
  rw [hl] at this
  cases this
theorem iter_none {n : Nat} {most : Int} {ts : List Tie} (h0 : ∀ t ∈ ts, GoodT n 999999 t) {k : Nat} (hk : 0 < k) (hl : (Lm.iter (bnd n most ++ ts) s0 k).last = none) : LeastT n most ts (Lm.iter (bnd n most ++ ts) s0 k).row := by
  obtain ⟨j, rfl⟩ : ∃ j, k = j + 1 := ⟨k - 1, by omega⟩
  obtain ⟨a, b, c⟩ := Lm.least (s := s0) (ps := places n) (fun t ht => ⟨mem_places.mpr (all_ok h0 t ht).1, mem_places.mpr (all_ok h0 t ht).2.1⟩) (fun _ => rfl) (mem_places.mpr ⟨by omega, by omega⟩) hl (fun p hp hn => by
    have := mem_places.mp hp
    exact List.mem_append_left _ (List.mem_append_left _ (List.mem_map.mpr ⟨p.toNat, List.mem_range.mpr (by omega), by rw [Int.toNat_of_nonneg (by omega)]⟩)))
  rw [c] at a
  have e : (fun p => (Lm.iter (bnd n most ++ ts) s0 (j + 1)).row p - 0) = (Lm.iter (bnd n most ++ ts) s0 (j + 1)).row := by
    funext p
    omega
  rw [e] at a
  refine ⟨feas_of a, fun y hy p p0 p1 => ?_⟩
  have := b _ (sol_of h0 hy) p (mem_places.mpr ⟨by omega, p1⟩)
  have : (Lm.iter (bnd n most ++ ts) s0 (j + 1)).row p ≤ if 0 ≤ p ∧ p < n then y p else 0 := this
  rw [if_pos ⟨p0, p1⟩] at this
  exact this
theorem iter_runs {n : Nat} {most : Int} {ts : List Tie} (h0 : ∀ t ∈ ts, GoodT n 999999 t) {v : Int} (hl : (Lm.iter (bnd n most ++ ts) s0 (n + 2)).last = some v) :
    ∃ q, Lm.Runs (bnd n most ++ ts) (Lm.iter (bnd n most ++ ts) s0 (n + 2)).way (n + 2) v (Lm.go (Lm.iter (bnd n most ++ ts) s0 (n + 2)).way (n + 2) v) q :=
  Lm.runs (fun t ht => (all_ok h0 t ht).2.2) (fun t ht => ⟨(all_ok h0 t ht).1, (all_ok h0 t ht).2.1⟩) (fun _ => rfl) hl
theorem at_end {xs : List V} {v : V} {j : Nat} (hl : xs.length = j + 1) (h : xs[j]? = some v) : atI xs (-1) = some v := by
  rcases List.eq_nil_or_concat xs with rfl | ⟨ys, y, rfl⟩
  · cases hl
  · rw [List.concat_eq_append] at hl h ⊢
    rw [List.length_append, List.length_singleton] at hl
    rw [List.getElem?_append_right (by omega), show j - ys.length = 0 by omega] at h
    cases h
    exact atI_last ys _
theorem k_while {c : TT} {tb : TS} {D : Ends} {σ : L2.St} {H : Hp} (h : ∃ W : Nat → L2.St → Hp → Prop, (∃ m, W m σ H) ∧ ∀ m σ H, W m σ H → c σ H fun b H1 => if b = true then ∃ N : L2.St → Hp → Prop, (∀ σ' H', N σ' H' → ∃ m', m' < m ∧ W m' σ' H') ∧ tb { D with nx := N, ct := N, bk := D.nx } σ H1 else D.nx σ H1) : tWhile c tb D σ H := h
/-- the list of amounts -/
def rowV (n : Nat) (x : Int → Int) : List V := (List.range n).map fun (i : Nat) => V.int (x i)
def spAmounts (K : PySem.W.Frag) : Sp := fun vs H Q _ => ∃ (n : Nat) (most : Int) (l : Addr) (us : List V) (ts : List Tie), vs = [.int n, .ref l, .int most] ∧ 1 ≤ n ∧ n ≤ 6 ∧ 0 ≤ most ∧ most ≤ 1000000000000 ∧ H l = some (.lst us) ∧ TieL K H us ts ∧ (∀ t ∈ ts, GoodT n 999999 t) ∧ ts.length ≤ 1000 ∧
  (∀ p x H', H p = none → Same H H' → H' p = some (.lst (rowV n x)) → LeastT n most ts x → Q (.ref p) H') ∧ ∀ H', Same H H' → (∀ x, ¬ FeasT n most ts x) → Q .non H'
def spRing (K : PySem.W.Frag) : Sp := fun vs H Q _ => ∃ (n : Nat) (most : Int) (l : Addr) (us : List V) (ts : List Tie), vs = [.int n, .ref l, .int most] ∧ 1 ≤ n ∧ n ≤ 6 ∧ 0 ≤ most ∧ most ≤ 1000000000000 ∧ H l = some (.lst us) ∧ TieL K H us ts ∧ (∀ t ∈ ts, GoodT n 999999 t) ∧ ts.length ≤ 1000 ∧
  (∀ p us rs H', H p = none → Same H H' → H' p = some (.lst us) → TieL K H' us rs → rs.length ≤ n + 1 → Lm.Ring (bnd n most ++ ts) rs → (∀ x, ¬ FeasT n most ts x) → Q (.ref p) H') ∧ ∀ H' x, Same H H' → FeasT n most ts x → Q .non H'
end Ls
open PySem PySem.Spec PyProof.Rows L2
namespace Ls
end Ls
open Ls
namespace Ls
open PySem PySem.Spec PyProof.Rows L2
/-! ### xs[::k] -/
theorem vals_at {xs : List V} {us : List Value} (r : Vals xs us) : ∀ i : Nat, (xs[i]? = none ∧ us[i]? = none) ∨ ∃ x u, xs[i]? = some x ∧ us[i]? = some u ∧ RelV x u := by
  unfold Vals at r
  induction r with
  | nil => intro i; exact .inl ⟨rfl, rfl⟩
  | cons h _ ih =>
    intro i
    cases i with
    | zero => exact .inr ⟨_, _, rfl, rfl, h⟩
    | succ i => exact ih i
theorem vals_pick {xs : List V} {us : List Value} (r : Vals xs us) : ∀ idx : List Nat, Vals (idx.filterMap (xs[·]?)) (idx.filterMap (us[·]?))
  | [] => .nil
  | i :: idx => by
    rcases vals_at r i with ⟨h1, h2⟩ | ⟨x, u, h1, h2, h3⟩
    · rw [List.filterMap_cons_none h1, List.filterMap_cons_none h2]
      exact vals_pick r idx
    · rw [List.filterMap_cons_some h1, List.filterMap_cons_some h2]
      exact .cons h3 (vals_pick r idx)
def stepV (xs : List V) (k : Int) : List V := (sliceRange 0 (xs.length : Int) k).filterMap (xs[·]?)
theorem stepV_mem {xs : List V} {k : Int} {v : V} (h : v ∈ stepV xs k) : v ∈ xs := by
  obtain ⟨i, _, e⟩ := List.mem_filterMap.mp h
  exact List.mem_of_getElem? e
theorem stepV_len {xs : List V} {k : Int} (hk : 0 < k) : (stepV xs k).length ≤ xs.length :=
  Nat.le_trans (List.length_filterMap_le ..) (sliceRange_length_le _ _ _ _ (fun _ => ⟨Int.le_refl _, Int.le_refl _⟩) fun h => absurd hk h)
def tStepL (K : PySem.W.Frag) (te : TE) (k : Int) : TE := fun σ H Q => te σ H fun x H1 => ∃ a xs, x = .ref a ∧ SqL K H1 a xs ∧ ∀ p, H1 p = none → Q (.ref p) (upd H1 p (.lst (stepV xs k)))
theorem step_bounds (k : Int) (hk : 0 < k) (n : Nat) : sliceBounds none none (some k) n = (0, (n : Int), k) := by
  unfold sliceBounds
  have h : ¬ k < 0 := by omega
  simp [h]
  exact ⟨fun z => by omega, hk⟩
theorem pe_stepL {X : Cx} {e : Expr} {te : TE} {k : Int} {j : Nat} {p1 p3 pos : Pos} (K : PySem.W.Frag) (hK : X.K = K) (hk : 0 < k) (he : PE X e te) : PE X (.Subscript e (.Slice none none (some (.Constant (.int k) j p1)) p3) pos) (tStepL K te k) := by
  subst hK
  refine ⟨fun pins s σ H Q I h => ?_⟩
  refine Subscript_ (thn (he.run pins s σ H _ I h) fun v s1 ⟨x, H1, I1, r1, q1⟩ => ?_)
  obtain ⟨a, xs, ex, hx, q⟩ := q1
  subst ex
  cases r1
  have hst : PO X (some (.Constant (.int k) j p1)) (tPart (tC (.int k))) := po_some pe_int
  refine wpAny_Slice (thn (po_none.run pins s1 σ H1 (fun o H2 => o = none ∧ H2 = H1) I1 ⟨rfl, rfl⟩) fun vl s2 ⟨l, H2, I2, pl, el, e2⟩ => ?_)
  subst el e2
  refine thn (po_none.run pins s2 σ H2 (fun o H3 => o = none ∧ H3 = H2) I2 ⟨rfl, rfl⟩) fun vu s3 ⟨u, H3, I3, pu, eu, e3⟩ => ?_
  subst eu e3
  refine thn (hst.run pins s3 σ H3 (fun o H4 => o = some k ∧ H4 = H3) I3 ⟨k, rfl, rfl, rfl⟩) fun vs s4 ⟨o, H4, I4, ps, eo, e4⟩ => ?_
  subst eo e4
  have I5 : Inv X pins σ H4 { s4 with heap := s4.heap.push { cls := .type "slice", data := .fields #[vl, vu, vs] } } := I4.kept (t' := s4.toks) fun b ob q => Heap.get?_push_of_some _ q
  obtain ⟨its, r, ht, hz⟩ := I5.list hx
  have hlen := r.length
  refine tail_any (ops := [.ref a, .ref s4.heap.objs.size]) ht.isList.typeIs (PySem.slot_list_getitem.lookup) ?_ (by with_unfolding_all rfl)
  refine wpAny_getItem_list_slice ht.isList (Heap.IsSliceOf.new _ vl vu vs) pl pu ps (by intro z; cases z; omega) ?_ (by rw [List.size_toArray]; omega)
  have ep : slicePick its.toArray none none (some k) = ((sliceRange 0 (xs.length : Int) k).filterMap (its[·]?)).toArray := by
    unfold slicePick
    rw [step_bounds k hk, List.size_toArray, ← hlen]
    simp
  rw [ep]
  refine ⟨.ref _, _, I5.laid (t' := s4.toks) (o := .lst (stepV xs k)) (fun b ob q => Heap.get?_push_of_some _ q) (Nat.le_refl _) ?_, rfl, q _ (I5.hok.fresh (Nat.le_refl _))⟩
  exact ⟨Nat.le_trans (stepV_len hk) hz, _, 0, vals_pick r _, Heap.get?_push_size _ rfl⟩
theorem kLS {X : Cx} {e : Expr} {ta : TE} (K : PySem.W.Frag) (hK : X.K = K) (h : PE X e (RZ.tLenSetI X.K ta)) : PE X e (RZ.tLenSetI K ta) := hK ▸ h
section
variable {K : PySem.W.Frag} {σ : L2.St} {H : Hp} {Q : VK} {te : TE} {k : Int}
theorem k_step (h : te σ H fun x H1 => ∃ a xs, x = .ref a ∧ SqL K H1 a xs ∧ ∀ p, H1 p = none → Q (.ref p) (upd H1 p (.lst (stepV xs k)))) : tStepL K te k σ H Q := h
theorem k_lenset (h : te σ H fun x H1 => ∃ (l : Addr) (ns : List Int), x = V.ref l ∧ SqL K H1 l (ns.map V.int) ∧ ns.Nodup ∧ ns.length ≤ 4000 ∧ Q (.int ns.length) H1) : RZ.tLenSetI K te σ H Q := h
end
/-! ### the ways of an expression joined -/
def tJ (te : TE) : TE := fun σ H Q => ∃ M : VK, te σ H M ∧ ∀ v H', M v H' → Q v H'
theorem pe_join {X : Cx} {e : Expr} {te : TE} (h : PE X e te) : PE X e (tJ te) := by
  refine ⟨fun pins s σ H Q I ⟨M, hm, k⟩ => ?_⟩
  exact thn (h.run pins s σ H M I hm) fun v s1 ⟨x, H1, I1, r1, q1⟩ => ⟨x, H1, I1, r1, k _ _ q1⟩
theorem k_join {te : TE} {σ : L2.St} {H : Hp} {Q : VK} (M : VK) (h : te σ H M) (k : ∀ v H', M v H' → Q v H') : tJ te σ H Q := ⟨M, h, k⟩
theorem k_nojoin {te : TE} {σ : L2.St} {H : Hp} {Q : VK} (h : te σ H Q) : tJ te σ H Q := ⟨Q, h, fun _ _ h => h⟩
/-! ### comprehensions that just make a value of each item -/
theorem lc_mapL {K : PySem.W.Frag} {a : Addr} {xs : List V} {g : TG} {te : TE} {vs : List Nat} {σ : L2.St} {H : Hp} {D : Addr} {Qd : Hp → Prop} (vf : Nat → V) (hx : SqL K H a xs) (hl : xs.length ≤ 1000000) (hD : H D = none)
    (hs : ∀ i x H' (N : VK), xs[i]? = some x → Same H H' → (∀ H'', Same H' H'' → N (vf i) H'') → g x (wipe σ vs) H' fun σ2 H2 => wipe σ2 vs = wipe σ vs ∧ te σ2 H2 N) (hd : ∀ H', Same H H' → H' D = some (.lst ((List.range xs.length).map vf)) → Qd H') :
    ∃ W : Nat → Nat → Hp → Prop, (∃ m, W 0 m (upd H D (.lst []))) ∧ ∀ i m H, W i m H →
      ((Itl K a).stop i H ∧ Qd H) ∨ ((Itl K a).go i H ∧ ∃ Nx : Hp → Prop, (∀ H', Nx H' → ∃ m', m' < m ∧ W (i + 1) m' H') ∧ ∀ x H', (Itl K a).yld i H x H' → g x (wipe σ vs) H' fun σ2 H2 => wipe σ2 vs = wipe σ vs ∧ tYes σ2 H2 fun b H3 =>
        if b = true then te σ2 H3 fun y H4 => ∃ acc, H4 D = some (.lst acc) ∧ acc.length < sizeLine ∧ Nx (upd H4 D (.lst (acc ++ [y]))) else Nx H3) := by
  refine lc_list (xs := xs) (fun i H' => Same H H' ∧ H' D = some (.lst ((List.range i).map vf))) ⟨same_new hD, upd_same⟩ (fun i H' _ hP => hP.1.seq hx) (fun i x H' hi hP => ?_) (fun H' hP => hd H' hP.1 hP.2)
  have hlt : i < xs.length := (List.getElem?_eq_some_iff.mp hi).1
  refine hs i x H' _ hi hP.1 fun H'' s => ?_
  refine ⟨_, s _ _ hP.2, ?_, Same.wr (hP.1.trans s) hD, ?_⟩
  · rw [List.length_map, List.length_range, sizeLine_eq]
    omega
  · rw [upd_same, List.range_succ, List.map_append]
    rfl
theorem lc_mapR {lo : Int} {n : Nat} {g : TG} {te : TE} {vs : List Nat} {σ : L2.St} {H : Hp} {D : Addr} {Qd : Hp → Prop} (vf : Nat → V) (hl : n ≤ 1000000) (hD : H D = none)
    (hs : ∀ i H' (N : VK), i < n → Same H H' → (∀ H'', Same H' H'' → N (vf i) H'') → g (.int (lo + i)) (wipe σ vs) H' fun σ2 H2 => wipe σ2 vs = wipe σ vs ∧ te σ2 H2 N) (hd : ∀ H', Same H H' → H' D = some (.lst ((List.range n).map vf)) → Qd H') :
    ∃ W : Nat → Nat → Hp → Prop, (∃ m, W 0 m (upd H D (.lst []))) ∧ ∀ i m H, W i m H →
      ((Itr lo n).stop i H ∧ Qd H) ∨ ((Itr lo n).go i H ∧ ∃ Nx : Hp → Prop, (∀ H', Nx H' → ∃ m', m' < m ∧ W (i + 1) m' H') ∧ ∀ x H', (Itr lo n).yld i H x H' → g x (wipe σ vs) H' fun σ2 H2 => wipe σ2 vs = wipe σ vs ∧ tYes σ2 H2 fun b H3 =>
        if b = true then te σ2 H3 fun y H4 => ∃ acc, H4 D = some (.lst acc) ∧ acc.length < sizeLine ∧ Nx (upd H4 D (.lst (acc ++ [y]))) else Nx H3) := by
  refine lc_range (fun i H' => Same H H' ∧ H' D = some (.lst ((List.range i).map vf))) ⟨same_new hD, upd_same⟩ (fun i H' hi hP => ?_) (fun H' hP => hd H' hP.1 hP.2)
  refine hs i H' _ hi hP.1 fun H'' s => ?_
  refine ⟨_, s _ _ hP.2, ?_, Same.wr (hP.1.trans s) hD, ?_⟩
  · rw [List.length_map, List.length_range, sizeLine_eq]
    omega
  · rw [upd_same, List.range_succ, List.map_append]
    rfl
theorem range_map_get {α β : Type} (xs : List α) (f : α → β) (d : β) : (List.range xs.length).map (fun i => (xs[i]?.map f).getD d) = xs.map f := by
  apply List.ext_getElem
  · rw [List.length_map, List.length_range, List.length_map]
  · intro i h1 h2
    rw [List.length_map] at h2
    rw [List.getElem_map, List.getElem_range, List.getElem_map, List.getElem?_eq_getElem h2]
    rfl
end Ls
namespace Ls
open PySem PySem.Spec PyProof.Rows L2
/-! ### sorted(set(xs)), xs a list of ints -/
section
variable {P : Program} {w : World} {A : Around} {E : Value → Shared → Prop} {s : Shared}
/-- a set just made, the state with it -/
abbrev empt (w : World) : Obj := { cls := .type "set", dict := none, data := .set #[] 0 (.fresh 0 0 (!w.params.followText "set-order")) }
theorem set_ints {l : Addr} {xs : Array Value} (ks : List Int) {Q : Value → Shared → Prop} (nh : A.handled = none) (li : s.heap.IsList l xs) (ia : IntsAre xs.toList ks) (few : ks.length + 1 < scanBound)
    (k : ∀ g tk c, SetR w g s.heap.objs.size (fun j => decide (j ∈ ks)) c → c ≤ ks.length → (∀ b o, s.heap.get? b = some o → g.get? b = some o) → Q (.ref s.heap.objs.size) { s with heap := g, toks := tk }) :
    wpAny (model P w) A (call (.type "set") [.ref l]) Q E s := by
  have lk : xs.size = ks.length := (Array.length_toList (xs := xs)).symm.trans (IntsAre.length ia)
  obtain ⟨c0, t0, mro0⟩ := F.called_set.mro
  have made0 := F.called_set.made
  have sub0 := F.called_set.sub
  have nt0 := F.called_set.notType
  have cc0 := F.called_set.canCreate
  have tc0 := F.typeCall_set_1 (.ref l)
  refine wpAny_call (codeAny_of_tree (show wpAny _ _ (callAny (.type "set") _) _ _ _ from wpAny_pure ⟨Code.quiet_builtin _ (by decide +kernel), codeAny_builtin F.entry_type_call ?_⟩))
  rw [Around.under_plain (weight_type_call_type "set" [.ref l] []) rfl]
  repeat any_goals first | assumption | wp_step
  refine codeAny_mono (code_set_led1 (E := E) (.ref l) (Q₁ := fun v u => v = .ref s.heap.objs.size ∧ u = { s with heap := s.heap.push (empt w) }) ⟨rfl, rfl⟩) fun res u hu => ?_
  cases res with
  | error e => exact hu
  | ok fin =>
    cases fin with
    | next => exact hu.elim
    | brk => exact hu.elim
    | cont => exact hu.elim
    | ret v =>
      obtain ⟨rfl, rfl⟩ := hu
      have at0 : (s.heap.push (empt w)).get? s.heap.objs.size = some (empt w) := Heap.get?_push_size _ rfl
      have ty0 : Shared.TypeIs { s with heap := s.heap.push (empt w) } (.ref s.heap.objs.size) "set" := ⟨_, at0, rfl⟩
      have il0 := F.called_set.init.lookup
      have ib0 := F.called_set.init.bind (.ref s.heap.objs.size)
      repeat any_goals first | assumption | wp_step
      refine codeAny_mono (codeAny_call_builtin (R := wants (fun v u => v = .none ∧ ∃ g tk c, u = { s with heap := g, toks := tk } ∧ SetR w g s.heap.objs.size (fun j => decide (j ∈ ks)) c ∧ c ≤ ks.length ∧ ∀ b o, s.heap.get? b = some o → g.get? b = some o) E)
        F.called_set.init.plain F.entry_set_init (check_set_init_1 ty0 ?_)) fun res u hu => ?_
      · obtain ⟨⟨oc, od, odat, osl⟩, ol, ocl, nl, odt⟩ := li
        simp only at ocl odt
        subst ocl odt
        have ol1 : (s.heap.push (empt w)).get? l = some { cls := .type "list", dict := od, data := .seq xs nl, slots := osl } := Heap.get?_push_of_some _ ol
        have li1 : (s.heap.push (empt w)).IsList l xs := ⟨_, ol1, rfl, nl, rfl⟩
        have sl0 := F.sub_list_set
        have sf0 := F.sub_list_frozenset
        have nd0 : (Value.type "list" == Value.type "dict") = false := by decide
        unfold Builtin.«set.__init__» noKeywords Builtin.Frozenset.updateFrom
        generalize hit : pyIter = IT
        wp_walk
        subst hit
        refine wpAny_pyIter_list li1 (wpAny_bind (wpAny_runValue ?_))
        have lt0 : l < s.heap.objs.size := Heap.lt_size ol
        have sz1 : (s.heap.push (empt w)).objs.size = s.heap.objs.size + 1 := Heap.size_push ..
        have nl1 : l ≠ (s.heap.push (empt w)).objs.size := by rw [sz1]; exact Nat.ne_of_lt (Nat.lt_succ_of_lt lt0)
        have out1 : s.heap.objs.size ∉ [(s.heap.push (empt w)).objs.size, l] := by
          rw [sz1]
          intro m
          rcases List.mem_cons.mp m with m | m
          · exact Nat.ne_of_lt (Nat.lt_succ_self _) m
          · exact Nat.ne_of_gt lt0 (List.mem_singleton.mp m)
        refine set_update_ints ((Walks.list (by simp [nh]) _ l nl1 xs).toS) s.heap.objs.size out1 ks lk few (fun i v hv => ?_) (xs.size - 0) 0 _ (by omega) (Nat.zero_le _)
          ⟨⟨_, Heap.get?_push_size _ rfl, rfl, rfl⟩, li1.push _⟩ ⟨0, Nat.le_refl _, setR_new_at (Heap.get?_push_of_some _ at0)⟩ ?_
        · have hi : i < ks.length := lk ▸ (Array.getElem?_eq_some_iff.mp hv).1
          obtain ⟨t, e⟩ := IntsAre.int_at ia i v (by rw [Array.getElem?_toList]; exact hv)
          refine ⟨_, t, List.getElem?_eq_getElem hi, e.trans ?_⟩
          rw [List.getD_eq_getElem?_getD, List.getElem?_eq_getElem hi]
          rfl
        · rintro ⟨g, g2, d2, tk, o2⟩ c mv hc hS
          have e1 : g2 = s.gens := mv.gens
          have e2 : d2 = s.drawn := mv.drawn
          have e3 : o2 = s.os := mv.os
          subst e1 e2 e3
          rw [lk] at hc
          refine wpAny_pure (wpAny_pure ⟨rfl, g, tk, c, rfl, hS, hc, fun b o hb => ?_⟩)
          have ltb := Heap.lt_size hb
          refine mv.heap b o (fun m => ?_) (Heap.get?_push_of_some _ (Heap.get?_push_of_some _ hb))
          rcases List.mem_cons.mp m with m | m
          · exact Nat.ne_of_lt ltb m
          · have m := List.mem_singleton.mp m
            rw [m, sz1] at ltb
            exact Nat.not_lt.mpr (Nat.le_succ _) ltb
      · cases res with
        | error e => exact hu
        | ok fin =>
          cases fin with
          | next => exact hu.elim
          | brk => exact hu.elim
          | cont => exact hu.elim
          | ret v =>
            obtain ⟨rfl, g, tk, c, rfl, hS, hc, hk⟩ := hu
            repeat any_goals first | assumption | wp_step
            exact k _ _ _ hS hc hk
end
def tSortSet (K : PySem.W.Frag) (ta : TE) : TE := fun σ H Q => ta σ H fun x H1 => ∃ (l : Addr) (ns : List Int), x = .ref l ∧ SqL K H1 l (ns.map V.int) ∧ ns.length < 60 ∧ ∀ (ms : List Int) (p : Addr), ms.Pairwise (· < ·) → (∀ k : Int, k ∈ ms ↔ k ∈ ns) → H1 p = none → Q (.ref p) (upd H1 p (.lst (ms.map V.int)))
theorem pe_sortSet {X : Cx} {a : Expr} {ta : TE} {p p2 q pos : Pos} (K : PySem.W.Frag) (hK : X.K = K) (hg : Gl X "sorted") (hm : X.mg "sorted" = none) (hg2 : Gl X "set") (hm2 : X.mg "set" = none) (ha : PE X a ta) (hc : X.calm = true := by rfl)
    (na : starEach [a] X.env = (false, eval a X.env) :: starEach [] X.env := by rfl) : PE X (.Call (.Name "sorted" p) [.Call (.Name "set" p2) [a] [] q] [] pos) (tSortSet K ta) := by
  subst hK
  refine ⟨fun pins s σ H Q I h => ?_⟩
  refine Call_ (ld_blt I hg hm boot_sorted (callWith_builtin1 (args_cons ?_ rfl) rfl rfl))
  refine Call_ (ld_blt I hg2 hm2 PyProof.Rows.boot_set ?_)
  refine callWith_type1 (args_cons (thn (ha.run pins s σ H _ I h) fun v s1 ⟨x, H1, I1, r1, q1⟩ => args_nil ?_) na) na rfl
  obtain ⟨l, ns, rfl, hq, h60, q1⟩ := q1
  cases r1
  obtain ⟨its, r, pl, hz⟩ := I1.list hq
  refine set_ints ns (I1.ok.hd hc) pl.isList (by simpa using RZ.intsAre_vals r) (by unfold scanBound; omega) fun g tk c hS hc2 hk => ?_
  have I2 : Inv X pins σ H1 { s1 with heap := g, toks := tk } := I1.kept fun b o e => hk b o e
  refine args_nil ?_
  refine sorted_set hS (I2.ok.hd hc) (by omega) fun s' p out c3 ms kp gn og hp hg3 hi hs hms hl => ?_
  have hn : H1 p = none := I2.hok.fresh hp
  have hlen : (ms.map V.int).length ≤ sizeLine := by rw [List.length_map, hl, sizeLine_eq]; omega
  have J : Inv X pins σ (upd H1 p (.lst (ms.map V.int))) { ({ s1 with heap := g, toks := tk } : Shared) with heap := s'.heap, gens := s'.gens, drawn := s'.drawn, toks := s'.toks } :=
    I2.call (ch := []) (Un.laid kp hp hn) (I2.hok.laid kp hp ⟨hlen, out.toList, c3, vals_of_ints hi, hg3⟩) (by rw [gn]; exact I2.bare) (fun _ z => nomatch z)
  have es : s' = { ({ s1 with heap := g, toks := tk } : Shared) with heap := s'.heap, gens := s'.gens, drawn := s'.drawn, toks := s'.toks } := by
    cases s'
    cases og
    rfl
  rw [es]
  exact ⟨.ref p, _, J, rfl, q1 ms p hs (fun k => (hms k).trans ⟨of_decide_eq_true, decide_eq_true⟩) hn⟩
theorem k_sortset {K : PySem.W.Frag} {σ : L2.St} {H : Hp} {Q : VK} {ta : TE} (h : ta σ H fun x H1 => ∃ (l : Addr) (ns : List Int), x = .ref l ∧ SqL K H1 l (ns.map V.int) ∧ ns.length < 60 ∧ ∀ (ms : List Int) (p : Addr), ms.Pairwise (· < ·) → (∀ k : Int, k ∈ ms ↔ k ∈ ns) → H1 p = none → Q (.ref p) (upd H1 p (.lst (ms.map V.int)))) : tSortSet K ta σ H Q := h
theorem k_listrg {σ : L2.St} {H : Hp} {Q : VK} {te : L2.St → Hp → (Int → Int → Hp → Prop) → Prop} (h : te σ H fun a b H1 => RgOk a b ∧ ∀ q, H1 q = none → Q (.ref q) (upd H1 q (.lst (rgV a b)))) : tLstRg te σ H Q := h
theorem k_rg1 {σ : L2.St} {H : Hp} {ta : TE} {R : Int → Int → Hp → Prop} (h : ta σ H fun x H1 => ∃ n, x = .int n ∧ R 0 n H1) : tRg1 ta σ H R := h
end Ls
namespace Ls
open PySem PySem.Spec PyProof.Rows L2
/-! ### C.m(e, ..), m a def of the own class C, called by the class -/
def tCFn (C : Addr) (sp : Sp) (E : XK) (ta : TE) (t : TA) : TE := fun σ H Q => ta σ H fun x H1 => x = .ref C ∧ t σ H1 fun vs H2 => sp (vs ++ []) H2 Q E
theorem pe_cfn {X : Cx} {CX : CXT} {k : Nat} {C f : Addr} {mc : Value} {fd : FuncData} {ps : List Str} {sp : Sp} {E : XK} {o e : Expr} {es : List Expr} {m : Str} {pos apos : Pos} {ta : TE} {t : TA} {pl : Sem Bool}
    (he : PE X o ta) (r : ClX.CRead X.K C mc) (c : ClX.CVal X.K C mc m (.ref f) (.ref f)) (kp : PySem.W.keepIn X.K (.ref f) = true) (F : FnOk X.prog X.w X.K X.mg X.base CX k f fd ps sp) (hr : Room k X.A) (hb : Binds X.K fd ps []) (hx : Passes CX X E) (ha : PA X (e :: es) t)
    (hst : starEach (e :: es) X.env = (false, eval e X.env) :: starEach es X.env := by rfl) (hpl : (backTo pos (starEach es X.env)).any (·.1) = false := by rfl)
    (ht : eval (.Call (.Attribute o m apos) (e :: es) [] pos) X.env = (do
      let ov ← eval o X.env
      standAt apos.atName
      let (f, first) ← holding [ov] (getMethod ov m pl)
      callWith pos f first (backTo pos (starEach (e :: es) X.env)) (backToKw pos (keywordEach [] X.env))) := by rfl) :
    PE X (.Call (.Attribute o m apos) (e :: es) [] pos) (tCFn C sp E ta t) := by
  refine ⟨fun pins s σ H Q I h => PySem.W.methodCall_KW (pl := pl) (thn (he.run pins s σ H _ I h) fun u s1 ⟨x, H1, I1, rx, ex, q⟩ => ?_) ht⟩
  subst ex
  obtain rfl : u = Value.ref C := rx
  refine PySem.W.method_cls I1.kIn r.ga (ClX.getcval_ok I1 r c fun s2 I2 => ?_)
  exact PySem.W.callWith_K (h₀ := X.base) I2.ok.mod.kin kp (thn (ha.run pos pins s2 σ H1 _ I2 q) fun us s3 ⟨vs, H2, I3, rv, q2⟩ => ⟨I3.kIn, run_fn F hr hb .nil hx I3 rv q2⟩) hst hpl
/-! ### e.f of a caught exception, of whatever own class -/
def tXfA (K : PySem.W.Frag) (a : Addr) (cls : Value) (d : Option Addr) (f : Str) (te : TE) : TE := fun σ H Q => ∃ C : Addr, XfC K C ∧ PySem.W.findIn K (.ref C) f = some none ∧ tXf a cls d C f te σ H Q
theorem pe_xfA {X : Cx} {a : Addr} {oe : Obj} {cls : Value} {d : Option Addr} {pn : List (Addr × Obj)} {e : Expr} {te : TE} {pos : Pos} {n : Str} (K : PySem.W.Frag) (hK : X.K = K) (hz : Zc cls d oe) (hf : ∃ vs, oe.data = .fields vs) (he : PE (X.suite a ((a, oe) :: pn)) e te)
    (hb : attributeBase e n X.env (eval e X.env) = eval e X.env := by rfl) : PE (X.suite a ((a, oe) :: pn)) (.Attribute e n pos) (tXfA K a cls d n te) := by
  subst hK
  exact ⟨fun pins s σ H Q I ⟨C, T, no, h⟩ => (pe_xf (C := C) T no hz hf he hb).run pins s σ H Q I h⟩
/-! ### try: .. except A as n: .. except B as n: .. -/
def gone (D : Ends) (i : Nat) : Ends := { nx := fun σ' H' => D.nx (σ'.set i none) H', rt := D.rt, bk := fun σ' H' => D.bk (σ'.set i none) H', ct := fun σ' H' => D.ct (σ'.set i none) H' }
abbrev Cla := Value × Nat × (Addr → Value → Option Addr → TS)
/-- what the clauses wish of an exception of the body -/
def wCl (K : PySem.W.Frag) (Wout : WX) (D : Ends) : List Cla → WX
  | [] => Wout
  | k :: r => fun cls d σ H => ∃ b, PySem.W.exmOne K cls k.1 = some b ∧ (b = true → ∀ a, H a = none → k.2.2 a cls d (gone D k.2.1) (σ.set k.2.1 (some (.ref a))) H) ∧ (b = false → wCl K Wout D r cls d σ H)
inductive ClOk (X : Cx) : List ExceptHandler → List Cla → Prop
  | nil : ClOk X [] []
  | cons {x n : Str} {c : Value} {i : Nat} {ts : Addr → Value → Option Addr → TS} {b0 : Stmt} {su : List Stmt} {np po : Pos} {hds : List ExceptHandler} {l : List Cla} (hc : Names X x c) (hi : X.N[i]? = some n) (hln : X.env.kindOf n = some .local)
      (hsu : ∀ (a : Addr) (oe : Obj) (cls : Value) (d : Option Addr) (pn : List (Addr × Obj)), Zc cls d oe → (∃ vs, oe.data = .fields vs) → PSs (X.suite a ((a, oe) :: pn)) (b0 :: su) (ts a cls d)) (r : ClOk X hds l) :
      ClOk X (.ExceptHandler (some (.Name x np)) (some n) (b0 :: su) po :: hds) ((c, i, ts) :: l)
theorem ps_try_cl {X : Cx} {body : List Stmt} {h0 : ExceptHandler} {hds : List ExceptHandler} {l : List Cla} {pos : Pos} {tb : WX → TS} {Wout : WX} (hst : X.stack = X.env :: X.outer) (hfl : X.env.frame = some X.env.locals) (hN : X.N.Nodup) (tk : Takes X Wout)
    (hb : ∀ (W : WX) (pn : List (Addr × Obj)) (xe : Value → Shared → Prop), Takes (X.tr pn xe) W → PassesOwn (model X.prog X.w) X.A X.env xe → PSs (X.tr pn xe) body (tb W)) (hh : ClOk X (h0 :: hds) l) :
    PS X (.Try body (h0 :: hds) [] [] pos) (fun D σ H => tb (wCl X.K Wout D l) D σ H) := by
  refine ⟨fun pins s σ H D I h => ?_⟩
  have OK := I.ok
  have FR : X.A.frames = some (X.env :: X.outer) := OK.frames.trans (congrArg some hst)
  let caught : Value → Shared → Prop := fun e u => wpAny (model X.prog X.w) X.A (noteFrame e X.env) (fun _ u2 => wpAny (model X.prog X.w) X.A (setFlight e none) (fun _ u3 => wpAny (model X.prog X.w) X.A (handleBy e X.env (h0 :: hds)) (SP X pins D) X.xe u3) X.xe u2) X.xe u
  refine wpAny_Try_except (wpAny_mono ((hb (wCl X.K Wout D l) (X.pn ++ pins) caught (fun u t y => ?_) PassesOwn.looking).run [] s σ H D (I.toTry _) h) (fun fl t y => ?_) fun e t z => z)
  · obtain ⟨a, B, t0, pins2, σ2, H2, cls, d, rfl, J2, nb, up, sk, na, os, ag, wish⟩ := y
    have J : Inv X pins σ2 H2 t0 := J2.ofTry OK
    have SK : Sky B (X.env :: X.outer) a (Zc cls d) X.env.locals t.heap := hst ▸ sk
    show wpAny (model X.prog X.w) X.A (noteFrame (.ref a) X.env) _ _ _
    refine Sky.land Zc.steady FR hfl SK fun g la ug => ?_
    have Jg : Inv X pins σ2 H2 { t with heap := g } := J.landed nb la.1 (up.trans ug) os ag
    obtain ⟨og, vg, eg, zg, dg⟩ := la.there
    have out : a ∉ frs (X.env :: X.outer) := fun m => by
      obtain ⟨_, o2, e2, n2⟩ := la.2.2.1.mem m
      rw [eg] at e2
      cases e2
      exact n2 _ dg
    have nLoc : a ≠ X.env.locals := fun z => out (List.mem_filterMap.mpr ⟨X.env, List.mem_cons_self, by rw [hfl, z]⟩)
    have nFs : a ∉ X.fs := fun m => by
      obtain ⟨e2, m2, q2⟩ := List.mem_filterMap.mp m
      exact out (List.mem_filterMap.mpr ⟨e2, List.mem_cons_of_mem _ m2, q2⟩)
    have Sg := Jg.suite eg dg na nLoc nFs
    have all : ∀ {hs2 : List ExceptHandler} {l2 : List Cla}, ClOk X hs2 l2 → wCl X.K Wout D l2 cls d σ2 H2 → wpAny (model X.prog X.w) X.A (handleBy (.ref a) X.env hs2) (SP X pins D) X.xe { t with heap := g } := by
      intro hs2 l2 ok2
      induction ok2 with
      | nil =>
        intro wish2
        obtain ⟨k1, k2, k3, o3, v3, T, oT, t3, e3, z3, d3, i3, r3⟩ := id la
        refine wpAny_handleBy_nil ?_
        unfold PySem.passOn
        refine wpAny_bind (wpAny_field e3 d3 i3 ?_)
        rw [if_neg (by simp : ¬ ((Value.ref T == Value.none) = true))]
        have last : wpAny (model X.prog X.w) X.A (setFlight (.ref a) X.env.frame) (fun _ u => wpAny (model X.prog X.w) X.A (throw (.ref a) : Sem Flow) (SP X pins D) X.xe u) X.xe { t with heap := g } := by
          rw [hfl]
          exact HandSPX.setFlight_upZ la fun g2 hg2 ug2 => wpAny_throw (tk _ _ ⟨a, B, t0, pins, σ2, H2, cls, d, rfl, J, nb, (up.trans ug).trans ug2, .inr (.inr (by rw [hst]; exact hg2)), na, os, ag, wish2⟩)
        first | exact wpAny_bind (wpAny_pure (wpAny_bind last)) | exact wpAny_bind last
      | @cons x n c i ts b0 su np po hds2 l3 hc hi hln hsu r ih =>
        rintro ⟨b, eb, yes, no⟩
        have lt : PySem.W.Looks (model X.prog X.w) g (typeOf (.ref a)) cls := fun A Q E u k q => wpAny_typeOf_ref (k _ _ eg) (zg.1.symm ▸ q)
        have lm := PySem.W.exm_one (M := model X.prog X.w) Jg.kIn lt eb
        have named : ∀ {Q : Value → Shared → Prop} {E : Value → Shared → Prop}, Q c { t with heap := g } → wpAny (model X.prog X.w) (X.A.mark (some (.ref a))) (eval (.Name x np) X.env) Q E { t with heap := g } := by
          intro Q E q
          obtain ⟨hg, hd, hm | ⟨hm, hv, hnn⟩⟩ := hc
          · exact ld_glob (X := X.suite a ((a, og) :: (X.pn ++ pins))) Sg hg hm q hd
          · exact ld_blt (X := X.suite a ((a, og) :: (X.pn ++ pins))) Sg hg hm hv q hnn hd
        refine wpAny_handleBy_cons (codeAny_handlers_test (named (lm.here ?_))) (by intro q; cases q)
        cases b with
        | false => exact ih (no rfl)
        | true =>
          refine codeAny_handlers_suite_as (HandSPX.lands_againZ la fun g2 la2 ug2 => ?_)
          have Jh : Inv X pins σ2 H2 { t with heap := g2 } := J.landed nb la2.1 ((up.trans ug).trans ug2) os ag
          obtain ⟨o4, v4, e4, z4, d4⟩ := la2.there
          have Sh := Jh.suite e4 d4 na nLoc nFs
          refine store_ok (X := X.suite a ((a, o4) :: (X.pn ++ pins))) (v := .ref a) Sh hN hi (.inl hln) rfl (fun u5 S5 => ?_) (.inr hln)
          refine wpAny_mono ((hsu a o4 cls d (X.pn ++ pins) z4 ⟨_, d4⟩).run [] u5 _ H2 _ S5 (yes rfl a na)) (fun fl6 u6 y6 => ?_) fun _ _ z => False.elim z
          have off : ∀ {σ6 : L2.St} {H6 : Hp} {R : Shared → Prop}, Inv (X.suite a ((a, o4) :: (X.pn ++ pins))) [] σ6 H6 u6 → (∀ u7, Inv X pins (σ6.set i none) H6 u7 → R u7) → wpAny (model X.prog X.w) X.A (do bindName X.env n .none; unbindBehindTheSuite X.env n po) (fun _ u7 => R u7) X.xe u6 :=
            fun S6 hq => gone_ok (S6.unsuite OK) hN hi hln hq
          cases fl6 with
          | ret u8 =>
            obtain ⟨v8, σ8, H8, S8, r8, q8⟩ := y6
            exact off S8 fun u7 J7 => ⟨_, _, _, J7, r8, q8⟩
          | next =>
            obtain ⟨σ8, H8, S8, q8⟩ := y6
            exact off S8 fun u7 J7 => ⟨_, _, J7, q8⟩
          | brk =>
            obtain ⟨σ8, H8, S8, q8⟩ := y6
            exact off S8 fun u7 J7 => ⟨_, _, J7, q8⟩
          | cont =>
            obtain ⟨σ8, H8, S8, q8⟩ := y6
            exact off S8 fun u7 J7 => ⟨_, _, J7, q8⟩
    exact all hh wish
  · cases fl with
    | ret u8 =>
      obtain ⟨v8, σ8, H8, J8, r8, q8⟩ := y
      exact ⟨v8, σ8, H8, J8.ofTry OK, r8, q8⟩
    | next =>
      obtain ⟨σ8, H8, J8, q8⟩ := y
      exact wpAny_execs_nil ⟨σ8, H8, J8.ofTry OK, q8⟩
    | brk =>
      obtain ⟨σ8, H8, J8, q8⟩ := y
      exact ⟨σ8, H8, J8.ofTry OK, q8⟩
    | cont =>
      obtain ⟨σ8, H8, J8, q8⟩ := y
      exact ⟨σ8, H8, J8.ofTry OK, q8⟩
end Ls
namespace Ls
open PySem PySem.Spec PyProof.Rows L2
/-! ### C(), C an own exception class with its own __init__ -/
theorem pmk_oex0 {X : Cx} {CX : CXT} {x : Str} {C fI : Addr} {k : Nat} {fd : FuncData} {ps : List Str} {sp : Sp} {ds : List Value} {dvs : List V} {p pos : Pos} (T : OexC X.K C) (iC : PySem.W.findIn X.K (.ref C) "__init__" = some (some (.ref fI))) (tI : PySem.W.typeIn X.K (.ref fI) = some (.type "function"))
    (Fi : FnOk X.prog X.w X.K X.mg X.base CX k fI fd ps sp) (hr : Room (k + 1) X.A) (hb : Binds X.K fd ps ds) (hd : Vals dvs ds) (hx : Passes CX X (fun _ _ _ => False)) (hg : Gl X x) (hm : X.mg x = some (.ref C)) (hdb : (x == ("__debug__" : Str)) = false := by decide) :
    PMk X (.Call (.Name x p) [] [] pos) (tMkO C sp dvs tNil) := by
  intro pins s σ H Q I h
  obtain ⟨_, _, _, _, bm, _, _, _, _, _, _, _, _, _, _, cl, rb⟩ := T.cls
  refine wpAny_Call_Name_kw (ld_glob I hg hm (PySem.W.callWith_K0 I.kIn T.kC ?_) hdb)
  show wpAny _ _ (call (.ref C) []) _ _ _
  obtain ⟨h0, g0, d0, k0, o0⟩ := s
  obtain ⟨_, made⟩ := h
  have up : h0.objs.size ≤ h0.objs.size + 1 := Nat.le_succ _
  have free : H (h0.objs.size + 1) = none := I.hok.fresh up
  have it := made (h0.objs.size + 1) free
  have keep : ∀ b o, h0.get? b = some o → ((h0.push (PySem.W.kdv_tup [])).push (PySem.HandSPX.excO C h0.objs.size)).get? b = some o := fun b o e => Heap.get?_push_of_some _ (Heap.get?_push_of_some _ e)
  have at1 : ((h0.push (PySem.W.kdv_tup [])).push (PySem.HandSPX.excO C h0.objs.size)).get? (h0.objs.size + 1) = some (PySem.HandSPX.excO C h0.objs.size) := by heap_get
  have J : Inv X pins σ (upd H (h0.objs.size + 1) (exo (h0.objs.size + 1) C none)) ⟨((h0.push (PySem.W.kdv_tup [])).push (PySem.HandSPX.excO C h0.objs.size)), g0, d0, k0, o0⟩ :=
    I.laid (a := h0.objs.size + 1) (o := exo (h0.objs.size + 1) C none) (h' := ((h0.push (PySem.W.kdv_tup [])).push (PySem.HandSPX.excO C h0.objs.size))) (t' := k0) keep up (exo_ok at1)
  have vals : Vals (V.ref (h0.objs.size + 1) :: ([] ++ dvs)) (Value.ref (h0.objs.size + 1) :: ds) := .cons rfl hd
  have len : ([Value.ref (h0.objs.size + 1)] ++ ds).length = ps.length := vals.length.symm.trans (Fi.len _ _ _ _ it)
  refine wpAny_call (PySem.HandSPX.call_own F.excBase_ValueError (fun Y => PySem.HandSPX.refsVE_contains Y bm rb) (I.kIn _ _ cl) (PySem.W.looks_findIn I.kIn iC) (fun self => PySem.W.bind_fn I.kIn self tI) (Nat.zero_le _)
    (codeAny_mono (Fi.run _ X.stack _ _ ⟨[Value.ref (h0.objs.size + 1)], []⟩ (Value.ref (h0.objs.size + 1) :: ds) _ _ (fun _ _ _ => False) (hr.make C [] []) (J.env0.make C [] []) (hb _ [Value.ref (h0.objs.size + 1)] J.kIn len) vals it) fun r s' z => ?_))
  cases r with
  | error e => exact hx pins σ _ _ e s' J z
  | ok fl =>
    cases fl with
    | next => exact z.elim
    | brk => exact z.elim
    | cont => exact z.elim
    | ret u =>
      obtain ⟨v, H2, os2, bare2, un2, ok2, rv, ev, d, fs, ea, ed, fr, q⟩ := z
      subst ev
      obtain ⟨h2, g2, d2, k2, o2⟩ := s'
      exact ⟨rv, mk_end (raises_own T.exC T.tyC) I up keep un2 ok2 os2 bare2 ea ed fr q⟩
end Ls
namespace Ls
open PySem PySem.Spec PyProof.Rows L2
/-! ### what the written part says of exception classes, by looking -/
def eqO (a b : Option (Option Value)) : Bool := decide (a = b)
def oexC (K : PySem.W.Frag) (C : Addr) : Bool := match K.lookup C with
  | some ⟨.type "type", _, .cls cd, sl⟩ => (match cd.mro, sl.toList with
    | .ref D :: bm, [_, _, _, _, some (.builtin n), _] => decide (D = C) && (decide (n = "ValueError.__new__") && (cd.hasDict && (!cd.hasDel && PySem.HandSPX.refsVE bm)))
    | _, _ => false)
  | _ => false
def oexB (K : PySem.W.Frag) (C : Addr) : Bool := oexC K C && (eqO (PySem.W.findIn K (.ref C) "__setattr__") (some (some (.builtin "object.__setattr__"))) && (decide (PySem.W.subIn K (.ref C) (.type "BaseException") = some true) && (decide (PySem.W.typeIn K (.ref C) = some (.type "type")) && PySem.W.keepIn K (.ref C))))
theorem ba2 {a b : Bool} (h : (a && b) = true) : a = true ∧ b = true := Bool.and_eq_true_iff.mp h
theorem oexB_ok {K : PySem.W.Frag} {C : Addr} (h : oexB K C = true) : OexC K C := by
  obtain ⟨h1, h⟩ := ba2 h
  obtain ⟨h2, h⟩ := ba2 h
  obtain ⟨h3, h⟩ := ba2 h
  obtain ⟨h4, h5⟩ := ba2 h
  refine ⟨?_, of_decide_eq_true h2, of_decide_eq_true h3, of_decide_eq_true h4, h5⟩
  unfold oexC at h1
  split at h1
  · rename_i dd cd sl ho
    split at h1
    · rename_i D bm k0 k1 k2 k3 n k5 hm hs
      obtain ⟨a1, h1⟩ := ba2 h1
      obtain ⟨a2, h1⟩ := ba2 h1
      obtain ⟨a3, h1⟩ := ba2 h1
      obtain ⟨a4, a5⟩ := ba2 h1
      obtain rfl := of_decide_eq_true a1
      obtain rfl := of_decide_eq_true a2
      obtain ⟨nm, bs, mro, ns, qn, hd, sn, sub, ab, col, del⟩ := cd
      dsimp only at hm a3 a4
      subst hm a3
      have a4 : del = false := by simpa using a4
      subst a4
      obtain ⟨sl⟩ := sl
      dsimp only at hs
      subst hs
      exact ⟨nm, qn, ns, bs, bm, sn, sub, ab, col, dd, k0, k1, k2, k3, k5, ho, a5⟩
    · cases h1
  · cases h1
/-- C.__init__ is the def at ma K C "__init__" -/
def iniB (K : PySem.W.Frag) (C : Addr) : Bool := eqO (PySem.W.findIn K (.ref C) "__init__") (some (some (.ref (He.ma K C "__init__")))) && decide (PySem.W.typeIn K (.ref (He.ma K C "__init__")) = some (.type "function"))
theorem iniB_ok {K : PySem.W.Frag} {C : Addr} (h : iniB K C = true) : PySem.W.findIn K (.ref C) "__init__" = some (some (.ref (He.ma K C "__init__"))) ∧ PySem.W.typeIn K (.ref (He.ma K C "__init__")) = some (.type "function") := by
  obtain ⟨h1, h2⟩ := ba2 h
  exact ⟨of_decide_eq_true h1, of_decide_eq_true h2⟩
/-- C.__init__ read by the class -/
def crdB (K : PySem.W.Frag) (C : Addr) : Bool := PySem.W.readsIn K C (.type "type") && eqO (PySem.W.specialIn K (.ref C) "__getattribute__") (some (some (.builtin "type.__getattribute__")))
theorem crdB_ok {K : PySem.W.Frag} {C : Addr} (h : crdB K C = true) : ClX.CRead K C (.type "type") := by
  obtain ⟨h1, h2⟩ := ba2 h
  exact ⟨h1, of_decide_eq_true h2⟩
def cviB (K : PySem.W.Frag) (C : Addr) : Bool := (match PySem.W.findCls K (.ref C) (.type "type") "__init__" with
  | some (.val (.ref f)) => decide (f = He.ma K C "__init__")
  | _ => false)
theorem cviB_ok {K : PySem.W.Frag} {C : Addr} (h : cviB K C = true) : ClX.CVal K C (.type "type") "__init__" (.ref (He.ma K C "__init__")) (.ref (He.ma K C "__init__")) := by
  refine ⟨?_, rfl⟩
  unfold cviB at h
  split at h
  · rename_i f hf
    rw [of_decide_eq_true h] at hf
    exact hf
  · cases h
def veiB (K : PySem.W.Frag) : Bool := (match PySem.W.findCls K (.type "ValueError") (.type "type") "__init__" with
  | some (.val (.builtin n)) => decide (n = "ValueError.__init__")
  | _ => false)
theorem veiB_ok {K : PySem.W.Frag} (h : veiB K = true) : PySem.W.findCls K (.type "ValueError") (.type "type") "__init__" = some (.val (.builtin "ValueError.__init__")) := by
  unfold veiB at h
  split at h
  · rename_i n hn
    rw [of_decide_eq_true h] at hn
    exact hn
  · cases h
def noFB (K : PySem.W.Frag) (C : Addr) (f : Str) : Bool := eqO (PySem.W.findIn K (.ref C) f) (some none)
theorem noFB_ok {K : PySem.W.Frag} {C : Addr} {f : Str} (h : noFB K C f = true) : PySem.W.findIn K (.ref C) f = some none := of_decide_eq_true h
def exmB (K : PySem.W.Frag) (C D : Addr) (b : Bool) : Bool := decide (PySem.W.exmOne K (.ref C) (.ref D) = some b)
theorem exmB_ok {K : PySem.W.Frag} {C D : Addr} {b : Bool} (h : exmB K C D b = true) : PySem.W.exmOne K (.ref C) (.ref D) = some b := of_decide_eq_true h
end Ls
namespace Ls
open PySem PySem.Spec PyProof.Rows L2
/-! ### exceptions that are made and raised -/
/-- C.__init__(self): the word w -/
def spInit0 (K : PySem.W.Frag) (w : Str) : Sp := fun vs H Q _ => ∃ (a C : Addr), vs = [.ref a] ∧ OexC K C ∧ PySem.W.findIn K (.ref C) "word" = some none ∧ H a = some (exo a C none) ∧ ∀ dx, H dx = none → dx ≠ a → Q .non (upd (upd H dx (exd dx [("word", .str w)])) a (exo a C (some dx)))
/-- the base's __init__(self, word) -/
def spInit1 (K : PySem.W.Frag) : Sp := fun vs H Q _ => ∃ (a C : Addr) (w : Str), vs = [.ref a, .str w] ∧ OexC K C ∧ PySem.W.findIn K (.ref C) "word" = some none ∧ H a = some (exo a C none) ∧ ∀ dx, H dx = none → dx ≠ a → Q .non (upd (upd H dx (exd dx [("word", .str w)])) a (exo a C (some dx)))
section
variable {K : PySem.W.Frag} {σ : L2.St} {H : Hp} {D : Ends} {C : Addr} {w : Str}
theorem k_vei {Q : VK} {ta : TA} (h : ta σ H fun vs H1 => ∃ (a C : Addr) (ws : List V), vs = .ref a :: ws ∧ ws.length ≤ 1000 ∧ OexC K C ∧ H1 a = some (exo a C none) ∧ Q .non H1) : tVeI K ta σ H Q := h
theorem k_ost {f : Str} {to te : TE} (h : te σ H fun y H1 => to σ H1 fun x H2 => ∃ a C : Addr, x = .ref a ∧ OexC K C ∧ PySem.W.findIn K (.ref C) f = some none ∧
  ((H2 a = some (exo a C none) ∧ ∀ dx, H2 dx = none → dx ≠ a → D.nx σ (upd (upd H2 dx (exd dx [(f, y)])) a (exo a C (some dx)))) ∨
    ∃ (dx : Addr) (fs : List (Str × V)), H2 a = some (exo a C (some dx)) ∧ H2 dx = some (exd dx fs) ∧ fs.length ≤ 900 ∧ D.nx σ (upd H2 dx (exd dx ((f, y) :: fs))))) : tOst K f to te D σ H := h
theorem k_cfn {Q : VK} {sp : Sp} {E : XK} {ta : TE} {t : TA} (h : ta σ H fun x H1 => x = .ref C ∧ t σ H1 fun vs H2 => sp (vs ++ []) H2 Q E) : tCFn C sp E ta t σ H Q := h
/-- raise C() -/
theorem k_raise {Q : XK} (T : OexC K C) (no : PySem.W.findIn K (.ref C) "word" = some none) (q : ∀ d H', H d = none → Same H H' → H' d = some (.xd [("word", .str w)]) → Q (.ref C) (some d) H') : tMkO C (spInit0 K w) [] tNil σ H Q := by
  refine ⟨Nat.zero_le _, fun a ha => ⟨a, C, rfl, T, no, upd_same, fun dx hdx na => ⟨rfl, dx, [("word", .str w)], upd_same, ?_, ?_, ?_⟩⟩⟩
  · rw [upd_ne na]
    exact upd_same
  · rw [upd_ne na] at hdx
    exact hdx
  · have hd : H dx = none := by
      rw [upd_ne na] at hdx
      exact hdx
    refine q dx _ hd (fun b o hb => ?_) upd_same
    have b1 : b ≠ dx := ne_of_none hb hd
    have b2 : b ≠ a := ne_of_none hb ha
    rw [upd_ne b1, del_ne b2, upd_ne b2, upd_ne b1, upd_ne b2]
    exact hb
end
end Ls
namespace Ls
open PySem PySem.Spec PyProof.Rows L2
/-! ### the law, in plain Lean -/
theorem rowV_ext {n : Nat} {x y : Int → Int} (h : ∀ p : Int, 0 ≤ p → p < n → x p = y p) : rowV n x = rowV n y := by
  unfold rowV
  refine List.map_congr_left fun i hi => ?_
  rw [h _ (by omega) (by have := List.mem_range.mp hi; omega)]
theorem least_one {n : Nat} {m : Int} {ts us : List Tie} {x y : Int → Int} (hx : LeastT n m ts x) (hy : LeastT n m us y) (h : ∀ z, FeasT n m ts z ↔ FeasT n m us z) : ∀ p : Int, 0 ≤ p → p < n → x p = y p := fun p p0 p1 => by
  have a := hx.2 y ((h y).mpr hy.1) p p0 p1
  have b := hy.2 x ((h x).mp hx.1) p p0 p1
  omega
theorem feas_sub {n : Nat} {m : Int} {ts us : List Tie} {x : Int → Int} (h : ∀ t ∈ us, t ∈ ts) (hx : FeasT n m ts x) : FeasT n m us x := ⟨hx.1, fun t ht => hx.2 t (h t ht)⟩
/-- what amounts answers, as it stands -/
def Ans (K : PySem.W.Frag) (H : Hp) (v : V) (n : Nat) (most : Int) (ts : List Tie) : Prop := (∃ p x, v = .ref p ∧ H p = some (.lst (rowV n x)) ∧ LeastT n most ts x) ∨ (v = .non ∧ ∀ x, ¬ FeasT n most ts x)
theorem Ans.mono {K : PySem.W.Frag} {H H' : Hp} {v : V} {n : Nat} {most : Int} {ts : List Tie} (h : Ans K H v n most ts) (s : Same H H') : Ans K H' v n most ts := by
  rcases h with ⟨p, x, rfl, h1, h2⟩ | h
  · exact .inl ⟨p, x, rfl, s _ _ h1, h2⟩
  · exact .inr h
theorem Ans.keep {K : PySem.W.Frag} {H H' : Hp} {v : V} {n : Nat} {most : Int} {ts : List Tie} {d c : Addr} (h : Ans K H v n most ts) (hD : Draw K H d c) (k : Keep d H H') : Ans K H' v n most ts := by
  rcases h with ⟨p, x, rfl, h1, h2⟩ | h
  · exact .inl ⟨p, x, rfl, k.at (hD.ne h1 (by intro kvs z; cases z)) h1, h2⟩
  · exact .inr h
def rowD (n : Nat) (x : Int → Int) : PyData := .list ((List.range n).map fun (i : Nat) => PyData.int (x i))
theorem row_dp {K : PySem.W.Frag} {H : Hp} {p : Addr} {n : Nat} {x : Int → Int} (h : H p = some (.lst (rowV n x))) : Dp K H (.ref p) (rowD n x) := by
  refine .lst (sql_of h) ?_
  have := ImAll.dp (K := K) (H := H) (ImAll.ints ((List.range n).map fun (i : Nat) => x i))
  rw [List.map_map, List.map_map] at this
  exact this
theorem row_ok {n : Nat} {x : Int → Int} (h : n ≤ 6) : OkD 1 (rowD n x) := by
  refine ⟨by rw [List.length_map, List.length_range]; omega, fun d hd => ?_⟩
  obtain ⟨i, _, rfl⟩ := List.mem_map.mp hd
  exact True.intro
theorem Ans.data {K : PySem.W.Frag} {H : Hp} {v u : V} {n : Nat} {most : Int} {ts us : List Tie} (hn : n ≤ 6) (h1 : Ans K H v n most ts) (h2 : Ans K H u n most us) (h : ∀ z, FeasT n most ts z ↔ FeasT n most us z) : ∃ d, Dp K H v d ∧ Dp K H u d ∧ OkD 1 d := by
  rcases h1 with ⟨p, x, rfl, a1, a2⟩ | ⟨rfl, a⟩
  · rcases h2 with ⟨q, y, rfl, b1, b2⟩ | ⟨rfl, b⟩
    · rw [rowV_ext (least_one b2 a2 (fun z => (h z).symm))] at b1
      exact ⟨_, row_dp a1, row_dp b1, row_ok hn⟩
    · exact (b x ((h x).mp a2.1)).elim
  · rcases h2 with ⟨q, y, rfl, b1, b2⟩ | ⟨rfl, b⟩
    · exact (a y ((h y).mpr b2.1)).elim
    · exact ⟨.none, .non, .non, True.intro⟩
theorem use_amounts {K : PySem.W.Frag} {H : Hp} {Q : VK} {E : XK} {n : Nat} {most : Int} {l : Addr} {us : List V} {ts : List Tie} (n1 : 1 ≤ n) (n2 : n ≤ 6) (m1 : 0 ≤ most) (m2 : most ≤ 1000000000000) (hl : H l = some (.lst us)) (hT : TieL K H us ts) (hg : ∀ t ∈ ts, GoodT n 999999 t) (hlen : ts.length ≤ 1000)
    (q : ∀ v H', Same H H' → Ans K H' v n most ts → Q v H') : spAmounts K [.int n, .ref l, .int most] H Q E :=
  ⟨n, most, l, us, ts, rfl, n1, n2, m1, m2, hl, hT, hg, hlen, fun p x H' _ s h1 h2 => q _ _ s (.inl ⟨p, x, rfl, h1, h2⟩), fun H' s h => q _ _ s (.inr ⟨rfl, h⟩)⟩
theorem use_ring {K : PySem.W.Frag} {H : Hp} {Q : VK} {E : XK} {n : Nat} {most : Int} {l : Addr} {us : List V} {ts : List Tie} (n1 : 1 ≤ n) (n2 : n ≤ 6) (m1 : 0 ≤ most) (m2 : most ≤ 1000000000000) (hl : H l = some (.lst us)) (hT : TieL K H us ts) (hg : ∀ t ∈ ts, GoodT n 999999 t) (hlen : ts.length ≤ 1000) (hno : ∀ x, ¬ FeasT n most ts x)
    (q : ∀ p us rs H', H p = none → Same H H' → H' p = some (.lst us) → TieL K H' us rs → rs.length ≤ n + 1 → Lm.Ring (bnd n most ++ ts) rs → Q (.ref p) H') : spRing K [.int n, .ref l, .int most] H Q E :=
  ⟨n, most, l, us, ts, rfl, n1, n2, m1, m2, hl, hT, hg, hlen, fun p us rs H' hp s h1 h2 h3 h4 _ => q p us rs H' hp s h1 h2 h3 h4, fun H' x s h => (hno x h).elim⟩
theorem row_at {n : Nat} {x : Int → Int} {j : Int} (j0 : 0 ≤ j) (j1 : j < n) : atI (rowV n x) j = some (.int (x j)) := by
  obtain ⟨i, rfl⟩ := Int.eq_ofNat_of_zero_le j0
  refine atI_nat ?_
  unfold rowV
  rw [List.getElem?_map, List.getElem?_range (by omega)]
  rfl
theorem k_nt {A B : Prop} (h : B) : if (!true) = true then A else B := by rw [if_neg (by decide)]; exact h
theorem k_nf {A B : Prop} (h : A) : if (!false) = true then A else B := by rw [if_pos (by decide)]; exact h
theorem eqv_tie (t u : Tie) : PyData.eqv (tieD t) (tieD u) = decide (t = u) := by
  obtain ⟨a, b, c⟩ := t
  obtain ⟨d, e, f⟩ := u
  simp only [tieD, PyData.eqv, PyData.eqvAll, Bool.and_true]
  by_cases h : (a, b, c) = (d, e, f)
  · cases h
    simp
  · rw [decide_eq_false h]
    simp only [Bool.and_eq_false_iff, beq_eq_false_iff_ne, ne_eq]
    by_cases h1 : a = d
    · by_cases h2 : b = e
      · refine .inr (.inr fun h3 => h ?_)
        rw [h1, h2, h3]
      · exact .inr (.inl h2)
    · exact .inl h1
theorem any_tie (t : Tie) (ts : List Tie) : ((ts.map tieD).any fun z => PyData.eqv z (tieD t)) = decide (t ∈ ts) := by
  by_cases h : t ∈ ts
  · rw [decide_eq_true h, List.any_eq_true]
    exact ⟨tieD t, List.mem_map.mpr ⟨t, h, rfl⟩, by rw [eqv_tie]; exact decide_eq_true rfl⟩
  · rw [decide_eq_false h, List.any_eq_false]
    intro d hd
    obtain ⟨u, hu, rfl⟩ := List.mem_map.mp hd
    rw [eqv_tie]
    intro e
    have e := of_decide_eq_true e
    subst e
    exact h hu
theorem tie_ok (t : Tie) : OkD 1 (tieD t) := ⟨by show 3 ≤ 100000; decide, fun d hd => by
  rcases List.mem_cons.mp hd with rfl | hd
  · exact True.intro
  · rcases List.mem_cons.mp hd with rfl | hd
    · exact True.intro
    · rw [List.mem_singleton] at hd
      subst hd
      exact True.intro⟩
theorem ties_ok {ts : List Tie} (h : ts.length ≤ 100000) : OkD 2 (.list (ts.map tieD)) := ⟨by rw [List.length_map]; exact h, fun d hd => by
  obtain ⟨t, _, rfl⟩ := List.mem_map.mp hd
  exact tie_ok t⟩
theorem k_inT {K : PySem.W.Frag} {H : Hp} {Q : VK} {p a : Addr} {t : Tie} {us : List V} {ts : List Tie} (h1 : SqT K H a [.int t.1, .int t.2.1, .int t.2.2]) (h2 : SqL K H p us) (h3 : TieL K H us ts) (h4 : ts.length ≤ 100000) (q : Q (.bl (decide (t ∈ ts))) H) : rInU K (.ref a) (.ref p) H Q :=
  .inr (.inl ⟨tieD t, ts.map tieD, Im.dp (.tup h1 (.cons (.int t.1) (.cons (.int t.2.1) (.cons (.int t.2.2) .nil)))), .lst h2 (ImAll.dp h3), (tie_ok t).shaped (by decide), (ties_ok h4).shaped (by decide), by rw [any_tie]; exact q⟩)
theorem k_max {K : PySem.W.Frag} {H : Hp} {Q : VK} {p : Addr} {n : Nat} {x : Int → Int} (hn : 0 < n) (h : H p = some (.lst (rowV n x))) (q : ∀ i : Int, 0 ≤ i → i < n → (∀ j : Int, 0 ≤ j → j < n → x j ≤ x i) → Q (.int (x i)) H) : rMaxU K [.ref p] H Q := by
  refine .inr ⟨p, (List.range n).map fun (i : Nat) => x i, rfl, ?_, ?_, fun m hm hmax => ?_⟩
  · rw [List.map_map]
    exact sql_of h
  · rw [List.length_map, List.length_range]
    exact hn
  · obtain ⟨i, hi, rfl⟩ := List.mem_map.mp hm
    have hi := List.mem_range.mp hi
    refine q i (by omega) (by omega) fun j j0 j1 => hmax _ (List.mem_map.mpr ⟨j.toNat, List.mem_range.mpr (by omega), by rw [Int.toNat_of_nonneg j0]⟩)
theorem least_best {n : Nat} {m : Int} {ts : List Tie} {x : Int → Int} (h : LeastT n m ts x) {i : Int} (i0 : 0 ≤ i) (i1 : i < n) (hmax : ∀ j : Int, 0 ≤ j → j < n → x j ≤ x i) : LeastT n (x i) ts x :=
  ⟨⟨fun p p0 p1 => ⟨(h.1.1 p p0 p1).1, hmax p p0 p1⟩, h.1.2⟩, fun y hy => h.2 y ⟨fun p p0 p1 => ⟨(hy.1 p p0 p1).1, Int.le_trans (hy.1 p p0 p1).2 (h.1.1 i i0 i1).2⟩, hy.2⟩⟩
theorem less_bars {n : Nat} {m k : Int} {ts : List Tie} {x : Int → Int} (h : LeastT n m ts x) {i : Int} (i0 : 0 ≤ i) (i1 : i < n) (hk : k < x i) (y : Int → Int) : ¬ FeasT n k ts y := fun hy => by
  have a := h.2 y ⟨fun p p0 p1 => ⟨(hy.1 p p0 p1).1, by have := (hy.1 p p0 p1).2; have := (h.1.1 i i0 i1).2; omega⟩, hy.2⟩ i i0 i1
  have b := (hy.1 i i0 i1).2
  omega
/-! lanes numbered on -/
theorem mv_back {n : Int} {b p : Int} (p0 : 0 ≤ p) (p1 : p < n) : ((p + b) % n - b) % n = p := by
  rw [Int.sub_emod, Int.emod_emod, ← Int.sub_emod, show p + b - b = p by omega]
  exact Int.emod_eq_of_lt p0 p1
theorem mv_forth {n : Int} {b p : Int} (p0 : 0 ≤ p) (p1 : p < n) : ((p - b) % n + b) % n = p := by
  rw [Int.add_emod, Int.emod_emod, ← Int.add_emod, show p - b + b = p by omega]
  exact Int.emod_eq_of_lt p0 p1
theorem moved_good {n : Nat} {b w : Int} {ts : List Tie} (hn : 1 ≤ n) (h : ∀ t ∈ ts, GoodT n w t) : ∀ t ∈ ts.map (moveT n b), GoodT n w t := by
  intro t ht
  obtain ⟨u, hu, rfl⟩ := List.mem_map.mp ht
  obtain ⟨a1, a2, a3, a4, a5, a6, a7⟩ := h u hu
  refine ⟨Int.emod_nonneg _ (by omega), Int.emod_lt_of_pos _ (by omega), Int.emod_nonneg _ (by omega), Int.emod_lt_of_pos _ (by omega), fun e => a5 ?_, a6, a7⟩
  have e : (u.1 + b) % n = (u.2.1 + b) % n := e
  have := mv_back (b := b) a1 a2
  rw [e, mv_back a3 a4] at this
  exact this.symm
theorem feas_moved {n : Nat} {m b : Int} {ts : List Tie} (hn : 1 ≤ n) {w : Int} (hg : ∀ t ∈ ts, GoodT n w t) {x : Int → Int} (h : FeasT n m ts x) : FeasT n m (ts.map (moveT n b)) (fun p => x ((p - b) % n)) := by
  refine ⟨fun p p0 p1 => h.1 _ (Int.emod_nonneg _ (by omega)) (Int.emod_lt_of_pos _ (by omega)), fun t ht => ?_⟩
  obtain ⟨u, hu, rfl⟩ := List.mem_map.mp ht
  obtain ⟨a1, a2, a3, a4, _⟩ := hg u hu
  have c : x u.2.1 + u.2.2 ≤ x u.1 := h.2 u hu
  show x (((u.2.1 + b) % n - b) % n) + u.2.2 ≤ x (((u.1 + b) % n - b) % n)
  rw [mv_back a1 a2, mv_back a3 a4]
  exact c
theorem feas_back {n : Nat} {m b : Int} {ts : List Tie} (hn : 1 ≤ n) {y : Int → Int} (h : FeasT n m (ts.map (moveT n b)) y) : FeasT n m ts (fun p => y ((p + b) % n)) := by
  refine ⟨fun p p0 p1 => h.1 _ (Int.emod_nonneg _ (by omega)) (Int.emod_lt_of_pos _ (by omega)), fun t ht => ?_⟩
  exact h.2 _ (List.mem_map.mpr ⟨t, ht, rfl⟩)
theorem least_moved {n : Nat} {m b : Int} {ts : List Tie} (hn : 1 ≤ n) {w : Int} (hg : ∀ t ∈ ts, GoodT n w t) {x : Int → Int} (h : LeastT n m ts x) : LeastT n m (ts.map (moveT n b)) (fun p => x ((p - b) % n)) := by
  refine ⟨feas_moved hn hg h.1, fun y hy p p0 p1 => ?_⟩
  have := h.2 _ (feas_back hn hy) ((p - b) % n) (Int.emod_nonneg _ (by omega)) (Int.emod_lt_of_pos _ (by omega))
  have : x ((p - b) % n) ≤ y (((p - b) % n + b) % n) := this
  rw [mv_forth p0 p1] at this
  exact this
/-- with the ties of a ring by themselves there are no amounts either -/
theorem ring_bars {n : Nat} {m : Int} {ts rs us : List Tie} (hg : ∀ t ∈ ts, GoodT n 999999 t) (hr : Lm.Ring (bnd n m ++ ts) rs) (hu : ∀ r ∈ rs, r ∈ ts → r ∈ us) (hus : ∀ t ∈ us, t ∈ ts) (x : Int → Int) : ¬ FeasT n m us x := fun h => by
  have hs := sol_of (fun t ht => hg t (hus t ht)) h
  refine hr.bars (fun p => if 0 ≤ p ∧ p < (n : Int) then x p else 0) fun r hr' => ?_
  rcases List.mem_append.mp (hr.mem r hr') with a | a
  · exact hs.2.2 r (List.mem_append_left _ a)
  · exact hs.2.2 r (List.mem_append_right _ (hu r hr' a))
end Ls
namespace Ls
open PySem PySem.Spec PyProof.Rows L2
theorem range_all_get {α : Type} (xs : List α) (f : α → Bool) (d : Bool) : (List.range xs.length).all (fun i => (xs[i]?.map f).getD d) = xs.all f := by
  have h := congrArg (fun l => l.all id) (range_map_get xs f d)
  simp only [List.all_map] at h
  exact h
theorem range_any_get {α : Type} (xs : List α) (f : α → Bool) (d : Bool) : (List.range xs.length).any (fun i => (xs[i]?.map f).getD d) = xs.any f := by
  have h := congrArg (fun l => l.any id) (range_map_get xs f d)
  simp only [List.any_map] at h
  exact h
section
variable {K : PySem.W.Frag} {H : Hp} {Q : VK}
theorem k_allR {a : Addr} {n : Nat} {bf : Nat → Bool} (h : H a = some (.lst ((List.range n).map fun i => V.bl (bf i)))) (q : Q (.bl ((List.range n).all bf)) H) : rAll K [.ref a] H Q := by
  refine k_all (bs := (List.range n).map bf) ?_ ?_
  · rw [List.map_map]
    exact sql_of h
  · rw [List.all_map]
    exact q
theorem k_anyR {a : Addr} {n : Nat} {bf : Nat → Bool} (h : H a = some (.lst ((List.range n).map fun i => V.bl (bf i)))) (q : Q (.bl ((List.range n).any bf)) H) : rAny K [.ref a] H Q := by
  refine k_any (bs := (List.range n).map bf) ?_ ?_
  · rw [List.map_map]
    exact sql_of h
  · rw [List.any_map]
    exact q
theorem k_sumR {a : Addr} {ns : List Int} (h : SqL K H a (ns.map V.int)) (q : Q (.int ns.sum) H) : rSum K [.ref a] H Q := by
  exact ⟨a, ns, rfl, h, q⟩
end
/-! ### rows that meet ties -/
def atZ (ns : List Int) (p : Int) : Int := ns.getD p.toNat 0
theorem atZ_at {ns : List Int} {p : Int} (h0 : 0 ≤ p) (h1 : p < ns.length) : atI (ns.map V.int) p = some (.int (atZ ns p)) := by
  obtain ⟨i, rfl⟩ := Int.eq_ofNat_of_zero_le h0
  refine atI_nat ?_
  unfold atZ
  rw [List.getElem?_map, List.getElem?_eq_getElem (by omega), Int.toNat_natCast, List.getD_eq_getElem?_getD, List.getElem?_eq_getElem (by omega)]
  rfl
def inB (top : Int) (ns : List Int) : Bool := ns.all fun a => decide (0 ≤ a) && decide (a ≤ top)
def tiesB (ts : List Tie) (ns : List Int) : Bool := ts.all fun t => decide (atZ ns t.2.1 + t.2.2 ≤ atZ ns t.1)
def spMeets (K : PySem.W.Frag) : Sp := fun vs H Q _ => ∃ (n : Nat) (most : Int) (l r : Addr) (us : List V) (ts : List Tie) (ns : List Int), vs = [.int n, .ref l, .ref r, .int most] ∧ 1 ≤ n ∧ n ≤ 6 ∧ 0 ≤ most ∧ most ≤ 1000000000000 ∧ SqL K H l us ∧ TieL K H us ts ∧ (∀ t ∈ ts, GoodT n 999999 t) ∧ ts.length ≤ 1000 ∧
  SqL K H r (ns.map V.int) ∧ ns.length ≤ 1000 ∧ ∀ H', Same H H' → Q (.bl (decide (ns.length = n) && (inB most ns && tiesB ts ns))) H'
theorem use_meets {K : PySem.W.Frag} {H : Hp} {Q : VK} {E : XK} {n : Nat} {most : Int} {l r : Addr} {us : List V} {ts : List Tie} {ns : List Int} (n1 : 1 ≤ n) (n2 : n ≤ 6) (m1 : 0 ≤ most) (m2 : most ≤ 1000000000000) (hl : SqL K H l us) (hT : TieL K H us ts) (hg : ∀ t ∈ ts, GoodT n 999999 t) (hlen : ts.length ≤ 1000)
    (hr : SqL K H r (ns.map V.int)) (hns : ns.length ≤ 1000) (q : ∀ H', Same H H' → Q (.bl (decide (ns.length = n) && (inB most ns && tiesB ts ns))) H') : spMeets K [.int n, .ref l, .ref r, .int most] H Q E := ⟨n, most, l, r, us, ts, ns, rfl, n1, n2, m1, m2, hl, hT, hg, hlen, hr, hns, q⟩
def spLMeets (K : PySem.W.Frag) : Sp := fun vs H Q _ => ∃ (n : Nat) (top : Int) (l r : Addr) (us : List V) (ts : List Tie) (ns : List Int), vs = [.ref l, .ref r, .int top] ∧ SqL K H l us ∧ TieL K H us ts ∧ (∀ t ∈ ts, GoodT n 999999 t) ∧ ts.length ≤ 1000 ∧
  SqL K H r (ns.map V.int) ∧ ns.length = n ∧ ns.length ≤ 1000 ∧ ∀ H', Same H H' → Q (.bl (inB top ns && tiesB ts ns)) H'
theorem use_lmeets {K : PySem.W.Frag} {H : Hp} {Q : VK} {E : XK} {n : Nat} {top : Int} {l r : Addr} {us : List V} {ts : List Tie} {ns : List Int} (hl : SqL K H l us) (hT : TieL K H us ts) (hg : ∀ t ∈ ts, GoodT n 999999 t) (hlen : ts.length ≤ 1000)
    (hr : SqL K H r (ns.map V.int)) (hn : ns.length = n) (hns : ns.length ≤ 1000) (q : ∀ H', Same H H' → Q (.bl (inB top ns && tiesB ts ns)) H') : spLMeets K ([.ref l, .ref r, .int top] ++ []) H Q E := ⟨n, top, l, r, us, ts, ns, rfl, hl, hT, hg, hlen, hr, hn, hns, q⟩
/-! ### the ring, as the laws look at it -/
def spIsRing (K : PySem.W.Frag) : Sp := fun vs H Q _ => ∃ (n : Nat) (top : Int) (l r : Addr) (us ur : List V) (ts rs : List Tie), vs = [.ref r, .int n, .ref l, .int top] ∧ n ≤ 6 ∧ SqL K H l us ∧ TieL K H us ts ∧ ts.length ≤ 1000 ∧ SqL K H r ur ∧ TieL K H ur rs ∧ rs.length ≤ 100 ∧ Lm.Ring (bnd n top ++ ts) rs ∧ ∀ H', Same H H' → Q (.bl true) H'
theorem use_isring {K : PySem.W.Frag} {H : Hp} {Q : VK} {E : XK} {n : Nat} {top : Int} {l r : Addr} {us ur : List V} {ts rs : List Tie} (hn : n ≤ 6) (hl : SqL K H l us) (hT : TieL K H us ts) (hlen : ts.length ≤ 1000) (hr : SqL K H r ur) (hR : TieL K H ur rs) (hrl : rs.length ≤ 100) (hring : Lm.Ring (bnd n top ++ ts) rs)
    (q : ∀ H', Same H H' → Q (.bl true) H') : spIsRing K ([.ref r, .int n, .ref l, .int top] ++ []) H Q E := ⟨n, top, l, r, us, ur, ts, rs, rfl, hn, hl, hT, hlen, hr, hR, hrl, hring, q⟩
end Ls
namespace Lw
open PySem PySem.Spec PyProof.Rows L2 Ls
def top (i : Nat) : Stmt := PySem.Challenge.pw_lanescribe_k26_clocks_refused.main.body.getD i (.Pass ⟨0, 0, 0, 0⟩)
abbrev s_BadTie___init__ : Stmt := inClass (top 4) 0
theorem sc_BadTie___init__ : FnScope ["self"] ["self"] (defScope s_BadTie___init__) := ⟨rfl, rfl, rfl, by decide +kernel, rfl, by decide +kernel, by decide +kernel⟩
abbrev s_BadSize___init__ : Stmt := inClass (top 3) 0
theorem sc_BadSize___init__ : FnScope ["self"] ["self"] (defScope s_BadSize___init__) := ⟨rfl, rfl, rfl, by decide +kernel, rfl, by decide +kernel, by decide +kernel⟩
abbrev s_ScribeError___init__ : Stmt := inClass (top 1) 0
theorem sc_ScribeError___init__ : FnScope ["self", "word"] ["self", "word"] (defScope s_ScribeError___init__) := ⟨rfl, rfl, rfl, by decide +kernel, rfl, by decide +kernel, by decide +kernel⟩
abbrev s_law : Stmt := top 26
theorem sc_law : FnScope ["_law_script", "_law_d", "_law_turn", "_law_lanes", "_law_some", "_law_ties_here", "_law_odd", "_law_top", "_law_due", "_law_tie", "_law_words"] ["_law_script"] (defScope s_law) := ⟨rfl, rfl, rfl, by decide +kernel, rfl, by decide +kernel, by decide +kernel⟩
abbrev s__law_begin : Stmt := top 19
theorem sc__law_begin : FnScope ["_law_script", "_law_seed", "_law_cell"] ["_law_script"] (defScope s__law_begin) := ⟨rfl, rfl, rfl, by decide +kernel, rfl, by decide +kernel, by decide +kernel⟩
abbrev s__law_of : Stmt := top 21
theorem sc__law_of : FnScope ["_law_d", "_law_things"] ["_law_d", "_law_things"] (defScope s__law_of) := ⟨rfl, rfl, rfl, by decide +kernel, rfl, by decide +kernel, by decide +kernel⟩
abbrev s__law_ties : Stmt := top 24
theorem sc__law_ties : FnScope ["_law_d", "_law_lanes", "_law_wide", "_law_found", "_law_step", "_law_one", "_law_other"] ["_law_d", "_law_lanes", "_law_wide"] (defScope s__law_ties) := ⟨rfl, rfl, rfl, by decide +kernel, rfl, by decide +kernel, by decide +kernel⟩
abbrev s__law_pick : Stmt := top 20
theorem sc__law_pick : FnScope ["_law_d", "_law_many", "_law_cell", "_law_digit", "_law_one"] ["_law_d", "_law_many"] (defScope s__law_pick) := ⟨rfl, rfl, rfl, by decide +kernel, rfl, by decide +kernel, by decide +kernel⟩
abbrev s__law_far : Stmt := top 22
theorem sc__law_far : FnScope ["_law_d", "_law_number"] ["_law_d"] (defScope s__law_far) := ⟨rfl, rfl, rfl, by decide +kernel, rfl, by decide +kernel, by decide +kernel⟩
abbrev s__law_ask : Stmt := top 23
theorem sc__law_ask : FnScope ["_law_ask_here", "_law_told", "_law_word", "e"] ["_law_ask_here"] (defScope s__law_ask) := ⟨rfl, rfl, rfl, by decide +kernel, rfl, by decide +kernel, by decide +kernel⟩
abbrev s__law_tie_ok : Stmt := top 25
theorem sc__law_tie_ok : FnScope ["_law_tie", "_law_lanes", "_law_one", "_law_other", "_law_least"] ["_law_tie", "_law_lanes"] (defScope s__law_tie_ok) := ⟨rfl, rfl, rfl, by decide +kernel, rfl, by decide +kernel, by decide +kernel⟩
abbrev s_amounts : Stmt := top 15
theorem sc_amounts : FnScope ["lanes", "ties", "most", "row", "ways", "last", "lane"] ["lanes", "ties", "most"] (defScope s_amounts) := ⟨rfl, rfl, rfl, by decide +kernel, rfl, by decide +kernel, by decide +kernel⟩
abbrev s_ring : Stmt := top 16
theorem sc_ring : FnScope ["lanes", "ties", "most", "row", "ways", "last", "begin", "step", "found"] ["lanes", "ties", "most"] (defScope s_ring) := ⟨rfl, rfl, rfl, by decide +kernel, rfl, by decide +kernel, by decide +kernel⟩
abbrev s_meets : Stmt := top 17
theorem sc_meets : FnScope ["lanes", "ties", "row", "most", "amount", "one", "other", "least"] ["lanes", "ties", "row", "most"] (defScope s_meets) := ⟨rfl, rfl, rfl, by decide +kernel, rfl, by decide +kernel, by decide +kernel⟩
abbrev s_look_ties : Stmt := top 11
theorem sc_look_ties : FnScope ["lanes", "ties", "most", "one", "other", "least"] ["lanes", "ties", "most"] (defScope s_look_ties) := ⟨rfl, rfl, rfl, by decide +kernel, rfl, by decide +kernel, by decide +kernel⟩
abbrev s_settled : Stmt := top 14
theorem sc_settled : FnScope ["lanes", "ties", "most", "row", "place", "ways", "last", "step"] ["lanes", "ties", "most"] (defScope s_settled) := ⟨rfl, rfl, rfl, by decide +kernel, rfl, by decide +kernel, by decide +kernel⟩
abbrev s_pushed : Stmt := top 13
theorem sc_pushed : FnScope ["row", "ties", "ways", "last", "tie", "one", "other", "least"] ["row", "ties", "ways"] (defScope s_pushed) := ⟨rfl, rfl, rfl, by decide +kernel, rfl, by decide +kernel, by decide +kernel⟩
abbrev s_bounds_of : Stmt := top 12
theorem sc_bounds_of : FnScope ["lanes", "most", "lane"] ["lanes", "most"] (defScope s_bounds_of) := ⟨rfl, rfl, rfl, by decide +kernel, rfl, by decide +kernel, by decide +kernel⟩
structure Env (K : PySem.W.Frag) (mg : Str → Option Value) where
  a_law : Addr
  fd_law : FuncData
  F_law : FunD K "law" "law" (defArgs s_law) (defBody s_law) (defScope s_law) [] [] a_law fd_law
  g_law : mg "law" = some (.ref a_law)
  a__law_begin : Addr
  fd__law_begin : FuncData
  F__law_begin : FunD K "_law_begin" "_law_begin" (defArgs s__law_begin) (defBody s__law_begin) (defScope s__law_begin) [] [] a__law_begin fd__law_begin
  g__law_begin : mg "_law_begin" = some (.ref a__law_begin)
  a__law_of : Addr
  fd__law_of : FuncData
  F__law_of : FunD K "_law_of" "_law_of" (defArgs s__law_of) (defBody s__law_of) (defScope s__law_of) [] [] a__law_of fd__law_of
  g__law_of : mg "_law_of" = some (.ref a__law_of)
  a__law_ties : Addr
  fd__law_ties : FuncData
  F__law_ties : FunD K "_law_ties" "_law_ties" (defArgs s__law_ties) (defBody s__law_ties) (defScope s__law_ties) [] [] a__law_ties fd__law_ties
  g__law_ties : mg "_law_ties" = some (.ref a__law_ties)
  a__law_pick : Addr
  fd__law_pick : FuncData
  F__law_pick : FunD K "_law_pick" "_law_pick" (defArgs s__law_pick) (defBody s__law_pick) (defScope s__law_pick) [] [] a__law_pick fd__law_pick
  g__law_pick : mg "_law_pick" = some (.ref a__law_pick)
  a__law_far : Addr
  fd__law_far : FuncData
  F__law_far : FunD K "_law_far" "_law_far" (defArgs s__law_far) (defBody s__law_far) (defScope s__law_far) [] [] a__law_far fd__law_far
  g__law_far : mg "_law_far" = some (.ref a__law_far)
  a__law_ask : Addr
  fd__law_ask : FuncData
  F__law_ask : FunD K "_law_ask" "_law_ask" (defArgs s__law_ask) (defBody s__law_ask) (defScope s__law_ask) [] [] a__law_ask fd__law_ask
  g__law_ask : mg "_law_ask" = some (.ref a__law_ask)
  a__law_tie_ok : Addr
  fd__law_tie_ok : FuncData
  F__law_tie_ok : FunD K "_law_tie_ok" "_law_tie_ok" (defArgs s__law_tie_ok) (defBody s__law_tie_ok) (defScope s__law_tie_ok) [] [] a__law_tie_ok fd__law_tie_ok
  g__law_tie_ok : mg "_law_tie_ok" = some (.ref a__law_tie_ok)
  a_amounts : Addr
  fd_amounts : FuncData
  F_amounts : FunD K "amounts" "amounts" (defArgs s_amounts) (defBody s_amounts) (defScope s_amounts) [] [("most", .int 99999)] a_amounts fd_amounts
  g_amounts : mg "amounts" = some (.ref a_amounts)
  a_ring : Addr
  fd_ring : FuncData
  F_ring : FunD K "ring" "ring" (defArgs s_ring) (defBody s_ring) (defScope s_ring) [] [("most", .int 99999)] a_ring fd_ring
  g_ring : mg "ring" = some (.ref a_ring)
  a_meets : Addr
  fd_meets : FuncData
  F_meets : FunD K "meets" "meets" (defArgs s_meets) (defBody s_meets) (defScope s_meets) [] [("most", .int 99999)] a_meets fd_meets
  g_meets : mg "meets" = some (.ref a_meets)
  a_look_ties : Addr
  fd_look_ties : FuncData
  F_look_ties : FunD K "look_ties" "look_ties" (defArgs s_look_ties) (defBody s_look_ties) (defScope s_look_ties) [] [] a_look_ties fd_look_ties
  g_look_ties : mg "look_ties" = some (.ref a_look_ties)
  a_settled : Addr
  fd_settled : FuncData
  F_settled : FunD K "settled" "settled" (defArgs s_settled) (defBody s_settled) (defScope s_settled) [] [] a_settled fd_settled
  g_settled : mg "settled" = some (.ref a_settled)
  a_pushed : Addr
  fd_pushed : FuncData
  F_pushed : FunD K "pushed" "pushed" (defArgs s_pushed) (defBody s_pushed) (defScope s_pushed) [] [] a_pushed fd_pushed
  g_pushed : mg "pushed" = some (.ref a_pushed)
  a_bounds_of : Addr
  fd_bounds_of : FuncData
  F_bounds_of : FunD K "bounds_of" "bounds_of" (defArgs s_bounds_of) (defBody s_bounds_of) (defScope s_bounds_of) [] [] a_bounds_of fd_bounds_of
  g_bounds_of : mg "bounds_of" = some (.ref a_bounds_of)
  fi_ScribeError : Addr
  fdi_ScribeError : FuncData
  FI_ScribeError : FunD K "__init__" "ScribeError.__init__" (defArgs s_ScribeError___init__) (defBody s_ScribeError___init__) (defScope s_ScribeError___init__) [] [] fi_ScribeError fdi_ScribeError
  fi_BadSize : Addr
  fdi_BadSize : FuncData
  FI_BadSize : FunD K "__init__" "BadSize.__init__" (defArgs s_BadSize___init__) (defBody s_BadSize___init__) (defScope s_BadSize___init__) [] [] fi_BadSize fdi_BadSize
  fi_BadTie : Addr
  fdi_BadTie : FuncData
  FI_BadTie : FunD K "__init__" "BadTie.__init__" (defArgs s_BadTie___init__) (defBody s_BadTie___init__) (defScope s_BadTie___init__) [] [] fi_BadTie fdi_BadTie
  C_ScribeError : Addr
  g_ScribeError : mg "ScribeError" = some (.ref C_ScribeError)
  C_BadSize : Addr
  g_BadSize : mg "BadSize" = some (.ref C_BadSize)
  C_BadTie : Addr
  g_BadTie : mg "BadTie" = some (.ref C_BadTie)
  C_BadValue : Addr
  g_BadValue : mg "BadValue" = some (.ref C_BadValue)
  C_Missing : Addr
  g_Missing : mg "Missing" = some (.ref C_Missing)
  r_ScribeError : ClX.CRead K C_ScribeError (.type "type")
  v_ScribeError : ClX.CVal K C_ScribeError (.type "type") "__init__" (.ref fi_ScribeError) (.ref fi_ScribeError)
  o_BadSize : OexC K C_BadSize
  i_BadSize : PySem.W.findIn K (.ref C_BadSize) "__init__" = some (some (.ref fi_BadSize))
  t_BadSize : PySem.W.typeIn K (.ref fi_BadSize) = some (.type "function")
  w_BadSize : PySem.W.findIn K (.ref C_BadSize) "word" = some none
  x_BadSize : XfC K C_BadSize
  e_BadSize_BadValue : PySem.W.exmOne K (.ref C_BadSize) (.ref C_BadValue) = some false
  e_BadSize_ScribeError : PySem.W.exmOne K (.ref C_BadSize) (.ref C_ScribeError) = some true
  e_BadSize_Missing : PySem.W.exmOne K (.ref C_BadSize) (.ref C_Missing) = some false
  o_BadTie : OexC K C_BadTie
  i_BadTie : PySem.W.findIn K (.ref C_BadTie) "__init__" = some (some (.ref fi_BadTie))
  t_BadTie : PySem.W.typeIn K (.ref fi_BadTie) = some (.type "function")
  w_BadTie : PySem.W.findIn K (.ref C_BadTie) "word" = some none
  x_BadTie : XfC K C_BadTie
  e_BadTie_BadValue : PySem.W.exmOne K (.ref C_BadTie) (.ref C_BadValue) = some false
  e_BadTie_ScribeError : PySem.W.exmOne K (.ref C_BadTie) (.ref C_ScribeError) = some true
  e_BadTie_Missing : PySem.W.exmOne K (.ref C_BadTie) (.ref C_Missing) = some false
  vei : PySem.W.findCls K (.type "ValueError") (.type "type") "__init__" = some (.val (.builtin "ValueError.__init__"))
  n_ValueError : mg "ValueError" = none
  n_range : mg "range" = none
  n_max : mg "max" = none
  n_min : mg "min" = none
  n_all : mg "all" = none
  n_len : mg "len" = none
  n_list : mg "list" = none
  n_str : mg "str" = none
  c_MOST_AMOUNT : ∃ u, mg "MOST_AMOUNT" = some u ∧ RelV (.int 99999) u
  c_MOST_LANES : ∃ u, mg "MOST_LANES" = some u ∧ RelV (.int 6) u
  c_GREATEST : ∃ u, mg "GREATEST" = some u ∧ RelV (.int 1000000000000) u
  c_LIMIT : ∃ u, mg "LIMIT" = some u ∧ RelV (.int 999999) u
section
variable {K : PySem.W.Frag} {mg : Str → Option Value}
theorem bI_ScribeError (E : Env K mg) : Binds K E.fdi_ScribeError ["self", "word"] [] := E.FI_ScribeError.bindsN fun _ _ _ _ _ _ us hl => match us, hl with | [_, _], _ => rfl
theorem bI_BadSize (E : Env K mg) : Binds K E.fdi_BadSize ["self"] [] := E.FI_BadSize.bindsN fun _ _ _ _ _ _ us hl => match us, hl with | [_], _ => rfl
theorem bI_BadTie (E : Env K mg) : Binds K E.fdi_BadTie ["self"] [] := E.FI_BadTie.bindsN fun _ _ _ _ _ _ us hl => match us, hl with | [_], _ => rfl
theorem b_law (E : Env K mg) : Binds K E.fd_law ["_law_script"] [] := E.F_law.bindsN fun _ _ _ _ _ _ us hl => match us, hl with | [_], _ => rfl
theorem b__law_begin (E : Env K mg) : Binds K E.fd__law_begin ["_law_script"] [] := E.F__law_begin.bindsN fun _ _ _ _ _ _ us hl => match us, hl with | [_], _ => rfl
theorem b__law_of (E : Env K mg) : Binds K E.fd__law_of ["_law_d", "_law_things"] [] := E.F__law_of.bindsN fun _ _ _ _ _ _ us hl => match us, hl with | [_, _], _ => rfl
theorem b__law_ties (E : Env K mg) : Binds K E.fd__law_ties ["_law_d", "_law_lanes", "_law_wide"] [] := E.F__law_ties.bindsN fun _ _ _ _ _ _ us hl => match us, hl with | [_, _, _], _ => rfl
theorem b__law_pick (E : Env K mg) : Binds K E.fd__law_pick ["_law_d", "_law_many"] [] := E.F__law_pick.bindsN fun _ _ _ _ _ _ us hl => match us, hl with | [_, _], _ => rfl
theorem b__law_far (E : Env K mg) : Binds K E.fd__law_far ["_law_d"] [] := E.F__law_far.bindsN fun _ _ _ _ _ _ us hl => match us, hl with | [_], _ => rfl
theorem b__law_ask (E : Env K mg) : Binds K E.fd__law_ask ["_law_ask_here"] [] := E.F__law_ask.bindsN fun _ _ _ _ _ _ us hl => match us, hl with | [_], _ => rfl
theorem b__law_tie_ok (E : Env K mg) : Binds K E.fd__law_tie_ok ["_law_tie", "_law_lanes"] [] := E.F__law_tie_ok.bindsN fun _ _ _ _ _ _ us hl => match us, hl with | [_, _], _ => rfl
theorem b_look_ties (E : Env K mg) : Binds K E.fd_look_ties ["lanes", "ties", "most"] [] := E.F_look_ties.bindsN fun _ _ _ _ _ _ us hl => match us, hl with | [_, _, _], _ => rfl
theorem b_settled (E : Env K mg) : Binds K E.fd_settled ["lanes", "ties", "most"] [] := E.F_settled.bindsN fun _ _ _ _ _ _ us hl => match us, hl with | [_, _, _], _ => rfl
theorem b_pushed (E : Env K mg) : Binds K E.fd_pushed ["row", "ties", "ways"] [] := E.F_pushed.bindsN fun _ _ _ _ _ _ us hl => match us, hl with | [_, _, _], _ => rfl
theorem b_bounds_of (E : Env K mg) : Binds K E.fd_bounds_of ["lanes", "most"] [] := E.F_bounds_of.bindsN fun _ _ _ _ _ _ us hl => match us, hl with | [_, _], _ => rfl
end
end Lw
namespace Ls
open PySem PySem.Spec PyProof.Rows L2 LamX
/-! ### a lambda handed to a def that calls it in a try: what is let out is told of the slots there -/
section
variable {X : Cx} {pins : List (Addr × Obj)} {σ : L2.St} {H : Hp} {s : Shared}
theorem pe_actZ {CXg : CXT} {Eg : XK} {Ng : List Str} {qg : Str} {sg : Scope} {g f c' : Addr} {cdg pm ctv : Value} {params : Arguments} {body : Expr} {scope : Scope} {k i : Nat} {a : Str} {pn : List (Addr × Obj)} {xe : Value → Shared → Prop} {W : WX} {tb : XK → TE} {p1 p2 : Pos}
    (I : Inv X pins σ H s) (L : LamS X.env.scope scope) (of : s.heap.get? f = some (PySem.W.kla_obj "<lambda>" (X.env.qual ++ "<lambda>") params body scope (cloFrom X.env.cells scope.names []) pm c' ctv)) (hfn : H f = none) (hfr : f ∉ frs X.stack)
    (bind0 : bindArgs (PySem.W.kla_fn "<lambda>" (X.env.qual ++ "<lambda>") params body scope (cloFrom X.env.cells scope.names []) pm (.ref c') ctv) ⟨[], []⟩ = pure [])
    (tk : Takes ((cxOf CXg X.prog X.w X.K X.mg X.base Ng qg sg g cdg X.A X.stack s H Eg).tr pn xe) W) (hr : Room (k + 1) (X.A.deeper (envOfC qg sg s.heap.objs.size g cdg)))
    (bodyP : ∀ (E : XK) (A : Around) (outer : List Env) (s : Shared) (H : Hp), Room k (A.deeper (lamEnv X scope s.heap.objs.size f c')) → PE (lamCx X A outer s H E scope f c') body (tb E))
    (hN : Ng[i]? = some a) (hv : Vis sg a) (hd : (a == ("__debug__" : Str)) = false := by decide) (hcd : (a == ("__classdict__" : Str)) = false := by decide) :
    PE ((cxOf CXg X.prog X.w X.K X.mg X.base Ng qg sg g cdg X.A X.stack s H Eg).tr pn xe) (.Call (.Name a p1) [] [] p2)
      (fun σZ HZ Q => σZ[i]? = some (some (.ref f)) ∧ HZ c' = some (CodeO c' (X.env.qual ++ "<lambda>")) ∧ tb (fun cls d H' => W cls d σZ H') σ HZ Q) := by
  refine ⟨fun pZ sZ σZ HZ Q IZ ⟨z1, z2, z3⟩ => ?_⟩
  refine wpAny_Call_Name_kw (thn ((pe_var (pos := p1) (i := i) hN hv hd hcd).run pZ sZ σZ HZ (fun v H1 => v = .ref f ∧ H1 = HZ) IZ ⟨.ref f, z1, rfl, rfl⟩) fun u s1 ⟨v, H1, I1, r1, e1, e2⟩ => ?_)
  subst e1
  rw [e2] at I1
  obtain rfl : u = Value.ref f := r1
  have of1 : s1.heap.get? f = some (PySem.W.kla_obj "<lambda>" (X.env.qual ++ "<lambda>") params body scope (cloFrom X.env.cells scope.names []) pm c' ctv) := I1.base.keep f _ of hfn hfr (fun z => nomatch (show f ∈ ([] : List Addr) from z))
  obtain ⟨⟨oc, vs, t, c1, c2, c3⟩, _, _⟩ := I1.hok c' _ z2
  have run : codeAny (model X.prog X.w) (X.A.deeper (envOfC qg sg s.heap.objs.size g cdg)) (.call (.ref f) ⟨[], []⟩) (CR (L2.CX X.prog X.w) (envOfC qg sg s.heap.objs.size g cdg :: X.stack) X.prog X.w HZ s1 Q (WE W σZ)) s1 := by
    refine PySem.W.kla_callFunE hr.depth of1 rfl L.co L.gen rfl ⟨c', oc, vs, t, rfl, c1, c2, c3⟩ (bind0 ▸ wpAny_pure (wpAny_newFunctionEnv (fun y hy => (L.own y hy).2) (fun y hy => absurd hy (by simp)) (fun h2 n2 b2 => ⟨I1.nolimit.fresh _ b2, ?_⟩) L.kind))
    have keep2 : ∀ b o, s1.heap.get? b = some o → h2.get? b = some o := fun b o e => b2.extBut b o (Nat.ne_of_lt (Heap.lt_size e)) (Heap.get?_push_of_some _ e)
    have J := lam_start2 (E := WE W σZ) (f := f) (c' := c') (tk := s1.toks + ([] : List (Str × Value)).length) I L I1.env0 hr.hd I1.base n2 keep2
    refine PySem.W.kla_codeExpr (wpAny_mono ((bodyP (WE W σZ) _ _ s1 HZ (hr.deeper _)).run [] _ _ HZ Q J z3) (fun v s' hq => ?_) fun e s' hq => hq)
    obtain ⟨w', H', J', rv, q⟩ := hq
    exact ⟨w', H', J'.os, J'.bare, J'.base, J'.hok, rv, q⟩
  refine PySem.W.callWith_F0 ⟨_, _, _, _, of1⟩ (wpAny_call (codeAny_mono run fun r s' hq => ?_))
  cases r with
  | error e => exact tk e s' (XE.of_call I1 (fun _ _ _ h => h) hq)
  | ok fl =>
    cases fl with
    | ret u => exact I1.after hq
    | next => exact False.elim hq
    | brk => exact False.elim hq
    | cont => exact False.elim hq
end
/-- the def that calls what it got -/
def GivesZ (X : Cx) (Ng : List Str) (x : Str) (sg : Scope) (g : Addr) (cdg : Value) (bg : List Stmt) (a : Str) (q : Str) (TT : (XK → Hp → VK → Prop) → Hp → VK → Prop) : Prop :=
  ∀ (f c' : Addr) (s : Shared) (H : Hp) (Q : VK) (tl : XK → Hp → VK → Prop),
    (∀ (W : WX) (pn : List (Addr × Obj)) (xe : Value → Shared → Prop) (p1 p2 : Pos), Takes ((cxOf C8.CX0 X.prog X.w X.K X.mg X.base Ng x sg g cdg X.A X.stack s H C8.E0).tr pn xe) W →
      PE ((cxOf C8.CX0 X.prog X.w X.K X.mg X.base Ng x sg g cdg X.A X.stack s H C8.E0).tr pn xe) (.Call (.Name a p1) [] [] p2) (fun σZ HZ Q => σZ[0]? = some (some (.ref f)) ∧ HZ c' = some (CodeO c' q) ∧ tl (fun cls d H' => W cls d σZ H') HZ Q)) →
    H c' = some (CodeO c' q) → TT tl H Q →
    ∃ t, PSs (cxOf C8.CX0 X.prog X.w X.K X.mg X.base Ng x sg g cdg X.A X.stack s H C8.E0).nox bg t ∧ t { nx := fun _ H' => Q .non H', rt := Q } (L2.start Ng [.ref f]) H
section
variable {X : Cx}
theorem pe_lamZ {T : List (Addr × Str)} {TT : (XK → Hp → VK → Prop) → Hp → VK → Prop} {x a : Str} {g c P : Addr} {k : Nat} {pg : Arguments} {bg : List Stmt} {sg : Scope} {dV kV doc pm cdv ct oc : Value} {an od : Option Addr} {osl : Array (Option Value)} {Ng : List Str}
    {params : Arguments} {body : Expr} {scope : Scope} {t : XK → TE} {p lpos pos : Pos} (hg : Gl X x) (hm : X.mg x = some (.ref g)) (hk : PySem.W.keepIn X.K (.ref g) = true)
    (lk : X.K.lookup g = some ⟨oc, od, .func (PySem.W.fnOf x x pg bg sg dV kV doc pm an cdv ct), osl⟩) (hcg : PySem.W.codeIn X.K cdv x = true) (hb : L2.Binds X.K (PySem.W.fnOf x x pg bg sg dV kV doc pm an cdv ct) [a] []) (Sg : FnScope Ng [a] sg) (hNg : Ng[0]? = some a) (hva : Vis sg a)
    (give : GivesZ X Ng x sg g cdv bg a (X.env.qual ++ "<lambda>") TT)
    (TB : TabB X.base X.mg c P) (hcode : X.env.code = .ref c) (hmT : (P, X.env.qual ++ "<lambda>") ∈ T) (hu : ∀ p ∈ T, p.1 = P → p.2 = X.env.qual ++ "<lambda>") (hr : Room (k + 2) X.A) (L : LamS X.env.scope scope) (hdef : defaultsOf params X.env = ([], []))
    (bind0 : ∀ (q : Str) (cl : List (Str × Addr)) (pm cv ctv : Value), bindArgs (PySem.W.kla_fn "<lambda>" q params body scope cl pm cv ctv) ⟨[], []⟩ = pure [])
    (bodyP : ∀ (A : Around) (outer : List Env) (s : Shared) (H : Hp) (E : XK) (f c' : Addr), Room k (A.deeper (lamEnv X scope s.heap.objs.size f c')) → PE (lamCx X A outer s H E scope f c') body (t E))
    (hdb : (x == ("__debug__" : Str)) = false := by decide) (hd : (a == ("__debug__" : Str)) = false := by decide) (hcd : (a == ("__classdict__" : Str)) = false := by decide) :
    PE X (.Call (.Name x p) [.Lambda params body scope lpos] [] pos) (tLam T TT t) := by
  refine ⟨fun pins s σ H Q I ⟨hT, h⟩ => wpAny_Call_Name_kw (ld_glob I hg hm ?_ hdb)⟩
  refine PySem.W.callWith_K (h₀ := X.base) I.ok.mod.kin hk ?_ (by rfl) (by rfl)
  show wpAny _ _ (spliced ((false, eval (.Lambda params body scope lpos) X.env) :: backTo pos (starEach [] X.env))) _ _ s
  refine Calls.spliced_cons (lam_make2 I TB hcode hmT hu hT hdef (L.has I.ok) fun f c' pm' ctv H1 s' I1 eN T1 hf hfn hfr hco => Calls.spliced_nil ⟨I1.kIn, ?_⟩)
  have run : codeAny (model X.prog X.w) X.A (.call (.ref g) ⟨[.ref f], []⟩) (CR C8.CX0 X.stack X.prog X.w H1 s' Q C8.E0) s' := by
    refine run_ofS (N := Ng) (ps := [a]) (us := [.ref f]) (vs := [.ref f]) lk hcg Sg hr I1.env0 (hb s' [.ref f] I1.kIn rfl) (.cons rfl .nil) rfl fun hr' => ?_
    obtain ⟨t', ht', hq'⟩ := give f c' s' H1 Q (fun E H' Q' => t E σ H' Q') (fun W pn xe p1 p2 tk => pe_actZ (i := 0) I1 L hf hfn hfr (bind0 _ _ _ _ _) tk hr' (fun E A outer s H hr2 => bodyP A outer s H E f c' hr2) hNg hva hd hcd) hco (h H1 eN T1)
    exact ⟨t', ht'.nox, hq'⟩
  refine wpAny_call (codeAny_mono run fun r s2 hq => ?_)
  cases r with
  | error e => exact (show False from hq).elim
  | ok fl =>
    cases fl with
    | ret u => exact I1.after hq
    | next => exact False.elim hq
    | brk => exact False.elim hq
    | cont => exact False.elim hq
end
end Ls
namespace Ls
open PySem PySem.Spec PyProof.Rows L2
/-! ### a hook that looks at the interpreter's own statics, too -/
def frY (n : Nat) (g : Addr → Option Obj) : PySem.W.Frag := He.frT g (cStatics :: He.asD g n)
section
variable (n : Nat) (fa : List He.Fa) (fn : List He.DefD) (ts : List He.Tab) (tf : List He.Defn) (eb : PySem.W.Frag → Bool)
def obsY (g : Addr → Option Obj) : He.AlX := (He.obsT fa fn ts (frY n g), eb (frY n g) && He.tabsB g tf (frY n g))
theorem saysY {w : World} {h : Heap} (e : obsY n fa fn ts tf eb h.get? = He.valX fn ts w) : He.SaysX fa fn ts tf eb w h (frY n h.get?) := by
  have eT := congrArg (fun q : He.AlX => q.1) e
  have eB : (eb (frY n h.get?) && He.tabsB h.get? tf (frY n h.get?)) = true := congrArg (fun q : He.AlX => q.2) e
  have e1 := (Bool.and_eq_true_iff.mp eB).1
  have e2 := (Bool.and_eq_true_iff.mp eB).2
  have each : ∀ d ∈ tf, PySem.W.codeHdIn (frY n h.get?) (He.cT (frY n h.get?) d).1 (He.cT (frY n h.get?) d).2 = true ∧ ∃ u, h.get? (He.cT (frY n h.get?) d).2 = some u ∧ He.emptyTab u = true := by
    intro d hd
    have z := List.all_eq_true.mp e2 d hd
    have z1 := (Bool.and_eq_true_iff.mp z).1
    have z2 := (Bool.and_eq_true_iff.mp z).2
    refine ⟨z1, ?_⟩
    split at z2
    · rename_i u hu
      exact ⟨u, hu, z2⟩
    · cases z2
  refine ⟨eT, e1, fun d hd => (each d hd).1, fun d hd => ?_, fun d hd => ?_⟩
  · obtain ⟨_, u, hu, ue⟩ := each d hd
    exact He.frT_none hu ue
  · obtain ⟨_, u, hu, ue⟩ := each d hd
    rw [hu, He.emptyTab_eq ue]
def hookY : PySem.W.Hook where
  α := He.AlX
  obs := fun s => obsY n fa fn ts tf eb s.heap.get?
  val := fun w => He.valX fn ts w
  says := fun w h => ∃ K : PySem.W.Frag, K.In h ∧ He.SaysX fa fn ts tf eb w h K
  of := fun _ _ e => ⟨frY n _, He.frT_in, saysY n fa fn ts tf eb e⟩
  keeps := fun _ _ _ ⟨K, hK, y⟩ k => ⟨K, PySem.W.Frag.In.keeps hK k, ⟨y.t, y.more, y.hd, y.out, fun d hd => k _ _ (y.empty d hd)⟩⟩
theorem obsY_eq {g : Addr → Option Obj} {s : Shared} (h : ∀ a, g a = s.heap.get? a) : obsY n fa fn ts tf eb g = (hookY n fa fn ts tf eb).obs s := by
  obtain rfl : g = s.heap.get? := funext h
  rfl
end
end Ls
local macro_rules | `(tactic| walk_at "hg") => `(tactic| first
  | assumption
  | exact upd_same
  | (refine up_new (by assumption) ?_; walk_at "hg")
  | (refine up_ne ?n ?_; (case n => walk_at "ne"); walk_at "hg")
  | (refine Keep.at (by assumption) ?n ?_; (case n => walk_at "ne"); walk_at "hg"))
local macro_rules | `(tactic| walk_at "ne") => `(tactic| first
  | assumption
  | (refine Ne.symm ?_; assumption)
  | (refine ne_of_none ?a ?b; (case b => assumption); (case a => walk_at "hg"))
  | (refine Ne.symm (ne_of_none ?a ?b); (case b => assumption); (case a => walk_at "hg"))
  | (refine ne_of ?a ?b ?c; (case a => assumption); (case b => assumption); (case c => (intro z; cases z))))
local macro_rules | `(tactic| walk_at "sz") => `(tactic| first | omega | decide | (simp only [List.length_cons, List.length_nil, List.length_append, List.length_map, List.length_take, List.length_drop, sizeLine_eq] <;> omega) | (rw [sizeLine_eq]; simp <;> omega))
local macro_rules | `(tactic| walk_at "w1") => `(tactic| first
  | (with_reducible first | refine k_v0 ?_ | refine k_v1 ?_ | refine k_v2 ?_ | refine k_v3 ?_ | refine k_v4 ?_ | refine k_v5 ?_ | refine k_v6 ?_ | refine k_v7 ?_ | refine k_v8 ?_ | refine k_v9 ?_ | refine k_v10 ?_ | refine k_v11 ?_ | refine k_v12 ?_ | refine k_v13 ?_ | refine k_v14 ?_ | refine k_v15 ?_ | refine k_v16 ?_ | refine k_v17 ?_ | refine k_v18 ?_ | refine k_v19 ?_ | refine k_v20 ?_ | refine k_v21 ?_ | refine k_v22 ?_ | refine k_v23 ?_ | refine k_v24 ?_ | refine k_v25 ?_ | refine k_v26 ?_ | refine k_v27 ?_ | refine k_v28 ?_ | refine k_v29 ?_ | refine k_v30 ?_ | refine k_v31 ?_ | refine k_v32 ?_ | refine k_v33 ?_ | refine k_v34 ?_ | refine k_v35 ?_ | refine k_v36 ?_ | refine k_v37 ?_ | refine k_v38 ?_ | refine k_v39 ?_ | refine k_v40 ?_ | refine k_v41 ?_ | refine k_v42 ?_ | refine k_v43 ?_)
  | (with_reducible first
    | refine k_seq ?_ | refine k_c ?_ | refine k_op ?_ | refine k_cons ?_ | refine k_nil ?_ | refine k_call ?_ | refine k_cb ?_ | refine k_ret ?_ | refine k_if ?_ | refine k_test ?_ | refine k_bl ?_
    | refine k_tup ?_ | refine k_lst ?_ | refine k_dget ?_ | refine k_dput ?_ | refine k_drop ?_ | refine k_next ?_ | refine k_B ?_ | refine k_and ?_ | refine k_or ?_ | refine k_not ?_ | refine k_un ?_
    | refine k_bm ?_ | refine k_bm0 ?_ | refine k_sl ?_ | refine k_nop ?_ | refine k_part ?_ | refine k_partI ?_ | refine k_par ?_ | refine k_par2 ?_ | refine k_gcons ?_ | refine k_gnil ?_
    | refine k_andV ?_ | refine k_orV ?_ | refine k_notV ?_ | refine k_ifE ?_ | refine k_chain ?_ | refine k_din ?_ | refine k_dnotin ?_ | refine k_brk ?_ | refine k_cont ?_ | refine k_retN ?_ | refine k_callN ?_ | refine k_yes ?_ | refine k_vei ?_ | refine k_ost ?_ | refine k_cfn ?_ | refine k_step ?_ | refine k_lenset ?_ | refine k_sortset ?_ | refine k_listrg ?_ | refine k_rg1 ?_ | refine k_lc ?_ | refine k_dc ?_
    | refine k_addI ?_ | refine k_sub ?_ | refine k_lt ?_ | refine k_le ?_ | refine k_gt ?_ | refine k_ge ?_ | refine k_eqI ?_ | refine k_neI ?_ | refine k_eqS ?_ | refine k_neS ?_ | refine k_eqB ?_ | refine k_neB ?_ | refine k_neg ?_ | refine k_isN ?_ | refine k_isnotN ?_
    | refine k_for ?_ | refine k_itL ?_ | refine k_itT ?_ | refine k_itR1 ?_ | refine k_itR2 ?_ | refine k_tt ?_ | refine k_ff ?_ | refine k_nt ?_ | refine k_nf ?_)
  | (with_reducible first | refine k_s0 ?_ | refine k_s1 ?_ | refine k_s2 ?_ | refine k_s3 ?_ | refine k_s4 ?_ | refine k_s5 ?_ | refine k_s6 ?_ | refine k_s7 ?_ | refine k_s8 ?_ | refine k_s9 ?_ | refine k_s10 ?_ | refine k_s11 ?_ | refine k_s12 ?_ | refine k_s13 ?_ | refine k_s14 ?_ | refine k_s15 ?_ | refine k_s16 ?_ | refine k_s17 ?_ | refine k_s18 ?_ | refine k_s19 ?_ | refine k_s20 ?_ | refine k_s21 ?_ | refine k_s22 ?_ | refine k_s23 ?_ | refine k_s24 ?_ | refine k_s25 ?_ | refine k_s26 ?_ | refine k_s27 ?_ | refine k_s28 ?_ | refine k_s29 ?_ | refine k_s30 ?_ | refine k_s31 ?_ | refine k_s32 ?_ | refine k_s33 ?_ | refine k_s34 ?_ | refine k_s35 ?_ | refine k_s36 ?_ | refine k_s37 ?_ | refine k_s38 ?_ | refine k_s39 ?_ | refine k_s40 ?_ | refine k_s41 ?_ | refine k_s42 ?_ | refine k_s43 ?_)
  | (with_reducible first | refine k_g0 ?_ | refine k_g1 ?_ | refine k_g2 ?_ | refine k_g3 ?_ | refine k_g4 ?_ | refine k_g5 ?_ | refine k_g6 ?_ | refine k_g7 ?_ | refine k_g8 ?_ | refine k_g9 ?_ | refine k_g10 ?_ | refine k_g11 ?_ | refine k_g12 ?_ | refine k_g13 ?_ | refine k_g14 ?_ | refine k_g15 ?_ | refine k_g16 ?_ | refine k_g17 ?_ | refine k_g18 ?_ | refine k_g19 ?_ | refine k_g20 ?_ | refine k_g21 ?_ | refine k_g22 ?_ | refine k_g23 ?_ | refine k_g24 ?_ | refine k_g25 ?_ | refine k_g26 ?_ | refine k_g27 ?_ | refine k_g28 ?_ | refine k_g29 ?_ | refine k_g30 ?_ | refine k_g31 ?_ | refine k_g32 ?_ | refine k_g33 ?_ | refine k_g34 ?_ | refine k_g35 ?_ | refine k_g36 ?_ | refine k_g37 ?_ | refine k_g38 ?_ | refine k_g39 ?_ | refine k_g40 ?_ | refine k_g41 ?_ | refine k_g42 ?_ | refine k_g43 ?_)
  | (with_reducible refine k_asg ?_)
  | (with_reducible refine k_mod ?e ?_; (case e => first | omega | decide))
  | (with_reducible refine k_mulR ?e ?_; (case e => decide))
  | (with_reducible refine k_mulL ?e ?_; (case e => decide))
  | (with_reducible refine k_new ?e ?_; (case e => walk_at "sz")))
local macro_rules | `(tactic| walk_at "w") => `(tactic| repeat walk_at "w1")
local macro_rules | `(tactic| walk_at "lc") => `(tactic| (simp only [wipe, List.map, List.set_cons_succ, List.set_cons_zero]; walk_at "w"; refine ⟨rfl, ?_⟩; walk_at "w"))
local macro_rules | `(tactic| walk_at "fr") => `(tactic| first | assumption | (refine Same.free ?s (by assumption); (case s => walk_at "sm")) | (refine Keep.free ?k ?d (by assumption); (case k => walk_at "kp"); (case d => walk_at "hg")))
local macro_rules | `(tactic| walk_at "sm") => `(tactic| first
  | assumption
  | exact Same.refl _
  | (refine Same.wr ?s ?f; (case s => walk_at "sm"); (case f => walk_at "fr"))
  | (refine Same.trans ?a (by assumption); (case a => walk_at "sm")))
local macro_rules | `(tactic| walk_at "kp") => `(tactic| first
  | assumption
  | exact Keep.refl
  | (refine Keep.put ?s; (case s => walk_at "kp"))
  | (refine Keep.wr ?s ?f; (case s => walk_at "kp"); (case f => walk_at "fr"))
  | (refine Keep.trans ?a (by assumption); (case a => walk_at "kp"))
  | (refine Keep.same ?s; (case s => walk_at "sm")))
local macro_rules | `(tactic| walk_at "ar") => `(tactic| first
  | (refine k_pos ?h ?_; (case h => omega))
  | (refine k_neg' ?h ?_; (case h => omega))
  | (refine k_npos ?h ?_; (case h => omega))
  | (refine k_nneg ?h ?_; (case h => omega)))
local macro_rules | `(tactic| walk_at "wa") => `(tactic| repeat first | walk_at "w1" | walk_at "ar")
local macro_rules | `(tactic| walk_at "lc1") => `(tactic| simp only [wipe, List.map, List.set_cons_succ, List.set_cons_zero])
local macro_rules | `(tactic| walk_at "lc2") => `(tactic| (walk_at "w"; refine ⟨rfl, ?_⟩; walk_at "w"))

namespace Lw
open PySem PySem.Spec PyProof.Rows L2 Ls
section
variable {P : Program} {w : World} {K : PySem.W.Frag} {mg : Str → Option Value} {base : Heap}
theorem ok__law_pick (E : Env K mg) : FnOk P w K mg base CX0 1 E.a__law_pick E.fd__law_pick ["_law_d", "_law_many"] (spPick K) := by
  refine E.F__law_pick.ok sc__law_pick (fun vs H Q E h => ?_) (fun cdv A outer s H vs Q E' hr h => ?_)
  · obtain ⟨d, c, m, rfl, _⟩ := h
    rfl
  · obtain ⟨d, c, many, rfl, ⟨n, r, s, ns, h1, h2, h3, h4, h5, h6⟩, m1, m2, q⟩ := h
    have hu := huOf hr
    refine ⟨_, PSs.nox (pss_cut (ps_if (PW.pt (pw_and (pt_cmpR (op_eqU K rfl hu) (pe_dget (hu1 hu) (pv 0) pe_str (fun _ _ => rfl)) pe_int (nomark _)) (pw_and1 (pt_cmpR (op_lt) (pe_dget (hu1 hu) (pv 0) pe_str (fun _ _ => rfl)) (pe_callB (call_lenU K rfl) (by rfl) E.n_len boot_len (pa_cons (pe_dget (hu1 hu) (pv 0) pe_str (fun _ _ => rfl)) pa_nil)) (nomark _))))) (pss_cons (ps_set (i := 2) sc__law_pick.nd rfl (Or.inl rfl) (pe_ix (ix_U K rfl) (pe_dget (hu1 hu) (pv 0) pe_str (fun _ _ => rfl)) (pe_dget (hu1 hu) (pv 0) pe_str (fun _ _ => rfl)) (fun _ _ => rfl)))
(pss_cons (ps_dput (hu1 hu) (pv 0) pe_str (pe_op (op_addU K rfl) (pe_dget (hu1 hu) (pv 0) pe_str (fun _ _ => rfl)) pe_int) rfl)
(pss_one (ps_if (pt_cmpR (op_ge) (pv 2) (pe_op op_pow pe_int pe_int) (nomark _)) (pss_one (ps_dput (hu1 hu) (pv 0) pe_str (pv 2) rfl)) (pss_one (ps_dput (hu1 hu) (pv 0) pe_str (pe_op op_mod (pe_op (op_addU K rfl) (pe_op (op_addU K rfl) (pe_op op_mul (pe_dget (hu1 hu) (pv 0) pe_str (fun _ _ => rfl)) pe_int) (pe_op op_mul (pv 2) pe_int)) pe_int) pe_int) rfl)))))) pss_nil)
(pss_cons (ps_if (pt_cmpR (op_gt) (pe_dget (hu1 hu) (pv 0) pe_str (fun _ _ => rfl)) pe_int (nomark _)) (pss_cons (ps_set (i := 3) sc__law_pick.nd rfl (Or.inl rfl) (pe_op op_mod (pe_dget (hu1 hu) (pv 0) pe_str (fun _ _ => rfl)) (pv 1)))
(pss_cons (ps_dput (hu1 hu) (pv 0) pe_str (pe_op op_fdivW (pe_dget (hu1 hu) (pv 0) pe_str (fun _ _ => rfl)) (pv 1)) rfl)
(pss_one (ps_ret (pv 3))))) pss_nil)
(pss_cons (ps_set (i := 4) sc__law_pick.nd rfl (Or.inl rfl) (pe_op op_mod (pe_op op_mul (pe_dget (hu1 hu) (pv 0) pe_str (fun _ _ => rfl)) (pe_dget (hu1 hu) (pv 0) pe_str (fun _ _ => rfl))) pe_int))
(pss_cons (ps_dput (hu1 hu) (pv 0) pe_str (pe_op op_mod (pe_op (op_addU K rfl) (pe_op (op_addU K rfl) (pe_op op_mul (pv 4) pe_int) (pe_op op_mul (pe_dget (hu1 hu) (pv 0) pe_str (fun _ _ => rfl)) pe_int)) pe_int) pe_int) rfl)
(pss_one (ps_ret (pe_op op_mod (pe_op op_fdivW (pe_dget (hu1 hu) (pv 0) pe_str (fun _ _ => rfl)) pe_int) (pv 1)))))))), ?_⟩
    refine k_body (s1 := [some (.ref d), some (.int many), none, none, none]) rfl ?_
    refine k_cut (fun σ H' => ∃ (n r s : Int) (v : Option V), σ = [some (.ref d), some (.int many), v, none, none] ∧ Keep d H H' ∧ H' d = some (.dK (dd c n r s)) ∧ H' c = some (.lst (ns.map V.int)) ∧ 0 ≤ n ∧ 0 ≤ r ∧ 0 ≤ s ∧ s < 2305843009213693951) ?_ ?_
    · walk_at "w"
      refine k_getS h1 dd_rest ?_
      walk_at "w"
      refine k_itd (fun hr0 => ?_) (fun hr0 => ?_)
      · walk_at "w"
        refine k_getS h1 dd_at ?_
        walk_at "w"
        refine k_getS h1 dd_cells ?_
        walk_at "w"
        refine k_lenL (sql_of h2) ?_
        walk_at "w"
        refine k_itd (fun hl => ?_) (fun hl => ?_)
        · rw [List.length_map] at hl
          obtain ⟨k, rfl⟩ : ∃ k : Nat, n = (k : Int) := ⟨n.toNat, by omega⟩
          have hk : k < ns.length := by omega
          walk_at "w"
          refine k_getS h1 dd_cells ?_
          walk_at "w"
          refine k_getS h1 dd_at ?_
          walk_at "w"
          refine k_ixL (sql_of h2) (atI_nat (v := .int ns[k]) (by rw [List.getElem?_map, List.getElem?_eq_getElem hk]; rfl)) ?_
          walk_at "w"
          refine k_getS h1 dd_at ?_
          walk_at "w"
          refine k_putS h1 dd_len ?_
          rw [dd_put_at]
          have g1 : Keep d H (upd H d (.dK (dd c (k + 1) r s))) := Keep.put Keep.refl
          have nc : c ≠ d := ne_of h2 h1 (by intro z; cases z)
          have g2 : upd H d (.dK (dd c (k + 1) r s)) c = some (.lst (ns.map V.int)) := g1.at nc h2
          walk_at "w"
          refine k_powL (v := 1000000000000000000) (by decide) (by decide) (by decide) ?_
          walk_at "w"
          refine k_itd (fun hb => ?_) (fun hb => ?_)
          · walk_at "w"
            refine k_putS upd_same dd_len ?_
            rw [dd_put_rest]
            exact ⟨_, _, _, _, rfl, Keep.put g1, upd_same, (Keep.put Keep.refl : Keep d _ _).at nc g2, by omega, by omega, h5, h6⟩
          · walk_at "w"
            refine k_getS upd_same dd_seed ?_
            walk_at "w"
            refine k_putS upd_same dd_len ?_
            rw [dd_put_seed]
            exact ⟨_, _, _, _, rfl, Keep.put g1, upd_same, (Keep.put Keep.refl : Keep d _ _).at nc g2, by omega, by omega, by omega, by omega⟩
        · walk_at "w"
          exact ⟨_, _, _, _, rfl, Keep.refl, h1, h2, h3, h4, h5, h6⟩
      · walk_at "w"
        exact ⟨_, _, _, _, rfl, Keep.refl, h1, h2, h3, h4, h5, h6⟩
    · rintro σ' H' ⟨n, r, s, v, rfl, k, h1, h2, h3, h4, h5, h6⟩
      walk_at "w"
      refine k_getS h1 dd_rest ?_
      walk_at "w"
      refine k_itd (fun hr0 => ?_) (fun hr0 => ?_)
      · walk_at "w"
        refine k_getS h1 dd_rest ?_
        walk_at "w"
        refine k_getS h1 dd_rest ?_
        walk_at "w"
        refine k_fdiv m1 m2 ?_
        walk_at "w"
        refine k_putS h1 dd_len ?_
        rw [dd_put_rest]
        walk_at "w"
        exact q _ _ (Keep.put k) ⟨n, _, s, ns, upd_same, (Keep.put Keep.refl : Keep d _ _).at (ne_of h2 h1 (by intro z; cases z)) h2, h3, Int.ediv_nonneg h4 (by omega), h5, h6⟩ (Int.emod_nonneg _ (by omega)) (Int.emod_lt_of_pos _ m1)
      · walk_at "w"
        refine k_getS h1 dd_seed ?_
        walk_at "w"
        refine k_getS h1 dd_seed ?_
        refine k_mulR (by omega) ?_
        walk_at "w"
        refine k_getS h1 dd_seed ?_
        walk_at "w"
        refine k_putS h1 dd_len ?_
        rw [dd_put_seed]
        walk_at "w"
        refine k_getS upd_same dd_seed ?_
        walk_at "w"
        refine k_fdiv (by decide) (by decide) ?_
        walk_at "w"
        exact q _ _ (Keep.put k) ⟨n, r, _, ns, upd_same, (Keep.put Keep.refl : Keep d _ _).at (ne_of h2 h1 (by intro z; cases z)) h2, h3, h4, Int.emod_nonneg _ (by omega), Int.emod_lt_of_pos _ (by omega)⟩ (Int.emod_nonneg _ (by omega)) (Int.emod_lt_of_pos _ m1)
end
end Lw
namespace Lw
open PySem PySem.Spec PyProof.Rows L2 Ls
section
variable {P : Program} {w : World} {K : PySem.W.Frag} {mg : Str → Option Value} {base : Heap}
theorem ok__law_begin (E : Env K mg) : FnOk P w K mg base CX0 1 E.a__law_begin E.fd__law_begin ["_law_script"] (spBegin K) := by
  refine E.F__law_begin.ok sc__law_begin (fun vs H Q E h => ?_) (fun cdv A outer s H vs Q E' hr h => ?_)
  · obtain ⟨d, m, rfl, _⟩ := h
    rfl
  · obtain ⟨a, ns, rfl, h1, h2, q⟩ := h
    have hu := huOf hr
    refine ⟨_, PSs.nox (pss_cons (ps_set (i := 1) sc__law_begin.nd rfl (Or.inl rfl) pe_int)
(pss_cons (ps_for PassesOwn.never rfl (kIL K rfl (pi_list (pe_slice (sl_U K rfl) (pv 0) po_none (po_some pe_int)))) (pg_name (i := 2) sc__law_begin.nd rfl (Or.inl rfl))
(pss_one (ps_set (i := 1) sc__law_begin.nd rfl (Or.inl rfl) (pe_op op_mod (pe_op (op_addU K rfl) (pe_op (op_addU K rfl) (pe_op op_mul (pv 1) pe_int) (pe_op op_mul (pv 2) pe_int)) pe_int) pe_int))))
(pss_one (ps_ret (pe_disp (pps_cons pe_str (pe_callTy (call_listU K rfl) (by rfl) E.n_list boot_list (pa_cons (pe_slice (sl_U K rfl) (pv 0) po_none (po_some pe_int)) pa_nil)) (pps_cons pe_str pe_int (pps_cons pe_str pe_int (pps_cons pe_str (pv 1) pps_nil)))) (by rfl) (by rfl) (by simp) (by decide)))))), ?_⟩
    refine k_body (s1 := [some (.ref a), none, none]) rfl ?_
    walk_at "w"
    refine k_slL h1 ?_
    rw [cut_all (by rw [List.length_map]; omega)]
    intro p hp
    refine k_itl (sql_of upd_same) ?_
    refine for_list (xs := ns.map V.int) (fun i σ H' => ∃ (s : Int) (c : Option V), σ = [some (.ref a), some (.int s), c] ∧ 0 ≤ s ∧ s < 2305843009213693951 ∧ Same H H' ∧ H' p = some (.lst (ns.map V.int))) ⟨_, _, rfl, by decide, by decide, same_new hp, upd_same⟩ (fun i σ H' _ hP => ?_) (fun i x σ H' hx hP => ?_) (fun σ H' hP => ?_)
    · obtain ⟨s, c, rfl, p1, p2, p3, p4⟩ := hP
      exact sql_of p4
    · obtain ⟨s, c, rfl, p1, p2, p3, p4⟩ := hP
      rw [List.getElem?_map] at hx
      obtain ⟨n, hn, rfl⟩ := Option.map_eq_some_iff.mp hx
      walk_at "w"
      exact ⟨_, _, rfl, Int.emod_nonneg _ (by decide), Int.emod_lt_of_pos _ (by decide), p3, p4⟩
    · obtain ⟨s, c, rfl, p1, p2, p3, p4⟩ := hP
      walk_at "w"
      refine k_disp ?_
      intro d hd
      refine k_prs ?_
      walk_at "w"
      refine k_slL (sql_same (same_new hd) (sql_same p3 h1)) ?_
      rw [cut_all (by rw [List.length_map]; omega)]
      intro pc hpc
      walk_at "w"
      refine k_list (sql_of upd_same) ?_
      intro pl hpl
      refine k_prs ?_
      walk_at "w"
      refine k_prs ?_
      walk_at "w"
      refine k_prs ?_
      walk_at "w"
      refine k_prn ?_
      have hd2 : upd (upd (upd H' d (.dK [])) pc (.lst (ns.map V.int))) pl (.lst (ns.map V.int)) d = some (.dK []) := by walk_at "hg"
      refine ⟨hd2, dd pl 0 0 s, rfl, by show 4 ≤ 15; decide, ?_⟩
      rw [dd_merge]
      refine q _ _ _ ?_ (Same.free p3 (Same.free (same_new hd) (Same.free (same_new hpc) hpl))) ?_ ?_
      · walk_at "fr"
      · walk_at "sm"
      · refine ⟨0, 0, s, ns, upd_same, ?_, by decide, by decide, p1, p2⟩
        rw [upd_ne (ne_of upd_same hd2 (by intro z; cases z))]
        exact upd_same
end
end Lw
namespace Lw
open PySem PySem.Spec PyProof.Rows L2 Ls
section
variable {P : Program} {w : World} {K : PySem.W.Frag} {mg : Str → Option Value} {base : Heap}
theorem ok__law_of (E : Env K mg) (G__law_pick : FnOk P w K mg base CX0 1 E.a__law_pick E.fd__law_pick ["_law_d", "_law_many"] (spPick K)) : FnOk P w K mg base CX0 2 E.a__law_of E.fd__law_of ["_law_d", "_law_things"] (spOf K) := by
  refine E.F__law_of.ok sc__law_of (fun vs H Q E h => ?_) (fun cdv A outer s H vs Q E' hr h => ?_)
  · obtain ⟨d, c, m, xs, rfl, _⟩ := h
    rfl
  · obtain ⟨d, c, l, xs, rfl, hD, hl, h0, hn, q⟩ := h
    have hu := huOf hr
    have hr__law_pick := hr.mono (Nat.le_refl _)
    have b__law_pick := b__law_pick E
    refine ⟨_, PSs.nox (pss_one (ps_ret (pe_ix (ix_U K rfl) (pv 1) (pe_call G__law_pick hr__law_pick rfl E.g__law_pick E.F__law_pick.kp b__law_pick .nil pass0 (pa_cons (pv 0) (pa_cons (pe_callB (call_lenU K rfl) (by rfl) E.n_len boot_len (pa_cons (pv 1) pa_nil)) pa_nil))) (fun _ _ => rfl)))), ?_⟩
    refine k_body (s1 := [some (.ref d), some (.ref l)]) rfl ?_
    walk_at "w"
    refine k_lenL hl ?_
    walk_at "w"
    refine use_pick hD (by omega) (by omega) fun r H1 k1 D1 r0 r1 => ?_
    obtain ⟨k, rfl⟩ := Int.eq_ofNat_of_zero_le r0
    have hk : k < xs.length := by omega
    refine k_ixL (hD.sql k1 hl) (atI_nat (List.getElem?_eq_getElem hk)) ?_
    exact q _ _ k1 D1 (List.getElem_mem hk)
end
end Lw
namespace Lw
open PySem PySem.Spec PyProof.Rows L2 Ls
section
variable {P : Program} {w : World} {K : PySem.W.Frag} {mg : Str → Option Value} {base : Heap}
theorem ok__law_ties (E : Env K mg) (G__law_pick : FnOk P w K mg base CX0 1 E.a__law_pick E.fd__law_pick ["_law_d", "_law_many"] (spPick K)) : FnOk P w K mg base CX0 2 E.a__law_ties E.fd__law_ties ["_law_d", "_law_lanes", "_law_wide"] (spTies K) := by
  refine E.F__law_ties.ok sc__law_ties (fun vs H Q E h => ?_) (fun cdv A outer s H vs Q E' hr h => ?_)
  · obtain ⟨d, c, m, n, rfl, _⟩ := h
    rfl
  · obtain ⟨d, c, lanes, wide, rfl, hD, l1, l2, w1, w2, q⟩ := h
    have hu := huOf hr
    have hr__law_pick := hr.mono (Nat.le_refl _)
    have b__law_pick := b__law_pick E
    refine ⟨_, PSs.nox (pss_cons (ps_set (i := 3) sc__law_ties.nd rfl (Or.inl rfl) (pe_lst pa_nil))
(pss_cut (ps_if (pt_cmpR (op_gt) (pv 1) pe_int (nomark _)) (pss_one (ps_for PassesOwn.never rfl (pi_range1 rfl E.n_range (pa_cons (pe_call G__law_pick hr__law_pick rfl E.g__law_pick E.F__law_pick.kp b__law_pick .nil pass0 (pa_cons (pv 0) (pa_cons (pe_ix (ix_U K rfl) (pe_lst (pa_cons pe_int (pa_cons pe_int (pa_cons pe_int pa_nil)))) (pe_call G__law_pick hr__law_pick rfl E.g__law_pick E.F__law_pick.kp b__law_pick .nil pass0 (pa_cons (pv 0) (pa_cons pe_int pa_nil))) (fun _ _ => rfl)) pa_nil))) pa_nil)) (pg_name (i := 4) sc__law_ties.nd rfl (Or.inl rfl))
(pss_cons (ps_set (i := 5) sc__law_ties.nd rfl (Or.inl rfl) (pe_call G__law_pick hr__law_pick rfl E.g__law_pick E.F__law_pick.kp b__law_pick .nil pass0 (pa_cons (pv 0) (pa_cons (pv 1) pa_nil))))
(pss_cons (ps_set (i := 6) sc__law_ties.nd rfl (Or.inl rfl) (pe_op op_mod (pe_op (op_addU K rfl) (pe_op (op_addU K rfl) (pv 5) pe_int) (pe_call G__law_pick hr__law_pick rfl E.g__law_pick E.F__law_pick.kp b__law_pick .nil pass0 (pa_cons (pv 0) (pa_cons (pe_op op_sub (pv 1) pe_int) pa_nil)))) (pv 1)))
(pss_one (ps_expr (kBM K rfl (pe_bm PySem.F.plainAttrs_list PySem.F.slot_list_append PySem.F.type_list_append mt_append (pv 3) (pa_cons (pe_tup (pa_cons (pv 5) (pa_cons (pv 6) (pa_cons (pe_op op_sub (pe_call G__law_pick hr__law_pick rfl E.g__law_pick E.F__law_pick.kp b__law_pick .nil pass0 (pa_cons (pv 0) (pa_cons (pe_op (op_addU K rfl) (pe_op op_mul pe_int (pv 2)) pe_int) pa_nil))) (pv 2)) pa_nil)))) pa_nil))))))))) pss_nil)
(pss_one (ps_ret (pv 3))))), ?_⟩
    refine k_body (s1 := [some (.ref d), some (.int lanes), some (.int wide), none, none, none, none]) rfl ?_
    walk_at "w"
    intro p hp
    have np := hD.free hp
    have npc := hD.nec hp
    refine k_cut (fun σ H' => ∃ us ts c1 c2 c3, σ = [some (.ref d), some (.int lanes), some (.int wide), some (.ref p), c1, c2, c3] ∧ Keep d H H' ∧ Draw K H' d c ∧ H' p = some (.lst us) ∧ TieL K H' us ts ∧ ts.length ≤ 15 ∧ ∀ t ∈ ts, GoodT lanes wide t) ?_ ?_
    · walk_at "w"
      have D0 : Draw K (upd H p (.lst [])) d c := hD.new hp
      refine k_itd (fun hl => ?_) (fun hl => ?_)
      · walk_at "w"
        intro q1 hq1
        have nq := (hD.new (o := .lst []) hp).free hq1
        walk_at "w"
        refine use_pick (D0.new hq1) (by decide) (by decide) fun r H1 k1 D1 r0 r1 => ?_
        have hq : H1 q1 = some (.lst [.int 4, .int 9, .int 16]) := by walk_at "hg"
        have hm : ∃ m : Int, atI [V.int 4, V.int 9, V.int 16] r = some (.int m) ∧ 0 < m ∧ m ≤ 16 := by
          have : r = 0 ∨ r = 1 ∨ r = 2 := by omega
          rcases this with rfl | rfl | rfl
          · exact ⟨4, rfl, by decide, by decide⟩
          · exact ⟨9, rfl, by decide, by decide⟩
          · exact ⟨16, rfl, by decide, by decide⟩
        obtain ⟨m, em, m0, m1⟩ := hm
        refine k_ixL (sql_of hq) em ?_
        walk_at "w"
        refine use_pick D1 m0 (by omega) fun n H2 k2 D2 n0 n1 => ?_
        walk_at "w"
        refine k_itr1 (by omega) ?_
        have hp2 : H2 p = some (.lst []) := by
          refine k2.at np (k1.at np ?_)
          rw [upd_ne (ne_of_none upd_same hq1)]
          exact upd_same
        have kk : Keep d H H2 := ((((Keep.new Keep.refl hp).new hq1).trans k1).trans k2)
        refine for_range (fun i σ H' => ∃ us ts c1 c2 c3, σ = [some (.ref d), some (.int lanes), some (.int wide), some (.ref p), c1, c2, c3] ∧ Keep d H H' ∧ Draw K H' d c ∧ H' p = some (.lst us) ∧ TieL K H' us ts ∧ ts.length = i ∧ ∀ t ∈ ts, GoodT lanes wide t)
          ⟨_, [], _, _, _, rfl, ?_, D2, hp2, .nil, rfl, fun t ht => by cases ht⟩ (fun i σ H3 hi hP => ?_) (fun σ H3 hP => ?_)
        · exact kk
        · obtain ⟨us, ts, c1, c2, c3, rfl, k3, D3, p3, T3, l3, g3⟩ := hP
          walk_at "w"
          refine use_pick D3 (by omega) (by omega) fun one H4 k4 D4 o0 o1 => ?_
          walk_at "w"
          refine use_pick D4 (by omega) (by omega) fun oth H5 k5 D5 u0 u1 => ?_
          walk_at "w"
          have p5 := k5.at np (k4.at np p3)
          refine k_tyL (sql_of p5) ?_
          walk_at "w"
          refine use_pick D5 (by omega) (by omega) fun le H6 k6 D6 e0 e1 => ?_
          walk_at "w"
          intro tp htp
          walk_at "w"
          have p6 := k6.at np p5
          refine k_app (up_new htp p6) ?_ ?_
          · rw [T3.len, l3, sizeLine_eq]
            omega
          · have T6 : TieL K H6 us ts := T3.mono ((D3.tp k4).trans ((D4.tp k5).trans (D5.tp k6)))
            refine ⟨us ++ [.ref tp], ts ++ [(one, (one + 1 + oth) % lanes, le - wide)], _, _, _, rfl, ?_, ?_, upd_same, ?_, ?_, ?_⟩
            · exact ((((k3.trans k4).trans k5).trans k6).new htp).wr hp
            · exact (D6.new htp).wr np npc
            · refine TieL.mono (wr_tp (up_new htp p6) rfl) (TieL.snoc (T6.mono (Tp.new htp)) sqt_new)
            · rw [List.length_append, l3]; rfl
            · intro t ht
              rcases List.mem_append.mp ht with ht | ht
              · exact g3 t ht
              · rw [List.mem_singleton] at ht
                subst ht
                have e1 := Int.emod_nonneg (one + 1 + oth) (show lanes ≠ 0 by omega)
                have e2 := Int.emod_lt_of_pos (one + 1 + oth) (show 0 < lanes by omega)
                refine ⟨o0, o1, e1, e2, ?_, by simp only []; omega, by simp only []; omega⟩
                show one ≠ (one + 1 + oth) % lanes
                by_cases hc : one + 1 + oth < lanes
                · rw [Int.emod_eq_of_lt (by omega) hc]
                  omega
                · rw [show one + 1 + oth = (one + 1 + oth - lanes) + lanes by omega, Int.add_emod_right, Int.emod_eq_of_lt (by omega) (by omega)]
                  omega
        · obtain ⟨us, ts, c1, c2, c3, rfl, k3, D3, p3, T3, l3, g3⟩ := hP
          exact ⟨us, ts, _, _, _, rfl, k3, D3, p3, T3, by omega, g3⟩
      · walk_at "w"
        exact ⟨[], [], _, _, _, rfl, Keep.new Keep.refl hp, D0, upd_same, .nil, by decide, fun t ht => by cases ht⟩
    · rintro σ' H' ⟨us, ts, c1, c2, c3, rfl, k1, D1, h1, h2, h3, h4⟩
      walk_at "w"
      exact q p us ts H' hp k1 D1 h1 h2 h3 h4
end
end Lw
namespace Lw
open PySem PySem.Spec PyProof.Rows L2 Ls
section
variable {P : Program} {w : World} {K : PySem.W.Frag} {mg : Str → Option Value} {base : Heap}
theorem ok_bounds_of (E : Env K mg) : FnOk P w K mg base CX0 1 E.a_bounds_of E.fd_bounds_of ["lanes", "most"] (spBounds K) := by
  refine E.F_bounds_of.ok sc_bounds_of (fun vs H Q E h => ?_) (fun cdv A outer s H vs Q E' hr h => ?_)
  · obtain ⟨d, c, rfl, _⟩ := h
    rfl
  · obtain ⟨n, most, rfl, hn, q⟩ := h
    have hu := huOf hr
    refine ⟨_, PSs.nox (pss_one (ps_ret (pe_op (op_addU K rfl) (pe_lc (own := [("lane", 2)]) rfl sc_bounds_of.nd (pi_range1 rfl E.n_range (pa_cons (pv 0) pa_nil)) (blkOk_by (N := ["lanes", "most", "lane"]) (sc := defScope s_bounds_of) (by decide +kernel)) (fun _ _ _ _ _ => (pg_name (i := 2) sc_bounds_of.nd rfl (Or.inl rfl))) (fun _ _ _ _ _ => pts_nil) (fun _ _ _ _ _ => (pe_tup (pa_cons (pv 2) (pa_cons (pe_un un_neg pe_int) (pa_cons pe_int pa_nil)))))) (pe_lc (own := [("lane", 2)]) rfl sc_bounds_of.nd (pi_range1 rfl E.n_range (pa_cons (pv 0) pa_nil)) (blkOk_by (N := ["lanes", "most", "lane"]) (sc := defScope s_bounds_of) (by decide +kernel)) (fun _ _ _ _ _ => (pg_name (i := 2) sc_bounds_of.nd rfl (Or.inl rfl))) (fun _ _ _ _ _ => pts_nil) (fun _ _ _ _ _ => (pe_tup (pa_cons (pe_un un_neg pe_int) (pa_cons (pv 2) (pa_cons (pe_un un_neg (pv 1)) pa_nil))))))))), ?_⟩
    refine k_body (s1 := [some (.int n), some (.int most), none]) rfl ?_
    walk_at "wa"
    refine k_itr1 (by omega) ?_
    intro p hp
    refine lc_range (fun i H' => Same H H' ∧ ∃ us, H' p = some (.lst us) ∧ TieL K H' us ((List.range i).map fun (i : Nat) => ((i : Int), (-1 : Int), (0 : Int)))) ⟨same_new hp, [], upd_same, .nil⟩ (fun i H' hi hP => ?_) (fun H' hP => ?_)
    · obtain ⟨p1, us, p2, p3⟩ := hP
      walk_at "lc"
      walk_at "wa"
      intro tp htp
      refine ⟨us, up_new htp p2, ?_, ?_, _, upd_same, ?_⟩
      · rw [p3.len, List.length_map, List.length_range, sizeLine_eq]
        omega
      · exact Same.wr (Same.wr p1 (p1.free htp)) hp
      · rw [List.range_succ, List.map_append]
        refine TieL.mono (wr_tp (up_new htp p2) rfl) (TieL.snoc (TieL.mono (Tp.new htp) p3) ?_)
        rw [Int.zero_add]
        exact sqt_new
    · obtain ⟨p1, us, p2, p3⟩ := hP
      walk_at "wa"
      refine k_itr1 (by omega) ?_
      intro l hl
      refine lc_range (fun i H2 => Same H' H2 ∧ ∃ vs, H2 l = some (.lst vs) ∧ TieL K H2 vs ((List.range i).map fun (i : Nat) => ((-1 : Int), (i : Int), -most))) ⟨same_new hl, [], upd_same, .nil⟩ (fun i H2 hi hP => ?_) (fun H2 hP => ?_)
      · obtain ⟨s1, vs, s2, s3⟩ := hP
        walk_at "lc"
        walk_at "wa"
        intro tp htp
        refine ⟨vs, up_new htp s2, ?_, ?_, _, upd_same, ?_⟩
        · rw [s3.len, List.length_map, List.length_range, sizeLine_eq]
          omega
        · exact Same.wr (Same.wr s1 (s1.free htp)) hl
        · rw [List.range_succ, List.map_append]
          refine TieL.mono (wr_tp (up_new htp s2) rfl) (TieL.snoc (TieL.mono (Tp.new htp) s3) ?_)
          rw [Int.zero_add]
          exact sqt_new
      · obtain ⟨s1, vs, s2, s3⟩ := hP
        walk_at "wa"
        rw [Int.toNat_natCast] at p3 s3
        refine k_addL (s1 _ _ p2) s2 ?_ ?_
        · rw [p3.len, s3.len, List.length_map, List.length_map, List.length_range, sizeLine_eq]
          omega
        · intro r hr'
          refine q _ _ _ ?_ ?_ upd_same ?_
          · exact p1.free (s1.free hr')
          · exact Same.wr (p1.trans s1) (p1.free (s1.free hr'))
          · refine TieL.mono (Tp.new hr') ?_
            exact TieL.app (p3.mono (Tp.same s1)) s3
end
end Lw
namespace Lw
open PySem PySem.Spec PyProof.Rows L2 Ls
section
variable {P : Program} {w : World} {K : PySem.W.Frag} {mg : Str → Option Value} {base : Heap}
theorem ok_pushed (E : Env K mg) : FnOk P w K mg base CX0 1 E.a_pushed E.fd_pushed ["row", "ties", "ways"] (spPushed K) := by
  refine E.F_pushed.ok sc_pushed (fun vs H Q E h => ?_) (fun cdv A outer s H vs Q E' hr h => ?_)
  · obtain ⟨d, c, e, f, g, h, i, j, k, rfl, _⟩ := h
    rfl
  · obtain ⟨n, rw', l, wa, kr, kw, us, ts, S0, rfl, nw, hrw, hR, hwa, hW, hl, hT, hp, hlen, q⟩ := h
    have hu := huOf hr
    refine ⟨_, PSs.nox (pss_cons (ps_set (i := 3) sc_pushed.nd rfl (Or.inl rfl) pe_non)
(pss_cons (ps_for PassesOwn.never rfl (kIL K rfl (pi_list (pv 1))) (pg_name (i := 4) sc_pushed.nd rfl (Or.inl rfl))
(pss_cons (ps_asg (pv 4) (kGTup (n := 3) K rfl (pg_tup rfl (pgs_cons (pg_name (i := 5) sc_pushed.nd rfl (Or.inl rfl)) (pgs_cons (pg_name (i := 6) sc_pushed.nd rfl (Or.inl rfl)) (pgs_cons (pg_name (i := 7) sc_pushed.nd rfl (Or.inl rfl)) pgs_nil))))))
(pss_one (ps_if (pt_cmpR (op_lt) (pe_dget (hu1 hu) (pv 0) (pv 5) (fun _ _ => rfl)) (pe_op (op_addU K rfl) (pe_dget (hu1 hu) (pv 0) (pv 6) (fun _ _ => rfl)) (pv 7)) (nomark _)) (pss_cons (ps_dput (hu1 hu) (pv 0) (pv 5) (pe_op (op_addU K rfl) (pe_dget (hu1 hu) (pv 0) (pv 6) (fun _ _ => rfl)) (pv 7)) rfl)
(pss_cons (ps_dput (hu1 hu) (pv 2) (pv 5) (pv 4) rfl)
(pss_one (ps_set (i := 3) sc_pushed.nd rfl (Or.inl rfl) (pv 5))))) pss_nil))))
(pss_one (ps_ret (pv 3))))), ?_⟩
    refine k_body (s1 := [some (.ref rw'), some (.ref l), some (.ref wa), none, none, none, none, none]) rfl ?_
    walk_at "wa"
    refine k_itl hl ?_
    refine for_list (xs := us) (fun i σ H' => ∃ kr' kw' c1 c2 c3 c4, σ = [some (.ref rw'), some (.ref l), some (.ref wa), some (lastV ((ts.take i).foldl Lm.push1 { S0 with last := none }).last), c1, c2, c3, c4] ∧ Keep2 rw' wa H H' ∧ H' rw' = some (.dK kr') ∧
        RowK n kr' ((ts.take i).foldl Lm.push1 { S0 with last := none }).row ∧ H' wa = some (.dK kw') ∧ WayK K H' kw' ((ts.take i).foldl Lm.push1 { S0 with last := none }).way ∧ kw'.length ≤ kw.length + i)
      ⟨kr, kw, _, _, _, _, rfl, Keep2.refl, hrw, hR, hwa, hW, Nat.le_refl _⟩ (fun i σ H' _ hP => ?_) (fun i x σ H' hx hP => ?_) (fun σ H' hP => ?_)
    · obtain ⟨kr', kw', c1, c2, c3, c4, rfl, k1, h1, h2, h3, h4, h5⟩ := hP
      exact sql_keep2 k1 hrw hwa hl
    · obtain ⟨kr', kw', c1, c2, c3, c4, rfl, k1, h1, h2, h3, h4, h5⟩ := hP
      obtain ⟨t, ta, ht, rfl, st⟩ := hT.get hx
      have e1 : ts.take (i + 1) = ts.take i ++ [t] := by rw [List.take_add_one, ht]; rfl
      have hi : i < ts.length := by
        by_cases hi : i < ts.length
        · exact hi
        · rw [List.getElem?_eq_none (by omega)] at ht
          cases ht
      rw [e1, List.foldl_append]
      generalize (ts.take i).foldl Lm.push1 { S0 with last := none } = S at h2 h4 ⊢
      show _
      have tp := k1.tp (K := K) hrw rfl hwa rfl
      have st := tp _ _ st
      obtain ⟨⟨p1, p2⟩, p3, p4⟩ := hp t (List.mem_of_getElem? ht)
      walk_at "wa"
      refine k_gtup st rfl ?_
      walk_at "wa"
      refine k_getI h1 (h2.1 _ p1 p2) ?_
      walk_at "wa"
      refine k_getI h1 (h2.1 _ p3 p4) ?_
      walk_at "wa"
      refine k_itd (fun hc => ?_) (fun hc => ?_)
      · walk_at "wa"
        refine k_getI h1 (h2.1 _ p3 p4) ?_
        walk_at "wa"
        refine k_putI h1 ?_ ?_
        · rw [sizeLine_eq]; have := h2.2; omega
        · walk_at "wa"
          refine k_putI (kvs := kw') ?_ ?_ ?_
          · rw [upd_ne nw.symm]; exact h3
          · rw [sizeLine_eq]; omega
          · walk_at "wa"
            have ef : List.foldl Lm.push1 S [t] = _ := Lm.push1_pos hc
            rw [ef]
            refine ⟨_, _, _, _, _, _, rfl, (k1.put1).put2, ?_, h2.put p1 p2, upd_same, ?_, ?_⟩
            · rw [upd_ne nw]; exact upd_same
            · refine WayK.mono (WayK.put h4 st) ?_
              exact Tp.trans (wr_tp h1 rfl) (wr_tp (by rw [upd_ne nw.symm]; exact h3) rfl)
            · have := length_putK kw' (.inl t.1) (.ref ta)
              omega
      · walk_at "wa"
        have ef : List.foldl Lm.push1 S [t] = _ := Lm.push1_neg hc
        rw [ef]
        exact ⟨_, _, _, _, _, _, rfl, k1, h1, h2, h3, h4, by omega⟩
    · obtain ⟨kr', kw', c1, c2, c3, c4, rfl, k1, h1, h2, h3, h4, h5⟩ := hP
      walk_at "wa"
      rw [hT.len, List.take_length] at *
      exact q _ _ _ k1 h1 h2 h3 h4 h5
end
end Lw
namespace Lw
open PySem PySem.Spec PyProof.Rows L2 Ls
section
variable {P : Program} {w : World} {K : PySem.W.Frag} {mg : Str → Option Value} {base : Heap}
theorem ok_settled (E : Env K mg) (G_bounds_of : FnOk P w K mg base CX0 1 E.a_bounds_of E.fd_bounds_of ["lanes", "most"] (spBounds K)) (G_pushed : FnOk P w K mg base CX0 1 E.a_pushed E.fd_pushed ["row", "ties", "ways"] (spPushed K)) : FnOk P w K mg base CX0 2 E.a_settled E.fd_settled ["lanes", "ties", "most"] (spSettled K) := by
  refine E.F_settled.ok sc_settled (fun vs H Q E h => ?_) (fun cdv A outer s H vs Q E' hr h => ?_)
  · obtain ⟨d, c, e, f, g, rfl, _⟩ := h
    rfl
  · obtain ⟨n, most, l, us, ts, rfl, n1, n2, hl, hT, hg, hlen, q⟩ := h
    have hu := huOf hr
    have hr_bounds_of := hr.mono (Nat.le_refl _)
    have b_bounds_of := b_bounds_of E
    have hr_pushed := hr.mono (Nat.le_refl _)
    have b_pushed := b_pushed E
    refine ⟨_, PSs.nox (pss_cons (ps_setDc (i := 3) (own := [("place", 4)]) rfl sc_settled.nd rfl rfl (swd_true rfl rfl rfl (by decide +kernel)) (pi_range2 rfl E.n_range (pa_cons (pe_un un_neg pe_int) (pa_cons (pv 0) pa_nil))) (blkOk_by (N := ["lanes", "ties", "most", "row", "place", "ways", "last", "step"]) (sc := defScope s_settled) (by decide +kernel)) (fun _ _ _ _ _ => (pg_name (i := 4) sc_settled.nd rfl (Or.inl rfl))) (fun _ _ _ _ _ => pts_nil) (fun _ _ _ _ _ => (pv 4)) (fun _ _ _ _ _ => pe_int))
(pss_cons (ps_set (i := 5) sc_settled.nd rfl (Or.inl rfl) pe_dnewK)
(pss_cons (ps_set (i := 6) sc_settled.nd rfl (Or.inl rfl) pe_non)
(pss_cut (ps_for PassesOwn.never rfl (pi_range1 rfl E.n_range (pa_cons (pe_op (op_addU K rfl) (pv 0) pe_int) pa_nil)) (pg_name (i := 7) sc_settled.nd rfl (Or.inl rfl))
(pss_cons (ps_set (i := 6) sc_settled.nd rfl (Or.inl rfl) (pe_call G_pushed hr_pushed rfl E.g_pushed E.F_pushed.kp b_pushed .nil pass0 (pa_cons (pv 3) (pa_cons (pe_op (op_addU K rfl) (pe_call G_bounds_of hr_bounds_of rfl E.g_bounds_of E.F_bounds_of.kp b_bounds_of .nil pass0 (pa_cons (pv 0) (pa_cons (pv 2) pa_nil))) (pv 1)) (pa_cons (pv 5) pa_nil)))))
(pss_one (ps_if (pt_cmpR (op_isU) (pv 6) pe_non (nomark _)) (pss_one ps_break) pss_nil))))
(pss_one (ps_ret (pe_tup (pa_cons (pv 3) (pa_cons (pv 5) (pa_cons (pv 6) pa_nil)))))))))), ?_⟩
    refine k_body (s1 := [some (.int n), some (.ref l), some (.int most), none, none, none, none, none]) rfl ?_
    walk_at "wa"
    refine k_itr2 (by omega) ?_
    intro rw' hrw
    refine it_range (fun i H' => Same H H' ∧ ∃ kr, H' rw' = some (.dK kr) ∧ RowK ((i : Int) - 1) kr (fun _ => 0) ∧ kr.length ≤ i) ⟨same_new hrw, [], upd_same, ⟨fun p p1 p2 => by omega, Nat.zero_le _⟩, Nat.le_refl _⟩ (fun i H' hi hP => ?_) (fun H' hP => ?_)
    · obtain ⟨p1, kr, p2, p3, p4⟩ := hP
      walk_at "lc"
      walk_at "wa"
      refine ⟨kr, .inl (-1 + (i : Int)), rfl, p2, by rw [sizeLine_eq]; omega, Same.wr p1 hrw, _, upd_same, ⟨fun p q1 q2 => ?_, ?_⟩, ?_⟩
      · rw [valV_put]
        by_cases e : p = -1 + (i : Int)
        · rw [if_pos (by rw [e])]
        · rw [if_neg (fun z => e (Sum.inl.inj z))]
          exact p3.1 p q1 (by omega)
      · have := length_putK kr (.inl (-1 + (i : Int))) (.int 0)
        omega
      · have := length_putK kr (.inl (-1 + (i : Int))) (.int 0)
        omega
    · obtain ⟨p1, kr, p2, p3, p4⟩ := hP
      walk_at "wa"
      refine k_dnew ?_
      intro wa hwa
      walk_at "wa"
      have nw : rw' ≠ wa := ne_of_none p2 hwa
      have fwa : H wa = none := p1.free hwa
      have hes := all_ok (most := most) hg
      have hel : (bnd n most ++ ts).length = 2 * n + ts.length := by rw [List.length_append, bnd_len]
      generalize hE : bnd n most ++ ts = es at q hes hel
      refine k_cut (fun σ H2 => ∃ k kr kw c, σ = [some (.int n), some (.ref l), some (.int most), some (.ref rw'), none, some (.ref wa), some (lastV (Lm.iter es s0 k).last), c] ∧ Same H H2 ∧ H2 rw' = some (.dK kr) ∧ RowK n kr (Lm.iter es s0 k).row ∧ H2 wa = some (.dK kw) ∧ WayK K H2 kw (Lm.iter es s0 k).way ∧ k ≤ n + 2 ∧ 0 < k ∧ ((Lm.iter es s0 k).last = none ∨ k = n + 2)) ?_ ?_
      · walk_at "wa"
        refine k_itr1 (by omega) ?_
        refine for_range (fun i σ H2 => ∃ kr kw c, σ = [some (.int n), some (.ref l), some (.int most), some (.ref rw'), none, some (.ref wa), some (lastV (Lm.iter es s0 i).last), c] ∧ Same H H2 ∧ H2 rw' = some (.dK kr) ∧ RowK n kr (Lm.iter es s0 i).row ∧ H2 wa = some (.dK kw) ∧ WayK K H2 kw (Lm.iter es s0 i).way ∧ kw.length ≤ 1012 * i)
          ⟨kr, [], _, rfl, Same.wr p1 fwa, up_new hwa p2, ⟨fun p q1 q2 => p3.1 p q1 (by omega), p3.2⟩, upd_same, fun p => ⟨fun _ => rfl, fun t h => by cases h⟩, Nat.le_refl _⟩ (fun i σ H2 hi hP => ?_) (fun σ H2 hP => ?_)
        · obtain ⟨kr2, kw2, c, rfl, s1, r1, r2, w1, w2, w3⟩ := hP
          walk_at "wa"
          refine ⟨n, most, rfl, n2, fun b bs H3 nb s3 hb tb => ?_⟩
          walk_at "wa"
          refine k_addL hb (s3 _ _ (s1 _ _ hl)) ?_ ?_
          · rw [tb.len, hT.len, bnd_len, sizeLine_eq]
            omega
          · intro e he
            walk_at "wa"
            have s4 : Same H2 (upd H3 e (.lst (bs ++ us))) := Same.wr s3 (s3.free he)
            have hTe : TieL K (upd H3 e (.lst (bs ++ us))) (bs ++ us) es := by
              rw [← hE]
              exact TieL.app (tb.mono (Tp.new he)) (hT.mono (Tp.same (s1.trans s4)))
            refine ⟨n, rw', e, wa, kr2, kw2, bs ++ us, es, Lm.iter es s0 i, rfl, nw, s4 _ _ r1, r2, s4 _ _ w1, w2.mono (Tp.same s4), sql_of upd_same, hTe, fun t ht => ⟨(hes t ht).1, (hes t ht).2.1⟩, by omega, fun H5 kr5 kw5 k5 a1 a2 a3 a4 a5 => ?_⟩
            walk_at "wa"
            have s5 : Same H H5 := k5.over (s1.trans s4) hrw fwa
            cases hl5 : (Lm.pushedS (Lm.iter es s0 i) es).last with
            | none =>
              walk_at "wa"
              refine k_pos rfl ?_
              walk_at "wa"
              exact ⟨i + 1, _, _, _, by show _ = [_, _, _, _, _, _, some (lastV (Lm.pushedS (Lm.iter es s0 i) es).last), _]; rw [hl5], s5, a1, a2, a3, a4, by omega, by omega, .inl hl5⟩
            | some v =>
              walk_at "wa"
              refine k_neg' (by intro z; cases z) ?_
              walk_at "wa"
              exact ⟨_, _, _, by show _ = [_, _, _, _, _, _, some (lastV (Lm.pushedS (Lm.iter es s0 i) es).last), _]; rw [hl5], s5, a1, a2, a3, a4, by omega⟩
        · obtain ⟨kr2, kw2, c, rfl, s1, r1, r2, w1, w2, w3⟩ := hP
          exact ⟨_, _, _, _, rfl, s1, r1, r2, w1, w2, by omega, by omega, .inr (by omega)⟩
      · rintro σ H2 ⟨k, kr2, kw2, c, rfl, s1, r1, r2, w1, w2, k1, k2, k3⟩
        walk_at "wa"
        intro t ht
        exact q t rw' wa kr2 kw2 k _ (Same.wr s1 (s1.free ht)) sqt_new (up_new ht r1) r2 (up_new ht w1) (w2.mono (Tp.new ht)) k1 k2 k3
end
end Lw
namespace Ls
open PySem PySem.Spec PyProof.Rows L2
/-! ### refusals -/
/-- what is let out: an exception of the class C whose word is w -/
def Out (K : PySem.W.Frag) (H : Hp) (C : Addr) (w : Str) (E : XK) : Prop := ∀ d H', Same H H' → H' d = some (.xd [("word", .str w)]) → E (.ref C) (some d) H'
def TieOkB (lanes : Int) (t : Tie) : Bool := decide (0 ≤ t.1) && decide (t.1 < lanes) && (decide (0 ≤ t.2.1) && decide (t.2.1 < lanes)) && (!decide (t.1 = t.2.1)) && (decide (-999999 ≤ t.2.2) && decide (t.2.2 ≤ 999999))
theorem tieOk_iff {lanes : Int} {t : Tie} : TieOkB lanes t = true ↔ GoodT lanes 999999 t := by
  unfold TieOkB GoodT
  simp only [Bool.and_eq_true, decide_eq_true_eq, Bool.not_eq_true', decide_eq_false_iff_not]
  constructor
  · rintro ⟨⟨⟨⟨a, b⟩, c, d⟩, e⟩, f, g⟩
    exact ⟨a, b, c, d, e, f, g⟩
  · rintro ⟨a, b, c, d, e, f, g⟩
    exact ⟨⟨⟨⟨a, b⟩, c, d⟩, e⟩, f, g⟩
/-- the refusal that is due: none, or the word's class -/
inductive Due | no | size | tie
def dueOf (lanes : Int) (ts : List Tie) (most : Int) : Due := if ¬ (1 ≤ lanes ∧ lanes ≤ 6) then .size else if ts.all (TieOkB lanes) = false then .tie else if ¬ (0 ≤ most ∧ most ≤ 1000000000000) then .size else .no
def spLookX (K : PySem.W.Frag) (CS CT : Addr) : Sp := fun vs H Q E => ∃ (lanes most : Int) (a : Addr) (us : List V) (ts : List Tie), vs = [.int lanes, .ref a, .int most] ∧ SqL K H a us ∧ TieL K H us ts ∧
  (dueOf lanes ts most = .no → Q .non H) ∧ (dueOf lanes ts most = .size → Out K H CS "badsize" E) ∧ (dueOf lanes ts most = .tie → Out K H CT "badtie" E)
end Ls
namespace Lw
open PySem PySem.Spec PyProof.Rows L2 Ls
section
variable {P : Program} {w : World} {K : PySem.W.Frag} {mg : Str → Option Value} {base : Heap}
theorem ok_ScribeError_init (E : Env K mg) : FnOk P w K mg base CX0 1 E.fi_ScribeError E.fdi_ScribeError ["self", "word"] (spInit1 K) := by
  refine E.FI_ScribeError.ok sc_ScribeError___init__ (fun vs H Q E h => ?_) (fun cdv A outer s H vs Q E' hr h => ?_)
  · obtain ⟨a, C, w, rfl, _⟩ := h
    rfl
  · obtain ⟨a, C, w, rfl, T, no, ha, q⟩ := h
    refine ⟨_, PSs.nox (pss_cons (ps_expr (pe_veinit rfl E.n_ValueError E.vei (pa_cons (pv 0) (pa_cons (pv 1) pa_nil))))
(pss_one (ps_ost (pv 0) (pv 1)))), ?_⟩
    refine k_body (s1 := [some (.ref a), some (.str w)]) rfl ?_
    walk_at "w"
    refine ⟨a, C, [.str w], rfl, by show 1 ≤ 1000; omega, T, ha, ?_⟩
    walk_at "w"
    exact ⟨a, C, rfl, T, no, .inl ⟨ha, fun dx h1 h2 => q dx h1 h2⟩⟩
theorem ok_BadSize_init (E : Env K mg) : FnOk P w K mg base CX0 2 E.fi_BadSize E.fdi_BadSize ["self"] (spInit0 K "badsize") := by
  refine E.FI_BadSize.ok sc_BadSize___init__ (fun vs H Q E h => ?_) (fun cdv A outer s H vs Q E' hr h => ?_)
  · obtain ⟨a, C, rfl, _⟩ := h
    rfl
  · obtain ⟨a, C, rfl, T, no, ha, q⟩ := h
    have GI_ScribeError := ok_ScribeError_init (P := P) (w := w) (base := base) E
    have hrI_ScribeError := hr.mono (show 1 ≤ 1 by decide)
    have bI_ScribeError := bI_ScribeError E
    refine ⟨_, PSs.nox (pss_one (ps_expr (pe_cfn (pe_glob (v := .ref E.C_ScribeError) rfl E.g_ScribeError rfl) E.r_ScribeError E.v_ScribeError E.FI_ScribeError.kp GI_ScribeError hrI_ScribeError bI_ScribeError pass0 (pa_cons (pv 0) (pa_cons pe_str pa_nil))))), ?_⟩
    refine k_body (s1 := [some (.ref a)]) rfl ?_
    walk_at "w"
    refine ⟨rfl, ?_⟩
    walk_at "w"
    exact ⟨a, C, _, rfl, T, no, ha, q⟩
theorem ok_BadTie_init (E : Env K mg) : FnOk P w K mg base CX0 2 E.fi_BadTie E.fdi_BadTie ["self"] (spInit0 K "badtie") := by
  refine E.FI_BadTie.ok sc_BadTie___init__ (fun vs H Q E h => ?_) (fun cdv A outer s H vs Q E' hr h => ?_)
  · obtain ⟨a, C, rfl, _⟩ := h
    rfl
  · obtain ⟨a, C, rfl, T, no, ha, q⟩ := h
    have GI_ScribeError := ok_ScribeError_init (P := P) (w := w) (base := base) E
    have hrI_ScribeError := hr.mono (show 1 ≤ 1 by decide)
    have bI_ScribeError := bI_ScribeError E
    refine ⟨_, PSs.nox (pss_one (ps_expr (pe_cfn (pe_glob (v := .ref E.C_ScribeError) rfl E.g_ScribeError rfl) E.r_ScribeError E.v_ScribeError E.FI_ScribeError.kp GI_ScribeError hrI_ScribeError bI_ScribeError pass0 (pa_cons (pv 0) (pa_cons pe_str pa_nil))))), ?_⟩
    refine k_body (s1 := [some (.ref a)]) rfl ?_
    walk_at "w"
    refine ⟨rfl, ?_⟩
    walk_at "w"
    exact ⟨a, C, _, rfl, T, no, ha, q⟩
theorem okX_look_ties (E : Env K mg) : FnOk P w K mg base (L2.CX P w) 4 E.a_look_ties E.fd_look_ties ["lanes", "ties", "most"] (spLookX K E.C_BadSize E.C_BadTie) := by
  refine E.F_look_ties.ok sc_look_ties (fun vs H Q E h => ?_) (fun cdv A outer s H vs Q E' hr h => ?_)
  · obtain ⟨d, c, m, n, o, rfl, _⟩ := h
    rfl
  · obtain ⟨lanes, most, a, us, ts, rfl, ha, hT, q0, q1, q2⟩ := h
    have hu := huOf hr
    have GI_BadSize := ok_BadSize_init (P := P) (w := w) (base := base) E
    have GI_BadTie := ok_BadTie_init (P := P) (w := w) (base := base) E
    have hrI_BadSize := hr.mono (show 3 ≤ 3 by decide)
    have hrI_BadTie := hr.mono (show 3 ≤ 3 by decide)
    have bI_BadSize := bI_BadSize E
    have bI_BadTie := bI_BadTie E
    refine ⟨_, (pss_cons (ps_if (pt_not (pt_chain op_le op_le pe_int (pv 0) (pe_gc rfl E.c_MOST_LANES))) (pss_one (ps_raise rfl (takes_of rfl rfl rfl rfl) (pmk_oex0 E.o_BadSize E.i_BadSize E.t_BadSize GI_BadSize hrI_BadSize bI_BadSize .nil pass0 rfl E.g_BadSize))) pss_nil)
(pss_cons (ps_for (passes_of rfl) rfl (kIL K rfl (pi_list (pv 1))) (kGTup (n := 3) K rfl (pg_tup rfl (pgs_cons (pg_name (i := 3) sc_look_ties.nd rfl (Or.inl rfl)) (pgs_cons (pg_name (i := 4) sc_look_ties.nd rfl (Or.inl rfl)) (pgs_cons (pg_name (i := 5) sc_look_ties.nd rfl (Or.inl rfl)) pgs_nil)))))
(pss_one (ps_if (PW.pt (pw_or (pt_not (pt_chain op_le op_lt pe_int (pv 3) (pv 0))) (pw_or (pt_not (pt_chain op_le op_lt pe_int (pv 4) (pv 0))) (pw_or (pt_cmpR (op_eqU K rfl hu) (pv 3) (pv 4) (nomark _)) (pw_or1 (pt_not (pt_chain op_le op_le (pe_un un_neg (pe_gc rfl E.c_LIMIT)) (pv 5) (pe_gc rfl E.c_LIMIT)))))))) (pss_one (ps_raise rfl (takes_of rfl rfl rfl rfl) (pmk_oex0 E.o_BadTie E.i_BadTie E.t_BadTie GI_BadTie hrI_BadTie bI_BadTie .nil pass0 rfl E.g_BadTie))) pss_nil)))
(pss_one (ps_if (pt_not (pt_chain op_le op_le pe_int (pv 2) (pe_gc rfl E.c_GREATEST))) (pss_one (ps_raise rfl (takes_of rfl rfl rfl rfl) (pmk_oex0 E.o_BadSize E.i_BadSize E.t_BadSize GI_BadSize hrI_BadSize bI_BadSize .nil pass0 rfl E.g_BadSize))) pss_nil)))), ?_⟩
    refine k_body (s1 := [some (.int lanes), some (.ref a), some (.int most), none, none, none]) rfl ?_
    have rS : ∀ (H' : Hp) (σ : L2.St), Same H H' → dueOf lanes ts most = .size → tMkO E.C_BadSize (spInit0 K "badsize") [] tNil σ H' fun cls d H' => E' cls d H' := fun H' σ s e => k_raise E.o_BadSize E.w_BadSize fun d H2 _ s2 hd => q1 e d H2 (s.trans s2) hd
    have rT : ∀ (H' : Hp) (σ : L2.St), Same H H' → dueOf lanes ts most = .tie → tMkO E.C_BadTie (spInit0 K "badtie") [] tNil σ H' fun cls d H' => E' cls d H' := fun H' σ s e => k_raise E.o_BadTie E.w_BadTie fun d H2 _ s2 hd => q2 e d H2 (s.trans s2) hd
    walk_at "w"
    by_cases hl : 1 ≤ lanes ∧ lanes ≤ 6
    · obtain ⟨l1, l2⟩ := hl
      walk_at "wa"
      refine k_itl ha ?_
      refine for_list (xs := us) (fun i σ H' => H' = H ∧ (ts.take i).all (TieOkB lanes) = true ∧ ∃ c1 c2 c3, σ = [some (.int lanes), some (.ref a), some (.int most), c1, c2, c3]) ⟨rfl, rfl, _, _, _, rfl⟩ (fun i σ H' _ hP => ?_) (fun i x σ H' hx hP => ?_) (fun σ H' hP => ?_)
      · obtain ⟨rfl, _⟩ := hP
        exact ha
      · obtain ⟨rfl, hall, c1, c2, c3, rfl⟩ := hP
        obtain ⟨t, ta, ht, rfl, st⟩ := hT.get hx
        have e1 : ts.take (i + 1) = ts.take i ++ [t] := by rw [List.take_add_one, ht]; rfl
        refine k_gtup st rfl ?_
        cases hok : TieOkB lanes t with
        | true =>
          obtain ⟨g1, g2, g3, g4, g5, g6, g7⟩ := tieOk_iff.mp hok
          walk_at "wa"
          refine ⟨rfl, ?_, _, _, _, rfl⟩
          rw [e1, List.all_append, hall, List.all_cons, hok]
          rfl
        | false =>
          have due : dueOf lanes ts most = .tie := by
            unfold dueOf
            rw [if_neg (fun z => z ⟨l1, l2⟩), if_pos]
            rw [List.all_eq_false]
            exact ⟨t, List.mem_of_getElem? ht, by rw [hok]; decide⟩
          have bad : ¬ GoodT lanes 999999 t := fun g => by
            rw [tieOk_iff.mpr g] at hok
            cases hok
          walk_at "w"
          refine k_itd (fun a1 => ?_) (fun a1 => ?_)
          · walk_at "w"
            refine k_itn (fun a2 => ?_) (fun a2 => ?_)
            · walk_at "w"
              exact rT _ _ (Same.refl _) due
            walk_at "w"
            refine k_itd (fun a3 => ?_) (fun a3 => ?_)
            · walk_at "w"
              refine k_itn (fun a4 => ?_) (fun a4 => ?_)
              · walk_at "w"
                exact rT _ _ (Same.refl _) due
              walk_at "w"
              refine k_itd (fun a5 => ?_) (fun a5 => ?_)
              · walk_at "w"
                exact rT _ _ (Same.refl _) due
              walk_at "w"
              refine k_itd (fun a6 => ?_) (fun a6 => ?_)
              · walk_at "w"
                refine k_itn (fun a7 => ?_) (fun a7 => ?_)
                · walk_at "w"
                  exact rT _ _ (Same.refl _) due
                · exact (bad ⟨a1, a2, a3, a4, a5, a6, a7⟩).elim
              · walk_at "w"
                exact rT _ _ (Same.refl _) due
            · walk_at "w"
              exact rT _ _ (Same.refl _) due
          · walk_at "w"
            exact rT _ _ (Same.refl _) due
      · obtain ⟨rfl, hall, c1, c2, c3, rfl⟩ := hP
        rw [hT.len, List.take_length] at hall
        have due : dueOf lanes ts most = if ¬ (0 ≤ most ∧ most ≤ 1000000000000) then .size else .no := by
          unfold dueOf
          rw [if_neg (fun z => z ⟨l1, l2⟩), if_neg (by rw [hall]; decide)]
        walk_at "w"
        refine k_itd (fun a1 => ?_) (fun a1 => ?_)
        · walk_at "w"
          refine k_itn (fun a2 => ?_) (fun a2 => ?_)
          · walk_at "w"
            exact rS _ _ (Same.refl _) (by rw [due, if_pos]; exact fun z => a2 z.2)
          · walk_at "w"
            exact q0 (by rw [due, if_neg]; exact fun z => z ⟨a1, a2⟩)
        · walk_at "w"
          exact rS _ _ (Same.refl _) (by rw [due, if_pos]; exact fun z => a1 z.1)
    · have due : dueOf lanes ts most = .size := by
        unfold dueOf
        rw [if_pos hl]
      refine k_itd (fun a1 => ?_) (fun a1 => ?_)
      · walk_at "w"
        refine k_itn (fun a2 => ?_) (fun a2 => ?_)
        · walk_at "w"
          exact rS _ _ (Same.refl _) due
        · exact (hl ⟨a1, a2⟩).elim
      · walk_at "w"
        exact rS _ _ (Same.refl _) due
end
end Lw
namespace Ls
open PySem PySem.Spec PyProof.Rows L2
theorem due_no {lanes most : Int} {ts : List Tie} (h : dueOf lanes ts most = .no) : ∃ n : Nat, lanes = n ∧ 1 ≤ n ∧ n ≤ 6 ∧ (∀ t ∈ ts, GoodT lanes 999999 t) ∧ 0 ≤ most ∧ most ≤ 1000000000000 := by
  unfold dueOf at h
  by_cases h1 : 1 ≤ lanes ∧ lanes ≤ 6
  · rw [if_neg (fun z => z h1)] at h
    by_cases h2 : ts.all (TieOkB lanes) = false
    · rw [if_pos h2] at h
      cases h
    · rw [if_neg h2] at h
      by_cases h3 : 0 ≤ most ∧ most ≤ 1000000000000
      · refine ⟨lanes.toNat, by omega, by omega, by omega, fun t ht => ?_, h3.1, h3.2⟩
        have h2 : ts.all (TieOkB lanes) = true := by
          cases e : ts.all (TieOkB lanes) with
          | true => rfl
          | false => exact (h2 e).elim
        exact tieOk_iff.mp (List.all_eq_true.mp h2 t ht)
      · rw [if_pos h3] at h
        cases h
  · rw [if_pos h1] at h
    cases h
/-- amounts or ring, whatever they answer, refusals told -/
def spAnyX (K : PySem.W.Frag) (CS CT : Addr) : Sp := fun vs H Q E => ∃ (lanes most : Int) (l : Addr) (us : List V) (ts : List Tie), vs = [.int lanes, .ref l, .int most] ∧ H l = some (.lst us) ∧ TieL K H us ts ∧ ts.length ≤ 1000 ∧
  (dueOf lanes ts most = .no → ∀ v H', Same H H' → Q v H') ∧ (dueOf lanes ts most = .size → Out K H CS "badsize" E) ∧ (dueOf lanes ts most = .tie → Out K H CT "badtie" E)
def spMeetsX (K : PySem.W.Frag) (CS CT : Addr) : Sp := fun vs H Q E => ∃ (lanes most : Int) (l r : Addr) (us : List V) (ts : List Tie) (ns : List Int), vs = [.int lanes, .ref l, .ref r, .int most] ∧ SqL K H l us ∧ TieL K H us ts ∧ ts.length ≤ 1000 ∧ SqL K H r (ns.map V.int) ∧ ns.length ≤ 1000 ∧
  (dueOf lanes ts most = .no → ∀ v H', Same H H' → Q v H') ∧ (dueOf lanes ts most = .size → Out K H CS "badsize" E) ∧ (dueOf lanes ts most = .tie → Out K H CT "badtie" E)
end Ls
namespace Lw
open PySem PySem.Spec PyProof.Rows L2 Ls
section
variable {P : Program} {w : World} {K : PySem.W.Frag} {mg : Str → Option Value} {base : Heap}
theorem okX_amounts (E : Env K mg) (G_look_ties : FnOk P w K mg base (L2.CX P w) 4 E.a_look_ties E.fd_look_ties ["lanes", "ties", "most"] (spLookX K E.C_BadSize E.C_BadTie)) (G_settled : FnOk P w K mg base CX0 2 E.a_settled E.fd_settled ["lanes", "ties", "most"] (spSettled K)) : FnOk P w K mg base (L2.CX P w) 5 E.a_amounts E.fd_amounts ["lanes", "ties", "most"] (spAnyX K E.C_BadSize E.C_BadTie) := by
  refine E.F_amounts.ok sc_amounts (fun vs H Q E h => ?_) (fun cdv A outer s H vs Q E' hr h => ?_)
  · obtain ⟨d, c, e, f, g, rfl, _⟩ := h
    rfl
  · obtain ⟨lanes, most, l, us, ts, rfl, hl, hT, hlen, q0, qs, qt⟩ := h
    have hu := huOf hr
    have hr_look_ties := hr.mono (show 4 ≤ 4 by decide)
    have b_look_ties := b_look_ties E
    have hr_settled := hr.mono (show 2 ≤ 4 by decide)
    have b_settled := b_settled E
    refine ⟨_, (pss_cons (ps_expr (pe_call G_look_ties hr_look_ties rfl E.g_look_ties E.F_look_ties.kp b_look_ties .nil (passes_call (takes_of rfl rfl rfl rfl) fun _ _ _ _ h => h) (pa_cons (pv 0) (pa_cons (pv 1) (pa_cons (pv 2) pa_nil)))))
(pss_cons (ps_asg (pe_call G_settled hr_settled rfl E.g_settled E.F_settled.kp b_settled .nil pass0 (pa_cons (pv 0) (pa_cons (pv 1) (pa_cons (pv 2) pa_nil)))) (kGTup (n := 3) K rfl (pg_tup rfl (pgs_cons (pg_name (i := 3) sc_amounts.nd rfl (Or.inr rfl)) (pgs_cons (pg_name (i := 4) sc_amounts.nd rfl (Or.inl rfl)) (pgs_cons (pg_name (i := 5) sc_amounts.nd rfl (Or.inl rfl)) pgs_nil))))))
(pss_cons (ps_if (pt_cmpR (op_isnotU) (pv 5) pe_non (nomark _)) (pss_one (ps_ret pe_non)) pss_nil)
(pss_one (ps_ret (pe_lc (own := [("lane", 6)]) rfl sc_amounts.nd (pi_range1 rfl E.n_range (pa_cons (pv 0) pa_nil)) (blkOk_by (N := ["lanes", "ties", "most", "row", "ways", "last", "lane"]) (sc := defScope s_amounts) (by decide +kernel)) (fun _ _ _ _ _ => (pg_name (i := 6) sc_amounts.nd rfl (Or.inl rfl))) (fun _ _ _ _ _ => pts_nil) (fun _ _ _ _ _ => (pe_dget (hu1 hu) (pv 3) (pv 6) (fun _ _ => rfl))))))))), ?_⟩
    refine k_body (s1 := [some (.int lanes), some (.ref l), some (.int most), none, none, none, none]) rfl ?_
    walk_at "wa"
    refine ⟨lanes, most, l, us, ts, rfl, sql_of hl, hT, fun due => ?_, qs, qt⟩
    obtain ⟨n, rfl, n1, n2, hg, m1, m2⟩ := due_no due
    walk_at "wa"
    refine ⟨n, most, l, us, ts, rfl, n1, n2, hl, hT, hg, hlen, fun t rw' wa kr kw k H1 s1 st r1 r2 w1 w2 k1 k2 k3 => ?_⟩
    walk_at "wa"
    refine k_gtup st rfl ?_
    walk_at "wa"
    cases hl5 : (Lm.iter (bnd n most ++ ts) s0 k).last with
    | some v =>
      walk_at "wa"
      refine k_npos (by intro z; cases z) ?_
      walk_at "wa"
      have hk : k = n + 2 := by
        rcases k3 with k3 | k3
        · rw [hl5] at k3; cases k3
        · exact k3
      subst hk
      exact q0 due _ _ s1
    | none =>
      walk_at "wa"
      refine k_nneg rfl ?_
      walk_at "wa"
      refine k_itr1 (by omega) ?_
      intro p hp
      refine lc_range (fun i H2 => Same H1 H2 ∧ H2 p = some (.lst (rowV i (Lm.iter (bnd n most ++ ts) s0 k).row))) ⟨same_new hp, upd_same⟩ (fun i H2 hi hP => ?_) (fun H2 hP => ?_)
      · obtain ⟨p1, p2⟩ := hP
        walk_at "lc"
        refine k_getI (p1 _ _ r1) (r2.1 _ (by omega) (by omega)) ?_
        walk_at "wa"
        refine ⟨_, p2, ?_, Same.wr p1 hp, ?_⟩
        · rw [rowV, List.length_map, List.length_range, sizeLine_eq]
          omega
        · rw [upd_same, Int.zero_add]
          unfold rowV
          rw [List.range_succ, List.map_append]
          rfl
      · obtain ⟨p1, p2⟩ := hP
        walk_at "wa"
        rw [Int.toNat_natCast] at p2
        exact q0 due _ _ (s1.trans p1)
theorem okX_ring (E : Env K mg) (G_look_ties : FnOk P w K mg base (L2.CX P w) 4 E.a_look_ties E.fd_look_ties ["lanes", "ties", "most"] (spLookX K E.C_BadSize E.C_BadTie)) (G_settled : FnOk P w K mg base CX0 2 E.a_settled E.fd_settled ["lanes", "ties", "most"] (spSettled K)) : FnOk P w K mg base (L2.CX P w) 5 E.a_ring E.fd_ring ["lanes", "ties", "most"] (spAnyX K E.C_BadSize E.C_BadTie) := by
  refine E.F_ring.ok sc_ring (fun vs H Q E h => ?_) (fun cdv A outer s H vs Q E' hr h => ?_)
  · obtain ⟨d, c, e, f, g, rfl, _⟩ := h
    rfl
  · obtain ⟨lanes, most, l, us, ts, rfl, hl, hT, hlen, q0, qs, qt⟩ := h
    have hu := huOf hr
    have hr_look_ties := hr.mono (show 4 ≤ 4 by decide)
    have b_look_ties := b_look_ties E
    have hr_settled := hr.mono (show 2 ≤ 4 by decide)
    have b_settled := b_settled E
    refine ⟨_, (pss_cons (ps_expr (pe_call G_look_ties hr_look_ties rfl E.g_look_ties E.F_look_ties.kp b_look_ties .nil (passes_call (takes_of rfl rfl rfl rfl) fun _ _ _ _ h => h) (pa_cons (pv 0) (pa_cons (pv 1) (pa_cons (pv 2) pa_nil)))))
(pss_cons (ps_asg (pe_call G_settled hr_settled rfl E.g_settled E.F_settled.kp b_settled .nil pass0 (pa_cons (pv 0) (pa_cons (pv 1) (pa_cons (pv 2) pa_nil)))) (kGTup (n := 3) K rfl (pg_tup rfl (pgs_cons (pg_name (i := 3) sc_ring.nd rfl (Or.inl rfl)) (pgs_cons (pg_name (i := 4) sc_ring.nd rfl (Or.inl rfl)) (pgs_cons (pg_name (i := 5) sc_ring.nd rfl (Or.inl rfl)) pgs_nil))))))
(pss_cons (ps_if (pt_cmpR (op_isU) (pv 5) pe_non (nomark _)) (pss_one (ps_ret pe_non)) pss_nil)
(pss_cons (ps_set (i := 6) sc_ring.nd rfl (Or.inl rfl) (pv 5))
(pss_cons (ps_for (passes_of rfl) rfl (pi_range1 rfl E.n_range (pa_cons (pe_op (op_addU K rfl) (pv 0) pe_int) pa_nil)) (pg_name (i := 7) sc_ring.nd rfl (Or.inl rfl))
(pss_one (ps_set (i := 6) sc_ring.nd rfl (Or.inl rfl) (pe_ix (ix_U K rfl) (pe_dget (hu1 hu) (pv 4) (pv 6) (fun _ _ => rfl)) pe_int (fun _ _ => rfl)))))
(pss_cons (ps_set (i := 8) sc_ring.nd rfl (Or.inl rfl) (pe_lst (pa_cons (pe_dget (hu1 hu) (pv 4) (pv 6) (fun _ _ => rfl)) pa_nil)))
(pss_cons (ps_while (passes_of rfl) (pt_cmpR (op_neU K rfl hu) (pe_ix (ix_U K rfl) (pe_ix (ix_U K rfl) (pv 8) (pe_un un_neg pe_int) (fun _ _ => rfl)) pe_int (fun _ _ => rfl)) (pv 6) (nomark _))
(pss_one (ps_expr (kBM K rfl (pe_bm PySem.F.plainAttrs_list PySem.F.slot_list_append PySem.F.type_list_append mt_append (pv 8) (pa_cons (pe_dget (hu1 hu) (pv 4) (pe_ix (ix_U K rfl) (pe_ix (ix_U K rfl) (pv 8) (pe_un un_neg pe_int) (fun _ _ => rfl)) pe_int (fun _ _ => rfl)) (fun _ _ => rfl)) pa_nil))))))
(pss_one (ps_ret (pv 8)))))))))), ?_⟩
    refine k_body (s1 := [some (.int lanes), some (.ref l), some (.int most), none, none, none, none, none, none]) rfl ?_
    walk_at "wa"
    refine ⟨lanes, most, l, us, ts, rfl, sql_of hl, hT, fun due => ?_, qs, qt⟩
    obtain ⟨n, rfl, n1, n2, hg, m1, m2⟩ := due_no due
    walk_at "wa"
    refine ⟨n, most, l, us, ts, rfl, n1, n2, hl, hT, hg, hlen, fun t rw' wa kr kw k H1 s1 st r1 r2 w1 w2 k1 k2 k3 => ?_⟩
    walk_at "wa"
    refine k_gtup st rfl ?_
    walk_at "wa"
    cases hl5 : (Lm.iter (bnd n most ++ ts) s0 k).last with
    | none =>
      walk_at "wa"
      refine k_pos rfl ?_
      walk_at "wa"
      exact q0 due _ _ s1
    | some v =>
      walk_at "wa"
      refine k_neg' (by intro z; cases z) ?_
      walk_at "wa"
      have hk : k = n + 2 := by
        rcases k3 with k3 | k3
        · rw [hl5] at k3; cases k3
        · exact k3
      subst hk
      obtain ⟨q, hq⟩ := iter_runs hg hl5
      have hno := iter_some hg hl5
      generalize (Lm.iter (bnd n most ++ ts) s0 (n + 2)).way = W at hq w2
      refine k_itr1 (by omega) ?_
      refine for_range (fun i σ H2 => H2 = H1 ∧ ∃ c, σ = [some (.int n), some (.ref l), some (.int most), some (.ref rw'), some (.ref wa), some (lastV (some v)), some (.int (Lm.go W i v)), c, none]) ⟨rfl, _, rfl⟩ (fun i σ H2 hi hP => ?_) (fun σ H2 hP => ?_)
      · obtain ⟨rfl, c, rfl⟩ := hP
        walk_at "wa"
        obtain ⟨t1, e1, e2⟩ := hq.steps i (by omega)
        obtain ⟨a, a1, a2⟩ := (w2 (Lm.go W i v)).2 t1 e1
        refine k_getI w1 a1 ?_
        walk_at "wa"
        refine k_ixT a2 (v := .int t1.2.1) rfl ?_
        walk_at "wa"
        exact ⟨rfl, _, by rw [e2]⟩
      · obtain ⟨rfl, c, rfl⟩ := hP
        rw [show ((n : Int) + 2).toNat = n + 2 by omega]
        generalize hb : Lm.go W (n + 2) v = b at hq
        walk_at "wa"
        obtain ⟨t0, e0, f0, g0⟩ := hq.all 0
        have e0 : W b = some t0 := e0
        obtain ⟨a0, x1, x2⟩ := (w2 b).2 t0 e0
        refine k_getI w1 x1 ?_
        walk_at "wa"
        intro p hp
        walk_at "wa"
        refine k_while ?_
        have wys : ∀ k, ∃ t, W (Lm.go W k b) = some t ∧ Lm.wy W (Lm.go W k b) = t ∧ t.2.1 = Lm.go W (k + 1) b := fun k => by
          obtain ⟨t, y1, y2, y3⟩ := hq.all k
          exact ⟨t, y1, by unfold Lm.wy; rw [y1]; rfl, y3⟩
        refine ⟨fun m σ H3 => ∃ j us, m = q - j ∧ j < q ∧ σ = [some (.int n), some (.ref l), some (.int most), some (.ref rw'), some (.ref wa), some (lastV (some v)), some (.int b), c, some (.ref p)] ∧ Same H2 H3 ∧ H3 p = some (.lst us) ∧ TieL K H3 us ((List.range (j + 1)).map fun k => Lm.wy W (Lm.go W k b)),
          ⟨q, 0, [.ref a0], rfl, hq.pos, rfl, same_new hp, upd_same, ?_⟩, ?_⟩
        · have e1 : Lm.wy W b = t0 := by unfold Lm.wy; rw [e0]; rfl
          have : (List.range (0 + 1)).map (fun k => Lm.wy W (Lm.go W k b)) = [] ++ [(t0.1, t0.2.1, t0.2.2)] := by
            show [Lm.wy W b] = [t0]
            rw [e1]
          rw [this]
          exact TieL.snoc (vs := []) (ts := []) .nil (Tp.new hp _ _ x2)
        · rintro m σ H3 ⟨j, us', rfl, hj, rfl, s3, hp3, hT3⟩
          have hl3 : us'.length = j + 1 := by rw [hT3.len, List.length_map, List.length_range]
          obtain ⟨tj, y1, y2, y3⟩ := wys j
          have hlast : us'[j]? = some us'[j] := List.getElem?_eq_getElem (by omega)
          obtain ⟨t', a', z1, z2, z3⟩ := hT3.get hlast
          rw [List.getElem?_map, List.getElem?_range (by omega)] at z1
          have z1 : some (Lm.wy W (Lm.go W j b)) = some t' := z1
          rw [y2] at z1
          cases z1
          rw [z2] at hlast
          walk_at "wa"
          refine k_ixL (sql_of hp3) (at_end hl3 hlast) ?_
          walk_at "wa"
          refine k_ixT z3 (v := .int tj.2.1) rfl ?_
          walk_at "wa"
          rw [y3]
          refine k_itn (fun hne => ?_) (fun heq => ?_)
          · have hj1 : j + 1 < q := by
              by_cases h : j + 1 = q
              · rw [h, hq.back] at hne
                exact (hne rfl).elim
              · omega
            refine ⟨fun σ H4 => ∃ us4, σ = [some (.int n), some (.ref l), some (.int most), some (.ref rw'), some (.ref wa), some (lastV (some v)), some (.int b), c, some (.ref p)] ∧ Same H2 H4 ∧ H4 p = some (.lst us4) ∧ TieL K H4 us4 ((List.range (j + 1 + 1)).map fun k => Lm.wy W (Lm.go W k b)), fun σ' H4 hN => ?_, ?_⟩
            · obtain ⟨us4, rfl, s4, u1, u2⟩ := hN
              exact ⟨q - (j + 1), by omega, j + 1, us4, rfl, hj1, rfl, s4, u1, u2⟩
            · walk_at "wa"
              refine k_tyL (sql_of hp3) ?_
              walk_at "wa"
              refine k_ixL (sql_of hp3) (at_end hl3 hlast) ?_
              walk_at "wa"
              refine k_ixT z3 (v := .int tj.2.1) rfl ?_
              rw [y3]
              obtain ⟨tk, v1, v2, v3⟩ := wys (j + 1)
              obtain ⟨ak, v4, v5⟩ := (w2 _).2 tk v1
              refine k_getI (s3 _ _ w1) v4 ?_
              walk_at "wa"
              refine k_app hp3 ?_ ?_
              · rw [hl3, sizeLine_eq]
                have := hq.le
                omega
              · refine ⟨_, rfl, Same.wr s3 hp, upd_same, ?_⟩
                rw [List.range_succ (n := j + 1), List.map_append]
                refine TieL.mono (wr_tp hp3 rfl) ?_
                show TieL K H3 _ (_ ++ [Lm.wy W (Lm.go W (j + 1) b)])
                rw [v2]
                exact TieL.snoc hT3 (Tp.same s3 _ _ v5)
          · walk_at "wa"
            have hjq : j + 1 = q := by
              by_cases h : j + 1 = q
              · exact h
              · exact (hq.first (j + 1) (by omega) (by omega) heq).elim
            subst hjq
            exact q0 due _ _ (s1.trans s3)
theorem okX_meets (E : Env K mg) (G_look_ties : FnOk P w K mg base (L2.CX P w) 4 E.a_look_ties E.fd_look_ties ["lanes", "ties", "most"] (spLookX K E.C_BadSize E.C_BadTie)) : FnOk P w K mg base (L2.CX P w) 5 E.a_meets E.fd_meets ["lanes", "ties", "row", "most"] (spMeetsX K E.C_BadSize E.C_BadTie) := by
  refine E.F_meets.ok sc_meets (fun vs H Q E h => ?_) (fun cdv A outer s H vs Q E' hr h => ?_)
  · obtain ⟨d, c, e, f, g, h, i, rfl, _⟩ := h
    rfl
  · obtain ⟨lanes, most, l, r, us, ts, ns, rfl, hl, hT, hlen, hrw, hns, q0, qs, qt⟩ := h
    have hu := huOf hr
    have hr_look_ties := hr.mono (show 4 ≤ 4 by decide)
    have b_look_ties := b_look_ties E
    refine ⟨_, (pss_cons (ps_expr (pe_call G_look_ties hr_look_ties rfl E.g_look_ties E.F_look_ties.kp b_look_ties .nil (passes_call (takes_of rfl rfl rfl rfl) fun _ _ _ _ h => h) (pa_cons (pv 0) (pa_cons (pv 1) (pa_cons (pv 3) pa_nil)))))
(pss_cons (ps_if (PW.pt (pw_or (pt_cmpR (op_neU K rfl hu) (pe_callB (call_lenU K rfl) (by rfl) E.n_len boot_len (pa_cons (pv 2) pa_nil)) (pv 0) (nomark _)) (pw_or1 (pt_not (pt_val (pe_callB (cr_allU K rfl rfl) (by rfl) E.n_all boot_all (pa_cons (pe_lc (own := [("amount", 4)]) rfl sc_meets.nd (kIL K rfl (pi_list (pv 2))) (blkOk_by (N := ["lanes", "ties", "row", "most", "amount", "one", "other", "least"]) (sc := defScope s_meets) (by decide +kernel)) (fun _ _ _ _ _ => (pg_name (i := 4) sc_meets.nd rfl (Or.inl rfl))) (fun _ _ _ _ _ => pts_nil) (fun _ _ _ _ _ => (pe_chain op_le op_le pe_int (pv 4) (pv 3)))) pa_nil))))))) (pss_one (ps_ret pe_bl)) pss_nil)
(pss_one (ps_ret (pe_callB (cr_allU K rfl rfl) (by rfl) E.n_all boot_all (pa_cons (pe_lc (own := [("one", 5), ("other", 6), ("least", 7)]) rfl sc_meets.nd (kIL K rfl (pi_list (pv 1))) (blkOk_by (N := ["lanes", "ties", "row", "most", "amount", "one", "other", "least"]) (sc := defScope s_meets) (by decide +kernel)) (fun _ _ _ _ _ => (kGTup (n := 3) K rfl (pg_tup rfl (pgs_cons (pg_name (i := 5) sc_meets.nd rfl (Or.inl rfl)) (pgs_cons (pg_name (i := 6) sc_meets.nd rfl (Or.inl rfl)) (pgs_cons (pg_name (i := 7) sc_meets.nd rfl (Or.inl rfl)) pgs_nil)))))) (fun _ _ _ _ _ => pts_nil) (fun _ _ _ _ _ => (pe_cmpR (op_ge) (pe_ix (ix_U K rfl) (pv 2) (pv 5) (fun _ _ => rfl)) (pe_op (op_addU K rfl) (pe_ix (ix_U K rfl) (pv 2) (pv 6) (fun _ _ => rfl)) (pv 7)) (nomark _)))) pa_nil)))))), ?_⟩
    refine k_body (s1 := [some (.int lanes), some (.ref l), some (.ref r), some (.int most), none, none, none, none]) rfl ?_
    walk_at "wa"
    refine ⟨lanes, most, l, us, ts, rfl, hl, hT, fun due => ?_, qs, qt⟩
    obtain ⟨n, rfl, n1, n2, hg, m1, m2⟩ := due_no due
    have q := fun H' (s : Same H H') => q0 due (.bl (decide (ns.length = n) && (inB most ns && tiesB ts ns))) H' s
    walk_at "wa"
    refine k_lenL hrw ?_
    rw [List.length_map]
    walk_at "wa"
    refine k_itn (fun hne => ?_) (fun heq => ?_)
    · walk_at "wa"
      have := q H (Same.refl H)
      rw [decide_eq_false (by omega), Bool.false_and] at this
      exact this
    walk_at "wa"
    have heq : ns.length = n := by omega
    refine k_itl hrw ?_
    intro p hp
    refine lc_mapL (xs := ns.map V.int) (fun i => V.bl ((ns[i]?.map fun a => decide (0 ≤ a) && decide (a ≤ most)).getD true)) hrw (by rw [List.length_map]; omega) hp (fun i x H' N hx s qN => ?_) (fun H' s hp' => ?_)
    · rw [List.getElem?_map] at hx
      obtain ⟨a, ha, rfl⟩ := Option.map_eq_some_iff.mp hx
      rw [ha] at qN
      walk_at "lc"
      walk_at "wa"
      refine k_itd (fun h1 => ?_) (fun h1 => ?_)
      · walk_at "wa"
        have := qN _ (Same.refl _)
        rw [Option.map_some, Option.getD_some, decide_eq_true h1, Bool.true_and] at this
        exact this
      · have := qN _ (Same.refl _)
        rw [Option.map_some, Option.getD_some, decide_eq_false h1, Bool.false_and] at this
        exact this
    walk_at "wa"
    rw [List.length_map] at hp'
    refine k_allR hp' ?_
    rw [range_all_get]
    walk_at "wa"
    refine k_ite (fun h1 => ?_) (fun h1 => ?_)
    · walk_at "wa"
      have hb : inB most ns = false := by
        cases e : inB most ns with
        | false => rfl
        | true =>
          have e : (ns.all fun a => decide (0 ≤ a) && decide (a ≤ most)) = true := e
          rw [e] at h1
          cases h1
      have := q H' s
      rw [hb, Bool.false_and, Bool.and_false] at this
      exact this
    · have hb : inB most ns = true := by
        cases e : inB most ns with
        | true => rfl
        | false =>
          have e : (ns.all fun a => decide (0 ≤ a) && decide (a ≤ most)) = false := e
          rw [e] at h1
          cases h1
      walk_at "wa"
      refine k_itl (sql_same s hl) ?_
      intro p2 hp2
      refine lc_mapL (xs := us) (fun i => V.bl ((ts[i]?.map fun t => decide (atZ ns t.2.1 + t.2.2 ≤ atZ ns t.1)).getD true)) (sql_same s hl) (by rw [hT.len]; omega) hp2 (fun i x H2 N hx s2 qN => ?_) (fun H2 s2 hp2' => ?_)
      · obtain ⟨t, ta, ht, rfl, st⟩ := (hT.mono (Tp.same (s.trans s2))).get hx
        obtain ⟨g1, g2, g3, g4, _⟩ := hg t (List.mem_of_getElem? ht)
        rw [ht] at qN
        walk_at "lc1"
        refine k_gtup st rfl ?_
        walk_at "lc2"
        refine k_ixL (sql_same (s.trans s2) hrw) (atZ_at g1 (by omega)) ?_
        walk_at "wa"
        refine k_ixL (sql_same (s.trans s2) hrw) (atZ_at g3 (by omega)) ?_
        walk_at "wa"
        exact qN _ (Same.refl _)
      · walk_at "wa"
        rw [hT.len] at hp2'
        refine k_allR hp2' ?_
        rw [range_all_get]
        have := q H2 (s.trans s2)
        rw [decide_eq_true heq, hb, Bool.true_and, Bool.true_and] at this
        exact this
end
end Lw
namespace Ls
open PySem PySem.Spec PyProof.Rows L2 LamX
/-- what _law_ask makes of what it is handed -/
def TTask (K : PySem.W.Frag) (CV CS : Addr) : (XK → Hp → VK → Prop) → Hp → VK → Prop := fun tl H Q => ∀ (E' : XK) (Q' : VK),
  (∀ (C dd : Addr) (w : Str) (H' : Hp), PySem.W.exmOne K (.ref C) (.ref CV) = some false → PySem.W.exmOne K (.ref C) (.ref CS) = some true → XfC K C → PySem.W.findIn K (.ref C) "word" = some none → H' dd = some (.xd [("word", .str w)]) →
    (∀ p, H' p = none → Q (.ref p) (upd H' p (.lst [.str w, .non]))) → E' (.ref C) (some dd) H') →
  (∀ v H', (∀ p, H' p = none → Q (.ref p) (upd H' p (.lst [.str "", v]))) → Q' v H') → tl E' H Q'
end Ls
namespace Lw
open PySem PySem.Spec PyProof.Rows L2 Ls LamX
section
variable {P : Program} {w : World} {K : PySem.W.Frag} {mg : Str → Option Value} {base : Heap}
theorem ask_gives (E : Env K mg) {X : Cx} (hK : X.K = K) (hmg : X.mg = mg) {g : Addr} {cdg : Value} {q : Str} :
    GivesZ X ["_law_ask_here", "_law_told", "_law_word", "e"] "_law_ask" (defScope s__law_ask) g cdg (defBody s__law_ask) "_law_ask_here" q (TTask K E.C_BadValue E.C_ScribeError) := by
  subst hK hmg
  intro f c' s H Q tl act hc h
  refine ⟨_, pss_cons (ps_set (i := 1) sc__law_ask.nd rfl (Or.inl rfl) pe_non) (pss_cons (ps_set (i := 2) sc__law_ask.nd rfl (Or.inl rfl) pe_str)
    (pss_cons (ps_try_cl (l := [(.ref E.C_BadValue, 3, fun _ _ _ => tNever), (.ref E.C_ScribeError, 3, fun a cls d => tAsg (tXfA X.K a cls d "word" (tVar 3)) (gName 2)), (.ref E.C_Missing, 3, fun _ _ _ => tNever)])
      (tb := fun (W : WX) (D : Ends) (σ : L2.St) (H : Hp) => σ[0]? = some (some (V.ref f)) ∧ H c' = some (CodeO c' q) ∧ tl (fun cls d H' => W cls d σ H') H fun v H' => D.nx (σ.set 1 (some v)) H')
      rfl rfl sc__law_ask.nd LamX.takes0 (fun W pn xe tk _ => ⟨fun pins s' σ H' D I h' => (pss_one (ps_set (i := 1) sc__law_ask.nd rfl (Or.inl rfl) (act W pn xe _ _ tk))).run pins s' σ H' D I h'⟩)
      (.cons ⟨rfl, by decide, .inl E.g_BadValue⟩ rfl rfl (fun _ _ _ _ _ _ _ => pss_never) (.cons ⟨rfl, by decide, .inl E.g_ScribeError⟩ rfl rfl (fun a oe cls d pn hz hf => pss_one (ps_set (i := 2) sc__law_ask.nd rfl (Or.inl rfl) (pe_xfA X.K rfl hz hf (pv 3))))
        (.cons ⟨rfl, by decide, .inl E.g_Missing⟩ rfl rfl (fun _ _ _ _ _ _ _ => pss_never) .nil))))
      (pss_one (ps_ret (pe_lst (pa_cons (pv 2) (pa_cons (pv 1) pa_nil))))))), ?_⟩
  refine k_body (s1 := [some (.ref f), none, none, none]) rfl ?_
  walk_at "w"
  refine ⟨rfl, hc, h _ _ (fun C dd w H' e1 e2 xf no hd q => ?_) fun v H' q => ?_⟩
  · refine ⟨false, e1, (fun z => by cases z), fun _ => ⟨true, e2, fun _ a _ => ?_, fun z => by cases z⟩⟩
    refine k_body (s1 := [some (.ref f), some .non, some (.str ""), some (.ref a)]) rfl ?_
    refine ⟨C, xf, no, _, rfl, rfl, rfl, dd, [("word", .str w)], .str w, rfl, hd, by simp [List.lookup], ?_⟩
    dsimp only [gone]
    refine k_body (s1 := [some (.ref f), some .non, some (.str w), none]) rfl ?_
    walk_at "w"
    exact q
  · refine k_body (s1 := [some (.ref f), some v, some (.str ""), none]) rfl ?_
    walk_at "w"
    exact q
end
end Lw
namespace Ls
open PySem PySem.Spec PyProof.Rows L2
def spFar (K : PySem.W.Frag) : Sp := fun vs H Q _ => ∃ (d c : Addr), vs = [.ref d] ∧ Draw K H d c ∧ ∀ (i : Int) H', Keep d H H' → Draw K H' d c → Q (.int i) H'
def spTieOk (K : PySem.W.Frag) : Sp := fun vs H Q _ => ∃ (a : Addr) (t : Tie) (lanes : Int), vs = [.ref a, .int lanes] ∧ SqT K H a [.int t.1, .int t.2.1, .int t.2.2] ∧ Q (.bl (TieOkB lanes t)) H
theorem use_far {K : PySem.W.Frag} {d c : Addr} {H : Hp} {Q : VK} {E : XK} (hD : Draw K H d c) (q : ∀ (i : Int) H', Keep d H H' → Draw K H' d c → Q (.int i) H') : spFar K ([.ref d] ++ []) H Q E := ⟨d, c, rfl, hD, q⟩
end Ls
namespace Lw
open PySem PySem.Spec PyProof.Rows L2 Ls
section
variable {P : Program} {w : World} {K : PySem.W.Frag} {mg : Str → Option Value} {base : Heap}
theorem ok__law_far (E : Env K mg) (G__law_pick : FnOk P w K mg base CX0 1 E.a__law_pick E.fd__law_pick ["_law_d", "_law_many"] (spPick K)) : FnOk P w K mg base CX0 2 E.a__law_far E.fd__law_far ["_law_d"] (spFar K) := by
  refine E.F__law_far.ok sc__law_far (fun vs H Q E h => ?_) (fun cdv A outer s H vs Q E' hr h => ?_)
  · obtain ⟨d, c, rfl, _⟩ := h
    rfl
  · obtain ⟨d, c, rfl, hD, q⟩ := h
    have hu := huOf hr
    have hr__law_pick := hr.mono (Nat.le_refl _)
    have b__law_pick := b__law_pick E
    refine ⟨_, PSs.nox (pss_cons (ps_set (i := 1) sc__law_far.nd rfl (Or.inl rfl) (pe_op (op_addU K rfl) (pe_op op_pow pe_int pe_int) (pe_call G__law_pick hr__law_pick rfl E.g__law_pick E.F__law_pick.kp b__law_pick .nil pass0 (pa_cons (pv 0) (pa_cons (pe_op op_pow pe_int pe_int) pa_nil)))))
(pss_one (ps_ret (pe_ix (ix_U K rfl) (pe_lst (pa_cons (pv 1) (pa_cons (pe_op op_sub pe_int (pv 1)) pa_nil))) (pe_call G__law_pick hr__law_pick rfl E.g__law_pick E.F__law_pick.kp b__law_pick .nil pass0 (pa_cons (pv 0) (pa_cons pe_int pa_nil))) (fun _ _ => rfl))))), ?_⟩
    refine k_body (s1 := [some (.ref d), none]) rfl ?_
    walk_at "w"
    refine k_powL (v := 1000000000) (by decide) (by decide) (by decide) ?_
    walk_at "w"
    refine k_powL (v := 100000000000000000000000000000) (by decide) (by decide) (by decide) ?_
    walk_at "w"
    refine use_pick hD (by decide) (by decide) fun r H1 k1 D1 r0 r1 => ?_
    walk_at "w"
    intro e he
    walk_at "w"
    refine use_pick (D1.new he) (by decide) (by decide) fun r2 H2 k2 D2 r3 r4 => ?_
    have ne := D1.free he
    have hm : atI [V.int (1000000000 + r), V.int (0 - (1000000000 + r))] r2 = some (.int (if r2 = 0 then 1000000000 + r else 0 - (1000000000 + r))) := by
      have : r2 = 0 ∨ r2 = 1 := by omega
      rcases this with rfl | rfl <;> rfl
    refine k_ixL (sql_of (k2.at ne upd_same)) hm ?_
    exact q _ _ ((k1.new he).trans k2) D2
theorem ok__law_tie_ok (E : Env K mg) : FnOk P w K mg base CX0 1 E.a__law_tie_ok E.fd__law_tie_ok ["_law_tie", "_law_lanes"] (spTieOk K) := by
  refine E.F__law_tie_ok.ok sc__law_tie_ok (fun vs H Q E h => ?_) (fun cdv A outer s H vs Q E' hr h => ?_)
  · obtain ⟨a, t, l, rfl, _⟩ := h
    rfl
  · obtain ⟨a, t, lanes, rfl, st, q⟩ := h
    have hu := huOf hr
    refine ⟨_, PSs.nox (pss_cons (ps_asg (pv 0) (kGTup (n := 3) K rfl (pg_tup rfl (pgs_cons (pg_name (i := 2) sc__law_tie_ok.nd rfl (Or.inl rfl)) (pgs_cons (pg_name (i := 3) sc__law_tie_ok.nd rfl (Or.inl rfl)) (pgs_cons (pg_name (i := 4) sc__law_tie_ok.nd rfl (Or.inl rfl)) pgs_nil))))))
(pss_one (ps_ret (pe_and (pe_chain op_le op_lt pe_int (pv 2) (pv 1)) (pe_and (pe_chain op_le op_lt pe_int (pv 3) (pv 1)) (pe_and (pe_cmpR (op_neU K rfl hu) (pv 2) (pv 3) (nomark _)) (pe_one (pe_chain op_le op_le (pe_un un_neg pe_int) (pv 4) pe_int)))))))), ?_⟩
    refine k_body (s1 := [some (.ref a), some (.int lanes), none, none, none]) rfl ?_
    walk_at "w"
    refine k_gtup st rfl ?_
    walk_at "w"
    have no : ¬ GoodT lanes 999999 t → Q (.bl false) H := fun g => by
      have e : TieOkB lanes t = false := by
        cases e : TieOkB lanes t with
        | false => rfl
        | true => exact (g (tieOk_iff.mp e)).elim
      rw [e] at q
      exact q
    refine k_itd (fun a1 => ?_) (fun a1 => ?_)
    · walk_at "w"
      refine k_itd (fun a2 => ?_) (fun a2 => ?_)
      · walk_at "w"
        refine k_itd (fun a3 => ?_) (fun a3 => ?_)
        · walk_at "w"
          refine k_itd (fun a4 => ?_) (fun a4 => ?_)
          · walk_at "w"
            refine k_itn (fun a5 => ?_) (fun a5 => ?_)
            · walk_at "w"
              refine k_itd (fun a6 => ?_) (fun a6 => ?_)
              · walk_at "w"
                by_cases a7 : t.2.2 ≤ 999999
                · rw [decide_eq_true a7]
                  rw [tieOk_iff.mpr ⟨a1, a2, a3, a4, a5, a6, a7⟩] at q
                  exact q
                · rw [decide_eq_false a7]
                  exact no fun g => a7 g.2.2.2.2.2.2
              · exact no fun g => a6 g.2.2.2.2.2.1
            · exact no fun g => g.2.2.2.2.1 a5
          · exact no fun g => a4 g.2.2.2.1
        · walk_at "w"
          exact no fun g => a3 g.2.2.1
      · exact no fun g => a2 g.2.1
    · walk_at "w"
      exact no fun g => a1 g.1
end
end Lw
namespace Lw
open PySem PySem.Spec PyProof.Rows L2 Ls LamX
section
variable {P : Program} {w : World} {K : PySem.W.Frag} {mg : Str → Option Value} {base : Heap}
theorem pe_askL (E : Env K mg) {X : Cx} (hK : X.K = K) (hmg : X.mg = mg) {q : Str} (hq : X.env.qual = q) {c Pt : Addr} {k : Nat} {params : Arguments} {body : Expr} {scope : Scope} {t : XK → TE} {p lpos pos : Pos} (TB : TabB X.base X.mg c Pt) (hcode : X.env.code = .ref c) (hr : Room (k + 2) X.A) (L : LamS X.env.scope scope) (hdef : defaultsOf params X.env = ([], []))
    (bind0 : ∀ (q : Str) (cl : List (Str × Addr)) (pm cv ctv : Value), bindArgs (PySem.W.kla_fn "<lambda>" q params body scope cl pm cv ctv) ⟨[], []⟩ = pure [])
    (bodyP : ∀ (A : Around) (outer : List PySem.Env) (s : Shared) (H : Hp) (E : XK) (f c' : Addr), Room k (A.deeper (lamEnv X scope s.heap.objs.size f c')) → PE (lamCx X A outer s H E scope f c') body (t E)) (hg : Gl X "_law_ask" := by rfl) :
    PE X (.Call (.Name "_law_ask" p) [.Lambda params body scope lpos] [] pos) (tLam [(Pt, q ++ "<lambda>")] (TTask K E.C_BadValue E.C_ScribeError) t) := by
  subst hK hmg hq
  obtain ⟨oc, od, dV, kV, doc, pm, an, cdv, ct, osl, e, lk, hcd, _, _⟩ := E.F__law_ask.ex
  have b := b__law_ask E
  rw [e] at lk b
  exact pe_lamZ hg E.g__law_ask E.F__law_ask.kp lk hcd b sc__law_ask rfl (.inl rfl) (ask_gives E rfl rfl) TB hcode List.mem_cons_self (fun p hp _ => by rw [List.mem_singleton.mp hp]) hr L hdef bind0 bodyP
end
end Lw
namespace Ls
open PySem PySem.Spec PyProof.Rows L2 LamX
def lq : Str := ("law" : Str) ++ (".<locals>." : Str)
theorem tabs_keep {T : List (Addr × Str)} {K : PySem.W.Frag} {H H' : Hp} {d c : Addr} (t : Tabs T H) (k : Keep d H H') (D : Draw K H d c) : Tabs T H' := fun p hp => by
  obtain ⟨ps, h1, h2, h3⟩ := t p hp
  refine ⟨ps, k _ _ (D.ne h1 (by intro kvs z; cases z)) h1, h2, fun pos cv hc => ?_⟩
  obtain ⟨c', e1, e2⟩ := h3 pos cv hc
  exact ⟨c', e1, k _ _ (D.ne e2 (by intro kvs z; cases z)) e2⟩
theorem tabs_wr {T : List (Addr × Str)} {H : Hp} {l : Addr} {us : List V} {o : HO} (t : Tabs T H) (h : H l = some (.lst us)) : Tabs T (upd H l o) := fun p hp => by
  obtain ⟨ps, h1, h2, h3⟩ := t p hp
  have n1 : p.1 ≠ l := fun z => by rw [z, h] at h1; cases h1
  refine ⟨ps, by rw [upd_ne n1]; exact h1, h2, fun pos cv hc => ?_⟩
  obtain ⟨c', e1, e2⟩ := h3 pos cv hc
  have n2 : c' ≠ l := fun z => by rw [z, h] at e2; cases e2
  exact ⟨c', e1, by rw [upd_ne n2]; exact e2⟩
theorem draw_extN {K : PySem.W.Frag} {H H' : Hp} {d c : Addr} (D : Draw K H d c) (e : ExtN H H') : Draw K H' d c := by
  obtain ⟨n, r, s, ns, h1, h2, h3⟩ := D
  exact ⟨n, r, s, ns, e _ _ h1 (fun ps z => by cases z), e _ _ h2 (fun ps z => by cases z), h3⟩
def spLaw (K : PySem.W.Frag) (T : List (Addr × Str)) : Sp := fun vs H Q _ => ∃ (a : Addr) (ns : List Int), vs = [.ref a] ∧ Tabs T H ∧ SqL K H a (ns.map V.int) ∧ ns.length ≤ 63 ∧ ∀ H', Q (.bl true) H'
theorem TieL.put {K : PySem.W.Frag} {H : Hp} {us : List V} {ts : List Tie} {p : Addr} {a b c : Int} (h : TieL K H us ts) (hp : H p = none) : TieL K (upd H p (.tup [.int a, .int b, .int c])) (us ++ [.ref p]) (ts ++ [(a, b, c)]) :=
  TieL.snoc (h.mono (Tp.new hp)) (sqt_of upd_same)
def Bn (K : PySem.W.Frag) (T : List (Addr × Str)) (d c l : Addr) (us : List V) (ts : List Tie) (H : Hp) : Prop := Draw K H d c ∧ Tabs T H ∧ H l = some (.lst us) ∧ TieL K H us ts
section
variable {K : PySem.W.Frag} {T : List (Addr × Str)} {d c l p : Addr} {us : List V} {ts : List Tie} {H H' : Hp} {o : HO} {vs : List V}
theorem Bn.new (b : Bn K T d c l us ts H) (h : H p = none) : Bn K T d c l us ts (upd H p o) := ⟨b.1.new h, b.2.1.ext (same_new h), same_new h _ _ b.2.2.1, b.2.2.2.mono (Tp.new h)⟩
theorem Bn.lst {os : List V} {vs : List Tie} (b : Bn K T d c l us ts H) (O : TieL K H os vs) (h : H p = none) : Bn K T d c l us ts (upd H p (.lst os)) ∧ TieL K (upd H p (.lst os)) os vs ∧ upd H p (.lst os) p = some (.lst os) := ⟨b.new h, O.mono (Tp.new h), upd_same⟩
theorem tp_extN (e : ExtN H H') : Tp K H H' := fun a xs q => by
  rcases q with (q | ⟨z, q⟩) | q
  · exact .inl (.inl (e _ _ q (fun ps z => by cases z)))
  · exact .inl (.inr ⟨z, e _ _ q (fun ps z => by cases z)⟩)
  · exact .inr q
theorem Bn.ext (b : Bn K T d c l us ts H) (e : ExtN H H') (t : Tabs T H') : Bn K T d c l us ts H' := ⟨draw_extN b.1 e, t, e _ _ b.2.2.1 (fun ps z => by cases z), b.2.2.2.mono (tp_extN e)⟩
theorem Bn.wr (b : Bn K T d c l us ts H) (h : H p = some (.lst vs)) (n1 : p ≠ l) (n2 : p ≠ c) : Bn K T d c l us ts (upd H p o) := ⟨b.1.wr (b.1.ne h (by intro kvs z; cases z)) n2, tabs_wr b.2.1 h, by rw [upd_ne (Ne.symm n1)]; exact b.2.2.1, b.2.2.2.mono (keep_tp (Keep.put Keep.refl) h rfl)⟩
theorem Bn.same (b : Bn K T d c l us ts H) (s : Same H H') : Bn K T d c l us ts H' := ⟨b.1.keeps s, b.2.1.ext s, s _ _ b.2.2.1, b.2.2.2.mono (Tp.same s)⟩
theorem Bn.keep (b : Bn K T d c l us ts H) (k : Keep d H H') (D : Draw K H' d c) : Bn K T d c l us ts H' := ⟨D, tabs_keep b.2.1 k b.1, k _ _ (b.1.ne b.2.2.1 (by intro kvs z; cases z)) b.2.2.1, b.2.2.2.mono (b.1.tp k)⟩
end
end Ls
namespace Lw
open PySem PySem.Spec PyProof.Rows L2 Ls LamX
section
variable {P : Program} {w : World} {K : PySem.W.Frag} {mg : Str → Option Value} {base : Heap}
theorem range_all {α : Type} {f : α → Bool} (ts : List α) : (List.range ts.length).all (fun i => (ts[i]?.map f).getD true) = ts.all f := by
  rw [Bool.eq_iff_iff, List.all_eq_true, List.all_eq_true]
  constructor
  · intro h t ht
    obtain ⟨i, hi⟩ := List.getElem?_of_mem ht
    have := h i (List.mem_range.mpr (List.getElem?_eq_some_iff.mp hi).1)
    rw [hi] at this
    exact this
  · intro h i hi
    have hlt := List.mem_range.mp hi
    rw [List.getElem?_eq_getElem hlt]
    exact h _ (List.getElem_mem hlt)
def wordOf : Ls.Due → Str
  | .no => ""
  | .size => "badsize"
  | .tie => "badtie"
theorem ask_due (E : Env K mg) {Q : VK} {H : Hp} {due : Ls.Due} {tl : XK → Hp → VK → Prop} (q : ∀ p v H', Same H H' → H' p = none → Q (.ref p) (upd H' p (.lst [.str (wordOf due), v])))
    (h : ∀ E' Q', (due = .no → ∀ v H', Same H H' → Q' v H') → (due = .size → Out K H E.C_BadSize "badsize" E') → (due = .tie → Out K H E.C_BadTie "badtie" E') → tl E' H Q') : TTask K E.C_BadValue E.C_ScribeError tl H Q := by
  intro E' Q' hE hQ
  refine h E' Q' (fun e v H' s => hQ v H' fun p hp => ?_) (fun e d H' s hd => hE _ d _ H' E.e_BadSize_BadValue E.e_BadSize_ScribeError E.x_BadSize E.w_BadSize hd fun p hp => ?_) (fun e d H' s hd => hE _ d _ H' E.e_BadTie_BadValue E.e_BadTie_ScribeError E.x_BadTie E.w_BadTie hd fun p hp => ?_)
  · have := q p v H' s hp
    rw [e] at this
    exact this
  · have := q p .non H' s hp
    rw [e] at this
    exact this
  · have := q p .non H' s hp
    rw [e] at this
    exact this
theorem ok_law (E : Env K mg) {c Pt : Addr} (hc : E.fd_law.code = .ref c) (TB : TabB base mg c Pt)
    (G__law_begin : FnOk P w K mg base CX0 1 E.a__law_begin E.fd__law_begin ["_law_script"] (spBegin K))
    (G__law_pick : FnOk P w K mg base CX0 1 E.a__law_pick E.fd__law_pick ["_law_d", "_law_many"] (spPick K))
    (G__law_of : FnOk P w K mg base CX0 2 E.a__law_of E.fd__law_of ["_law_d", "_law_things"] (spOf K))
    (G__law_far : FnOk P w K mg base CX0 2 E.a__law_far E.fd__law_far ["_law_d"] (spFar K))
    (G__law_tie_ok : FnOk P w K mg base CX0 1 E.a__law_tie_ok E.fd__law_tie_ok ["_law_tie", "_law_lanes"] (spTieOk K))
    (G__law_ties : FnOk P w K mg base CX0 2 E.a__law_ties E.fd__law_ties ["_law_d", "_law_lanes", "_law_wide"] (spTies K))
    (G_amounts : FnOk P w K mg base (L2.CX P w) 5 E.a_amounts E.fd_amounts ["lanes", "ties", "most"] (spAnyX K E.C_BadSize E.C_BadTie))
    (G_ring : FnOk P w K mg base (L2.CX P w) 5 E.a_ring E.fd_ring ["lanes", "ties", "most"] (spAnyX K E.C_BadSize E.C_BadTie))
    (G_meets : FnOk P w K mg base (L2.CX P w) 5 E.a_meets E.fd_meets ["lanes", "ties", "row", "most"] (spMeetsX K E.C_BadSize E.C_BadTie)) :
    FnOk P w K mg base (L2.CX P w) 8 E.a_law E.fd_law ["_law_script"] (spLaw K [(Pt, lq ++ ("<lambda>" : Str))]) := by
  obtain ⟨oc, od, dV, kV, doc, pm, an, cdv, ct, osl, e, lk, hcd, _, _⟩ := E.F_law.ex
  rw [e] at lk hc ⊢
  change cdv = .ref c at hc
  subst hc
  refine fn_of lk hcd sc_law (fun vs H Q E h => ?_) (fun A outer s H vs Q E' hr h => ?_)
  · obtain ⟨d, c, rfl, _⟩ := h
    rfl
  · obtain ⟨a, ns, rfl, hT, ha, hns, q⟩ := h
    have hu := huOf hr
    have hr__law_begin := hr.mono (show 1 ≤ 7 by decide)
    have hr__law_pick := hr.mono (show 1 ≤ 7 by decide)
    have hr__law_of := hr.mono (show 2 ≤ 7 by decide)
    have hr__law_far := hr.mono (show 2 ≤ 7 by decide)
    have hr__law_tie_ok := hr.mono (show 1 ≤ 7 by decide)
    have hr__law_ties := hr.mono (show 2 ≤ 7 by decide)
    have b__law_begin := b__law_begin E
    have b__law_pick := b__law_pick E
    have b__law_of := b__law_of E
    have b__law_far := b__law_far E
    have b__law_tie_ok := b__law_tie_ok E
    have b__law_ties := b__law_ties E
    obtain ⟨_, kb_amounts⟩ := E.F_amounts.kbinds0 (ps := ["lanes", "ties", "most"]) 2 ["most"] [] (fun us _ ws => us ++ ws) (by simp) (by simp) (fun r1 _ r3 => r1.append r3) (fun _ _ _ _ _ _ us mv ws h1 h2 h3 => match us, mv, ws, h1, h2, h3 with | [_, _], [], [_], _, _, _ => rfl)
    obtain ⟨_, kb_ring⟩ := E.F_ring.kbinds0 (ps := ["lanes", "ties", "most"]) 2 ["most"] [] (fun us _ ws => us ++ ws) (by simp) (by simp) (fun r1 _ r3 => r1.append r3) (fun _ _ _ _ _ _ us mv ws h1 h2 h3 => match us, mv, ws, h1, h2, h3 with | [_, _], [], [_], _, _, _ => rfl)
    obtain ⟨_, kb_meets⟩ := E.F_meets.kbinds0 (ps := ["lanes", "ties", "row", "most"]) 3 ["most"] [] (fun us _ ws => us ++ ws) (by simp) (by simp) (fun r1 _ r3 => r1.append r3) (fun _ _ _ _ _ _ us mv ws h1 h2 h3 => match us, mv, ws, h1, h2, h3 with | [_, _, _], [], [_], _, _, _ => rfl)
    refine ⟨_, PSs.nox (pss_cons (ps_set (i := 1) sc_law.nd rfl (Or.inl rfl) (pe_call G__law_begin hr__law_begin rfl E.g__law_begin E.F__law_begin.kp b__law_begin .nil pass0 (pa_cons (pv 0) pa_nil)))
(pss_cons (ps_for PassesOwn.never rfl (pi_range1 rfl E.n_range (pa_cons pe_int pa_nil)) (pg_name (i := 2) sc_law.nd rfl (Or.inl rfl))
(pss_cons (ps_set (i := 3) sc_law.nd rfl (Or.inr rfl) (pe_call G__law_of hr__law_of rfl E.g__law_of E.F__law_of.kp b__law_of .nil pass0 (pa_cons (pv 1) (pa_cons (pe_lst (pa_cons (pe_op (op_addU K rfl) pe_int (pe_call G__law_pick hr__law_pick rfl E.g__law_pick E.F__law_pick.kp b__law_pick .nil pass0 (pa_cons (pv 1) (pa_cons pe_int pa_nil)))) (pa_cons pe_int (pa_cons pe_int (pa_cons pe_int (pa_cons pe_int (pa_cons (pe_call G__law_far hr__law_far rfl E.g__law_far E.F__law_far.kp b__law_far .nil pass0 (pa_cons (pv 1) pa_nil)) pa_nil))))))) pa_nil))))
(pss_cons (ps_set (i := 4) sc_law.nd rfl (Or.inl rfl) (pe_callB (call_maxU K rfl rfl) (by rfl) E.n_max boot_max (pa_cons pe_int (pa_cons (pe_callB (call_minU K rfl rfl) (by rfl) E.n_min boot_min (pa_cons pe_int (pa_cons (pv 3) pa_nil))) pa_nil))))
(pss_cons (ps_set (i := 5) sc_law.nd rfl (Or.inr rfl) (pe_call G__law_ties hr__law_ties rfl E.g__law_ties E.F__law_ties.kp b__law_ties .nil pass0 (pa_cons (pv 1) (pa_cons (pv 4) (pa_cons pe_int pa_nil)))))
(pss_cut (ps_if (pt_cmpR (op_eqU K rfl hu) (pe_call G__law_pick hr__law_pick rfl E.g__law_pick E.F__law_pick.kp b__law_pick .nil pass0 (pa_cons (pv 1) (pa_cons pe_int pa_nil))) pe_int (nomark _)) (pss_cons (ps_set (i := 6) sc_law.nd rfl (Or.inl rfl) (pe_lst (pa_cons (pe_tup (pa_cons pe_int (pa_cons pe_int (pa_cons pe_int pa_nil)))) (pa_cons (pe_tup (pa_cons pe_int (pa_cons (pv 4) (pa_cons pe_int pa_nil)))) (pa_cons (pe_tup (pa_cons (pe_un un_neg pe_int) (pa_cons pe_int (pa_cons pe_int pa_nil)))) (pa_cons (pe_tup (pa_cons (pv 4) (pa_cons pe_int (pa_cons pe_int pa_nil)))) (pa_cons (pe_tup (pa_cons pe_int (pa_cons (pe_op op_mod pe_int (pv 4)) (pa_cons pe_int pa_nil)))) pa_nil)))))))
(pss_cons (ps_set (i := 6) sc_law.nd rfl (Or.inl rfl) (pe_op (op_addU K rfl) (pv 6) (pe_lst (pa_cons (pe_tup (pa_cons pe_int (pa_cons (pe_op op_mod pe_int (pv 4)) (pa_cons (pe_un un_neg pe_int) pa_nil)))) (pa_cons (pe_tup (pa_cons pe_int (pa_cons (pe_call G__law_far hr__law_far rfl E.g__law_far E.F__law_far.kp b__law_far .nil pass0 (pa_cons (pv 1) pa_nil)) (pa_cons pe_int pa_nil)))) (pa_cons (pe_tup (pa_cons pe_int (pa_cons (pe_op op_mod pe_int (pv 4)) (pa_cons (pe_call G__law_far hr__law_far rfl E.g__law_far E.F__law_far.kp b__law_far .nil pass0 (pa_cons (pv 1) pa_nil)) pa_nil)))) pa_nil))))))
(pss_one (ps_expr (kBM K rfl (pe_bm PySem.F.plainAttrs_list PySem.F.slot_list_insert PySem.F.type_list_insert mt_insert (pv 5) (pa_cons (pe_call G__law_pick hr__law_pick rfl E.g__law_pick E.F__law_pick.kp b__law_pick .nil pass0 (pa_cons (pv 1) (pa_cons (pe_op (op_addU K rfl) (pe_callB (call_lenU K rfl) (by rfl) E.n_len boot_len (pa_cons (pv 5) pa_nil)) pe_int) pa_nil))) (pa_cons (pe_call G__law_of hr__law_of rfl E.g__law_of E.F__law_of.kp b__law_of .nil pass0 (pa_cons (pv 1) (pa_cons (pv 6) pa_nil))) pa_nil)))))))) pss_nil)
(pss_cons (ps_set (i := 7) sc_law.nd rfl (Or.inr rfl) (pe_call G__law_of hr__law_of rfl E.g__law_of E.F__law_of.kp b__law_of .nil pass0 (pa_cons (pv 1) (pa_cons (pe_lst (pa_cons pe_int (pa_cons pe_int (pa_cons (pe_op op_pow pe_int pe_int) (pa_cons (pe_un un_neg pe_int) (pa_cons (pe_op (op_addU K rfl) (pe_op op_pow pe_int pe_int) pe_int) (pa_cons (pe_call G__law_far hr__law_far rfl E.g__law_far E.F__law_far.kp b__law_far .nil pass0 (pa_cons (pv 1) pa_nil)) pa_nil))))))) pa_nil))))
(pss_cons (ps_set (i := 8) sc_law.nd rfl (Or.inl rfl) pe_str)
(pss_cut (ps_if (pt_not (pt_chain op_le op_le pe_int (pv 3) pe_int)) (pss_one (ps_set (i := 8) sc_law.nd rfl (Or.inl rfl) pe_str)) (pss_one (ps_if (pt_not (pt_val (pe_callB (cr_allU K rfl rfl) (by rfl) E.n_all boot_all (pa_cons (pe_lc (own := [("_law_tie", 9)]) rfl sc_law.nd (kIL K rfl (pi_list (pv 5))) (blkOk_by (N := ["_law_script", "_law_d", "_law_turn", "_law_lanes", "_law_some", "_law_ties_here", "_law_odd", "_law_top", "_law_due", "_law_tie", "_law_words"]) (sc := defScope s_law) (by decide +kernel)) (fun _ _ _ _ _ => (pg_name (i := 9) sc_law.nd rfl (Or.inl rfl))) (fun _ _ _ _ _ => pts_nil) (fun _ _ _ _ _ => (pe_call G__law_tie_ok hr__law_tie_ok rfl E.g__law_tie_ok E.F__law_tie_ok.kp b__law_tie_ok .nil pass0 (pa_cons (pv 9) (pa_cons (pv 3) pa_nil))))) pa_nil)))) (pss_one (ps_set (i := 8) sc_law.nd rfl (Or.inl rfl) pe_str)) (pss_one (ps_if (pt_not (pt_chain op_le op_le pe_int (pv 7) (pe_op op_pow pe_int pe_int))) (pss_one (ps_set (i := 8) sc_law.nd rfl (Or.inl rfl) pe_str)) pss_nil)))))
(pss_cons (ps_set (i := 10) sc_law.nd rfl (Or.inl rfl) (pe_lst (pa_cons (pe_ix (ix_U K rfl) (pe_askL E rfl rfl (q := lq) rfl TB rfl hr (lamS_by rfl) rfl (fun _ _ _ _ _ => rfl) (fun A outer s H E' f c' hr' => (pe_callN G_amounts hr' rfl E.g_amounts E.F_amounts.kp kb_amounts (passes_call (takes_of rfl rfl rfl rfl) fun _ _ _ _ h => h) (pa_cons (pv 3) (pa_cons (pv 5) pa_nil)) (pk_cons (pv 7) pk_nil)))) pe_int (fun _ _ => rfl)) pa_nil)))
(pss_cons (ps_expr (kBM K rfl (pe_bm PySem.F.plainAttrs_list PySem.F.slot_list_append PySem.F.type_list_append mt_append (pv 10) (pa_cons (pe_ix (ix_U K rfl) (pe_askL E rfl rfl (q := lq) rfl TB rfl hr (lamS_by rfl) rfl (fun _ _ _ _ _ => rfl) (fun A outer s H E' f c' hr' => (pe_callN G_ring hr' rfl E.g_ring E.F_ring.kp kb_ring (passes_call (takes_of rfl rfl rfl rfl) fun _ _ _ _ h => h) (pa_cons (pv 3) (pa_cons (pv 5) pa_nil)) (pk_cons (pv 7) pk_nil)))) pe_int (fun _ _ => rfl)) pa_nil))))
(pss_cons (ps_expr (kBM K rfl (pe_bm PySem.F.plainAttrs_list PySem.F.slot_list_append PySem.F.type_list_append mt_append (pv 10) (pa_cons (pe_ix (ix_U K rfl) (pe_askL E rfl rfl (q := lq) rfl TB rfl hr (lamS_by rfl) rfl (fun _ _ _ _ _ => rfl) (fun A outer s H E' f c' hr' => (pe_callN G_meets hr' rfl E.g_meets E.F_meets.kp kb_meets (passes_call (takes_of rfl rfl rfl rfl) fun _ _ _ _ h => h) (pa_cons (pv 3) (pa_cons (pv 5) (pa_cons (pe_lst (pa_cons pe_int pa_nil)) pa_nil))) (pk_cons (pv 7) pk_nil)))) pe_int (fun _ _ => rfl)) pa_nil))))
(pss_one (ps_if (pt_cmpR (op_neU K rfl hu) (pv 10) (pe_lst (pa_cons (pv 8) (pa_cons (pv 8) (pa_cons (pv 8) pa_nil)))) (nomark _)) (pss_one (ps_ret pe_bl)) pss_nil)))))))))))))
(pss_one (ps_ret pe_bl)))), ?_⟩
    refine k_body (s1 := [some (.ref a), none, none, none, none, none, none, none, none, none, none]) rfl ?_
    walk_at "wa"
    refine ⟨a, ns, rfl, ha, hns, fun d c H1 hd hc s1 D1 => ?_⟩
    walk_at "wa"
    refine k_itr1 (by decide) ?_
    refine for_range (fun i σ H' => Draw K H' d c ∧ Tabs [(Pt, lq ++ ("<lambda>" : Str))] H' ∧ ∃ c2 c3 c4 c5 c6 c7 c8 c9 c10, σ = [some (.ref a), some (.ref d), c2, c3, c4, c5, c6, c7, c8, c9, c10]) ⟨D1, hT.ext s1, _, _, _, _, _, _, _, _, _, rfl⟩ (fun i σ H2 _ hP => ?_) (fun σ H2 hP => ?_)
    · clear D1 s1 hd hc
      obtain ⟨D2, T2, c2, c3, c4, c5, c6, c7, c8, c9, c10, rfl⟩ := hP
      walk_at "wa"
      refine use_pick D2 (by decide) (by decide) fun r H3 k3 D3 r0 r1 => ?_
      replace T2 := tabs_keep T2 k3 D2
      clear k3 D2
      walk_at "wa"
      refine use_far D3 fun f H4 k4 D4 => ?_
      replace T2 := tabs_keep T2 k4 D3
      clear k4 D3
      walk_at "wa"
      intro p hp
      have s5 := same_new (o := .lst [.int (1 + r), .int 3, .int 6, .int 0, .int 7, .int f]) hp
      have D5 := D4.keeps s5
      have T5 := T2.ext s5
      clear s5 T2 D4
      walk_at "wa"
      refine use_of D5 (sql_of upd_same) (by walk_at "sz") (by show 6 < _; decide) fun x H6 k6 D6 hx => ?_
      have T6 := tabs_keep T5 k6 D5
      obtain ⟨lanes, rfl⟩ : ∃ i, x = .int i := by
        simp only [List.mem_cons, List.not_mem_nil, or_false] at hx
        rcases hx with rfl | rfl | rfl | rfl | rfl | rfl <;> exact ⟨_, rfl⟩
      clear hx k6 D5 T5 hp r0 r1
      walk_at "wa"
      refine .inl ⟨_, _, rfl, ?_⟩
      walk_at "wa"
      refine .inl ⟨_, _, rfl, ?_⟩
      have m1 : 1 ≤ (if (if lanes < 6 then lanes else 6) > 1 then (if lanes < 6 then lanes else 6) else 1) := by split <;> omega
      have m2 : (if (if lanes < 6 then lanes else 6) > 1 then (if lanes < 6 then lanes else 6) else 1) ≤ 6 := by split <;> split <;> omega
      generalize (if (if lanes < 6 then lanes else 6) > 1 then (if lanes < 6 then lanes else 6) else 1) = some' at m1 m2 ⊢
      walk_at "wa"
      refine use_ties D6 m1 (by omega) (by decide) (by decide) fun l us ts H7 hl k7 D7 h7 L7 l7 _ => ?_
      have T7 := tabs_keep T6 k7 D6
      have nc := D6.nec hl
      clear k7 hl T6 D6
      walk_at "wa"
      refine k_cut (fun σ H' => ∃ us ts c6, Draw K H' d c ∧ Tabs [(Pt, lq ++ ("<lambda>" : Str))] H' ∧ H' l = some (.lst us) ∧ TieL K H' us ts ∧ ts.length ≤ 1000 ∧ σ = [some (.ref a), some (.ref d), some (.int (0 + i)), some (.int lanes), some (.int some'), some (.ref l), c6, c7, c8, c9, c10]) ?_ ?_
      · walk_at "wa"
        refine use_pick D7 (by decide) (by decide) fun r H8 k8 D8 r0 r1 => ?_
        have nl := D7.ne h7 (by intro kvs z; cases z)
        have T8 := tabs_keep T7 k8 D7
        have h8 := k8 _ _ nl h7
        have L8 := L7.mono (D7.tp k8)
        clear k8 T7 D7 h7 L7 nl
        walk_at "wa"
        have B8 : Bn K [(Pt, lq ++ ("<lambda>" : Str))] d c l us ts H8 := ⟨D8, T8, h8, L8⟩
        refine k_itd (fun e0 => ?_) (fun e0 => ?_)
        · clear D8 T8 h8 L8
          walk_at "wa"
          intro p1 q1
          have B := B8.new (o := .tup [.int 0, .int 0, .int 1]) q1
          have O := TieL.put (K := K) (us := []) (ts := []) (a := 0) (b := 0) (c := 1) .nil q1
          clear B8
          walk_at "wa"
          intro p2 q2
          replace B := B.new (o := .tup [.int 0, .int some', .int 1]) q2
          replace O := O.put (a := 0) (b := some') (c := 1) q2
          walk_at "wa"
          intro p3 q3
          replace B := B.new (o := .tup [.int (-1), .int 0, .int 0]) q3
          replace O := O.put (a := -1) (b := 0) (c := 0) q3
          walk_at "wa"
          intro p4 q4
          replace B := B.new (o := .tup [.int some', .int 0, .int 1]) q4
          replace O := O.put (a := some') (b := 0) (c := 1) q4
          walk_at "wa"
          intro p5 q5
          replace B := B.new (o := .tup [.int 0, .int (1 % some'), .int 1000000]) q5
          replace O := O.put (a := 0) (b := 1 % some') (c := 1000000) q5
          walk_at "wa"
          intro o1 g1
          replace ⟨B, O, X1⟩ := B.lst O g1
          walk_at "wa"
          intro p6 q6
          have O2 := TieL.put (K := K) (us := []) (ts := []) (a := 0) (b := 1 % some') (c := -1000000) .nil q6
          replace B := B.new (o := .tup [.int 0, .int (1 % some'), .int (-1000000)]) q6
          replace O := O.mono (Tp.new (o := .tup [.int 0, .int (1 % some'), .int (-1000000)]) q6)
          replace X1 := same_new (o := .tup [.int 0, .int (1 % some'), .int (-1000000)]) q6 _ _ X1
          walk_at "wa"
          refine use_far B.1 fun f1 H9 k9 D9 => ?_
          replace X1 := k9 _ _ (B.1.ne X1 (by intro kvs z; cases z)) X1
          replace O := O.mono (B.1.tp k9)
          replace O2 := O2.mono (B.1.tp k9)
          replace B := B.keep k9 D9
          clear k9 D9
          walk_at "wa"
          intro p7 q7
          replace B := B.new (o := .tup [.int 0, .int f1, .int 0]) q7
          replace O := O.mono (Tp.new (o := .tup [.int 0, .int f1, .int 0]) q7)
          replace X1 := same_new (o := .tup [.int 0, .int f1, .int 0]) q7 _ _ X1
          replace O2 := O2.put (a := 0) (b := f1) (c := 0) q7
          walk_at "wa"
          refine use_far B.1 fun f2 H10 k10 D10 => ?_
          replace X1 := k10 _ _ (B.1.ne X1 (by intro kvs z; cases z)) X1
          replace O := O.mono (B.1.tp k10)
          replace O2 := O2.mono (B.1.tp k10)
          replace B := B.keep k10 D10
          clear k10 D10
          walk_at "wa"
          intro p8 q8
          replace B := B.new (o := .tup [.int 0, .int (1 % some'), .int f2]) q8
          replace O := O.mono (Tp.new (o := .tup [.int 0, .int (1 % some'), .int f2]) q8)
          replace X1 := same_new (o := .tup [.int 0, .int (1 % some'), .int f2]) q8 _ _ X1
          replace O2 := O2.put (a := 0) (b := 1 % some') (c := f2) q8
          walk_at "wa"
          intro o2 g2
          replace X1 := same_new (o := .lst [.ref p6, .ref p7, .ref p8]) g2 _ _ X1
          replace O := O.mono (Tp.new (o := .lst [.ref p6, .ref p7, .ref p8]) g2)
          replace ⟨B, O2, X2⟩ := B.lst O2 g2
          walk_at "wa"
          refine k_addL X1 X2 (by walk_at "sz") fun o3 g3 => ?_
          replace ⟨B, O, X3⟩ := B.lst (O.app O2) g3
          clear O2 X1 X2
          walk_at "wa"
          refine k_tyL (sql_of B.2.2.1) ?_
          walk_at "wa"
          refine k_lenL (sql_of B.2.2.1) ?_
          walk_at "wa"
          have ul := B.2.2.2.len
          refine use_pick B.1 (by omega) (by omega) fun r2 H11 k11 D11 r3 r4 => ?_
          replace X3 := k11 _ _ (B.1.ne X3 (by intro kvs z; cases z)) X3
          replace O := O.mono (B.1.tp k11)
          replace B := B.keep k11 D11
          clear k11 D11
          walk_at "wa"
          refine use_of B.1 (sql_of X3) (by show 0 < 8; decide) (by show 8 < _; decide) fun x H12 k12 D12 hx => ?_
          replace O := O.mono (B.1.tp k12)
          replace B := B.keep k12 D12
          clear k12 D12
          obtain ⟨j, hj⟩ := List.getElem?_of_mem hx
          obtain ⟨t, tx, _, rfl, st⟩ := O.get hj
          walk_at "wa"
          refine ⟨l, us, r2, .ref tx, rfl, rfl, B.2.2.1, by walk_at "sz", r3, by omega, ?_⟩
          have tw := keep_tp (K := K) (Keep.put (o := .lst (us.take r2.toNat ++ [.ref tx] ++ us.drop r2.toNat)) Keep.refl) B.2.2.1 rfl
          refine ⟨_, ts.take r2.toNat ++ [t] ++ ts.drop r2.toNat, _, B.1.wr (B.1.ne B.2.2.1 (by intro kvs z; cases z)) nc, tabs_wr B.2.1 B.2.2.1, upd_same, ?_, ?_, rfl⟩
          · exact ((TieL.snoc (B.2.2.2.take _) st).app (B.2.2.2.drop _)).mono tw
          · simp only [List.length_append, List.length_take, List.length_drop, List.length_cons, List.length_nil]; omega
        · walk_at "wa"
          exact ⟨us, ts, _, D8, T8, h8, L8, by omega, rfl⟩
      rintro σ H' ⟨us, ts, c6', D8, T8, h8, L8, l8, rfl⟩
      have B : Bn K [(Pt, lq ++ ("<lambda>" : Str))] d c l us ts H' := ⟨D8, T8, h8, L8⟩
      clear D8 T8 h8 L8
      walk_at "wa"
      refine k_powL (v := 1000000000000) (by decide) (by decide) (by decide) ?_
      walk_at "wa"
      refine k_powL (v := 1000000000000) (by decide) (by decide) (by decide) ?_
      walk_at "wa"
      refine use_far B.1 fun f H9 k9 D9 => ?_
      replace B := B.keep k9 D9
      clear k9 D9
      walk_at "wa"
      intro p hp
      replace B := B.new (o := .lst [.int 5, .int 0, .int 1000000000000, .int (-1), .int (1000000000000 + 1), .int f]) hp
      walk_at "wa"
      refine use_of B.1 (sql_of upd_same) (by walk_at "sz") (by show 6 < _; decide) fun x H10 k10 D10 hx => ?_
      replace B := B.keep k10 D10
      obtain ⟨top, rfl⟩ : ∃ i, x = .int i := by
        simp only [List.mem_cons, List.not_mem_nil, or_false] at hx
        rcases hx with rfl | rfl | rfl | rfl | rfl | rfl <;> exact ⟨_, rfl⟩
      clear hx k10 D10 hp
      walk_at "wa"
      have ul := B.2.2.2.len
      refine k_cut (fun σ H' => ∃ c9, Bn K [(Pt, lq ++ ("<lambda>" : Str))] d c l us ts H' ∧ σ = [some (.ref a), some (.ref d), some (.int (0 + i)), some (.int lanes), some (.int some'), some (.ref l), c6', some (.int top), some (.str (wordOf (dueOf lanes ts top))), c9, c10]) ?_ ?_
      · walk_at "w"
        by_cases g1 : 1 ≤ lanes ∧ lanes ≤ 6
        · obtain ⟨a1, a2⟩ := g1
          walk_at "wa"
          refine k_itl (sql_of B.2.2.1) ?_
          intro pg hpg
          refine lc_mapL (xs := us) (fun i => V.bl ((ts[i]?.map fun t => TieOkB lanes t).getD true)) (sql_of B.2.2.1) (by omega) hpg (fun i x H2 N hx s2 qN => ?_) (fun H2 s2 hp2' => ?_)
          · obtain ⟨t, ta, ht, rfl, st⟩ := (B.2.2.2.mono (Tp.same s2)).get hx
            rw [ht] at qN
            walk_at "lc"
            exact ⟨ta, t, lanes, rfl, st, qN _ (Same.refl _)⟩
          · walk_at "wa"
            have ea : (List.range us.length).all (fun i => (ts[i]?.map fun t => TieOkB lanes t).getD true) = ts.all (TieOkB lanes) := by
              rw [ul]
              exact range_all ts
            refine k_allR (bf := fun i => (ts[i]?.map fun t => TieOkB lanes t).getD true) hp2' ?_
            rw [ea]
            walk_at "w"
            cases et : ts.all (TieOkB lanes) with
            | false =>
              have e : dueOf lanes ts top = .tie := by
                unfold dueOf
                rw [if_neg (fun z => z ⟨a1, a2⟩), if_pos et]
              walk_at "w"
              refine ⟨c9, B.same s2, ?_⟩
              rw [e]
              rfl
            | true =>
              walk_at "w"
              by_cases g2 : 0 ≤ top ∧ top ≤ 1000000000000
              · have e : dueOf lanes ts top = .no := by
                  unfold dueOf
                  rw [if_neg (fun z => z ⟨a1, a2⟩), if_neg (by rw [et]; decide), if_neg (fun z => z g2)]
                obtain ⟨t1, t2⟩ := g2
                walk_at "wa"
                refine k_powL (v := 1000000000000) (by decide) (by decide) (by decide) ?_
                walk_at "wa"
                refine ⟨c9, B.same s2, ?_⟩
                rw [e]
                rfl
              · have e : dueOf lanes ts top = .size := by
                  unfold dueOf
                  rw [if_neg (fun z => z ⟨a1, a2⟩), if_neg (by rw [et]; decide), if_pos g2]
                refine k_itd (fun t1 => ?_) (fun t1 => ?_)
                · walk_at "w"
                  refine k_powL (v := 1000000000000) (by decide) (by decide) (by decide) ?_
                  walk_at "wa"
                  refine ⟨c9, B.same s2, ?_⟩
                  rw [e]
                  rfl
                · walk_at "wa"
                  refine ⟨c9, B.same s2, ?_⟩
                  rw [e]
                  rfl
        · have e : dueOf lanes ts top = .size := by
            unfold dueOf
            rw [if_pos g1]
          refine k_itd (fun t1 => ?_) (fun t1 => ?_)
          · walk_at "wa"
            refine ⟨c9, B, ?_⟩
            rw [e]
            rfl
          · walk_at "wa"
            refine ⟨c9, B, ?_⟩
            rw [e]
            rfl
      rintro σ H2 ⟨c9', B2, rfl⟩
      walk_at "wa"
      refine ⟨B2.2.1, fun H3 e3 T3 => ask_due E (due := dueOf lanes ts top) (fun w1 v1 H4 s4 hw1 => ?_) (fun E' Q' h0 hs ht => ?_)⟩
      · walk_at "wa"
        refine k_ixL (v := .str (wordOf (dueOf lanes ts top))) (sql_of upd_same) rfl ?_
        have B4 := ((B2.ext e3 T3).same s4).new (o := .lst [.str (wordOf (dueOf lanes ts top)), v1]) hw1
        generalize upd H4 w1 _ = H5 at B4 ⊢
        clear s4 hw1 e3 T3 B2
        generalize hwd : wordOf (dueOf lanes ts top) = wd
        walk_at "wa"
        intro lw hlw
        have B5 := B4.new (o := .lst [.str wd]) hlw
        have X5 : upd H5 lw (.lst [.str wd]) lw = some (.lst [.str wd]) := upd_same
        have nlc := B4.1.nec hlw
        have nll : lw ≠ l := fun z => by rw [z, B4.2.2.1] at hlw; cases hlw
        generalize upd H5 lw _ = H6 at B5 X5 ⊢
        walk_at "wa"
        refine k_tyL (sql_of X5) ?_
        walk_at "wa"
        refine ⟨B5.2.1, fun H7 e7 T7 => ask_due E (due := dueOf lanes ts top) (fun w2 v2 H8 s8 hw2 => ?_) (fun E' Q' h0 hs ht => ?_)⟩
        · rw [hwd]
          walk_at "wa"
          refine k_ixL (v := .str wd) (sql_of upd_same) rfl ?_
          have B8 := ((B5.ext e7 T7).same s8).new (o := .lst [.str wd, v2]) hw2
          have X8 := same_new (o := .lst [.str wd, v2]) hw2 _ _ (s8 _ _ (e7 _ _ X5 (fun ps z => by cases z)))
          generalize upd H8 w2 _ = H9 at B8 X8 ⊢
          clear s8 hw2 e7 T7 B5 X5
          walk_at "wa"
          refine k_app X8 (by walk_at "sz") ?_
          have B9 := B8.wr (o := .lst ([.str wd] ++ [.str wd])) X8 nll nlc
          have X9 : upd H9 lw (.lst ([.str wd] ++ [.str wd])) lw = some (.lst ([.str wd] ++ [.str wd])) := upd_same
          generalize upd H9 lw _ = H10 at B9 X9 ⊢
          clear B8 X8
          walk_at "wa"
          refine k_tyL (sql_of X9) ?_
          walk_at "wa"
          refine ⟨B9.2.1, fun H11 e11 T11 => ask_due E (due := dueOf lanes ts top) (fun w3 v3 H12 s12 hw3 => ?_) (fun E' Q' h0 hs ht => ?_)⟩
          · rw [hwd]
            walk_at "wa"
            refine k_ixL (v := .str wd) (sql_of upd_same) rfl ?_
            have B12 := ((B9.ext e11 T11).same s12).new (o := .lst [.str wd, v3]) hw3
            have X12 := same_new (o := .lst [.str wd, v3]) hw3 _ _ (s12 _ _ (e11 _ _ X9 (fun ps z => by cases z)))
            generalize upd H12 w3 _ = H13 at B12 X12 ⊢
            clear s12 hw3 e11 T11 B9 X9
            walk_at "wa"
            refine k_app X12 (by walk_at "sz") ?_
            have B13 := B12.wr (o := .lst ([.str wd] ++ [.str wd] ++ [.str wd])) X12 nll nlc
            have X13 : upd H13 lw (.lst ([.str wd] ++ [.str wd] ++ [.str wd])) lw = some (.lst ([.str wd] ++ [.str wd] ++ [.str wd])) := upd_same
            generalize upd H13 lw _ = H14 at B13 X13 ⊢
            clear B12 X12
            have hok : PyData.strOk wd = true := by
              rw [← hwd]
              cases dueOf lanes ts top <;> decide +kernel
            walk_at "wa"
            intro ld hld
            have B14 := B13.new (o := .lst [.str wd, .str wd, .str wd]) hld
            have X14 := same_new (o := .lst [.str wd, .str wd, .str wd]) hld _ _ X13
            have okd : OkD 1 (.list [.str wd, .str wd, .str wd]) := ⟨by simp, fun d hd => by
              simp only [List.mem_cons, List.not_mem_nil, or_false] at hd
              rcases hd with rfl | rfl | rfl <;> exact hok⟩
            have D3 : ∀ {H : Hp}, DpAll K H [.str wd, .str wd, .str wd] [.str wd, .str wd, .str wd] := .cons (.str _) (.cons (.str _) (.cons (.str _) .nil))
            refine k_neD (.lst (sql_of X14) D3) (.lst (sql_of upd_same) D3) (okd.shaped (by decide)) (okd.shaped (by decide)) ?_
            rw [SeqAt.eqv_refl _ okd.lay.1]
            walk_at "wa"
            exact ⟨B14.1, B14.2.1, _, _, _, _, _, _, _, _, _, rfl⟩
          · walk_at "wa"
            intro pz hpz
            have B11 := B9.ext e11 T11
            have sz := same_new (o := .lst [.int 0]) hpz
            walk_at "wa"
            exact ⟨rfl, rfl, lanes, top, l, pz, us, ts, [0], rfl, sql_of (sz _ _ B11.2.2.1), TieL.mono (Tp.same sz) B11.2.2.2, l8, sql_of upd_same, by decide, fun e v H' s => h0 e v H' (sz.trans s), fun e d H' s => hs e d H' (sz.trans s), fun e d H' s => ht e d H' (sz.trans s)⟩
        · walk_at "wa"
          exact ⟨rfl, rfl, lanes, top, l, us, ts, rfl, (B5.ext e7 T7).2.2.1, (B5.ext e7 T7).2.2.2, l8, h0, hs, ht⟩
      · walk_at "wa"
        exact ⟨rfl, rfl, lanes, top, l, us, ts, rfl, (B2.ext e3 T3).2.2.1, (B2.ext e3 T3).2.2.2, l8, h0, hs, ht⟩
    · obtain ⟨D2, _⟩ := hP
      walk_at "wa"
      exact q _
end
end Lw
namespace Ls
open PySem PySem.Spec PyProof.Rows L2 LamX
theorem tabs0 {H : Hp} {P : Addr} {q : Str} (h : H P = some (.tbl #[])) : Tabs [(P, q)] H := fun p hp => by
  rw [List.mem_singleton.mp hp]
  exact ⟨#[], h, trivial, fun pos cv e => by cases e⟩
end Ls
namespace Lw
open PySem PySem.Spec PyProof.Rows L2 Ls LamX
theorem law_ok {P : Program} {w : World} {K : PySem.W.Frag} {mg : Str → Option Value} {base : Heap} (E : Env K mg) {c Pt : Addr} (hc : E.fd_law.code = .ref c) (TB : TabB base mg c Pt) : FnOk P w K mg base (L2.CX P w) 8 E.a_law E.fd_law ["_law_script"] (spLaw K [(Pt, lq ++ ("<lambda>" : Str))]) := by
  have k := okX_look_ties (P := P) (w := w) (base := base) E
  have st := ok_settled E (ok_bounds_of (P := P) (w := w) (base := base) E) (ok_pushed E)
  have pk := ok__law_pick (P := P) (w := w) (base := base) E
  exact ok_law E hc TB (ok__law_begin E) pk (ok__law_of E pk) (ok__law_far E pk) (ok__law_tie_ok E) (ok__law_ties E pk) (okX_amounts E k st) (okX_ring E k st) (okX_meets E k)
end Lw
namespace Lw
open PySem PySem.Spec PyProof.Rows L2 Ls LamX
def d_law : He.DefD := ⟨("law", none), "law", "law", defArgs s_law, defBody s_law, defScope s_law, [], []⟩
def d__law_begin : He.DefD := ⟨("_law_begin", none), "_law_begin", "_law_begin", defArgs s__law_begin, defBody s__law_begin, defScope s__law_begin, [], []⟩
def d__law_of : He.DefD := ⟨("_law_of", none), "_law_of", "_law_of", defArgs s__law_of, defBody s__law_of, defScope s__law_of, [], []⟩
def d__law_ties : He.DefD := ⟨("_law_ties", none), "_law_ties", "_law_ties", defArgs s__law_ties, defBody s__law_ties, defScope s__law_ties, [], []⟩
def d__law_pick : He.DefD := ⟨("_law_pick", none), "_law_pick", "_law_pick", defArgs s__law_pick, defBody s__law_pick, defScope s__law_pick, [], []⟩
def d__law_far : He.DefD := ⟨("_law_far", none), "_law_far", "_law_far", defArgs s__law_far, defBody s__law_far, defScope s__law_far, [], []⟩
def d__law_ask : He.DefD := ⟨("_law_ask", none), "_law_ask", "_law_ask", defArgs s__law_ask, defBody s__law_ask, defScope s__law_ask, [], []⟩
def d__law_tie_ok : He.DefD := ⟨("_law_tie_ok", none), "_law_tie_ok", "_law_tie_ok", defArgs s__law_tie_ok, defBody s__law_tie_ok, defScope s__law_tie_ok, [], []⟩
def d_amounts : He.DefD := ⟨("amounts", none), "amounts", "amounts", defArgs s_amounts, defBody s_amounts, defScope s_amounts, [], [("most", .int 99999)]⟩
def d_ring : He.DefD := ⟨("ring", none), "ring", "ring", defArgs s_ring, defBody s_ring, defScope s_ring, [], [("most", .int 99999)]⟩
def d_meets : He.DefD := ⟨("meets", none), "meets", "meets", defArgs s_meets, defBody s_meets, defScope s_meets, [], [("most", .int 99999)]⟩
def d_look_ties : He.DefD := ⟨("look_ties", none), "look_ties", "look_ties", defArgs s_look_ties, defBody s_look_ties, defScope s_look_ties, [], []⟩
def d_settled : He.DefD := ⟨("settled", none), "settled", "settled", defArgs s_settled, defBody s_settled, defScope s_settled, [], []⟩
def d_pushed : He.DefD := ⟨("pushed", none), "pushed", "pushed", defArgs s_pushed, defBody s_pushed, defScope s_pushed, [], []⟩
def d_bounds_of : He.DefD := ⟨("bounds_of", none), "bounds_of", "bounds_of", defArgs s_bounds_of, defBody s_bounds_of, defScope s_bounds_of, [], []⟩
def d_ScribeError___init__ : He.DefD := ⟨("ScribeError", some "__init__"), "__init__", "ScribeError.__init__", defArgs s_ScribeError___init__, defBody s_ScribeError___init__, defScope s_ScribeError___init__, [], []⟩
def d_BadSize___init__ : He.DefD := ⟨("BadSize", some "__init__"), "__init__", "BadSize.__init__", defArgs s_BadSize___init__, defBody s_BadSize___init__, defScope s_BadSize___init__, [], []⟩
def d_BadTie___init__ : He.DefD := ⟨("BadTie", some "__init__"), "__init__", "BadTie.__init__", defArgs s_BadTie___init__, defBody s_BadTie___init__, defScope s_BadTie___init__, [], []⟩
def fn : List He.DefD := [d_law, d__law_begin, d__law_of, d__law_ties, d__law_pick, d__law_far, d__law_ask, d__law_tie_ok, d_amounts, d_ring, d_meets, d_look_ties, d_settled, d_pushed, d_bounds_of, d_ScribeError___init__, d_BadSize___init__, d_BadTie___init__]
def fa : List He.Fa := [.glo "law", .glo "_law_begin", .glo "_law_of", .glo "_law_ties", .glo "_law_pick", .glo "_law_far", .glo "_law_ask", .glo "_law_tie_ok", .glo "amounts", .glo "ring", .glo "meets", .glo "look_ties", .glo "settled", .glo "pushed", .glo "bounds_of", .free "range", .free "max", .free "min", .free "all", .free "len", .free "list", .free "str", .free "ValueError", .int "MOST_AMOUNT" 99999, .int "MOST_LANES" 6, .int "GREATEST" 1000000000000, .int "LIMIT" 999999, .glo "ScribeError", .glo "BadSize", .glo "BadTie", .glo "BadValue", .glo "Missing"]
def exl (K : PySem.W.Frag) : List Bool := [crdB K (He.ga K "ScribeError"), cviB K (He.ga K "ScribeError"), oexB K (He.ga K "BadSize"), iniB K (He.ga K "BadSize"), iniB K (He.ga K "BadSize"), noFB K (He.ga K "BadSize") "word", xfB K (He.ga K "BadSize"), exmB K (He.ga K "BadSize") (He.ga K "BadValue") false, exmB K (He.ga K "BadSize") (He.ga K "ScribeError") true, exmB K (He.ga K "BadSize") (He.ga K "Missing") false, oexB K (He.ga K "BadTie"), iniB K (He.ga K "BadTie"), iniB K (He.ga K "BadTie"), noFB K (He.ga K "BadTie") "word", xfB K (He.ga K "BadTie"), exmB K (He.ga K "BadTie") (He.ga K "BadValue") false, exmB K (He.ga K "BadTie") (He.ga K "ScribeError") true, exmB K (He.ga K "BadTie") (He.ga K "Missing") false, veiB K]
def exB (K : PySem.W.Frag) : Bool := (exl K).all id
theorem exB_ok {K : PySem.W.Frag} (h : exB K = true) {i : Nat} {b : Bool} (e : (exl K)[i]? = some b) : b = true := List.all_eq_true.mp h b (List.mem_of_getElem? e)
def tfs : List He.Defn := [("law", none)]
abbrev R : PySem.W.OpenRow := PySem.W.OpenLaw.row PySem.Challenge.rw_lanescribe_k26_clocks_refused
abbrev hk : PySem.W.Hook := hookY 5 fa fn [] tfs exB
def ob (s : PySem.W.SharedT) : He.AlX := obsY 5 fa fn [] tfs exB (HandSHeadRun.getT s)
theorem ob_eq (s : PySem.W.SharedT) : ob s = hk.obs s.abs := obsY_eq 5 fa fn [] tfs exB (HandSHeadRun.getT_eq s)
def loose : List PySem.Str := (["__name__", "ScribeError", "Missing", "BadSize", "BadTie", "BadValue", "LIMIT", "MOST_AMOUNT", "MOST_LANES", "GREATEST", "look_ties", "bounds_of", "pushed", "settled", "amounts", "ring", "meets", "_law_begin", "_law_pick", "_law_of", "_law_far", "_law_ask", "_law_ties", "_law_tie_ok"] : List PySem.Str)
theorem run (w : World) : HandSHeadRun.RunEq R (PySem.W.view R.prog [26]) hk ob 3000 loose w := by
  intro os
  kernel_rfl
theorem facts {K : PySem.W.Frag} {h : Heap} {w : World} {mg : Str → Option Value} (X : K.In h) (G : h.Ns mainGlobals mg) (y : He.SaysX fa fn [] tfs exB w h K) : ∃ E : Env K mg, E.a_law = He.ga K "law" := by
  have c := y.t.d
  have hb := y.more
  obtain ⟨fd_law, F_law⟩ := c.def_ 0 (d := d_law) rfl
  obtain ⟨fd__law_begin, F__law_begin⟩ := c.def_ 1 (d := d__law_begin) rfl
  obtain ⟨fd__law_of, F__law_of⟩ := c.def_ 2 (d := d__law_of) rfl
  obtain ⟨fd__law_ties, F__law_ties⟩ := c.def_ 3 (d := d__law_ties) rfl
  obtain ⟨fd__law_pick, F__law_pick⟩ := c.def_ 4 (d := d__law_pick) rfl
  obtain ⟨fd__law_far, F__law_far⟩ := c.def_ 5 (d := d__law_far) rfl
  obtain ⟨fd__law_ask, F__law_ask⟩ := c.def_ 6 (d := d__law_ask) rfl
  obtain ⟨fd__law_tie_ok, F__law_tie_ok⟩ := c.def_ 7 (d := d__law_tie_ok) rfl
  obtain ⟨fd_amounts, F_amounts⟩ := c.def_ 8 (d := d_amounts) rfl
  obtain ⟨fd_ring, F_ring⟩ := c.def_ 9 (d := d_ring) rfl
  obtain ⟨fd_meets, F_meets⟩ := c.def_ 10 (d := d_meets) rfl
  obtain ⟨fd_look_ties, F_look_ties⟩ := c.def_ 11 (d := d_look_ties) rfl
  obtain ⟨fd_settled, F_settled⟩ := c.def_ 12 (d := d_settled) rfl
  obtain ⟨fd_pushed, F_pushed⟩ := c.def_ 13 (d := d_pushed) rfl
  obtain ⟨fd_bounds_of, F_bounds_of⟩ := c.def_ 14 (d := d_bounds_of) rfl
  obtain ⟨fdi_ScribeError, FI_ScribeError⟩ := c.def_ 15 (d := d_ScribeError___init__) rfl
  obtain ⟨fdi_BadSize, FI_BadSize⟩ := c.def_ 16 (d := d_BadSize___init__) rfl
  obtain ⟨fdi_BadTie, FI_BadTie⟩ := c.def_ 17 (d := d_BadTie___init__) rfl
  refine ⟨{
    a_law := He.ga K "law", fd_law := fd_law, F_law := F_law, g_law := He.glo_ok X G (c.fact 0 (f := .glo "law") rfl)
    a__law_begin := He.ga K "_law_begin", fd__law_begin := fd__law_begin, F__law_begin := F__law_begin, g__law_begin := He.glo_ok X G (c.fact 1 (f := .glo "_law_begin") rfl)
    a__law_of := He.ga K "_law_of", fd__law_of := fd__law_of, F__law_of := F__law_of, g__law_of := He.glo_ok X G (c.fact 2 (f := .glo "_law_of") rfl)
    a__law_ties := He.ga K "_law_ties", fd__law_ties := fd__law_ties, F__law_ties := F__law_ties, g__law_ties := He.glo_ok X G (c.fact 3 (f := .glo "_law_ties") rfl)
    a__law_pick := He.ga K "_law_pick", fd__law_pick := fd__law_pick, F__law_pick := F__law_pick, g__law_pick := He.glo_ok X G (c.fact 4 (f := .glo "_law_pick") rfl)
    a__law_far := He.ga K "_law_far", fd__law_far := fd__law_far, F__law_far := F__law_far, g__law_far := He.glo_ok X G (c.fact 5 (f := .glo "_law_far") rfl)
    a__law_ask := He.ga K "_law_ask", fd__law_ask := fd__law_ask, F__law_ask := F__law_ask, g__law_ask := He.glo_ok X G (c.fact 6 (f := .glo "_law_ask") rfl)
    a__law_tie_ok := He.ga K "_law_tie_ok", fd__law_tie_ok := fd__law_tie_ok, F__law_tie_ok := F__law_tie_ok, g__law_tie_ok := He.glo_ok X G (c.fact 7 (f := .glo "_law_tie_ok") rfl)
    a_amounts := He.ga K "amounts", fd_amounts := fd_amounts, F_amounts := F_amounts, g_amounts := He.glo_ok X G (c.fact 8 (f := .glo "amounts") rfl)
    a_ring := He.ga K "ring", fd_ring := fd_ring, F_ring := F_ring, g_ring := He.glo_ok X G (c.fact 9 (f := .glo "ring") rfl)
    a_meets := He.ga K "meets", fd_meets := fd_meets, F_meets := F_meets, g_meets := He.glo_ok X G (c.fact 10 (f := .glo "meets") rfl)
    a_look_ties := He.ga K "look_ties", fd_look_ties := fd_look_ties, F_look_ties := F_look_ties, g_look_ties := He.glo_ok X G (c.fact 11 (f := .glo "look_ties") rfl)
    a_settled := He.ga K "settled", fd_settled := fd_settled, F_settled := F_settled, g_settled := He.glo_ok X G (c.fact 12 (f := .glo "settled") rfl)
    a_pushed := He.ga K "pushed", fd_pushed := fd_pushed, F_pushed := F_pushed, g_pushed := He.glo_ok X G (c.fact 13 (f := .glo "pushed") rfl)
    a_bounds_of := He.ga K "bounds_of", fd_bounds_of := fd_bounds_of, F_bounds_of := F_bounds_of, g_bounds_of := He.glo_ok X G (c.fact 14 (f := .glo "bounds_of") rfl)
    n_range := He.free_ok X G (c.fact 15 (f := .free "range") rfl)
    n_max := He.free_ok X G (c.fact 16 (f := .free "max") rfl)
    n_min := He.free_ok X G (c.fact 17 (f := .free "min") rfl)
    n_all := He.free_ok X G (c.fact 18 (f := .free "all") rfl)
    n_len := He.free_ok X G (c.fact 19 (f := .free "len") rfl)
    n_list := He.free_ok X G (c.fact 20 (f := .free "list") rfl)
    n_str := He.free_ok X G (c.fact 21 (f := .free "str") rfl)
    n_ValueError := He.free_ok X G (c.fact 22 (f := .free "ValueError") rfl)
    c_MOST_AMOUNT := by
      obtain ⟨t, e⟩ := He.int_ok X G (c.fact 23 (f := .int "MOST_AMOUNT" 99999) rfl)
      exact ⟨_, e, ⟨t, rfl⟩⟩
    c_MOST_LANES := by
      obtain ⟨t, e⟩ := He.int_ok X G (c.fact 24 (f := .int "MOST_LANES" 6) rfl)
      exact ⟨_, e, ⟨t, rfl⟩⟩
    c_GREATEST := by
      obtain ⟨t, e⟩ := He.int_ok X G (c.fact 25 (f := .int "GREATEST" 1000000000000) rfl)
      exact ⟨_, e, ⟨t, rfl⟩⟩
    c_LIMIT := by
      obtain ⟨t, e⟩ := He.int_ok X G (c.fact 26 (f := .int "LIMIT" 999999) rfl)
      exact ⟨_, e, ⟨t, rfl⟩⟩
    C_ScribeError := He.ga K "ScribeError", g_ScribeError := He.glo_ok X G (c.fact 27 (f := .glo "ScribeError") rfl)
    C_BadSize := He.ga K "BadSize", g_BadSize := He.glo_ok X G (c.fact 28 (f := .glo "BadSize") rfl)
    C_BadTie := He.ga K "BadTie", g_BadTie := He.glo_ok X G (c.fact 29 (f := .glo "BadTie") rfl)
    C_BadValue := He.ga K "BadValue", g_BadValue := He.glo_ok X G (c.fact 30 (f := .glo "BadValue") rfl)
    C_Missing := He.ga K "Missing", g_Missing := He.glo_ok X G (c.fact 31 (f := .glo "Missing") rfl)
    fi_ScribeError := He.ma K (He.ga K "ScribeError") "__init__", fdi_ScribeError := fdi_ScribeError, FI_ScribeError := FI_ScribeError
    fi_BadSize := He.ma K (He.ga K "BadSize") "__init__", fdi_BadSize := fdi_BadSize, FI_BadSize := FI_BadSize
    fi_BadTie := He.ma K (He.ga K "BadTie") "__init__", fdi_BadTie := fdi_BadTie, FI_BadTie := FI_BadTie
    r_ScribeError := crdB_ok (exB_ok hb (i := 0) rfl)
    v_ScribeError := cviB_ok (exB_ok hb (i := 1) rfl)
    o_BadSize := oexB_ok (exB_ok hb (i := 2) rfl)
    i_BadSize := (iniB_ok (exB_ok hb (i := 3) rfl)).1
    t_BadSize := (iniB_ok (exB_ok hb (i := 4) rfl)).2
    w_BadSize := noFB_ok (exB_ok hb (i := 5) rfl)
    x_BadSize := xfB_ok (exB_ok hb (i := 6) rfl)
    e_BadSize_BadValue := exmB_ok (exB_ok hb (i := 7) rfl)
    e_BadSize_ScribeError := exmB_ok (exB_ok hb (i := 8) rfl)
    e_BadSize_Missing := exmB_ok (exB_ok hb (i := 9) rfl)
    o_BadTie := oexB_ok (exB_ok hb (i := 10) rfl)
    i_BadTie := (iniB_ok (exB_ok hb (i := 11) rfl)).1
    t_BadTie := (iniB_ok (exB_ok hb (i := 12) rfl)).2
    w_BadTie := noFB_ok (exB_ok hb (i := 13) rfl)
    x_BadTie := xfB_ok (exB_ok hb (i := 14) rfl)
    e_BadTie_BadValue := exmB_ok (exB_ok hb (i := 15) rfl)
    e_BadTie_ScribeError := exmB_ok (exB_ok hb (i := 16) rfl)
    e_BadTie_Missing := exmB_ok (exB_ok hb (i := 17) rfl)
    vei := veiB_ok (exB_ok hb (i := 18) rfl)
    }, rfl⟩
end Lw
open PySem PySem.W PySem.Calls PyProof.Rows
theorem PySem.Challenge.cw_lanescribe_k26_clocks_refused_holds : PySem.Challenge.rw_lanescribe_k26_clocks_refused.Holds := by
  w_on; o_law
  refine HandSHeadRun.head_any (r := OpenLaw.row PySem.Challenge.rw_lanescribe_k26_clocks_refused) (q := view (OpenLaw.row PySem.Challenge.rw_lanescribe_k26_clocks_refused).prog [26]) (H := Lw.hk) (ob := Lw.ob) (M := 3000) (loose := Lw.loose) (d := HandSHeadRun.topDef (OpenLaw.row PySem.Challenge.rw_lanescribe_k26_clocks_refused).prog 26) (kwd := []) Lw.ob_eq
    (by kernel_rfl) (fun s => by kernel_rfl) Lw.run (by kernel_rfl) (by kernel_rfl) (by kernel_rfl) (by rfl) (by first | assumption | decide +kernel) (by decide +kernel) ⟨rfl, rfl, rfl, rfl, rfl, by decide +kernel⟩ ?hw ?hc
  case hw => w_witness2
  case hc =>
    refine LamX.walk_ofTsE (l := PySem.Challenge.rw_lanescribe_k26_clocks_refused) (n := 63) (k := 8) (x := "_law_script") (CX := fun w => L2.CX PySem.Challenge.rw_lanescribe_k26_clocks_refused.prog w) rfl (by decide) (by kernel_rfl) ⟨rfl, by decide, by decide⟩ ?F (fun _ _ _ _ _ ⟨_, _, _, _, _, _, _, _, _, _, _, _, z⟩ => z)
    intro w mg fa h Y G hmg0
    obtain ⟨K, KX, y⟩ := Y
    have hmg : mg ("law" : PySem.Str) = some (.ref fa) := by
      have e : (HandSHeadRun.topDef (OpenLaw.row PySem.Challenge.rw_lanescribe_k26_clocks_refused).prog 26).name = ("law" : PySem.Str) := by kernel_rfl
      rw [← e]
      exact hmg0
    obtain ⟨E, ea⟩ := Lw.facts KX G y
    have e := hmg.symm.trans E.g_law
    cases e
    have b := L2.FunD.bindsA (ps := ["_law_script"]) E.F_law fun _ _ _ _ _ _ us hl => match us, hl with | [_], _ => rfl
    have hc : E.fd_law.code = .ref (He.codeOf K ("law", none)) := by
      obtain ⟨oc, od, dV, kV, doc, pm, an, cdv, ct, osl, e1, lk, hcd, _, _⟩ := E.F_law.ex
      obtain ⟨c, hc⟩ := He.codeIn_ref hcd
      have e2 : E.fd_law.code = .ref c := by rw [e1]; exact hc
      have lk2 : K.lookup (He.fAd K ("law", none)) = some ⟨oc, od, .func E.fd_law, osl⟩ := by
        show K.lookup (He.ga K "law") = _
        rw [← ea]
        exact lk
      rw [He.codeOf_eq lk2 e2]
      exact e2
    have hm : (("law", none) : He.Defn) ∈ Lw.tfs := List.mem_singleton.mpr rfl
    refine ⟨K, KX, E.fd_law, [He.cT K ("law", none)], Ls.spLaw K [((He.cT K ("law", none)).2, Ls.lq ++ ("<lambda>" : PySem.Str))], fun p hp => ?_, fun p hp => ?_, fun p hp => ?_, fun s v => b s [v] rfl, fun H a ns hl _ hT hS => ?_, fun base KB GB TB => ?_⟩
    · rw [List.mem_singleton.mp hp]
      exact y.empty _ hm
    · rw [List.mem_singleton.mp hp]
      exact y.out _ hm
    · rw [List.mem_singleton.mp hp]
      exact codeHd_of_K KX (y.hd _ hm)
    · exact ⟨a, ns, rfl, Ls.tabs0 (hT _ (List.mem_singleton.mpr rfl)), hS, hl, fun _ => rfl⟩
    · exact Lw.law_ok E hc (TB _ (List.mem_singleton.mpr rfl))
