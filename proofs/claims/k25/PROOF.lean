import PyProof.Rows.All
import Wide.All
import OpenK.AllK
import Wide.FinOn
import KE.KStateDown
import HandS.ForMost
import HandS.Exc
import HandS.TryOnly
import HandS.TryMany
import HandS.WordsExc
import HandS.Flow
import HandS.Style
import HandS.DictComp
import HandS.Deep
import HandS.Wide
import HandS.Defaults
import HandS.MakeKwOnly
import HandS.Zip
import HandS.TupAny
import HandS.TupLe
import HandS.IsInst
import HandS.Walk
import HandS.Head2
import HandS.HeadEnd
import HandS.HeadHook1
import HandS.HeadHook2
import HandS.HeadHook3
import HandS.HeadHook4
import HandS.HeadWalk
import HandS.EndTab
import HandS.EndBits
import PySem.Challenge.RW_lanescribe_k25_whole_amounts_or_a_ring
import HandS.SetFor
import HandS.Strs
import HandS.Conv
import HandS.Head0
import HandS.Head1
set_option Elab.async false
set_option linter.all false
set_option maxRecDepth 100000
set_option maxHeartbeats 4000000
open PySem PySem.Spec PyProof.Rows L2
namespace Ls
end Ls
open Ls
namespace Ls
open PySem PySem.Spec PyProof.Rows L2

/-! ### rules joined: one for each sign, whatever the values -/
section
variable {X : Cx}
def rAddU (K : PySem.W.Frag) : R2 := fun x y H Q => (∃ i j, x = .int i ∧ y = .int j ∧ Q (.int (i + j)) H) ∨ (∃ i j, x = .str i ∧ y = .str j ∧ i.length + j.length ≤ sizeLine ∧ Q (.str (i ++ j)) H) ∨ rCat x y H Q ∨ rCatA K x y H Q
theorem op_addU0 : OpR X (binaryOp .Add) (rAddU X.K) := OpR.or op_add (OpR.or op_add_str (OpR.or op_cat op_catA))
def rEqU (K : PySem.W.Frag) : R2 := fun x y H Q => rEq x y H Q ∨ rEqD K x y H Q
def rNeU (K : PySem.W.Frag) : R2 := fun x y H Q => rNe x y H Q ∨ rNeD K x y H Q
theorem op_eqU0 (hu : X.A.units + 66 < cLine) : OpR X (compareOp .Eq) (rEqU X.K) := OpR.or op_eq (op_eqD (by omega))
theorem op_neU0 (hu : X.A.units + 66 < cLine) : OpR X (compareOp .NotEq) (rNeU X.K) := OpR.or op_ne (op_neD (by omega))
def rIsU : R2 := fun x y H Q => (y = .non ∧ Q (.bl (decide (x = .non))) H) ∨ (∃ a b, x = .bl a ∧ y = .bl b ∧ Q (.bl (decide (a = b))) H)
def rIsNotU : R2 := fun x y H Q => (y = .non ∧ Q (.bl (!decide (x = .non))) H) ∨ (∃ a b, x = .bl a ∧ y = .bl b ∧ Q (.bl (!decide (a = b))) H)
theorem op_isU : OpR X (compareOp .Is) rIsU := OpR.or op_isN op_is_bl
theorem op_isnotU : OpR X (compareOp .IsNot) rIsNotU := OpR.or op_notN op_isnot_bl
def rInSg : R2 := fun x y H Q => ∃ (c : Nat) (z : Str), x = .str ⟨#[c]⟩ ∧ y = .str z ∧ Q (.bl (decide (c ∈ z.cps.toList))) H
def rNotInSg : R2 := fun x y H Q => ∃ (c : Nat) (z : Str), x = .str ⟨#[c]⟩ ∧ y = .str z ∧ Q (.bl (!decide (c ∈ z.cps.toList))) H
def rInU (K : PySem.W.Frag) : R2 := fun x y H Q => rIn K false x y H Q ∨ rInD K x y H Q ∨ rInSg x y H Q
def rNotInU (K : PySem.W.Frag) : R2 := fun x y H Q => rIn K true x y H Q ∨ rNotInD K x y H Q ∨ rNotInSg x y H Q
theorem op_inU0 (hu : X.A.units + 66 < cLine) : OpR X (compareOp .In) (rInU X.K) := OpR.or op_in_seq (OpR.or (op_inD (by omega)) op_in_sign)
theorem op_notinU0 (hu : X.A.units + 66 < cLine) : OpR X (compareOp .NotIn) (rNotInU X.K) := OpR.or op_notIn_seq (OpR.or (op_notInD (by omega)) op_notIn_sign)
def rLenU (K : PySem.W.Frag) : List V → Hp → VK → Prop := fun xs H Q => (∃ p ys, xs = [.ref p] ∧ (SqL K H p ys ∨ SqT K H p ys) ∧ Q (.int ys.length) H) ∨ (∃ z, xs = [.str z] ∧ z.length ≤ sizeLine ∧ Q (.int z.length) H) ∨ (∃ a kvs, xs = [V.ref a] ∧ H a = some (.dK kvs) ∧ Q (.int kvs.length) H)
theorem call_lenU0 : CallR X (.builtin "len") (rLenU X.K) := CallR.or call_len_seq (CallR.or call_len_str call_lenD)
def rSlU (K : PySem.W.Frag) : V → Option Int → Option Int → Hp → VK → Prop := fun x lo hi H Q => rSlL K x lo hi H Q ∨ rSlA K x lo hi H Q ∨ rSlS x lo hi H Q
theorem sl_U0 : SlR X (rSlU X.K) := SlR.or sl_list (SlR.or sl_tupA sl_str)
def rMaxU (K : PySem.W.Frag) : List V → Hp → VK → Prop := fun vs H Q => (∃ i j, vs = [.int i, .int j] ∧ Q (.int (if j > i then j else i)) H) ∨ rMax K vs H Q
def rMinU (K : PySem.W.Frag) : List V → Hp → VK → Prop := fun vs H Q => (∃ i j, vs = [.int i, .int j] ∧ Q (.int (if j < i then j else i)) H) ∨ rMin K vs H Q
theorem call_maxU0 (hc : X.calm = true) : CallR X (.builtin "max") (rMaxU X.K) := CallR.or (call_max2 hc) (cr_max hc)
theorem call_minU0 (hc : X.calm = true) : CallR X (.builtin "min") (rMinU X.K) := CallR.or (call_min2 hc) (cr_min hc)
end
section
variable {X : Cx}
theorem op_addU (K : PySem.W.Frag) (hK : X.K = K)  : OpR X (binaryOp .Add) (rAddU K) := by
  subst hK
  exact op_addU0
theorem op_eqU (K : PySem.W.Frag) (hK : X.K = K) (hu : X.A.units + 66 < cLine) : OpR X (compareOp .Eq) (rEqU K) := by
  subst hK
  exact op_eqU0 hu
theorem op_neU (K : PySem.W.Frag) (hK : X.K = K) (hu : X.A.units + 66 < cLine) : OpR X (compareOp .NotEq) (rNeU K) := by
  subst hK
  exact op_neU0 hu
theorem op_inU (K : PySem.W.Frag) (hK : X.K = K) (hu : X.A.units + 66 < cLine) : OpR X (compareOp .In) (rInU K) := by
  subst hK
  exact op_inU0 hu
theorem op_notinU (K : PySem.W.Frag) (hK : X.K = K) (hu : X.A.units + 66 < cLine) : OpR X (compareOp .NotIn) (rNotInU K) := by
  subst hK
  exact op_notinU0 hu
theorem call_lenU (K : PySem.W.Frag) (hK : X.K = K)  : CallR X (.builtin "len") (rLenU K) := by
  subst hK
  exact call_lenU0
theorem sl_U (K : PySem.W.Frag) (hK : X.K = K)  : SlR X (rSlU K) := by
  subst hK
  exact sl_U0
theorem call_maxU (K : PySem.W.Frag) (hK : X.K = K) (hc : X.calm = true) : CallR X (.builtin "max") (rMaxU K) := by
  subst hK
  exact call_maxU0 hc
theorem call_minU (K : PySem.W.Frag) (hK : X.K = K) (hc : X.calm = true) : CallR X (.builtin "min") (rMinU K) := by
  subst hK
  exact call_minU0 hc
def rListU (K : PySem.W.Frag) : List V → Hp → VK → Prop := fun xs H Q => ∃ p ys, xs = [V.ref p] ∧ (SqL K H p ys ∨ SqT K H p ys) ∧ ∀ l, H l = none → Q (.ref l) (upd H l (.lst ys))
def rTupleU (K : PySem.W.Frag) : List V → Hp → VK → Prop := fun xs H Q => ∃ p ys, xs = [.ref p] ∧ ((SqL K H p ys ∧ ∀ l, H l = none → Q (.ref l) (upd H l (.tup ys))) ∨ (SqT K H p ys ∧ Q (.ref p) H))
theorem call_listU (K : PySem.W.Frag) (hK : X.K = K) : CallR X (.type "list") (rListU K) := by
  subst hK
  exact call_list_of
theorem call_tupleU (K : PySem.W.Frag) (hK : X.K = K) : CallR X (.type "tuple") (rTupleU K) := by
  subst hK
  exact call_tuple_of
theorem cr_sumU (K : PySem.W.Frag) (hK : X.K = K) (hc : X.calm = true) : CallR X (.builtin "sum") (rSum K) := by
  subst hK
  exact cr_sum hc
theorem cr_allU (K : PySem.W.Frag) (hK : X.K = K) (hc : X.calm = true) : CallR X (.builtin "all") (rAll K) := by
  subst hK
  exact cr_all hc
theorem cr_anyU (K : PySem.W.Frag) (hK : X.K = K) (hc : X.calm = true) : CallR X (.builtin "any") (rAny K) := by
  subst hK
  exact cr_any hc
theorem call_isiU (K : PySem.W.Frag) (hK : X.K = K) : CallR X (.builtin "isinstance") (rIsi K) := by
  subst hK
  exact call_isi
theorem call_isiTU (K : PySem.W.Frag) (hK : X.K = K) : CallR X (.builtin "isinstance") (rIsiT K) := by
  subst hK
  exact call_isiT
theorem ix_U (K : PySem.W.Frag) (hK : X.K = K) : IxR X (rIx K) := by
  subst hK
  exact ix_seq
theorem kBM {e : Expr} {T : String} {r : V → List V → Hp → VK → Prop} {to : TE} {t : TA} (K : PySem.W.Frag) (hK : X.K = K) (h : PE X e (tBM X.K T r to t)) : PE X e (tBM K T r to t) := hK ▸ h
theorem kBM0 {e : Expr} {T : String} {r : V → List V → Hp → VK → Prop} {to : TE} (K : PySem.W.Frag) (hK : X.K = K) (h : PE X e (tBM0 X.K T r to)) : PE X e (tBM0 K T r to) := hK ▸ h
theorem kFld {e : Expr} {f : Str} {ta : TE} (K : PySem.W.Frag) (hK : X.K = K) (h : PE X e (tFld X.K ta f)) : PE X e (tFld K ta f) := hK ▸ h
theorem kGTup {e : Expr} {n : Nat} {t : TGs} (K : PySem.W.Frag) (hK : X.K = K) (h : PG X e (gTup X.K n t)) : PG X e (gTup K n t) := hK ▸ h
theorem kIL {tg l : Expr} {tl : TE} (K : PySem.W.Frag) (hK : X.K = K) (h : PI X tg l (iList X.K tl)) : PI X tg l (iList K tl) := hK ▸ h
theorem kIT {tg l : Expr} {tl : TE} (K : PySem.W.Frag) (hK : X.K = K) (h : PI X tg l (iTup X.K tl)) : PI X tg l (iTup K tl) := hK ▸ h
theorem kIE {tg l : Expr} {tl : TA} (K : PySem.W.Frag) (hK : X.K = K) (h : PI X tg l (iEnum X.K tl)) : PI X tg l (iEnum K tl) := hK ▸ h
theorem kIZ {tg l : Expr} {tl : TA} (K : PySem.W.Frag) (hK : X.K = K) (h : PI X tg l (RZ.iZipA X.K tl)) : PI X tg l (RZ.iZipA K tl) := hK ▸ h
theorem kIV {tg l : Expr} {tl : TA} (K : PySem.W.Frag) (hK : X.K = K) (h : PI X tg l (iRev X.K tl)) : PI X tg l (iRev K tl) := hK ▸ h
end
theorem huOf {A : Around} {k : Nat} (hr : Room k A) : A.units + 66 < cLine := by
  have := hr.un
  omega
end Ls
namespace Ls
open PySem PySem.Spec PyProof.Rows L2

/-! ### y = {k: v for ..} -/
theorem swd_true {kx vx : Expr} {gs : List Comprehension} {scope : Scope} {pos py : Pos} {y : Str} {l : Nat} {env : Env} (hk : env.scope.kind = .function) (hy : env.scope.names.lookup y = some .local) (hl : (py.line == pos.line) = true)
    (ha : (scope.names.any fun (n, k) => n == y && (k == .local || k == .cell)) = false) : swapsWith (.DictComp kx vx gs scope pos) (some (.Name y py)) l env = pure true := by
  have ky : env.kindOf y = some .local := hy
  have hb : env.blockKind = .function := by unfold Env.blockKind; rw [hk]; rfl
  unfold swapsWith
  simp only [hb, ky, ha, Expr.pos, hl]
  rfl
theorem ps_setDc {X : Cx} {i : Nat} {y : Str} {py : Pos} {kx vx tg iter : Expr} {ifs : List Expr} {scope : Scope} {own : List (Str × Nat)} {pos spos : Pos} {wi : TI} {g : TG} {tt : TT} {tk tv : TE} (hc : X.calm = true) (hN : X.N.Nodup) (hy : X.N[i]? = some y) (hyl : X.env.scope.names.lookup y = some .local)
    (hsw : swapsWith (.DictComp kx vx [⟨tg, iter, ifs, 0⟩] scope pos) (some (.Name y py)) spos.line X.env = pure true) (hi : PI X tg iter wi) (ok : BlkOk X.N X.env.scope scope own)
    (hg : ∀ (s : Shared) (H : Hp) (C : Addr) (cl : List (Str × Addr)) (fp : List Addr), PG (X.blk s H scope (compEnvC scope cl C X.env) fp) tg g) (ht : ∀ (s : Shared) (H : Hp) (C : Addr) (cl : List (Str × Addr)) (fp : List Addr), PTs (X.blk s H scope (compEnvC scope cl C X.env) fp) ifs tt)
    (hk : ∀ (s : Shared) (H : Hp) (C : Addr) (cl : List (Str × Addr)) (fp : List Addr), PE (X.blk s H scope (compEnvC scope cl C X.env) fp) kx tk)
    (he : ∀ (s : Shared) (H : Hp) (C : Addr) (cl : List (Str × Addr)) (fp : List Addr), PE (X.blk s H scope (compEnvC scope cl C X.env) fp) vx tv) (hs : ∀ x, foldedSetIterable iter X.env x = pure x := by intro _; rfl) :
    PS X (.Assign [.Name y py] (.DictComp kx vx [⟨tg, iter, ifs, 0⟩] scope pos) spos) (tAsg (tDc wi g tt tk tv (own.map (·.2))) (gName i)) := by
  refine ⟨fun pins s σ H D I h => ?_⟩
  rw [exec_Assign_Name_used _ _ _ _ hsw]
  refine wpAny_bind (wpAny_standAt (wpAny_bind ?_))
  show wpAny _ X.A (do let _ ← comprehension (.DictComp kx vx [⟨tg, iter, ifs, 0⟩] scope pos) scope X.env (firstIterPos [⟨tg, iter, ifs, 0⟩] pos) newDict false (eval iter X.env) (some (assign (.Name y py) X.env))) _ _ s
  have h : tDc wi g tt tk tv (own.map (·.2)) σ H (fun x H1 => gName i x σ H1 D.nx) := h
  refine wpAny_bind (thn (dc_core (Qf := fun _ s' => SP X pins D .next s') hc hN I hi ok hg ht hk he hs h fun L C s' m H' I' q hn f => ?_) fun _ s' hq => wpAny_pure (wpAny_pure hq))
  show wpAny _ _ (assign (.Name y py) X.env (.ref L)) _ _ _
  refine wpAny_assign_Name (store_ok2 (v := V.ref L) I' hN hy (.inl hyl) rfl (fun s2 I2 ⟨a, sb, ha⟩ => ?_) (.inr hyl))
  obtain ⟨f0, f1, f2, f3, f4, f5⟩ := f
  have haC : C ≠ a := by
    rcases ha with z | z
    · rw [z]; exact f1
    · exact fun e => f4 y a z e.symm
  refine ⟨m, hn.sameBut sb haC, fun h3 sb3 => ?_⟩
  exact ⟨_, H', I2.turned (t' := s2.toks) (fun b o hb e => (sb3.2 b hb).trans e) f0 f1 f3 f4 f5, q⟩

/-! ### heaps: what stays -/
/-- tuples stay (they always do) -/
def Tp (K : PySem.W.Frag) (H H' : Hp) : Prop := ∀ a xs, SqT K H a xs → SqT K H' a xs
/-- all but the object at d stays -/
def Keep (d : Addr) (H H' : Hp) : Prop := ∀ b o, b ≠ d → H b = some o → H' b = some o
theorem same_new {H : Hp} {p : Addr} {o : HO} (h : H p = none) : Same H (upd H p o) := fun b x e => by
  rw [upd_ne (ne_of_none e h)]
  exact e
theorem rd_same {H H' : Hp} {a : Addr} {u : HO} (e : Same H H') (h : Rd H a u) : Rd H' a u := by
  rcases h with h | ⟨o, h⟩
  · exact .inl (e _ _ h)
  · exact .inr ⟨o, e _ _ h⟩
theorem sqt_same {K : PySem.W.Frag} {H H' : Hp} {a : Addr} {xs : List V} (e : Same H H') (h : SqT K H a xs) : SqT K H' a xs := by
  rcases h with h | h
  · exact .inl (rd_same e h)
  · exact .inr h
theorem Tp.refl {K : PySem.W.Frag} {H : Hp} : Tp K H H := fun _ _ h => h
theorem Tp.trans {K : PySem.W.Frag} {H H1 H2 : Hp} (a : Tp K H H1) (b : Tp K H1 H2) : Tp K H H2 := fun x xs h => b x xs (a x xs h)
theorem Tp.same {K : PySem.W.Frag} {H H' : Hp} (e : Same H H') : Tp K H H' := fun _ _ h => sqt_same e h
theorem Tp.new {K : PySem.W.Frag} {H : Hp} {p : Addr} {o : HO} (h : H p = none) : Tp K H (upd H p o) := Tp.same (same_new h)
/-- an object that is no tuple (nor a locked one) -/
def NoT : HO → Bool
  | .tup _ => false
  | .frz _ _ => false
  | _ => true
theorem keep_tp {K : PySem.W.Frag} {d : Addr} {H H' : Hp} {o : HO} (k : Keep d H H') (h : H d = some o) (n : NoT o = true) : Tp K H H' := fun a xs q => by
  have ne : ∀ u, NoT u = false → H a = some u → a ≠ d := fun u hu e z => by
    rw [z, h] at e
    cases e
    rw [n] at hu
    cases hu
  rcases q with (q | ⟨u, q⟩) | q
  · exact .inl (.inl (k _ _ (ne _ rfl q) q))
  · exact .inl (.inr ⟨u, k _ _ (ne _ rfl q) q⟩)
  · exact .inr q
theorem Keep.refl {d : Addr} {H : Hp} : Keep d H H := fun _ _ _ h => h
theorem Keep.trans {d : Addr} {H H1 H2 : Hp} (a : Keep d H H1) (b : Keep d H1 H2) : Keep d H H2 := fun c o n h => b c o n (a c o n h)
theorem Keep.same {d : Addr} {H H' : Hp} (e : Same H H') : Keep d H H' := fun b o _ h => e b o h
theorem Keep.new {d p : Addr} {H H' : Hp} {o : HO} (k : Keep d H H') (h : H' p = none) : Keep d H (upd H' p o) := fun b u n e => same_new h _ _ (k b u n e)
theorem Keep.put {d : Addr} {H H' : Hp} {o : HO} (k : Keep d H H') : Keep d H (upd H' d o) := fun b u n e => by
  rw [upd_ne n]
  exact k b u n e
/-- a write to what did not stand there at first -/
theorem Keep.wr {d p : Addr} {H H' : Hp} {o : HO} (k : Keep d H H') (h : H p = none) : Keep d H (upd H' p o) := fun b u n e => by
  rw [upd_ne (ne_of_none e h)]
  exact k b u n e
theorem Same.wr {p : Addr} {H H' : Hp} {o : HO} (k : Same H H') (h : H p = none) : Same H (upd H' p o) := fun b u e => by
  rw [upd_ne (ne_of_none e h)]
  exact k b u e
theorem Keep.free {d p : Addr} {H H' : Hp} {o : HO} (k : Keep d H H') (hd : H' d = some o) (h : H' p = none) : H p = none := by
  cases q : H p with
  | none => rfl
  | some u =>
    by_cases e : p = d
    · rw [e, hd] at h
      cases h
    · rw [k p u e q] at h
      cases h
theorem wr_tp {K : PySem.W.Frag} {l : Addr} {H : Hp} {o u : HO} (h : H l = some o) (n : NoT o = true) : Tp K H (upd H l u) := keep_tp (d := l) (Keep.put Keep.refl) h n
theorem sql_same {K : PySem.W.Frag} {H H' : Hp} {a : Addr} {xs : List V} (e : Same H H') (h : SqL K H a xs) : SqL K H' a xs := e.seq h
theorem sql_keep {K : PySem.W.Frag} {d : Addr} {H H' : Hp} {a : Addr} {xs : List V} {kvs : List (Key × V)} (k : Keep d H H') (hd : H d = some (.dK kvs)) (h : SqL K H a xs) : SqL K H' a xs := by
  have ne : ∀ u, (∀ ks, u ≠ .dK ks) → H a = some u → a ≠ d := fun u hu e z => by
    rw [z, hd] at e
    exact hu _ (Option.some.inj e).symm
  rcases h with (q | ⟨u, q⟩) | q
  · exact .inl (.inl (k _ _ (ne _ (fun _ z => by cases z) q) q))
  · exact .inl (.inr ⟨u, k _ _ (ne _ (fun _ z => by cases z) q) q⟩)
  · exact .inr q

/-! ### data that never changes -/
mutual
inductive Im (K : PySem.W.Frag) (H : Hp) : V → PyData → Prop
  | non : Im K H .non .none
  | bl (b : Bool) : Im K H (.bl b) (.bool b)
  | int (i : Int) : Im K H (.int i) (.int i)
  | str (x : Str) : Im K H (.str x) (.str x)
  | tup {a : Addr} {xs : List V} {ds : List PyData} : SqT K H a xs → ImAll K H xs ds → Im K H (.ref a) (.tuple ds)
inductive ImAll (K : PySem.W.Frag) (H : Hp) : List V → List PyData → Prop
  | nil : ImAll K H [] []
  | cons {v : V} {vs : List V} {d : PyData} {ds : List PyData} : Im K H v d → ImAll K H vs ds → ImAll K H (v :: vs) (d :: ds)
end
section
variable {K : PySem.W.Frag} {H H' : Hp}
mutual
theorem Im.mono (t : Tp K H H') : ∀ {v : V} {d : PyData}, Im K H v d → Im K H' v d
  | _, _, .non => .non
  | _, _, .bl b => .bl b
  | _, _, .int i => .int i
  | _, _, .str x => .str x
  | _, _, .tup h hs => .tup (t _ _ h) (ImAll.mono t hs)
theorem ImAll.mono (t : Tp K H H') : ∀ {vs : List V} {ds : List PyData}, ImAll K H vs ds → ImAll K H' vs ds
  | _, _, .nil => .nil
  | _, _, .cons h hs => .cons (Im.mono t h) (ImAll.mono t hs)
end
mutual
theorem Im.dp : ∀ {v : V} {d : PyData}, Im K H v d → Dp K H v d
  | _, _, .non => .non
  | _, _, .bl b => .bl b
  | _, _, .int i => .int i
  | _, _, .str x => .str x
  | _, _, .tup h hs => .tup h (ImAll.dp hs)
theorem ImAll.dp : ∀ {vs : List V} {ds : List PyData}, ImAll K H vs ds → DpAll K H vs ds
  | _, _, .nil => .nil
  | _, _, .cons h hs => .cons (Im.dp h) (ImAll.dp hs)
end
theorem ImAll.length : ∀ {vs : List V} {ds : List PyData}, ImAll K H vs ds → vs.length = ds.length
  | _, _, .nil => rfl
  | _, _, .cons _ hs => congrArg Nat.succ (ImAll.length hs)
theorem ImAll.app : ∀ {vs ws : List V} {ds es : List PyData}, ImAll K H vs ds → ImAll K H ws es → ImAll K H (vs ++ ws) (ds ++ es)
  | _, _, _, _, .nil, h => h
  | _, _, _, _, .cons a b, h => .cons a (ImAll.app b h)
theorem ImAll.snoc {vs : List V} {ds : List PyData} {v : V} {d : PyData} (h : ImAll K H vs ds) (a : Im K H v d) : ImAll K H (vs ++ [v]) (ds ++ [d]) := h.app (.cons a .nil)
theorem ImAll.get : ∀ {vs : List V} {ds : List PyData} {i : Nat} {v : V}, ImAll K H vs ds → vs[i]? = some v → ∃ d, ds[i]? = some d ∧ Im K H v d
  | _, _, i, _, .nil, e => by simp at e
  | _, _, 0, _, .cons a _, e => by
    simp at e
    subst e
    exact ⟨_, rfl, a⟩
  | _, _, i + 1, v, .cons _ b, e => by
    obtain ⟨d, h1, h2⟩ := ImAll.get (i := i) (v := v) b (by simpa using e)
    exact ⟨d, by simpa using h1, h2⟩
theorem ImAll.getD : ∀ {vs : List V} {ds : List PyData} {i : Nat} {d : PyData}, ImAll K H vs ds → ds[i]? = some d → ∃ v, vs[i]? = some v ∧ Im K H v d
  | _, _, i, _, .nil, e => by simp at e
  | _, _, 0, _, .cons a _, e => by
    simp at e
    subst e
    exact ⟨_, rfl, a⟩
  | _, _, i + 1, d, .cons _ b, e => by
    obtain ⟨v, h1, h2⟩ := ImAll.getD (i := i) (d := d) b (by simpa using e)
    exact ⟨v, by simpa using h1, h2⟩
theorem ImAll.take : ∀ {vs : List V} {ds : List PyData} (n : Nat), ImAll K H vs ds → ImAll K H (vs.take n) (ds.take n)
  | _, _, 0, _ => by simp only [List.take_zero]; exact .nil
  | _, _, n + 1, .nil => by simp only [List.take_nil]; exact .nil
  | _, _, n + 1, .cons a b => .cons a (ImAll.take n b)
theorem ImAll.drop : ∀ {vs : List V} {ds : List PyData} (n : Nat), ImAll K H vs ds → ImAll K H (vs.drop n) (ds.drop n)
  | _, _, 0, h => h
  | _, _, n + 1, .nil => by simp only [List.drop_nil]; exact .nil
  | _, _, n + 1, .cons a b => ImAll.drop n b
theorem im_int {v : V} {i : Int} (h : Im K H v (.int i)) : v = .int i := by cases h; rfl
theorem im_str {v : V} {x : Str} (h : Im K H v (.str x)) : v = .str x := by cases h; rfl
theorem im_bl {v : V} {b : Bool} (h : Im K H v (.bool b)) : v = .bl b := by cases h; rfl
theorem im_non {v : V} (h : Im K H v .none) : v = .non := by cases h; rfl
theorem im_tup {v : V} {ds : List PyData} (h : Im K H v (.tuple ds)) : ∃ a xs, v = .ref a ∧ SqT K H a xs ∧ ImAll K H xs ds := by
  cases h with
  | tup h hs => exact ⟨_, _, rfl, h, hs⟩
theorem ImAll.ints : ∀ (ns : List Int), ImAll K H (ns.map V.int) (ns.map PyData.int)
  | [] => .nil
  | n :: r => .cons (.int n) (ImAll.ints r)
theorem ImAll.strs : ∀ (ns : List Str), ImAll K H (ns.map V.str) (ns.map PyData.str)
  | [] => .nil
  | n :: r => .cons (.str n) (ImAll.strs r)
end
/-- a new tuple -/
theorem sqt_new {K : PySem.W.Frag} {H : Hp} {p : Addr} {xs : List V} : SqT K (upd H p (.tup xs)) p xs := .inl (.inl upd_same)
theorem sqt_of {K : PySem.W.Frag} {H : Hp} {p : Addr} {xs : List V} (h : H p = some (.tup xs)) : SqT K H p xs := .inl (.inl h)
theorem sql_of {K : PySem.W.Frag} {H : Hp} {p : Addr} {xs : List V} (h : H p = some (.lst xs)) : SqL K H p xs := .inl (.inl h)
end Ls
namespace Ls
open PySem PySem.Spec PyProof.Rows L2

/-! ### the readings step by step: what is left to show -/
section
variable {K : PySem.W.Frag} {σ : L2.St} {H : Hp} {Q : VK} {D : Ends} {ta tb tc te td ty tv : TE} {tt tu : TT} {t u : TS} {tl : TA} {x y z v : V} {i j : Int} {b c : Bool} {a p l : Addr} {xs ys : List V}
theorem k_seq (h : t { D with nx := u D } σ H) : tSeq t u D σ H := h
theorem k_next (h : D.nx σ H) : tNext D σ H := h
theorem k_brk (h : D.bk σ H) : tBreak D σ H := h
theorem k_cont (h : D.ct σ H) : tCont D σ H := h
theorem k_drop (h : te σ H fun _ H1 => D.nx σ H1) : tDrop te D σ H := h
theorem k_ret (h : te σ H D.rt) : tRet te D σ H := h
theorem k_retN (h : D.rt .non H) : tRetN D σ H := h
theorem k_if (h : tt σ H fun b H1 => if b = true then t D σ H1 else u D σ H1) : tIfS tt t u D σ H := h
theorem k_set {i : Nat} (h : te σ H fun x H1 => D.nx (σ.set i (some x)) H1) : tAsg te (gName i) D σ H := h
theorem k_asg {g : TG} (h : te σ H fun x H1 => g x σ H1 D.nx) : tAsg te g D σ H := h
theorem k_par {i j : Nat} (h : tl σ H fun vs H1 => ∃ v w, vs = [v, w] ∧ D.nx ((σ.set i (some v)).set j (some w)) H1) : tPar i j tl D σ H := h
theorem k_par2 {Q : V → V → Prop} (h : Q x y) : ∃ v w, [x, y] = [v, w] ∧ Q v w := ⟨x, y, rfl, h⟩
theorem k_gname {i : Nat} {R : L2.St → Hp → Prop} (h : R (σ.set i (some v)) H) : gName i v σ H R := h
theorem k_gtup {n : Nat} {tg : TGs} {R : L2.St → Hp → Prop} (h1 : SqT K H a xs) (h2 : xs.length = n) (h : tg xs σ H R) : gTup K n tg (.ref a) σ H R := ⟨a, xs, rfl, h1, h2, h⟩
theorem k_gcons {tg : TG} {ug : TGs} {R : L2.St → Hp → Prop} (h : tg x σ H fun σ' H' => ug xs σ' H' R) : gCons tg ug (x :: xs) σ H R := ⟨x, xs, rfl, h⟩
theorem k_gnil {R : L2.St → Hp → Prop} (h : R σ H) : gNil [] σ H R := ⟨rfl, h⟩
theorem k_var {i : Nat} (e : σ[i]? = some (some v)) (q : Q v H) : tVar i σ H Q := ⟨v, e, q⟩
theorem k_c (q : Q v H) : tC v σ H Q := q
theorem k_op {r : R2} (h : ta σ H fun x H1 => tb σ H1 fun y H2 => r x y H2 Q) : tOp r ta tb σ H Q := h
theorem k_un {r : V → Hp → VK → Prop} (h : ta σ H fun x H1 => r x H1 Q) : tUn r ta σ H Q := h
theorem k_cb {r : List V → Hp → VK → Prop} (h : tl σ H fun vs H1 => r vs H1 Q) : tCB r tl σ H Q := h
theorem k_nil {R : List V → Hp → Prop} (h : R [] H) : tNil σ H R := h
theorem k_cons {R : List V → Hp → Prop} (h : ta σ H fun x H1 => tl σ H1 fun xs H2 => R (x :: xs) H2) : tCons ta tl σ H R := h
theorem k_call {sp : Sp} {dvs : List V} {E : XK} (h : tl σ H fun vs H1 => sp (vs ++ dvs) H1 Q E) : tCall sp dvs E tl σ H Q := h
theorem k_callN {n m : Nat} {sp : Sp} {gV : List V → List V → List V} {E : XK} {tk : TA} (h : tl σ H fun vs H1 => tk σ H1 fun zs H2 => vs.length = n ∧ zs.length = m ∧ sp (gV vs zs) H2 Q E) : tCallN n m sp gV E tl tk σ H Q := h
theorem k_tup (h : tl σ H fun xs H1 => xs.length ≤ sizeLine ∧ ∀ p, H1 p = none → Q (.ref p) (upd H1 p (.tup xs))) : tTup tl σ H Q := h
theorem k_lst (h : tl σ H fun xs H1 => xs.length ≤ sizeLine ∧ ∀ p, H1 p = none → Q (.ref p) (upd H1 p (.lst xs))) : tLst tl σ H Q := h
theorem k_new {P : Prop} (h1 : xs.length ≤ sizeLine) (h : P) : xs.length ≤ sizeLine ∧ P := ⟨h1, h⟩
theorem k_test {R : Bool → Hp → Prop} (h : te σ H fun x H' => ∃ k, x = .bl k ∧ R k H') : tTest te σ H R := h
theorem k_B {R : Bool → Hp → Prop} (h : te σ H fun x H' => ∃ k, x = .bl k ∧ R k H') : tB te σ H R := h
theorem k_bl {R : Bool → Prop} (h : R b) : ∃ k, V.bl b = .bl k ∧ R k := ⟨b, rfl, h⟩
theorem k_and {R : Bool → Hp → Prop} (h : tt σ H fun c H1 => if c = true then tu σ H1 R else R false H1) : tAnd tt tu σ H R := h
theorem k_or {R : Bool → Hp → Prop} (h : tt σ H fun c H1 => if c = true then R true H1 else tu σ H1 R) : tOr tt tu σ H R := h
theorem k_not {R : Bool → Hp → Prop} (h : tt σ H fun c H1 => R (!c) H1) : tNot tt σ H R := h
theorem k_andV (h : ta σ H fun x H1 => ∃ c, x = .bl c ∧ if c = true then tb σ H1 Q else Q (.bl false) H1) : tAndV ta tb σ H Q := h
theorem k_orV (h : ta σ H fun x H1 => ∃ c, x = .bl c ∧ if c = true then Q (.bl true) H1 else tb σ H1 Q) : tOrV ta tb σ H Q := h
theorem k_notV (h : ta σ H fun x H1 => ∃ c, x = .bl c ∧ Q (.bl (!c)) H1) : tNotV ta σ H Q := h
theorem k_ifE (h : tt σ H fun c H1 => if c = true then ta σ H1 Q else tb σ H1 Q) : tIf tt ta tb σ H Q := h
theorem k_yes {R : Bool → Hp → Prop} (h : R true H) : tYes σ H R := h
theorem k_chain {r r' : R2} (h : ta σ H fun x H1 => tb σ H1 fun y H2 => r x y H2 fun z H3 => ∃ k, z = .bl k ∧ (if k = true then tc σ H3 fun w' H4 => r' y w' H4 Q else Q (.bl false) H3)) : tChain r r' ta tb tc σ H Q := h
theorem k_dget (h : td σ H fun x H1 => ty σ H1 fun y H2 => ∃ a v, x = .ref a ∧ DGet H2 a y (some v) ∧ Q v H2) : tDGet td ty σ H Q := h
theorem k_dput (h : tv σ H fun v H1 => td σ H1 fun x H2 => ty σ H2 fun y H3 => ∃ a H4, x = .ref a ∧ DPut H3 a y v H4 ∧ D.nx σ H4) : sDPut td ty tv D σ H := h
theorem k_din (h : ty σ H fun y H1 => td σ H1 fun x H2 => ∃ a o, x = .ref a ∧ DGet H2 a y o ∧ Q (.bl o.isSome) H2) : tDIn ty td σ H Q := h
theorem k_dnotin (h : ty σ H fun y H1 => td σ H1 fun x H2 => ∃ a o, x = .ref a ∧ DGet H2 a y o ∧ Q (.bl (!o.isSome)) H2) : tDNotIn ty td σ H Q := h
theorem k_getI {kvs : List (Key × V)} {R : V → Prop} {k : Int} (h1 : H a = some (.dK kvs)) (h2 : valV kvs (.inl k) = some v) (h : R v) : ∃ b w, V.ref a = .ref b ∧ DGet H b (.int k) (some w) ∧ R w :=
  ⟨a, v, rfl, .inl ⟨kvs, .inl k, .inl h1, rfl, h2.symm⟩, h⟩
theorem k_getS {kvs : List (Key × V)} {R : V → Prop} {k : Str} (h1 : H a = some (.dK kvs)) (h2 : valV kvs (.inr k) = some v) (h : R v) : ∃ b w, V.ref a = .ref b ∧ DGet H b (.str k) (some w) ∧ R w :=
  ⟨a, v, rfl, .inl ⟨kvs, .inr k, .inl h1, rfl, h2.symm⟩, h⟩
theorem k_isI {kvs : List (Key × V)} {R : Option V → Prop} {k : Int} (h1 : H a = some (.dK kvs)) (h : R (valV kvs (.inl k))) : ∃ b o, V.ref a = .ref b ∧ DGet H b (.int k) o ∧ R o := ⟨a, _, rfl, .inl ⟨kvs, .inl k, .inl h1, rfl, rfl⟩, h⟩
theorem k_isS {kvs : List (Key × V)} {R : Option V → Prop} {k : Str} (h1 : H a = some (.dK kvs)) (h : R (valV kvs (.inr k))) : ∃ b o, V.ref a = .ref b ∧ DGet H b (.str k) o ∧ R o := ⟨a, _, rfl, .inl ⟨kvs, .inr k, .inl h1, rfl, rfl⟩, h⟩
theorem k_putI {kvs : List (Key × V)} {R : Hp → Prop} {k : Int} (h1 : H a = some (.dK kvs)) (h2 : kvs.length < sizeLine) (h : R (upd H a (.dK (putK kvs (.inl k) v)))) : ∃ b H4, V.ref a = .ref b ∧ DPut H b (.int k) v H4 ∧ R H4 :=
  ⟨a, _, rfl, .inl ⟨kvs, .inl k, h1, rfl, h2, rfl⟩, h⟩
theorem k_putS {kvs : List (Key × V)} {R : Hp → Prop} {k : Str} (h1 : H a = some (.dK kvs)) (h2 : kvs.length < sizeLine) (h : R (upd H a (.dK (putK kvs (.inr k) v)))) : ∃ b H4, V.ref a = .ref b ∧ DPut H b (.str k) v H4 ∧ R H4 :=
  ⟨a, _, rfl, .inl ⟨kvs, .inr k, h1, rfl, h2, rfl⟩, h⟩
theorem k_addI (q : Q (.int (i + j)) H) : rAddU K (.int i) (.int j) H Q := .inl ⟨i, j, rfl, rfl, q⟩
theorem k_addS {x y : Str} (h : x.length + y.length ≤ sizeLine) (q : Q (.str (x ++ y)) H) : rAddU K (.str x) (.str y) H Q := .inr (.inl ⟨x, y, rfl, rfl, h, q⟩)
theorem k_addL (h1 : H a = some (.lst xs)) (h2 : H l = some (.lst ys)) (h3 : xs.length + ys.length ≤ sizeLine) (q : ∀ p, H p = none → Q (.ref p) (upd H p (.lst (xs ++ ys)))) : rAddU K (.ref a) (.ref l) H Q := .inr (.inr (.inl ⟨a, l, xs, ys, rfl, rfl, h1, h2, h3, q⟩))
theorem k_addT (h1 : SqT K H a xs) (h2 : SqT K H l ys) (h3 : xs.length + ys.length ≤ sizeLine) (q1 : xs = [] → Q (.ref l) H) (q2 : xs ≠ [] → ys = [] → Q (.ref a) H) (q : ∀ p, H p = none → Q (.ref p) (upd H p (.tup (xs ++ ys)))) : rAddU K (.ref a) (.ref l) H Q :=
  .inr (.inr (.inr ⟨a, l, xs, ys, rfl, rfl, h1, h2, h3, q1, q2, fun _ _ => q⟩))
theorem k_sub (q : Q (.int (i - j)) H) : rI0 (fun i j => .int (i - j)) (.int i) (.int j) H Q := ⟨i, j, rfl, rfl, q⟩
theorem k_mulR (h : -(2 ^ 64) < j ∧ j < 2 ^ 64) (q : Q (.int (i * j)) H) : rI CMul (fun i j => .int (i * j)) (.int i) (.int j) H Q := ⟨i, j, rfl, rfl, .inr h, q⟩
theorem k_mulL (h : -(2 ^ 64) < i ∧ i < 2 ^ 64) (q : Q (.int (i * j)) H) : rI CMul (fun i j => .int (i * j)) (.int i) (.int j) H Q := ⟨i, j, rfl, rfl, .inl h, q⟩
theorem k_mod (h : 0 < j) (q : Q (.int (i % j)) H) : rI (fun _ j => 0 < j) (fun i j => .int (i % j)) (.int i) (.int j) H Q := ⟨i, j, rfl, rfl, h, q⟩
theorem k_fdiv (h : 0 < j) (h2 : j < 2 ^ 200) (q : Q (.int (i / j)) H) : rI CDivW (fun i j => .int (i / j)) (.int i) (.int j) H Q := ⟨i, j, rfl, rfl, wide_div h (b := 200) (by omega) (by decide) (by decide), q⟩
theorem k_pow {n : Nat} (h2 : n ≤ 1000000) (h3 : i.natAbs < 2 ^ 64) (q : Q (.int (i ^ n)) H) : rI CPow (fun i j => .int (i ^ j.toNat)) (.int i) (.int (n : Int)) H Q := ⟨i, n, rfl, rfl, ⟨by omega, by omega, h3⟩, q⟩
theorem k_neg (q : Q (.int (-i)) H) : rU (fun i => .int (-i)) (.int i) H Q := ⟨i, rfl, q⟩
theorem k_lt (q : Q (.bl (decide (i < j))) H) : rI0 (fun i j => .bl (decide (i < j))) (.int i) (.int j) H Q := ⟨i, j, rfl, rfl, q⟩
theorem k_le (q : Q (.bl (decide (i ≤ j))) H) : rI0 (fun i j => .bl (decide (i ≤ j))) (.int i) (.int j) H Q := ⟨i, j, rfl, rfl, q⟩
theorem k_gt (q : Q (.bl (decide (j < i))) H) : rI0 (fun i j => .bl (decide (j < i))) (.int i) (.int j) H Q := ⟨i, j, rfl, rfl, q⟩
theorem k_ge (q : Q (.bl (decide (j ≤ i))) H) : rI0 (fun i j => .bl (decide (j ≤ i))) (.int i) (.int j) H Q := ⟨i, j, rfl, rfl, q⟩
theorem dec_eqI : decide (V.int i = V.int j) = decide (i = j) := by
  by_cases h : i = j
  · subst h; simp
  · rw [decide_eq_false h]; exact decide_eq_false fun e => h (V.int.inj e)
theorem dec_eqS {x y : Str} : decide (V.str x = V.str y) = decide (x = y) := by
  by_cases h : x = y
  · subst h; simp
  · rw [decide_eq_false h]; exact decide_eq_false fun e => h (V.str.inj e)
theorem k_eqI (q : Q (.bl (decide (i = j))) H) : rEqU K (.int i) (.int j) H Q := .inl ⟨rfl, by rw [dec_eqI]; exact q⟩
theorem k_neI (q : Q (.bl (!decide (i = j))) H) : rNeU K (.int i) (.int j) H Q := .inl ⟨rfl, by rw [dec_eqI]; exact q⟩
theorem k_eqS {x y : Str} (q : Q (.bl (decide (x = y))) H) : rEqU K (.str x) (.str y) H Q := .inl ⟨rfl, by rw [dec_eqS]; exact q⟩
theorem k_neS {x y : Str} (q : Q (.bl (!decide (x = y))) H) : rNeU K (.str x) (.str y) H Q := .inl ⟨rfl, by rw [dec_eqS]; exact q⟩
theorem k_eqB (q : Q (.bl (decide (b = c))) H) : rEqU K (.bl b) (.bl c) H Q := .inl ⟨rfl, by
  have e : decide (V.bl b = V.bl c) = decide (b = c) := by cases b <;> cases c <;> decide
  rw [e]; exact q⟩
theorem k_neB (q : Q (.bl (!decide (b = c))) H) : rNeU K (.bl b) (.bl c) H Q := .inl ⟨rfl, by
  have e : decide (V.bl b = V.bl c) = decide (b = c) := by cases b <;> cases c <;> decide
  rw [e]; exact q⟩
theorem k_eqD {d e : PyData} (h1 : Dp K H x d) (h2 : Dp K H y e) (s1 : SeqAt.shaped d = true) (s2 : SeqAt.shaped e = true) (q : Q (.bl (PyData.eqv d e)) H) : rEqU K x y H Q := .inr ⟨d, e, h1, h2, s1, s2, q⟩
theorem k_neD {d e : PyData} (h1 : Dp K H x d) (h2 : Dp K H y e) (s1 : SeqAt.shaped d = true) (s2 : SeqAt.shaped e = true) (q : Q (.bl (!PyData.eqv d e)) H) : rNeU K x y H Q := .inr ⟨d, e, h1, h2, s1, s2, q⟩
theorem k_isN (q : Q (.bl (decide (x = .non))) H) : rIsU x .non H Q := .inl ⟨rfl, q⟩
theorem k_isnotN (q : Q (.bl (!decide (x = .non))) H) : rIsNotU x .non H Q := .inl ⟨rfl, q⟩
theorem k_lenL (h : SqL K H a xs) (q : Q (.int xs.length) H) : rLenU K [.ref a] H Q := .inl ⟨a, xs, rfl, .inl h, q⟩
theorem k_lenT (h : SqT K H a xs) (q : Q (.int xs.length) H) : rLenU K [.ref a] H Q := .inl ⟨a, xs, rfl, .inr h, q⟩
theorem k_lenS {w : Str} (h : w.length ≤ sizeLine) (q : Q (.int w.length) H) : rLenU K [.str w] H Q := .inr (.inl ⟨w, rfl, h, q⟩)
theorem k_ixL (h : SqL K H a xs) (h2 : atI xs i = some v) (q : Q v H) : rIx K (.ref a) (.int i) H Q := .inl ⟨a, xs, i, v, rfl, rfl, h, h2, q⟩
theorem k_ixT (h : SqT K H a xs) (h2 : atI xs i = some v) (q : Q v H) : rIx K (.ref a) (.int i) H Q := .inr (.inl ⟨a, xs, i, v, rfl, rfl, h, h2, q⟩)
theorem k_ixS {w : Str} {c : Nat} (h : w.length ≤ sizeLine) (h2 : atI w.cps.toList i = some c) (q : Q (.str ⟨#[c]⟩) H) : rIx K (.str w) (.int i) H Q := .inr (.inr ⟨w, i, c, rfl, rfl, h, h2, q⟩)
theorem k_bm {T : String} {r : V → List V → Hp → VK → Prop} (h : ta σ H fun x H1 => tyV K T x H1 ∧ tl σ H1 fun xs H2 => r x xs H2 Q) : tBM K T r ta tl σ H Q := h
theorem k_bm0 {T : String} {r : V → List V → Hp → VK → Prop} (h : ta σ H fun x H1 => tyV K T x H1 ∧ r x [] H1 Q) : tBM0 K T r ta σ H Q := h
theorem k_tyL {P : Prop} (h : SqL K H a xs) (q : P) : tyV K "list" (.ref a) H ∧ P := ⟨.inl ⟨rfl, _, h⟩, q⟩
theorem k_app (h : H a = some (.lst xs)) (hl : xs.length < sizeLine) (q : Q .non (upd H a (.lst (xs ++ [x])))) : rAppend (.ref a) [x] H Q := ⟨a, xs, x, rfl, rfl, h, hl, q⟩
theorem k_sl {r : V → Option Int → Option Int → Hp → VK → Prop} {tlo thi : TO} (h : te σ H fun x H1 => tlo σ H1 fun l H2 => thi σ H2 fun u H3 => r x l u H3 Q) : tSl r te tlo thi σ H Q := h
theorem k_nop {R : Option Int → Hp → Prop} (h : R none H) : tNoPart σ H R := h
theorem k_part {R : Option Int → Hp → Prop} (h : te σ H fun x H1 => ∃ i, x = .int i ∧ R (some i) H1) : tPart te σ H R := h
theorem k_partI {R : Int → Prop} (h : R i) : ∃ k, V.int i = .int k ∧ R k := ⟨i, rfl, h⟩
theorem k_slL {lo hi : Option Int} (h : SqL K H a xs) (q : ∀ p, H p = none → Q (.ref p) (upd H p (.lst (cutV xs lo hi)))) : rSlU K (.ref a) lo hi H Q := .inl ⟨a, xs, rfl, h, q⟩
theorem k_list (h : SqL K H a xs) (q : ∀ p, H p = none → Q (.ref p) (upd H p (.lst xs))) : rListU K [V.ref a] H Q := ⟨a, xs, rfl, .inl h, q⟩
theorem k_for {wi : TI} {g : TG} {tb : TS} (h : wi σ H fun J H1 => ∃ W : Nat → Nat → L2.St → Hp → Prop, (∃ m, W 0 m σ H1) ∧ ∀ i m σ H, W i m σ H → (J.stop i H ∧ D.nx σ H) ∨ (J.go i H ∧ ∃ N : L2.St → Hp → Prop, (∀ σ' H', N σ' H' → ∃ m', m' < m ∧ W (i + 1) m' σ' H') ∧ ∀ x H', J.yld i H x H' → g x σ H' fun σ2 H2 => tb { D with nx := N, ct := N, bk := D.nx } σ2 H2)) : tFor wi g tb D σ H := h
theorem k_itL {R : It → Hp → Prop} (h : te σ H fun x H1 => ∃ a, x = .ref a ∧ (∃ xs, SqL K H1 a xs) ∧ R (Itl K a) H1) : iList K te σ H R := h
theorem k_itl {R : Addr → Prop} (h1 : SqL K H a xs) (h : R a) : ∃ b, V.ref a = .ref b ∧ (∃ xs, SqL K H b xs) ∧ R b := ⟨a, rfl, ⟨xs, h1⟩, h⟩
theorem k_itT {R : It → Hp → Prop} (h : te σ H fun x H1 => ∃ a, x = .ref a ∧ (∃ xs, SqT K H1 a xs) ∧ R (Itt K a) H1) : iTup K te σ H R := h
theorem k_itt {R : Addr → Prop} (h1 : SqT K H a xs) (h : R a) : ∃ b, V.ref a = .ref b ∧ (∃ xs, SqT K H b xs) ∧ R b := ⟨a, rfl, ⟨xs, h1⟩, h⟩
theorem k_itR1 {R : It → Hp → Prop} (h : tl σ H fun vs H1 => ∃ j : Int, vs = [.int j] ∧ -(2 ^ 62) ≤ j ∧ j < 2 ^ 62 ∧ R (Itr 0 j.toNat) H1) : iRng1 tl σ H R := h
theorem k_itr1 {R : Int → Prop} (h1 : -(2 ^ 62) ≤ j ∧ j < 2 ^ 62) (h : R j) : ∃ k : Int, [V.int j] = [.int k] ∧ -(2 ^ 62) ≤ k ∧ k < 2 ^ 62 ∧ R k := ⟨j, rfl, h1.1, h1.2, h⟩
theorem k_itR2 {R : It → Hp → Prop} (h : tl σ H fun vs H1 => ∃ i j : Int, vs = [.int i, .int j] ∧ (-(2 ^ 62) ≤ i ∧ i < 2 ^ 62 ∧ -(2 ^ 62) ≤ j ∧ j < 2 ^ 62) ∧ R (Itr i (j - i).toNat) H1) : iRng2 tl σ H R := h
theorem k_itr2 {R : Int → Int → Prop} (h1 : -(2 ^ 62) ≤ i ∧ i < 2 ^ 62 ∧ -(2 ^ 62) ≤ j ∧ j < 2 ^ 62) (h : R i j) : ∃ k m : Int, [V.int i, V.int j] = [.int k, .int m] ∧ (-(2 ^ 62) ≤ k ∧ k < 2 ^ 62 ∧ -(2 ^ 62) ≤ m ∧ m < 2 ^ 62) ∧ R k m := ⟨i, j, rfl, h1, h⟩
theorem k_dnew (q : ∀ p, H p = none → Q (.ref p) (upd H p (.dK []))) : tDNewK σ H Q := q
end
/-! ### ifs -/
theorem k_ite {b : Bool} {A B : Prop} (h1 : b = true → A) (h2 : b = false → B) : if b = true then A else B := by
  cases b with
  | true => rw [if_pos rfl]; exact h1 rfl
  | false => rw [if_neg Bool.false_ne_true]; exact h2 rfl
theorem k_itd {p A B : Prop} [Decidable p] (h1 : p → A) (h2 : ¬ p → B) : if decide p = true then A else B := k_ite (fun h => h1 (of_decide_eq_true h)) fun h => h2 (of_decide_eq_false h)
theorem k_itn {p A B : Prop} [Decidable p] (h1 : ¬ p → A) (h2 : p → B) : if (!decide p) = true then A else B := k_ite (fun h => h1 (of_decide_eq_false (by simpa using h))) fun h => h2 (of_decide_eq_true (by simpa using h))
theorem k_pos {p A B : Prop} [Decidable p] (hp : p) (h1 : A) : if decide p = true then A else B := k_itd (fun _ => h1) fun h => absurd hp h
theorem k_neg' {p A B : Prop} [Decidable p] (hp : ¬ p) (h1 : B) : if decide p = true then A else B := k_itd (fun h => absurd h hp) fun _ => h1
theorem k_npos {p A B : Prop} [Decidable p] (hp : ¬ p) (h1 : A) : if (!decide p) = true then A else B := k_itn (fun _ => h1) fun h => absurd h hp
theorem k_nneg {p A B : Prop} [Decidable p] (hp : p) (h1 : B) : if (!decide p) = true then A else B := k_itn (fun h => absurd hp h) fun _ => h1
theorem k_tt {A B : Prop} (h : A) : if true = true then A else B := by rw [if_pos rfl]; exact h
theorem k_ff {A B : Prop} (h : B) : if false = true then A else B := by rw [if_neg Bool.false_ne_true]; exact h
/-! ### what stands where -/
theorem up_new {H : Hp} {a p : Addr} {o u : HO} (hp : H p = none) (h : H a = some o) : upd H p u a = some o := same_new hp _ _ h
theorem up_ne {H : Hp} {a p : Addr} {o u : HO} (n : a ≠ p) (h : H a = some o) : upd H p u a = some o := by rw [upd_ne n]; exact h
theorem Keep.at {d a : Addr} {H H' : Hp} {o : HO} (k : Keep d H H') (n : a ≠ d) (h : H a = some o) : H' a = some o := k a o n h
end Ls
namespace Ls
theorem hu1 {n : Nat} (h : n + 66 < PySem.cLine) : n + 1 < PySem.cLine := by omega
end Ls
namespace Ls
open PySem PySem.Spec PyProof.Rows L2
theorem k_body {t : TS} {D : Ends} {s0 s1 : L2.St} {H : Hp} (e : s0 = s1) (h : t D s1 H) : t D s0 H := e ▸ h
end Ls
namespace Ls
open PySem PySem.Spec PyProof.Rows L2
/-- a statement, then the rest, the ways joined between: M what holds there -/
def tCut (t u : TS) : TS := fun D σ H => ∃ M : L2.St → Hp → Prop, t { D with nx := M } σ H ∧ ∀ σ' H', M σ' H' → u D σ' H'
theorem k_cut {t u : TS} {D : Ends} {σ : L2.St} {H : Hp} (M : L2.St → Hp → Prop) (h1 : t { D with nx := M } σ H) (h2 : ∀ σ' H', M σ' H' → u D σ' H') : tCut t u D σ H := ⟨M, h1, h2⟩
end Ls
namespace Ls
open PySem PySem.Spec PyProof.Rows L2
theorem pss_cut {X : Cx} {st : Stmt} {rest : List Stmt} {t u : TS} (h1 : PS X st t) (h2 : PSs X rest u) : PSs X (st :: rest) (tCut t u) := by
  refine ⟨fun pins s σ H D I h => ?_⟩
  obtain ⟨M, hm, hu⟩ := h
  refine wpAny_execs_cons (thn (h1.run pins s σ H { D with nx := M } I hm) fun f s1 q => ?_)
  cases f with
  | next =>
    obtain ⟨σ', H', I', q⟩ := q
    exact h2.run pins s1 σ' H' D I' (hu σ' H' q)
  | ret v => exact q
  | brk => exact q
  | cont => exact q
theorem k_powL {H : Hp} {Q : VK} {i j v : Int} (h1 : 0 ≤ j ∧ j ≤ 1000000) (h3 : i.natAbs < 2 ^ 64) (e : i ^ j.toNat = v) (q : Q (.int v) H) : rI CPow (fun i j => .int (i ^ j.toNat)) (.int i) (.int j) H Q := ⟨i, j, rfl, rfl, ⟨h1.1, h1.2, h3⟩, by
  show Q (.int (i ^ j.toNat)) H
  rw [e]
  exact q⟩
end Ls
namespace Ls
open PySem PySem.Spec PyProof.Rows L2
theorem pe_ty {X : Cx} {x : Str} {pos : Pos} (T : String) (hg : Gl X x) (hm : X.mg x = none) (hv : bootBuiltins x = some (.type T)) (hn : x ≠ "__name__" := by decide) (hd : (x == ("__debug__" : Str)) = false := by decide) : PE X (.Name x pos) (tC (.ty T)) := pe_bltn (v := .ty T) hg hm hv rfl hn hd
end Ls
namespace Ls
open PySem PySem.Spec PyProof.Rows L2
theorem pe_gc {X : Cx} {x : Str} {pos : Pos} {v : V} (hg : Gl X x) (h : ∃ u, X.mg x = some u ∧ RelV v u) (hd : (x == ("__debug__" : Str)) = false := by decide) : PE X (.Name x pos) (tC v) := by
  obtain ⟨u, h1, h2⟩ := h
  exact pe_glob hg h1 h2 hd
end Ls
namespace Ls
open PySem PySem.Spec PyProof.Rows L2
/-! ### slots by number -/
section
variable {H : Hp} {Q : VK} {D : Ends} {te : TE} {v x : V} {s : L2.St} {R : L2.St → Hp → Prop} {o0 o1 o2 o3 o4 o5 o6 o7 o8 o9 o10 o11 o12 o13 o14 o15 o16 o17 o18 o19 o20 o21 o22 o23 o24 o25 o26 o27 o28 o29 o30 o31 o32 o33 o34 o35 o36 o37 o38 o39 o40 o41 o42 o43 : Option V}
theorem k_v0 (q : Q v H) : tVar 0 (some v :: s) H Q := ⟨v, rfl, q⟩
theorem k_s0 (q : te (o0 :: s) H fun x H1 => D.nx (some x :: s) H1) : tAsg te (gName 0) D (o0 :: s) H := q
theorem k_g0 (q : R (some x :: s) H) : gName 0 x (o0 :: s) H R := q
theorem k_v1 (q : Q v H) : tVar 1 (o0 :: some v :: s) H Q := ⟨v, rfl, q⟩
theorem k_s1 (q : te (o0 :: o1 :: s) H fun x H1 => D.nx (o0 :: some x :: s) H1) : tAsg te (gName 1) D (o0 :: o1 :: s) H := q
theorem k_g1 (q : R (o0 :: some x :: s) H) : gName 1 x (o0 :: o1 :: s) H R := q
theorem k_v2 (q : Q v H) : tVar 2 (o0 :: o1 :: some v :: s) H Q := ⟨v, rfl, q⟩
theorem k_s2 (q : te (o0 :: o1 :: o2 :: s) H fun x H1 => D.nx (o0 :: o1 :: some x :: s) H1) : tAsg te (gName 2) D (o0 :: o1 :: o2 :: s) H := q
theorem k_g2 (q : R (o0 :: o1 :: some x :: s) H) : gName 2 x (o0 :: o1 :: o2 :: s) H R := q
theorem k_v3 (q : Q v H) : tVar 3 (o0 :: o1 :: o2 :: some v :: s) H Q := ⟨v, rfl, q⟩
theorem k_s3 (q : te (o0 :: o1 :: o2 :: o3 :: s) H fun x H1 => D.nx (o0 :: o1 :: o2 :: some x :: s) H1) : tAsg te (gName 3) D (o0 :: o1 :: o2 :: o3 :: s) H := q
theorem k_g3 (q : R (o0 :: o1 :: o2 :: some x :: s) H) : gName 3 x (o0 :: o1 :: o2 :: o3 :: s) H R := q
theorem k_v4 (q : Q v H) : tVar 4 (o0 :: o1 :: o2 :: o3 :: some v :: s) H Q := ⟨v, rfl, q⟩
theorem k_s4 (q : te (o0 :: o1 :: o2 :: o3 :: o4 :: s) H fun x H1 => D.nx (o0 :: o1 :: o2 :: o3 :: some x :: s) H1) : tAsg te (gName 4) D (o0 :: o1 :: o2 :: o3 :: o4 :: s) H := q
theorem k_g4 (q : R (o0 :: o1 :: o2 :: o3 :: some x :: s) H) : gName 4 x (o0 :: o1 :: o2 :: o3 :: o4 :: s) H R := q
theorem k_v5 (q : Q v H) : tVar 5 (o0 :: o1 :: o2 :: o3 :: o4 :: some v :: s) H Q := ⟨v, rfl, q⟩
theorem k_s5 (q : te (o0 :: o1 :: o2 :: o3 :: o4 :: o5 :: s) H fun x H1 => D.nx (o0 :: o1 :: o2 :: o3 :: o4 :: some x :: s) H1) : tAsg te (gName 5) D (o0 :: o1 :: o2 :: o3 :: o4 :: o5 :: s) H := q
theorem k_g5 (q : R (o0 :: o1 :: o2 :: o3 :: o4 :: some x :: s) H) : gName 5 x (o0 :: o1 :: o2 :: o3 :: o4 :: o5 :: s) H R := q
theorem k_v6 (q : Q v H) : tVar 6 (o0 :: o1 :: o2 :: o3 :: o4 :: o5 :: some v :: s) H Q := ⟨v, rfl, q⟩
theorem k_s6 (q : te (o0 :: o1 :: o2 :: o3 :: o4 :: o5 :: o6 :: s) H fun x H1 => D.nx (o0 :: o1 :: o2 :: o3 :: o4 :: o5 :: some x :: s) H1) : tAsg te (gName 6) D (o0 :: o1 :: o2 :: o3 :: o4 :: o5 :: o6 :: s) H := q
theorem k_g6 (q : R (o0 :: o1 :: o2 :: o3 :: o4 :: o5 :: some x :: s) H) : gName 6 x (o0 :: o1 :: o2 :: o3 :: o4 :: o5 :: o6 :: s) H R := q
theorem k_v7 (q : Q v H) : tVar 7 (o0 :: o1 :: o2 :: o3 :: o4 :: o5 :: o6 :: some v :: s) H Q := ⟨v, rfl, q⟩
theorem k_s7 (q : te (o0 :: o1 :: o2 :: o3 :: o4 :: o5 :: o6 :: o7 :: s) H fun x H1 => D.nx (o0 :: o1 :: o2 :: o3 :: o4 :: o5 :: o6 :: some x :: s) H1) : tAsg te (gName 7) D (o0 :: o1 :: o2 :: o3 :: o4 :: o5 :: o6 :: o7 :: s) H := q
theorem k_g7 (q : R (o0 :: o1 :: o2 :: o3 :: o4 :: o5 :: o6 :: some x :: s) H) : gName 7 x (o0 :: o1 :: o2 :: o3 :: o4 :: o5 :: o6 :: o7 :: s) H R := q
theorem k_v8 (q : Q v H) : tVar 8 (o0 :: o1 :: o2 :: o3 :: o4 :: o5 :: o6 :: o7 :: some v :: s) H Q := ⟨v, rfl, q⟩
theorem k_s8 (q : te (o0 :: o1 :: o2 :: o3 :: o4 :: o5 :: o6 :: o7 :: o8 :: s) H fun x H1 => D.nx (o0 :: o1 :: o2 :: o3 :: o4 :: o5 :: o6 :: o7 :: some x :: s) H1) : tAsg te (gName 8) D (o0 :: o1 :: o2 :: o3 :: o4 :: o5 :: o6 :: o7 :: o8 :: s) H := q
theorem k_g8 (q : R (o0 :: o1 :: o2 :: o3 :: o4 :: o5 :: o6 :: o7 :: some x :: s) H) : gName 8 x (o0 :: o1 :: o2 :: o3 :: o4 :: o5 :: o6 :: o7 :: o8 :: s) H R := q
theorem k_v9 (q : Q v H) : tVar 9 (o0 :: o1 :: o2 :: o3 :: o4 :: o5 :: o6 :: o7 :: o8 :: some v :: s) H Q := ⟨v, rfl, q⟩
theorem k_s9 (q : te (o0 :: o1 :: o2 :: o3 :: o4 :: o5 :: o6 :: o7 :: o8 :: o9 :: s) H fun x H1 => D.nx (o0 :: o1 :: o2 :: o3 :: o4 :: o5 :: o6 :: o7 :: o8 :: some x :: s) H1) : tAsg te (gName 9) D (o0 :: o1 :: o2 :: o3 :: o4 :: o5 :: o6 :: o7 :: o8 :: o9 :: s) H := q
theorem k_g9 (q : R (o0 :: o1 :: o2 :: o3 :: o4 :: o5 :: o6 :: o7 :: o8 :: some x :: s) H) : gName 9 x (o0 :: o1 :: o2 :: o3 :: o4 :: o5 :: o6 :: o7 :: o8 :: o9 :: s) H R := q
theorem k_v10 (q : Q v H) : tVar 10 (o0 :: o1 :: o2 :: o3 :: o4 :: o5 :: o6 :: o7 :: o8 :: o9 :: some v :: s) H Q := ⟨v, rfl, q⟩
theorem k_s10 (q : te (o0 :: o1 :: o2 :: o3 :: o4 :: o5 :: o6 :: o7 :: o8 :: o9 :: o10 :: s) H fun x H1 => D.nx (o0 :: o1 :: o2 :: o3 :: o4 :: o5 :: o6 :: o7 :: o8 :: o9 :: some x :: s) H1) : tAsg te (gName 10) D (o0 :: o1 :: o2 :: o3 :: o4 :: o5 :: o6 :: o7 :: o8 :: o9 :: o10 :: s) H := q
theorem k_g10 (q : R (o0 :: o1 :: o2 :: o3 :: o4 :: o5 :: o6 :: o7 :: o8 :: o9 :: some x :: s) H) : gName 10 x (o0 :: o1 :: o2 :: o3 :: o4 :: o5 :: o6 :: o7 :: o8 :: o9 :: o10 :: s) H R := q
theorem k_v11 (q : Q v H) : tVar 11 (o0 :: o1 :: o2 :: o3 :: o4 :: o5 :: o6 :: o7 :: o8 :: o9 :: o10 :: some v :: s) H Q := ⟨v, rfl, q⟩
theorem k_s11 (q : te (o0 :: o1 :: o2 :: o3 :: o4 :: o5 :: o6 :: o7 :: o8 :: o9 :: o10 :: o11 :: s) H fun x H1 => D.nx (o0 :: o1 :: o2 :: o3 :: o4 :: o5 :: o6 :: o7 :: o8 :: o9 :: o10 :: some x :: s) H1) : tAsg te (gName 11) D (o0 :: o1 :: o2 :: o3 :: o4 :: o5 :: o6 :: o7 :: o8 :: o9 :: o10 :: o11 :: s) H := q
theorem k_g11 (q : R (o0 :: o1 :: o2 :: o3 :: o4 :: o5 :: o6 :: o7 :: o8 :: o9 :: o10 :: some x :: s) H) : gName 11 x (o0 :: o1 :: o2 :: o3 :: o4 :: o5 :: o6 :: o7 :: o8 :: o9 :: o10 :: o11 :: s) H R := q
theorem k_v12 (q : Q v H) : tVar 12 (o0 :: o1 :: o2 :: o3 :: o4 :: o5 :: o6 :: o7 :: o8 :: o9 :: o10 :: o11 :: some v :: s) H Q := ⟨v, rfl, q⟩
theorem k_s12 (q : te (o0 :: o1 :: o2 :: o3 :: o4 :: o5 :: o6 :: o7 :: o8 :: o9 :: o10 :: o11 :: o12 :: s) H fun x H1 => D.nx (o0 :: o1 :: o2 :: o3 :: o4 :: o5 :: o6 :: o7 :: o8 :: o9 :: o10 :: o11 :: some x :: s) H1) : tAsg te (gName 12) D (o0 :: o1 :: o2 :: o3 :: o4 :: o5 :: o6 :: o7 :: o8 :: o9 :: o10 :: o11 :: o12 :: s) H := q
theorem k_g12 (q : R (o0 :: o1 :: o2 :: o3 :: o4 :: o5 :: o6 :: o7 :: o8 :: o9 :: o10 :: o11 :: some x :: s) H) : gName 12 x (o0 :: o1 :: o2 :: o3 :: o4 :: o5 :: o6 :: o7 :: o8 :: o9 :: o10 :: o11 :: o12 :: s) H R := q
theorem k_v13 (q : Q v H) : tVar 13 (o0 :: o1 :: o2 :: o3 :: o4 :: o5 :: o6 :: o7 :: o8 :: o9 :: o10 :: o11 :: o12 :: some v :: s) H Q := ⟨v, rfl, q⟩
theorem k_s13 (q : te (o0 :: o1 :: o2 :: o3 :: o4 :: o5 :: o6 :: o7 :: o8 :: o9 :: o10 :: o11 :: o12 :: o13 :: s) H fun x H1 => D.nx (o0 :: o1 :: o2 :: o3 :: o4 :: o5 :: o6 :: o7 :: o8 :: o9 :: o10 :: o11 :: o12 :: some x :: s) H1) : tAsg te (gName 13) D (o0 :: o1 :: o2 :: o3 :: o4 :: o5 :: o6 :: o7 :: o8 :: o9 :: o10 :: o11 :: o12 :: o13 :: s) H := q
theorem k_g13 (q : R (o0 :: o1 :: o2 :: o3 :: o4 :: o5 :: o6 :: o7 :: o8 :: o9 :: o10 :: o11 :: o12 :: some x :: s) H) : gName 13 x (o0 :: o1 :: o2 :: o3 :: o4 :: o5 :: o6 :: o7 :: o8 :: o9 :: o10 :: o11 :: o12 :: o13 :: s) H R := q
theorem k_v14 (q : Q v H) : tVar 14 (o0 :: o1 :: o2 :: o3 :: o4 :: o5 :: o6 :: o7 :: o8 :: o9 :: o10 :: o11 :: o12 :: o13 :: some v :: s) H Q := ⟨v, rfl, q⟩
theorem k_s14 (q : te (o0 :: o1 :: o2 :: o3 :: o4 :: o5 :: o6 :: o7 :: o8 :: o9 :: o10 :: o11 :: o12 :: o13 :: o14 :: s) H fun x H1 => D.nx (o0 :: o1 :: o2 :: o3 :: o4 :: o5 :: o6 :: o7 :: o8 :: o9 :: o10 :: o11 :: o12 :: o13 :: some x :: s) H1) : tAsg te (gName 14) D (o0 :: o1 :: o2 :: o3 :: o4 :: o5 :: o6 :: o7 :: o8 :: o9 :: o10 :: o11 :: o12 :: o13 :: o14 :: s) H := q
theorem k_g14 (q : R (o0 :: o1 :: o2 :: o3 :: o4 :: o5 :: o6 :: o7 :: o8 :: o9 :: o10 :: o11 :: o12 :: o13 :: some x :: s) H) : gName 14 x (o0 :: o1 :: o2 :: o3 :: o4 :: o5 :: o6 :: o7 :: o8 :: o9 :: o10 :: o11 :: o12 :: o13 :: o14 :: s) H R := q
theorem k_v15 (q : Q v H) : tVar 15 (o0 :: o1 :: o2 :: o3 :: o4 :: o5 :: o6 :: o7 :: o8 :: o9 :: o10 :: o11 :: o12 :: o13 :: o14 :: some v :: s) H Q := ⟨v, rfl, q⟩
theorem k_s15 (q : te (o0 :: o1 :: o2 :: o3 :: o4 :: o5 :: o6 :: o7 :: o8 :: o9 :: o10 :: o11 :: o12 :: o13 :: o14 :: o15 :: s) H fun x H1 => D.nx (o0 :: o1 :: o2 :: o3 :: o4 :: o5 :: o6 :: o7 :: o8 :: o9 :: o10 :: o11 :: o12 :: o13 :: o14 :: some x :: s) H1) : tAsg te (gName 15) D (o0 :: o1 :: o2 :: o3 :: o4 :: o5 :: o6 :: o7 :: o8 :: o9 :: o10 :: o11 :: o12 :: o13 :: o14 :: o15 :: s) H := q
theorem k_g15 (q : R (o0 :: o1 :: o2 :: o3 :: o4 :: o5 :: o6 :: o7 :: o8 :: o9 :: o10 :: o11 :: o12 :: o13 :: o14 :: some x :: s) H) : gName 15 x (o0 :: o1 :: o2 :: o3 :: o4 :: o5 :: o6 :: o7 :: o8 :: o9 :: o10 :: o11 :: o12 :: o13 :: o14 :: o15 :: s) H R := q
theorem k_v16 (q : Q v H) : tVar 16 (o0 :: o1 :: o2 :: o3 :: o4 :: o5 :: o6 :: o7 :: o8 :: o9 :: o10 :: o11 :: o12 :: o13 :: o14 :: o15 :: some v :: s) H Q := ⟨v, rfl, q⟩
theorem k_s16 (q : te (o0 :: o1 :: o2 :: o3 :: o4 :: o5 :: o6 :: o7 :: o8 :: o9 :: o10 :: o11 :: o12 :: o13 :: o14 :: o15 :: o16 :: s) H fun x H1 => D.nx (o0 :: o1 :: o2 :: o3 :: o4 :: o5 :: o6 :: o7 :: o8 :: o9 :: o10 :: o11 :: o12 :: o13 :: o14 :: o15 :: some x :: s) H1) : tAsg te (gName 16) D (o0 :: o1 :: o2 :: o3 :: o4 :: o5 :: o6 :: o7 :: o8 :: o9 :: o10 :: o11 :: o12 :: o13 :: o14 :: o15 :: o16 :: s) H := q
theorem k_g16 (q : R (o0 :: o1 :: o2 :: o3 :: o4 :: o5 :: o6 :: o7 :: o8 :: o9 :: o10 :: o11 :: o12 :: o13 :: o14 :: o15 :: some x :: s) H) : gName 16 x (o0 :: o1 :: o2 :: o3 :: o4 :: o5 :: o6 :: o7 :: o8 :: o9 :: o10 :: o11 :: o12 :: o13 :: o14 :: o15 :: o16 :: s) H R := q
theorem k_v17 (q : Q v H) : tVar 17 (o0 :: o1 :: o2 :: o3 :: o4 :: o5 :: o6 :: o7 :: o8 :: o9 :: o10 :: o11 :: o12 :: o13 :: o14 :: o15 :: o16 :: some v :: s) H Q := ⟨v, rfl, q⟩
theorem k_s17 (q : te (o0 :: o1 :: o2 :: o3 :: o4 :: o5 :: o6 :: o7 :: o8 :: o9 :: o10 :: o11 :: o12 :: o13 :: o14 :: o15 :: o16 :: o17 :: s) H fun x H1 => D.nx (o0 :: o1 :: o2 :: o3 :: o4 :: o5 :: o6 :: o7 :: o8 :: o9 :: o10 :: o11 :: o12 :: o13 :: o14 :: o15 :: o16 :: some x :: s) H1) : tAsg te (gName 17) D (o0 :: o1 :: o2 :: o3 :: o4 :: o5 :: o6 :: o7 :: o8 :: o9 :: o10 :: o11 :: o12 :: o13 :: o14 :: o15 :: o16 :: o17 :: s) H := q
theorem k_g17 (q : R (o0 :: o1 :: o2 :: o3 :: o4 :: o5 :: o6 :: o7 :: o8 :: o9 :: o10 :: o11 :: o12 :: o13 :: o14 :: o15 :: o16 :: some x :: s) H) : gName 17 x (o0 :: o1 :: o2 :: o3 :: o4 :: o5 :: o6 :: o7 :: o8 :: o9 :: o10 :: o11 :: o12 :: o13 :: o14 :: o15 :: o16 :: o17 :: s) H R := q
theorem k_v18 (q : Q v H) : tVar 18 (o0 :: o1 :: o2 :: o3 :: o4 :: o5 :: o6 :: o7 :: o8 :: o9 :: o10 :: o11 :: o12 :: o13 :: o14 :: o15 :: o16 :: o17 :: some v :: s) H Q := ⟨v, rfl, q⟩
theorem k_s18 (q : te (o0 :: o1 :: o2 :: o3 :: o4 :: o5 :: o6 :: o7 :: o8 :: o9 :: o10 :: o11 :: o12 :: o13 :: o14 :: o15 :: o16 :: o17 :: o18 :: s) H fun x H1 => D.nx (o0 :: o1 :: o2 :: o3 :: o4 :: o5 :: o6 :: o7 :: o8 :: o9 :: o10 :: o11 :: o12 :: o13 :: o14 :: o15 :: o16 :: o17 :: some x :: s) H1) : tAsg te (gName 18) D (o0 :: o1 :: o2 :: o3 :: o4 :: o5 :: o6 :: o7 :: o8 :: o9 :: o10 :: o11 :: o12 :: o13 :: o14 :: o15 :: o16 :: o17 :: o18 :: s) H := q
theorem k_g18 (q : R (o0 :: o1 :: o2 :: o3 :: o4 :: o5 :: o6 :: o7 :: o8 :: o9 :: o10 :: o11 :: o12 :: o13 :: o14 :: o15 :: o16 :: o17 :: some x :: s) H) : gName 18 x (o0 :: o1 :: o2 :: o3 :: o4 :: o5 :: o6 :: o7 :: o8 :: o9 :: o10 :: o11 :: o12 :: o13 :: o14 :: o15 :: o16 :: o17 :: o18 :: s) H R := q
theorem k_v19 (q : Q v H) : tVar 19 (o0 :: o1 :: o2 :: o3 :: o4 :: o5 :: o6 :: o7 :: o8 :: o9 :: o10 :: o11 :: o12 :: o13 :: o14 :: o15 :: o16 :: o17 :: o18 :: some v :: s) H Q := ⟨v, rfl, q⟩
theorem k_s19 (q : te (o0 :: o1 :: o2 :: o3 :: o4 :: o5 :: o6 :: o7 :: o8 :: o9 :: o10 :: o11 :: o12 :: o13 :: o14 :: o15 :: o16 :: o17 :: o18 :: o19 :: s) H fun x H1 => D.nx (o0 :: o1 :: o2 :: o3 :: o4 :: o5 :: o6 :: o7 :: o8 :: o9 :: o10 :: o11 :: o12 :: o13 :: o14 :: o15 :: o16 :: o17 :: o18 :: some x :: s) H1) : tAsg te (gName 19) D (o0 :: o1 :: o2 :: o3 :: o4 :: o5 :: o6 :: o7 :: o8 :: o9 :: o10 :: o11 :: o12 :: o13 :: o14 :: o15 :: o16 :: o17 :: o18 :: o19 :: s) H := q
theorem k_g19 (q : R (o0 :: o1 :: o2 :: o3 :: o4 :: o5 :: o6 :: o7 :: o8 :: o9 :: o10 :: o11 :: o12 :: o13 :: o14 :: o15 :: o16 :: o17 :: o18 :: some x :: s) H) : gName 19 x (o0 :: o1 :: o2 :: o3 :: o4 :: o5 :: o6 :: o7 :: o8 :: o9 :: o10 :: o11 :: o12 :: o13 :: o14 :: o15 :: o16 :: o17 :: o18 :: o19 :: s) H R := q
theorem k_v20 (q : Q v H) : tVar 20 (o0 :: o1 :: o2 :: o3 :: o4 :: o5 :: o6 :: o7 :: o8 :: o9 :: o10 :: o11 :: o12 :: o13 :: o14 :: o15 :: o16 :: o17 :: o18 :: o19 :: some v :: s) H Q := ⟨v, rfl, q⟩
theorem k_s20 (q : te (o0 :: o1 :: o2 :: o3 :: o4 :: o5 :: o6 :: o7 :: o8 :: o9 :: o10 :: o11 :: o12 :: o13 :: o14 :: o15 :: o16 :: o17 :: o18 :: o19 :: o20 :: s) H fun x H1 => D.nx (o0 :: o1 :: o2 :: o3 :: o4 :: o5 :: o6 :: o7 :: o8 :: o9 :: o10 :: o11 :: o12 :: o13 :: o14 :: o15 :: o16 :: o17 :: o18 :: o19 :: some x :: s) H1) : tAsg te (gName 20) D (o0 :: o1 :: o2 :: o3 :: o4 :: o5 :: o6 :: o7 :: o8 :: o9 :: o10 :: o11 :: o12 :: o13 :: o14 :: o15 :: o16 :: o17 :: o18 :: o19 :: o20 :: s) H := q
theorem k_g20 (q : R (o0 :: o1 :: o2 :: o3 :: o4 :: o5 :: o6 :: o7 :: o8 :: o9 :: o10 :: o11 :: o12 :: o13 :: o14 :: o15 :: o16 :: o17 :: o18 :: o19 :: some x :: s) H) : gName 20 x (o0 :: o1 :: o2 :: o3 :: o4 :: o5 :: o6 :: o7 :: o8 :: o9 :: o10 :: o11 :: o12 :: o13 :: o14 :: o15 :: o16 :: o17 :: o18 :: o19 :: o20 :: s) H R := q
theorem k_v21 (q : Q v H) : tVar 21 (o0 :: o1 :: o2 :: o3 :: o4 :: o5 :: o6 :: o7 :: o8 :: o9 :: o10 :: o11 :: o12 :: o13 :: o14 :: o15 :: o16 :: o17 :: o18 :: o19 :: o20 :: some v :: s) H Q := ⟨v, rfl, q⟩
theorem k_s21 (q : te (o0 :: o1 :: o2 :: o3 :: o4 :: o5 :: o6 :: o7 :: o8 :: o9 :: o10 :: o11 :: o12 :: o13 :: o14 :: o15 :: o16 :: o17 :: o18 :: o19 :: o20 :: o21 :: s) H fun x H1 => D.nx (o0 :: o1 :: o2 :: o3 :: o4 :: o5 :: o6 :: o7 :: o8 :: o9 :: o10 :: o11 :: o12 :: o13 :: o14 :: o15 :: o16 :: o17 :: o18 :: o19 :: o20 :: some x :: s) H1) : tAsg te (gName 21) D (o0 :: o1 :: o2 :: o3 :: o4 :: o5 :: o6 :: o7 :: o8 :: o9 :: o10 :: o11 :: o12 :: o13 :: o14 :: o15 :: o16 :: o17 :: o18 :: o19 :: o20 :: o21 :: s) H := q
theorem k_g21 (q : R (o0 :: o1 :: o2 :: o3 :: o4 :: o5 :: o6 :: o7 :: o8 :: o9 :: o10 :: o11 :: o12 :: o13 :: o14 :: o15 :: o16 :: o17 :: o18 :: o19 :: o20 :: some x :: s) H) : gName 21 x (o0 :: o1 :: o2 :: o3 :: o4 :: o5 :: o6 :: o7 :: o8 :: o9 :: o10 :: o11 :: o12 :: o13 :: o14 :: o15 :: o16 :: o17 :: o18 :: o19 :: o20 :: o21 :: s) H R := q
theorem k_v22 (q : Q v H) : tVar 22 (o0 :: o1 :: o2 :: o3 :: o4 :: o5 :: o6 :: o7 :: o8 :: o9 :: o10 :: o11 :: o12 :: o13 :: o14 :: o15 :: o16 :: o17 :: o18 :: o19 :: o20 :: o21 :: some v :: s) H Q := ⟨v, rfl, q⟩
theorem k_s22 (q : te (o0 :: o1 :: o2 :: o3 :: o4 :: o5 :: o6 :: o7 :: o8 :: o9 :: o10 :: o11 :: o12 :: o13 :: o14 :: o15 :: o16 :: o17 :: o18 :: o19 :: o20 :: o21 :: o22 :: s) H fun x H1 => D.nx (o0 :: o1 :: o2 :: o3 :: o4 :: o5 :: o6 :: o7 :: o8 :: o9 :: o10 :: o11 :: o12 :: o13 :: o14 :: o15 :: o16 :: o17 :: o18 :: o19 :: o20 :: o21 :: some x :: s) H1) : tAsg te (gName 22) D (o0 :: o1 :: o2 :: o3 :: o4 :: o5 :: o6 :: o7 :: o8 :: o9 :: o10 :: o11 :: o12 :: o13 :: o14 :: o15 :: o16 :: o17 :: o18 :: o19 :: o20 :: o21 :: o22 :: s) H := q
theorem k_g22 (q : R (o0 :: o1 :: o2 :: o3 :: o4 :: o5 :: o6 :: o7 :: o8 :: o9 :: o10 :: o11 :: o12 :: o13 :: o14 :: o15 :: o16 :: o17 :: o18 :: o19 :: o20 :: o21 :: some x :: s) H) : gName 22 x (o0 :: o1 :: o2 :: o3 :: o4 :: o5 :: o6 :: o7 :: o8 :: o9 :: o10 :: o11 :: o12 :: o13 :: o14 :: o15 :: o16 :: o17 :: o18 :: o19 :: o20 :: o21 :: o22 :: s) H R := q
theorem k_v23 (q : Q v H) : tVar 23 (o0 :: o1 :: o2 :: o3 :: o4 :: o5 :: o6 :: o7 :: o8 :: o9 :: o10 :: o11 :: o12 :: o13 :: o14 :: o15 :: o16 :: o17 :: o18 :: o19 :: o20 :: o21 :: o22 :: some v :: s) H Q := ⟨v, rfl, q⟩
theorem k_s23 (q : te (o0 :: o1 :: o2 :: o3 :: o4 :: o5 :: o6 :: o7 :: o8 :: o9 :: o10 :: o11 :: o12 :: o13 :: o14 :: o15 :: o16 :: o17 :: o18 :: o19 :: o20 :: o21 :: o22 :: o23 :: s) H fun x H1 => D.nx (o0 :: o1 :: o2 :: o3 :: o4 :: o5 :: o6 :: o7 :: o8 :: o9 :: o10 :: o11 :: o12 :: o13 :: o14 :: o15 :: o16 :: o17 :: o18 :: o19 :: o20 :: o21 :: o22 :: some x :: s) H1) : tAsg te (gName 23) D (o0 :: o1 :: o2 :: o3 :: o4 :: o5 :: o6 :: o7 :: o8 :: o9 :: o10 :: o11 :: o12 :: o13 :: o14 :: o15 :: o16 :: o17 :: o18 :: o19 :: o20 :: o21 :: o22 :: o23 :: s) H := q
theorem k_g23 (q : R (o0 :: o1 :: o2 :: o3 :: o4 :: o5 :: o6 :: o7 :: o8 :: o9 :: o10 :: o11 :: o12 :: o13 :: o14 :: o15 :: o16 :: o17 :: o18 :: o19 :: o20 :: o21 :: o22 :: some x :: s) H) : gName 23 x (o0 :: o1 :: o2 :: o3 :: o4 :: o5 :: o6 :: o7 :: o8 :: o9 :: o10 :: o11 :: o12 :: o13 :: o14 :: o15 :: o16 :: o17 :: o18 :: o19 :: o20 :: o21 :: o22 :: o23 :: s) H R := q
theorem k_v24 (q : Q v H) : tVar 24 (o0 :: o1 :: o2 :: o3 :: o4 :: o5 :: o6 :: o7 :: o8 :: o9 :: o10 :: o11 :: o12 :: o13 :: o14 :: o15 :: o16 :: o17 :: o18 :: o19 :: o20 :: o21 :: o22 :: o23 :: some v :: s) H Q := ⟨v, rfl, q⟩
theorem k_s24 (q : te (o0 :: o1 :: o2 :: o3 :: o4 :: o5 :: o6 :: o7 :: o8 :: o9 :: o10 :: o11 :: o12 :: o13 :: o14 :: o15 :: o16 :: o17 :: o18 :: o19 :: o20 :: o21 :: o22 :: o23 :: o24 :: s) H fun x H1 => D.nx (o0 :: o1 :: o2 :: o3 :: o4 :: o5 :: o6 :: o7 :: o8 :: o9 :: o10 :: o11 :: o12 :: o13 :: o14 :: o15 :: o16 :: o17 :: o18 :: o19 :: o20 :: o21 :: o22 :: o23 :: some x :: s) H1) : tAsg te (gName 24) D (o0 :: o1 :: o2 :: o3 :: o4 :: o5 :: o6 :: o7 :: o8 :: o9 :: o10 :: o11 :: o12 :: o13 :: o14 :: o15 :: o16 :: o17 :: o18 :: o19 :: o20 :: o21 :: o22 :: o23 :: o24 :: s) H := q
theorem k_g24 (q : R (o0 :: o1 :: o2 :: o3 :: o4 :: o5 :: o6 :: o7 :: o8 :: o9 :: o10 :: o11 :: o12 :: o13 :: o14 :: o15 :: o16 :: o17 :: o18 :: o19 :: o20 :: o21 :: o22 :: o23 :: some x :: s) H) : gName 24 x (o0 :: o1 :: o2 :: o3 :: o4 :: o5 :: o6 :: o7 :: o8 :: o9 :: o10 :: o11 :: o12 :: o13 :: o14 :: o15 :: o16 :: o17 :: o18 :: o19 :: o20 :: o21 :: o22 :: o23 :: o24 :: s) H R := q
theorem k_v25 (q : Q v H) : tVar 25 (o0 :: o1 :: o2 :: o3 :: o4 :: o5 :: o6 :: o7 :: o8 :: o9 :: o10 :: o11 :: o12 :: o13 :: o14 :: o15 :: o16 :: o17 :: o18 :: o19 :: o20 :: o21 :: o22 :: o23 :: o24 :: some v :: s) H Q := ⟨v, rfl, q⟩
theorem k_s25 (q : te (o0 :: o1 :: o2 :: o3 :: o4 :: o5 :: o6 :: o7 :: o8 :: o9 :: o10 :: o11 :: o12 :: o13 :: o14 :: o15 :: o16 :: o17 :: o18 :: o19 :: o20 :: o21 :: o22 :: o23 :: o24 :: o25 :: s) H fun x H1 => D.nx (o0 :: o1 :: o2 :: o3 :: o4 :: o5 :: o6 :: o7 :: o8 :: o9 :: o10 :: o11 :: o12 :: o13 :: o14 :: o15 :: o16 :: o17 :: o18 :: o19 :: o20 :: o21 :: o22 :: o23 :: o24 :: some x :: s) H1) : tAsg te (gName 25) D (o0 :: o1 :: o2 :: o3 :: o4 :: o5 :: o6 :: o7 :: o8 :: o9 :: o10 :: o11 :: o12 :: o13 :: o14 :: o15 :: o16 :: o17 :: o18 :: o19 :: o20 :: o21 :: o22 :: o23 :: o24 :: o25 :: s) H := q
theorem k_g25 (q : R (o0 :: o1 :: o2 :: o3 :: o4 :: o5 :: o6 :: o7 :: o8 :: o9 :: o10 :: o11 :: o12 :: o13 :: o14 :: o15 :: o16 :: o17 :: o18 :: o19 :: o20 :: o21 :: o22 :: o23 :: o24 :: some x :: s) H) : gName 25 x (o0 :: o1 :: o2 :: o3 :: o4 :: o5 :: o6 :: o7 :: o8 :: o9 :: o10 :: o11 :: o12 :: o13 :: o14 :: o15 :: o16 :: o17 :: o18 :: o19 :: o20 :: o21 :: o22 :: o23 :: o24 :: o25 :: s) H R := q
theorem k_v26 (q : Q v H) : tVar 26 (o0 :: o1 :: o2 :: o3 :: o4 :: o5 :: o6 :: o7 :: o8 :: o9 :: o10 :: o11 :: o12 :: o13 :: o14 :: o15 :: o16 :: o17 :: o18 :: o19 :: o20 :: o21 :: o22 :: o23 :: o24 :: o25 :: some v :: s) H Q := ⟨v, rfl, q⟩
theorem k_s26 (q : te (o0 :: o1 :: o2 :: o3 :: o4 :: o5 :: o6 :: o7 :: o8 :: o9 :: o10 :: o11 :: o12 :: o13 :: o14 :: o15 :: o16 :: o17 :: o18 :: o19 :: o20 :: o21 :: o22 :: o23 :: o24 :: o25 :: o26 :: s) H fun x H1 => D.nx (o0 :: o1 :: o2 :: o3 :: o4 :: o5 :: o6 :: o7 :: o8 :: o9 :: o10 :: o11 :: o12 :: o13 :: o14 :: o15 :: o16 :: o17 :: o18 :: o19 :: o20 :: o21 :: o22 :: o23 :: o24 :: o25 :: some x :: s) H1) : tAsg te (gName 26) D (o0 :: o1 :: o2 :: o3 :: o4 :: o5 :: o6 :: o7 :: o8 :: o9 :: o10 :: o11 :: o12 :: o13 :: o14 :: o15 :: o16 :: o17 :: o18 :: o19 :: o20 :: o21 :: o22 :: o23 :: o24 :: o25 :: o26 :: s) H := q
theorem k_g26 (q : R (o0 :: o1 :: o2 :: o3 :: o4 :: o5 :: o6 :: o7 :: o8 :: o9 :: o10 :: o11 :: o12 :: o13 :: o14 :: o15 :: o16 :: o17 :: o18 :: o19 :: o20 :: o21 :: o22 :: o23 :: o24 :: o25 :: some x :: s) H) : gName 26 x (o0 :: o1 :: o2 :: o3 :: o4 :: o5 :: o6 :: o7 :: o8 :: o9 :: o10 :: o11 :: o12 :: o13 :: o14 :: o15 :: o16 :: o17 :: o18 :: o19 :: o20 :: o21 :: o22 :: o23 :: o24 :: o25 :: o26 :: s) H R := q
theorem k_v27 (q : Q v H) : tVar 27 (o0 :: o1 :: o2 :: o3 :: o4 :: o5 :: o6 :: o7 :: o8 :: o9 :: o10 :: o11 :: o12 :: o13 :: o14 :: o15 :: o16 :: o17 :: o18 :: o19 :: o20 :: o21 :: o22 :: o23 :: o24 :: o25 :: o26 :: some v :: s) H Q := ⟨v, rfl, q⟩
theorem k_s27 (q : te (o0 :: o1 :: o2 :: o3 :: o4 :: o5 :: o6 :: o7 :: o8 :: o9 :: o10 :: o11 :: o12 :: o13 :: o14 :: o15 :: o16 :: o17 :: o18 :: o19 :: o20 :: o21 :: o22 :: o23 :: o24 :: o25 :: o26 :: o27 :: s) H fun x H1 => D.nx (o0 :: o1 :: o2 :: o3 :: o4 :: o5 :: o6 :: o7 :: o8 :: o9 :: o10 :: o11 :: o12 :: o13 :: o14 :: o15 :: o16 :: o17 :: o18 :: o19 :: o20 :: o21 :: o22 :: o23 :: o24 :: o25 :: o26 :: some x :: s) H1) : tAsg te (gName 27) D (o0 :: o1 :: o2 :: o3 :: o4 :: o5 :: o6 :: o7 :: o8 :: o9 :: o10 :: o11 :: o12 :: o13 :: o14 :: o15 :: o16 :: o17 :: o18 :: o19 :: o20 :: o21 :: o22 :: o23 :: o24 :: o25 :: o26 :: o27 :: s) H := q
theorem k_g27 (q : R (o0 :: o1 :: o2 :: o3 :: o4 :: o5 :: o6 :: o7 :: o8 :: o9 :: o10 :: o11 :: o12 :: o13 :: o14 :: o15 :: o16 :: o17 :: o18 :: o19 :: o20 :: o21 :: o22 :: o23 :: o24 :: o25 :: o26 :: some x :: s) H) : gName 27 x (o0 :: o1 :: o2 :: o3 :: o4 :: o5 :: o6 :: o7 :: o8 :: o9 :: o10 :: o11 :: o12 :: o13 :: o14 :: o15 :: o16 :: o17 :: o18 :: o19 :: o20 :: o21 :: o22 :: o23 :: o24 :: o25 :: o26 :: o27 :: s) H R := q
theorem k_v28 (q : Q v H) : tVar 28 (o0 :: o1 :: o2 :: o3 :: o4 :: o5 :: o6 :: o7 :: o8 :: o9 :: o10 :: o11 :: o12 :: o13 :: o14 :: o15 :: o16 :: o17 :: o18 :: o19 :: o20 :: o21 :: o22 :: o23 :: o24 :: o25 :: o26 :: o27 :: some v :: s) H Q := ⟨v, rfl, q⟩
theorem k_s28 (q : te (o0 :: o1 :: o2 :: o3 :: o4 :: o5 :: o6 :: o7 :: o8 :: o9 :: o10 :: o11 :: o12 :: o13 :: o14 :: o15 :: o16 :: o17 :: o18 :: o19 :: o20 :: o21 :: o22 :: o23 :: o24 :: o25 :: o26 :: o27 :: o28 :: s) H fun x H1 => D.nx (o0 :: o1 :: o2 :: o3 :: o4 :: o5 :: o6 :: o7 :: o8 :: o9 :: o10 :: o11 :: o12 :: o13 :: o14 :: o15 :: o16 :: o17 :: o18 :: o19 :: o20 :: o21 :: o22 :: o23 :: o24 :: o25 :: o26 :: o27 :: some x :: s) H1) : tAsg te (gName 28) D (o0 :: o1 :: o2 :: o3 :: o4 :: o5 :: o6 :: o7 :: o8 :: o9 :: o10 :: o11 :: o12 :: o13 :: o14 :: o15 :: o16 :: o17 :: o18 :: o19 :: o20 :: o21 :: o22 :: o23 :: o24 :: o25 :: o26 :: o27 :: o28 :: s) H := q
theorem k_g28 (q : R (o0 :: o1 :: o2 :: o3 :: o4 :: o5 :: o6 :: o7 :: o8 :: o9 :: o10 :: o11 :: o12 :: o13 :: o14 :: o15 :: o16 :: o17 :: o18 :: o19 :: o20 :: o21 :: o22 :: o23 :: o24 :: o25 :: o26 :: o27 :: some x :: s) H) : gName 28 x (o0 :: o1 :: o2 :: o3 :: o4 :: o5 :: o6 :: o7 :: o8 :: o9 :: o10 :: o11 :: o12 :: o13 :: o14 :: o15 :: o16 :: o17 :: o18 :: o19 :: o20 :: o21 :: o22 :: o23 :: o24 :: o25 :: o26 :: o27 :: o28 :: s) H R := q
theorem k_v29 (q : Q v H) : tVar 29 (o0 :: o1 :: o2 :: o3 :: o4 :: o5 :: o6 :: o7 :: o8 :: o9 :: o10 :: o11 :: o12 :: o13 :: o14 :: o15 :: o16 :: o17 :: o18 :: o19 :: o20 :: o21 :: o22 :: o23 :: o24 :: o25 :: o26 :: o27 :: o28 :: some v :: s) H Q := ⟨v, rfl, q⟩
theorem k_s29 (q : te (o0 :: o1 :: o2 :: o3 :: o4 :: o5 :: o6 :: o7 :: o8 :: o9 :: o10 :: o11 :: o12 :: o13 :: o14 :: o15 :: o16 :: o17 :: o18 :: o19 :: o20 :: o21 :: o22 :: o23 :: o24 :: o25 :: o26 :: o27 :: o28 :: o29 :: s) H fun x H1 => D.nx (o0 :: o1 :: o2 :: o3 :: o4 :: o5 :: o6 :: o7 :: o8 :: o9 :: o10 :: o11 :: o12 :: o13 :: o14 :: o15 :: o16 :: o17 :: o18 :: o19 :: o20 :: o21 :: o22 :: o23 :: o24 :: o25 :: o26 :: o27 :: o28 :: some x :: s) H1) : tAsg te (gName 29) D (o0 :: o1 :: o2 :: o3 :: o4 :: o5 :: o6 :: o7 :: o8 :: o9 :: o10 :: o11 :: o12 :: o13 :: o14 :: o15 :: o16 :: o17 :: o18 :: o19 :: o20 :: o21 :: o22 :: o23 :: o24 :: o25 :: o26 :: o27 :: o28 :: o29 :: s) H := q
theorem k_g29 (q : R (o0 :: o1 :: o2 :: o3 :: o4 :: o5 :: o6 :: o7 :: o8 :: o9 :: o10 :: o11 :: o12 :: o13 :: o14 :: o15 :: o16 :: o17 :: o18 :: o19 :: o20 :: o21 :: o22 :: o23 :: o24 :: o25 :: o26 :: o27 :: o28 :: some x :: s) H) : gName 29 x (o0 :: o1 :: o2 :: o3 :: o4 :: o5 :: o6 :: o7 :: o8 :: o9 :: o10 :: o11 :: o12 :: o13 :: o14 :: o15 :: o16 :: o17 :: o18 :: o19 :: o20 :: o21 :: o22 :: o23 :: o24 :: o25 :: o26 :: o27 :: o28 :: o29 :: s) H R := q
theorem k_v30 (q : Q v H) : tVar 30 (o0 :: o1 :: o2 :: o3 :: o4 :: o5 :: o6 :: o7 :: o8 :: o9 :: o10 :: o11 :: o12 :: o13 :: o14 :: o15 :: o16 :: o17 :: o18 :: o19 :: o20 :: o21 :: o22 :: o23 :: o24 :: o25 :: o26 :: o27 :: o28 :: o29 :: some v :: s) H Q := ⟨v, rfl, q⟩
theorem k_s30 (q : te (o0 :: o1 :: o2 :: o3 :: o4 :: o5 :: o6 :: o7 :: o8 :: o9 :: o10 :: o11 :: o12 :: o13 :: o14 :: o15 :: o16 :: o17 :: o18 :: o19 :: o20 :: o21 :: o22 :: o23 :: o24 :: o25 :: o26 :: o27 :: o28 :: o29 :: o30 :: s) H fun x H1 => D.nx (o0 :: o1 :: o2 :: o3 :: o4 :: o5 :: o6 :: o7 :: o8 :: o9 :: o10 :: o11 :: o12 :: o13 :: o14 :: o15 :: o16 :: o17 :: o18 :: o19 :: o20 :: o21 :: o22 :: o23 :: o24 :: o25 :: o26 :: o27 :: o28 :: o29 :: some x :: s) H1) : tAsg te (gName 30) D (o0 :: o1 :: o2 :: o3 :: o4 :: o5 :: o6 :: o7 :: o8 :: o9 :: o10 :: o11 :: o12 :: o13 :: o14 :: o15 :: o16 :: o17 :: o18 :: o19 :: o20 :: o21 :: o22 :: o23 :: o24 :: o25 :: o26 :: o27 :: o28 :: o29 :: o30 :: s) H := q
theorem k_g30 (q : R (o0 :: o1 :: o2 :: o3 :: o4 :: o5 :: o6 :: o7 :: o8 :: o9 :: o10 :: o11 :: o12 :: o13 :: o14 :: o15 :: o16 :: o17 :: o18 :: o19 :: o20 :: o21 :: o22 :: o23 :: o24 :: o25 :: o26 :: o27 :: o28 :: o29 :: some x :: s) H) : gName 30 x (o0 :: o1 :: o2 :: o3 :: o4 :: o5 :: o6 :: o7 :: o8 :: o9 :: o10 :: o11 :: o12 :: o13 :: o14 :: o15 :: o16 :: o17 :: o18 :: o19 :: o20 :: o21 :: o22 :: o23 :: o24 :: o25 :: o26 :: o27 :: o28 :: o29 :: o30 :: s) H R := q
theorem k_v31 (q : Q v H) : tVar 31 (o0 :: o1 :: o2 :: o3 :: o4 :: o5 :: o6 :: o7 :: o8 :: o9 :: o10 :: o11 :: o12 :: o13 :: o14 :: o15 :: o16 :: o17 :: o18 :: o19 :: o20 :: o21 :: o22 :: o23 :: o24 :: o25 :: o26 :: o27 :: o28 :: o29 :: o30 :: some v :: s) H Q := ⟨v, rfl, q⟩
theorem k_s31 (q : te (o0 :: o1 :: o2 :: o3 :: o4 :: o5 :: o6 :: o7 :: o8 :: o9 :: o10 :: o11 :: o12 :: o13 :: o14 :: o15 :: o16 :: o17 :: o18 :: o19 :: o20 :: o21 :: o22 :: o23 :: o24 :: o25 :: o26 :: o27 :: o28 :: o29 :: o30 :: o31 :: s) H fun x H1 => D.nx (o0 :: o1 :: o2 :: o3 :: o4 :: o5 :: o6 :: o7 :: o8 :: o9 :: o10 :: o11 :: o12 :: o13 :: o14 :: o15 :: o16 :: o17 :: o18 :: o19 :: o20 :: o21 :: o22 :: o23 :: o24 :: o25 :: o26 :: o27 :: o28 :: o29 :: o30 :: some x :: s) H1) : tAsg te (gName 31) D (o0 :: o1 :: o2 :: o3 :: o4 :: o5 :: o6 :: o7 :: o8 :: o9 :: o10 :: o11 :: o12 :: o13 :: o14 :: o15 :: o16 :: o17 :: o18 :: o19 :: o20 :: o21 :: o22 :: o23 :: o24 :: o25 :: o26 :: o27 :: o28 :: o29 :: o30 :: o31 :: s) H := q
theorem k_g31 (q : R (o0 :: o1 :: o2 :: o3 :: o4 :: o5 :: o6 :: o7 :: o8 :: o9 :: o10 :: o11 :: o12 :: o13 :: o14 :: o15 :: o16 :: o17 :: o18 :: o19 :: o20 :: o21 :: o22 :: o23 :: o24 :: o25 :: o26 :: o27 :: o28 :: o29 :: o30 :: some x :: s) H) : gName 31 x (o0 :: o1 :: o2 :: o3 :: o4 :: o5 :: o6 :: o7 :: o8 :: o9 :: o10 :: o11 :: o12 :: o13 :: o14 :: o15 :: o16 :: o17 :: o18 :: o19 :: o20 :: o21 :: o22 :: o23 :: o24 :: o25 :: o26 :: o27 :: o28 :: o29 :: o30 :: o31 :: s) H R := q
theorem k_v32 (q : Q v H) : tVar 32 (o0 :: o1 :: o2 :: o3 :: o4 :: o5 :: o6 :: o7 :: o8 :: o9 :: o10 :: o11 :: o12 :: o13 :: o14 :: o15 :: o16 :: o17 :: o18 :: o19 :: o20 :: o21 :: o22 :: o23 :: o24 :: o25 :: o26 :: o27 :: o28 :: o29 :: o30 :: o31 :: some v :: s) H Q := ⟨v, rfl, q⟩
theorem k_s32 (q : te (o0 :: o1 :: o2 :: o3 :: o4 :: o5 :: o6 :: o7 :: o8 :: o9 :: o10 :: o11 :: o12 :: o13 :: o14 :: o15 :: o16 :: o17 :: o18 :: o19 :: o20 :: o21 :: o22 :: o23 :: o24 :: o25 :: o26 :: o27 :: o28 :: o29 :: o30 :: o31 :: o32 :: s) H fun x H1 => D.nx (o0 :: o1 :: o2 :: o3 :: o4 :: o5 :: o6 :: o7 :: o8 :: o9 :: o10 :: o11 :: o12 :: o13 :: o14 :: o15 :: o16 :: o17 :: o18 :: o19 :: o20 :: o21 :: o22 :: o23 :: o24 :: o25 :: o26 :: o27 :: o28 :: o29 :: o30 :: o31 :: some x :: s) H1) : tAsg te (gName 32) D (o0 :: o1 :: o2 :: o3 :: o4 :: o5 :: o6 :: o7 :: o8 :: o9 :: o10 :: o11 :: o12 :: o13 :: o14 :: o15 :: o16 :: o17 :: o18 :: o19 :: o20 :: o21 :: o22 :: o23 :: o24 :: o25 :: o26 :: o27 :: o28 :: o29 :: o30 :: o31 :: o32 :: s) H := q
theorem k_g32 (q : R (o0 :: o1 :: o2 :: o3 :: o4 :: o5 :: o6 :: o7 :: o8 :: o9 :: o10 :: o11 :: o12 :: o13 :: o14 :: o15 :: o16 :: o17 :: o18 :: o19 :: o20 :: o21 :: o22 :: o23 :: o24 :: o25 :: o26 :: o27 :: o28 :: o29 :: o30 :: o31 :: some x :: s) H) : gName 32 x (o0 :: o1 :: o2 :: o3 :: o4 :: o5 :: o6 :: o7 :: o8 :: o9 :: o10 :: o11 :: o12 :: o13 :: o14 :: o15 :: o16 :: o17 :: o18 :: o19 :: o20 :: o21 :: o22 :: o23 :: o24 :: o25 :: o26 :: o27 :: o28 :: o29 :: o30 :: o31 :: o32 :: s) H R := q
theorem k_v33 (q : Q v H) : tVar 33 (o0 :: o1 :: o2 :: o3 :: o4 :: o5 :: o6 :: o7 :: o8 :: o9 :: o10 :: o11 :: o12 :: o13 :: o14 :: o15 :: o16 :: o17 :: o18 :: o19 :: o20 :: o21 :: o22 :: o23 :: o24 :: o25 :: o26 :: o27 :: o28 :: o29 :: o30 :: o31 :: o32 :: some v :: s) H Q := ⟨v, rfl, q⟩
theorem k_s33 (q : te (o0 :: o1 :: o2 :: o3 :: o4 :: o5 :: o6 :: o7 :: o8 :: o9 :: o10 :: o11 :: o12 :: o13 :: o14 :: o15 :: o16 :: o17 :: o18 :: o19 :: o20 :: o21 :: o22 :: o23 :: o24 :: o25 :: o26 :: o27 :: o28 :: o29 :: o30 :: o31 :: o32 :: o33 :: s) H fun x H1 => D.nx (o0 :: o1 :: o2 :: o3 :: o4 :: o5 :: o6 :: o7 :: o8 :: o9 :: o10 :: o11 :: o12 :: o13 :: o14 :: o15 :: o16 :: o17 :: o18 :: o19 :: o20 :: o21 :: o22 :: o23 :: o24 :: o25 :: o26 :: o27 :: o28 :: o29 :: o30 :: o31 :: o32 :: some x :: s) H1) : tAsg te (gName 33) D (o0 :: o1 :: o2 :: o3 :: o4 :: o5 :: o6 :: o7 :: o8 :: o9 :: o10 :: o11 :: o12 :: o13 :: o14 :: o15 :: o16 :: o17 :: o18 :: o19 :: o20 :: o21 :: o22 :: o23 :: o24 :: o25 :: o26 :: o27 :: o28 :: o29 :: o30 :: o31 :: o32 :: o33 :: s) H := q
theorem k_g33 (q : R (o0 :: o1 :: o2 :: o3 :: o4 :: o5 :: o6 :: o7 :: o8 :: o9 :: o10 :: o11 :: o12 :: o13 :: o14 :: o15 :: o16 :: o17 :: o18 :: o19 :: o20 :: o21 :: o22 :: o23 :: o24 :: o25 :: o26 :: o27 :: o28 :: o29 :: o30 :: o31 :: o32 :: some x :: s) H) : gName 33 x (o0 :: o1 :: o2 :: o3 :: o4 :: o5 :: o6 :: o7 :: o8 :: o9 :: o10 :: o11 :: o12 :: o13 :: o14 :: o15 :: o16 :: o17 :: o18 :: o19 :: o20 :: o21 :: o22 :: o23 :: o24 :: o25 :: o26 :: o27 :: o28 :: o29 :: o30 :: o31 :: o32 :: o33 :: s) H R := q
theorem k_v34 (q : Q v H) : tVar 34 (o0 :: o1 :: o2 :: o3 :: o4 :: o5 :: o6 :: o7 :: o8 :: o9 :: o10 :: o11 :: o12 :: o13 :: o14 :: o15 :: o16 :: o17 :: o18 :: o19 :: o20 :: o21 :: o22 :: o23 :: o24 :: o25 :: o26 :: o27 :: o28 :: o29 :: o30 :: o31 :: o32 :: o33 :: some v :: s) H Q := ⟨v, rfl, q⟩
theorem k_s34 (q : te (o0 :: o1 :: o2 :: o3 :: o4 :: o5 :: o6 :: o7 :: o8 :: o9 :: o10 :: o11 :: o12 :: o13 :: o14 :: o15 :: o16 :: o17 :: o18 :: o19 :: o20 :: o21 :: o22 :: o23 :: o24 :: o25 :: o26 :: o27 :: o28 :: o29 :: o30 :: o31 :: o32 :: o33 :: o34 :: s) H fun x H1 => D.nx (o0 :: o1 :: o2 :: o3 :: o4 :: o5 :: o6 :: o7 :: o8 :: o9 :: o10 :: o11 :: o12 :: o13 :: o14 :: o15 :: o16 :: o17 :: o18 :: o19 :: o20 :: o21 :: o22 :: o23 :: o24 :: o25 :: o26 :: o27 :: o28 :: o29 :: o30 :: o31 :: o32 :: o33 :: some x :: s) H1) : tAsg te (gName 34) D (o0 :: o1 :: o2 :: o3 :: o4 :: o5 :: o6 :: o7 :: o8 :: o9 :: o10 :: o11 :: o12 :: o13 :: o14 :: o15 :: o16 :: o17 :: o18 :: o19 :: o20 :: o21 :: o22 :: o23 :: o24 :: o25 :: o26 :: o27 :: o28 :: o29 :: o30 :: o31 :: o32 :: o33 :: o34 :: s) H := q
theorem k_g34 (q : R (o0 :: o1 :: o2 :: o3 :: o4 :: o5 :: o6 :: o7 :: o8 :: o9 :: o10 :: o11 :: o12 :: o13 :: o14 :: o15 :: o16 :: o17 :: o18 :: o19 :: o20 :: o21 :: o22 :: o23 :: o24 :: o25 :: o26 :: o27 :: o28 :: o29 :: o30 :: o31 :: o32 :: o33 :: some x :: s) H) : gName 34 x (o0 :: o1 :: o2 :: o3 :: o4 :: o5 :: o6 :: o7 :: o8 :: o9 :: o10 :: o11 :: o12 :: o13 :: o14 :: o15 :: o16 :: o17 :: o18 :: o19 :: o20 :: o21 :: o22 :: o23 :: o24 :: o25 :: o26 :: o27 :: o28 :: o29 :: o30 :: o31 :: o32 :: o33 :: o34 :: s) H R := q
theorem k_v35 (q : Q v H) : tVar 35 (o0 :: o1 :: o2 :: o3 :: o4 :: o5 :: o6 :: o7 :: o8 :: o9 :: o10 :: o11 :: o12 :: o13 :: o14 :: o15 :: o16 :: o17 :: o18 :: o19 :: o20 :: o21 :: o22 :: o23 :: o24 :: o25 :: o26 :: o27 :: o28 :: o29 :: o30 :: o31 :: o32 :: o33 :: o34 :: some v :: s) H Q := ⟨v, rfl, q⟩
theorem k_s35 (q : te (o0 :: o1 :: o2 :: o3 :: o4 :: o5 :: o6 :: o7 :: o8 :: o9 :: o10 :: o11 :: o12 :: o13 :: o14 :: o15 :: o16 :: o17 :: o18 :: o19 :: o20 :: o21 :: o22 :: o23 :: o24 :: o25 :: o26 :: o27 :: o28 :: o29 :: o30 :: o31 :: o32 :: o33 :: o34 :: o35 :: s) H fun x H1 => D.nx (o0 :: o1 :: o2 :: o3 :: o4 :: o5 :: o6 :: o7 :: o8 :: o9 :: o10 :: o11 :: o12 :: o13 :: o14 :: o15 :: o16 :: o17 :: o18 :: o19 :: o20 :: o21 :: o22 :: o23 :: o24 :: o25 :: o26 :: o27 :: o28 :: o29 :: o30 :: o31 :: o32 :: o33 :: o34 :: some x :: s) H1) : tAsg te (gName 35) D (o0 :: o1 :: o2 :: o3 :: o4 :: o5 :: o6 :: o7 :: o8 :: o9 :: o10 :: o11 :: o12 :: o13 :: o14 :: o15 :: o16 :: o17 :: o18 :: o19 :: o20 :: o21 :: o22 :: o23 :: o24 :: o25 :: o26 :: o27 :: o28 :: o29 :: o30 :: o31 :: o32 :: o33 :: o34 :: o35 :: s) H := q
theorem k_g35 (q : R (o0 :: o1 :: o2 :: o3 :: o4 :: o5 :: o6 :: o7 :: o8 :: o9 :: o10 :: o11 :: o12 :: o13 :: o14 :: o15 :: o16 :: o17 :: o18 :: o19 :: o20 :: o21 :: o22 :: o23 :: o24 :: o25 :: o26 :: o27 :: o28 :: o29 :: o30 :: o31 :: o32 :: o33 :: o34 :: some x :: s) H) : gName 35 x (o0 :: o1 :: o2 :: o3 :: o4 :: o5 :: o6 :: o7 :: o8 :: o9 :: o10 :: o11 :: o12 :: o13 :: o14 :: o15 :: o16 :: o17 :: o18 :: o19 :: o20 :: o21 :: o22 :: o23 :: o24 :: o25 :: o26 :: o27 :: o28 :: o29 :: o30 :: o31 :: o32 :: o33 :: o34 :: o35 :: s) H R := q
theorem k_v36 (q : Q v H) : tVar 36 (o0 :: o1 :: o2 :: o3 :: o4 :: o5 :: o6 :: o7 :: o8 :: o9 :: o10 :: o11 :: o12 :: o13 :: o14 :: o15 :: o16 :: o17 :: o18 :: o19 :: o20 :: o21 :: o22 :: o23 :: o24 :: o25 :: o26 :: o27 :: o28 :: o29 :: o30 :: o31 :: o32 :: o33 :: o34 :: o35 :: some v :: s) H Q := ⟨v, rfl, q⟩
theorem k_s36 (q : te (o0 :: o1 :: o2 :: o3 :: o4 :: o5 :: o6 :: o7 :: o8 :: o9 :: o10 :: o11 :: o12 :: o13 :: o14 :: o15 :: o16 :: o17 :: o18 :: o19 :: o20 :: o21 :: o22 :: o23 :: o24 :: o25 :: o26 :: o27 :: o28 :: o29 :: o30 :: o31 :: o32 :: o33 :: o34 :: o35 :: o36 :: s) H fun x H1 => D.nx (o0 :: o1 :: o2 :: o3 :: o4 :: o5 :: o6 :: o7 :: o8 :: o9 :: o10 :: o11 :: o12 :: o13 :: o14 :: o15 :: o16 :: o17 :: o18 :: o19 :: o20 :: o21 :: o22 :: o23 :: o24 :: o25 :: o26 :: o27 :: o28 :: o29 :: o30 :: o31 :: o32 :: o33 :: o34 :: o35 :: some x :: s) H1) : tAsg te (gName 36) D (o0 :: o1 :: o2 :: o3 :: o4 :: o5 :: o6 :: o7 :: o8 :: o9 :: o10 :: o11 :: o12 :: o13 :: o14 :: o15 :: o16 :: o17 :: o18 :: o19 :: o20 :: o21 :: o22 :: o23 :: o24 :: o25 :: o26 :: o27 :: o28 :: o29 :: o30 :: o31 :: o32 :: o33 :: o34 :: o35 :: o36 :: s) H := q
theorem k_g36 (q : R (o0 :: o1 :: o2 :: o3 :: o4 :: o5 :: o6 :: o7 :: o8 :: o9 :: o10 :: o11 :: o12 :: o13 :: o14 :: o15 :: o16 :: o17 :: o18 :: o19 :: o20 :: o21 :: o22 :: o23 :: o24 :: o25 :: o26 :: o27 :: o28 :: o29 :: o30 :: o31 :: o32 :: o33 :: o34 :: o35 :: some x :: s) H) : gName 36 x (o0 :: o1 :: o2 :: o3 :: o4 :: o5 :: o6 :: o7 :: o8 :: o9 :: o10 :: o11 :: o12 :: o13 :: o14 :: o15 :: o16 :: o17 :: o18 :: o19 :: o20 :: o21 :: o22 :: o23 :: o24 :: o25 :: o26 :: o27 :: o28 :: o29 :: o30 :: o31 :: o32 :: o33 :: o34 :: o35 :: o36 :: s) H R := q
theorem k_v37 (q : Q v H) : tVar 37 (o0 :: o1 :: o2 :: o3 :: o4 :: o5 :: o6 :: o7 :: o8 :: o9 :: o10 :: o11 :: o12 :: o13 :: o14 :: o15 :: o16 :: o17 :: o18 :: o19 :: o20 :: o21 :: o22 :: o23 :: o24 :: o25 :: o26 :: o27 :: o28 :: o29 :: o30 :: o31 :: o32 :: o33 :: o34 :: o35 :: o36 :: some v :: s) H Q := ⟨v, rfl, q⟩
theorem k_s37 (q : te (o0 :: o1 :: o2 :: o3 :: o4 :: o5 :: o6 :: o7 :: o8 :: o9 :: o10 :: o11 :: o12 :: o13 :: o14 :: o15 :: o16 :: o17 :: o18 :: o19 :: o20 :: o21 :: o22 :: o23 :: o24 :: o25 :: o26 :: o27 :: o28 :: o29 :: o30 :: o31 :: o32 :: o33 :: o34 :: o35 :: o36 :: o37 :: s) H fun x H1 => D.nx (o0 :: o1 :: o2 :: o3 :: o4 :: o5 :: o6 :: o7 :: o8 :: o9 :: o10 :: o11 :: o12 :: o13 :: o14 :: o15 :: o16 :: o17 :: o18 :: o19 :: o20 :: o21 :: o22 :: o23 :: o24 :: o25 :: o26 :: o27 :: o28 :: o29 :: o30 :: o31 :: o32 :: o33 :: o34 :: o35 :: o36 :: some x :: s) H1) : tAsg te (gName 37) D (o0 :: o1 :: o2 :: o3 :: o4 :: o5 :: o6 :: o7 :: o8 :: o9 :: o10 :: o11 :: o12 :: o13 :: o14 :: o15 :: o16 :: o17 :: o18 :: o19 :: o20 :: o21 :: o22 :: o23 :: o24 :: o25 :: o26 :: o27 :: o28 :: o29 :: o30 :: o31 :: o32 :: o33 :: o34 :: o35 :: o36 :: o37 :: s) H := q
theorem k_g37 (q : R (o0 :: o1 :: o2 :: o3 :: o4 :: o5 :: o6 :: o7 :: o8 :: o9 :: o10 :: o11 :: o12 :: o13 :: o14 :: o15 :: o16 :: o17 :: o18 :: o19 :: o20 :: o21 :: o22 :: o23 :: o24 :: o25 :: o26 :: o27 :: o28 :: o29 :: o30 :: o31 :: o32 :: o33 :: o34 :: o35 :: o36 :: some x :: s) H) : gName 37 x (o0 :: o1 :: o2 :: o3 :: o4 :: o5 :: o6 :: o7 :: o8 :: o9 :: o10 :: o11 :: o12 :: o13 :: o14 :: o15 :: o16 :: o17 :: o18 :: o19 :: o20 :: o21 :: o22 :: o23 :: o24 :: o25 :: o26 :: o27 :: o28 :: o29 :: o30 :: o31 :: o32 :: o33 :: o34 :: o35 :: o36 :: o37 :: s) H R := q
theorem k_v38 (q : Q v H) : tVar 38 (o0 :: o1 :: o2 :: o3 :: o4 :: o5 :: o6 :: o7 :: o8 :: o9 :: o10 :: o11 :: o12 :: o13 :: o14 :: o15 :: o16 :: o17 :: o18 :: o19 :: o20 :: o21 :: o22 :: o23 :: o24 :: o25 :: o26 :: o27 :: o28 :: o29 :: o30 :: o31 :: o32 :: o33 :: o34 :: o35 :: o36 :: o37 :: some v :: s) H Q := ⟨v, rfl, q⟩
theorem k_s38 (q : te (o0 :: o1 :: o2 :: o3 :: o4 :: o5 :: o6 :: o7 :: o8 :: o9 :: o10 :: o11 :: o12 :: o13 :: o14 :: o15 :: o16 :: o17 :: o18 :: o19 :: o20 :: o21 :: o22 :: o23 :: o24 :: o25 :: o26 :: o27 :: o28 :: o29 :: o30 :: o31 :: o32 :: o33 :: o34 :: o35 :: o36 :: o37 :: o38 :: s) H fun x H1 => D.nx (o0 :: o1 :: o2 :: o3 :: o4 :: o5 :: o6 :: o7 :: o8 :: o9 :: o10 :: o11 :: o12 :: o13 :: o14 :: o15 :: o16 :: o17 :: o18 :: o19 :: o20 :: o21 :: o22 :: o23 :: o24 :: o25 :: o26 :: o27 :: o28 :: o29 :: o30 :: o31 :: o32 :: o33 :: o34 :: o35 :: o36 :: o37 :: some x :: s) H1) : tAsg te (gName 38) D (o0 :: o1 :: o2 :: o3 :: o4 :: o5 :: o6 :: o7 :: o8 :: o9 :: o10 :: o11 :: o12 :: o13 :: o14 :: o15 :: o16 :: o17 :: o18 :: o19 :: o20 :: o21 :: o22 :: o23 :: o24 :: o25 :: o26 :: o27 :: o28 :: o29 :: o30 :: o31 :: o32 :: o33 :: o34 :: o35 :: o36 :: o37 :: o38 :: s) H := q
theorem k_g38 (q : R (o0 :: o1 :: o2 :: o3 :: o4 :: o5 :: o6 :: o7 :: o8 :: o9 :: o10 :: o11 :: o12 :: o13 :: o14 :: o15 :: o16 :: o17 :: o18 :: o19 :: o20 :: o21 :: o22 :: o23 :: o24 :: o25 :: o26 :: o27 :: o28 :: o29 :: o30 :: o31 :: o32 :: o33 :: o34 :: o35 :: o36 :: o37 :: some x :: s) H) : gName 38 x (o0 :: o1 :: o2 :: o3 :: o4 :: o5 :: o6 :: o7 :: o8 :: o9 :: o10 :: o11 :: o12 :: o13 :: o14 :: o15 :: o16 :: o17 :: o18 :: o19 :: o20 :: o21 :: o22 :: o23 :: o24 :: o25 :: o26 :: o27 :: o28 :: o29 :: o30 :: o31 :: o32 :: o33 :: o34 :: o35 :: o36 :: o37 :: o38 :: s) H R := q
theorem k_v39 (q : Q v H) : tVar 39 (o0 :: o1 :: o2 :: o3 :: o4 :: o5 :: o6 :: o7 :: o8 :: o9 :: o10 :: o11 :: o12 :: o13 :: o14 :: o15 :: o16 :: o17 :: o18 :: o19 :: o20 :: o21 :: o22 :: o23 :: o24 :: o25 :: o26 :: o27 :: o28 :: o29 :: o30 :: o31 :: o32 :: o33 :: o34 :: o35 :: o36 :: o37 :: o38 :: some v :: s) H Q := ⟨v, rfl, q⟩
theorem k_s39 (q : te (o0 :: o1 :: o2 :: o3 :: o4 :: o5 :: o6 :: o7 :: o8 :: o9 :: o10 :: o11 :: o12 :: o13 :: o14 :: o15 :: o16 :: o17 :: o18 :: o19 :: o20 :: o21 :: o22 :: o23 :: o24 :: o25 :: o26 :: o27 :: o28 :: o29 :: o30 :: o31 :: o32 :: o33 :: o34 :: o35 :: o36 :: o37 :: o38 :: o39 :: s) H fun x H1 => D.nx (o0 :: o1 :: o2 :: o3 :: o4 :: o5 :: o6 :: o7 :: o8 :: o9 :: o10 :: o11 :: o12 :: o13 :: o14 :: o15 :: o16 :: o17 :: o18 :: o19 :: o20 :: o21 :: o22 :: o23 :: o24 :: o25 :: o26 :: o27 :: o28 :: o29 :: o30 :: o31 :: o32 :: o33 :: o34 :: o35 :: o36 :: o37 :: o38 :: some x :: s) H1) : tAsg te (gName 39) D (o0 :: o1 :: o2 :: o3 :: o4 :: o5 :: o6 :: o7 :: o8 :: o9 :: o10 :: o11 :: o12 :: o13 :: o14 :: o15 :: o16 :: o17 :: o18 :: o19 :: o20 :: o21 :: o22 :: o23 :: o24 :: o25 :: o26 :: o27 :: o28 :: o29 :: o30 :: o31 :: o32 :: o33 :: o34 :: o35 :: o36 :: o37 :: o38 :: o39 :: s) H := q
theorem k_g39 (q : R (o0 :: o1 :: o2 :: o3 :: o4 :: o5 :: o6 :: o7 :: o8 :: o9 :: o10 :: o11 :: o12 :: o13 :: o14 :: o15 :: o16 :: o17 :: o18 :: o19 :: o20 :: o21 :: o22 :: o23 :: o24 :: o25 :: o26 :: o27 :: o28 :: o29 :: o30 :: o31 :: o32 :: o33 :: o34 :: o35 :: o36 :: o37 :: o38 :: some x :: s) H) : gName 39 x (o0 :: o1 :: o2 :: o3 :: o4 :: o5 :: o6 :: o7 :: o8 :: o9 :: o10 :: o11 :: o12 :: o13 :: o14 :: o15 :: o16 :: o17 :: o18 :: o19 :: o20 :: o21 :: o22 :: o23 :: o24 :: o25 :: o26 :: o27 :: o28 :: o29 :: o30 :: o31 :: o32 :: o33 :: o34 :: o35 :: o36 :: o37 :: o38 :: o39 :: s) H R := q
theorem k_v40 (q : Q v H) : tVar 40 (o0 :: o1 :: o2 :: o3 :: o4 :: o5 :: o6 :: o7 :: o8 :: o9 :: o10 :: o11 :: o12 :: o13 :: o14 :: o15 :: o16 :: o17 :: o18 :: o19 :: o20 :: o21 :: o22 :: o23 :: o24 :: o25 :: o26 :: o27 :: o28 :: o29 :: o30 :: o31 :: o32 :: o33 :: o34 :: o35 :: o36 :: o37 :: o38 :: o39 :: some v :: s) H Q := ⟨v, rfl, q⟩
theorem k_s40 (q : te (o0 :: o1 :: o2 :: o3 :: o4 :: o5 :: o6 :: o7 :: o8 :: o9 :: o10 :: o11 :: o12 :: o13 :: o14 :: o15 :: o16 :: o17 :: o18 :: o19 :: o20 :: o21 :: o22 :: o23 :: o24 :: o25 :: o26 :: o27 :: o28 :: o29 :: o30 :: o31 :: o32 :: o33 :: o34 :: o35 :: o36 :: o37 :: o38 :: o39 :: o40 :: s) H fun x H1 => D.nx (o0 :: o1 :: o2 :: o3 :: o4 :: o5 :: o6 :: o7 :: o8 :: o9 :: o10 :: o11 :: o12 :: o13 :: o14 :: o15 :: o16 :: o17 :: o18 :: o19 :: o20 :: o21 :: o22 :: o23 :: o24 :: o25 :: o26 :: o27 :: o28 :: o29 :: o30 :: o31 :: o32 :: o33 :: o34 :: o35 :: o36 :: o37 :: o38 :: o39 :: some x :: s) H1) : tAsg te (gName 40) D (o0 :: o1 :: o2 :: o3 :: o4 :: o5 :: o6 :: o7 :: o8 :: o9 :: o10 :: o11 :: o12 :: o13 :: o14 :: o15 :: o16 :: o17 :: o18 :: o19 :: o20 :: o21 :: o22 :: o23 :: o24 :: o25 :: o26 :: o27 :: o28 :: o29 :: o30 :: o31 :: o32 :: o33 :: o34 :: o35 :: o36 :: o37 :: o38 :: o39 :: o40 :: s) H := q
theorem k_g40 (q : R (o0 :: o1 :: o2 :: o3 :: o4 :: o5 :: o6 :: o7 :: o8 :: o9 :: o10 :: o11 :: o12 :: o13 :: o14 :: o15 :: o16 :: o17 :: o18 :: o19 :: o20 :: o21 :: o22 :: o23 :: o24 :: o25 :: o26 :: o27 :: o28 :: o29 :: o30 :: o31 :: o32 :: o33 :: o34 :: o35 :: o36 :: o37 :: o38 :: o39 :: some x :: s) H) : gName 40 x (o0 :: o1 :: o2 :: o3 :: o4 :: o5 :: o6 :: o7 :: o8 :: o9 :: o10 :: o11 :: o12 :: o13 :: o14 :: o15 :: o16 :: o17 :: o18 :: o19 :: o20 :: o21 :: o22 :: o23 :: o24 :: o25 :: o26 :: o27 :: o28 :: o29 :: o30 :: o31 :: o32 :: o33 :: o34 :: o35 :: o36 :: o37 :: o38 :: o39 :: o40 :: s) H R := q
theorem k_v41 (q : Q v H) : tVar 41 (o0 :: o1 :: o2 :: o3 :: o4 :: o5 :: o6 :: o7 :: o8 :: o9 :: o10 :: o11 :: o12 :: o13 :: o14 :: o15 :: o16 :: o17 :: o18 :: o19 :: o20 :: o21 :: o22 :: o23 :: o24 :: o25 :: o26 :: o27 :: o28 :: o29 :: o30 :: o31 :: o32 :: o33 :: o34 :: o35 :: o36 :: o37 :: o38 :: o39 :: o40 :: some v :: s) H Q := ⟨v, rfl, q⟩
theorem k_s41 (q : te (o0 :: o1 :: o2 :: o3 :: o4 :: o5 :: o6 :: o7 :: o8 :: o9 :: o10 :: o11 :: o12 :: o13 :: o14 :: o15 :: o16 :: o17 :: o18 :: o19 :: o20 :: o21 :: o22 :: o23 :: o24 :: o25 :: o26 :: o27 :: o28 :: o29 :: o30 :: o31 :: o32 :: o33 :: o34 :: o35 :: o36 :: o37 :: o38 :: o39 :: o40 :: o41 :: s) H fun x H1 => D.nx (o0 :: o1 :: o2 :: o3 :: o4 :: o5 :: o6 :: o7 :: o8 :: o9 :: o10 :: o11 :: o12 :: o13 :: o14 :: o15 :: o16 :: o17 :: o18 :: o19 :: o20 :: o21 :: o22 :: o23 :: o24 :: o25 :: o26 :: o27 :: o28 :: o29 :: o30 :: o31 :: o32 :: o33 :: o34 :: o35 :: o36 :: o37 :: o38 :: o39 :: o40 :: some x :: s) H1) : tAsg te (gName 41) D (o0 :: o1 :: o2 :: o3 :: o4 :: o5 :: o6 :: o7 :: o8 :: o9 :: o10 :: o11 :: o12 :: o13 :: o14 :: o15 :: o16 :: o17 :: o18 :: o19 :: o20 :: o21 :: o22 :: o23 :: o24 :: o25 :: o26 :: o27 :: o28 :: o29 :: o30 :: o31 :: o32 :: o33 :: o34 :: o35 :: o36 :: o37 :: o38 :: o39 :: o40 :: o41 :: s) H := q
theorem k_g41 (q : R (o0 :: o1 :: o2 :: o3 :: o4 :: o5 :: o6 :: o7 :: o8 :: o9 :: o10 :: o11 :: o12 :: o13 :: o14 :: o15 :: o16 :: o17 :: o18 :: o19 :: o20 :: o21 :: o22 :: o23 :: o24 :: o25 :: o26 :: o27 :: o28 :: o29 :: o30 :: o31 :: o32 :: o33 :: o34 :: o35 :: o36 :: o37 :: o38 :: o39 :: o40 :: some x :: s) H) : gName 41 x (o0 :: o1 :: o2 :: o3 :: o4 :: o5 :: o6 :: o7 :: o8 :: o9 :: o10 :: o11 :: o12 :: o13 :: o14 :: o15 :: o16 :: o17 :: o18 :: o19 :: o20 :: o21 :: o22 :: o23 :: o24 :: o25 :: o26 :: o27 :: o28 :: o29 :: o30 :: o31 :: o32 :: o33 :: o34 :: o35 :: o36 :: o37 :: o38 :: o39 :: o40 :: o41 :: s) H R := q
theorem k_v42 (q : Q v H) : tVar 42 (o0 :: o1 :: o2 :: o3 :: o4 :: o5 :: o6 :: o7 :: o8 :: o9 :: o10 :: o11 :: o12 :: o13 :: o14 :: o15 :: o16 :: o17 :: o18 :: o19 :: o20 :: o21 :: o22 :: o23 :: o24 :: o25 :: o26 :: o27 :: o28 :: o29 :: o30 :: o31 :: o32 :: o33 :: o34 :: o35 :: o36 :: o37 :: o38 :: o39 :: o40 :: o41 :: some v :: s) H Q := ⟨v, rfl, q⟩
theorem k_s42 (q : te (o0 :: o1 :: o2 :: o3 :: o4 :: o5 :: o6 :: o7 :: o8 :: o9 :: o10 :: o11 :: o12 :: o13 :: o14 :: o15 :: o16 :: o17 :: o18 :: o19 :: o20 :: o21 :: o22 :: o23 :: o24 :: o25 :: o26 :: o27 :: o28 :: o29 :: o30 :: o31 :: o32 :: o33 :: o34 :: o35 :: o36 :: o37 :: o38 :: o39 :: o40 :: o41 :: o42 :: s) H fun x H1 => D.nx (o0 :: o1 :: o2 :: o3 :: o4 :: o5 :: o6 :: o7 :: o8 :: o9 :: o10 :: o11 :: o12 :: o13 :: o14 :: o15 :: o16 :: o17 :: o18 :: o19 :: o20 :: o21 :: o22 :: o23 :: o24 :: o25 :: o26 :: o27 :: o28 :: o29 :: o30 :: o31 :: o32 :: o33 :: o34 :: o35 :: o36 :: o37 :: o38 :: o39 :: o40 :: o41 :: some x :: s) H1) : tAsg te (gName 42) D (o0 :: o1 :: o2 :: o3 :: o4 :: o5 :: o6 :: o7 :: o8 :: o9 :: o10 :: o11 :: o12 :: o13 :: o14 :: o15 :: o16 :: o17 :: o18 :: o19 :: o20 :: o21 :: o22 :: o23 :: o24 :: o25 :: o26 :: o27 :: o28 :: o29 :: o30 :: o31 :: o32 :: o33 :: o34 :: o35 :: o36 :: o37 :: o38 :: o39 :: o40 :: o41 :: o42 :: s) H := q
theorem k_g42 (q : R (o0 :: o1 :: o2 :: o3 :: o4 :: o5 :: o6 :: o7 :: o8 :: o9 :: o10 :: o11 :: o12 :: o13 :: o14 :: o15 :: o16 :: o17 :: o18 :: o19 :: o20 :: o21 :: o22 :: o23 :: o24 :: o25 :: o26 :: o27 :: o28 :: o29 :: o30 :: o31 :: o32 :: o33 :: o34 :: o35 :: o36 :: o37 :: o38 :: o39 :: o40 :: o41 :: some x :: s) H) : gName 42 x (o0 :: o1 :: o2 :: o3 :: o4 :: o5 :: o6 :: o7 :: o8 :: o9 :: o10 :: o11 :: o12 :: o13 :: o14 :: o15 :: o16 :: o17 :: o18 :: o19 :: o20 :: o21 :: o22 :: o23 :: o24 :: o25 :: o26 :: o27 :: o28 :: o29 :: o30 :: o31 :: o32 :: o33 :: o34 :: o35 :: o36 :: o37 :: o38 :: o39 :: o40 :: o41 :: o42 :: s) H R := q
theorem k_v43 (q : Q v H) : tVar 43 (o0 :: o1 :: o2 :: o3 :: o4 :: o5 :: o6 :: o7 :: o8 :: o9 :: o10 :: o11 :: o12 :: o13 :: o14 :: o15 :: o16 :: o17 :: o18 :: o19 :: o20 :: o21 :: o22 :: o23 :: o24 :: o25 :: o26 :: o27 :: o28 :: o29 :: o30 :: o31 :: o32 :: o33 :: o34 :: o35 :: o36 :: o37 :: o38 :: o39 :: o40 :: o41 :: o42 :: some v :: s) H Q := ⟨v, rfl, q⟩
theorem k_s43 (q : te (o0 :: o1 :: o2 :: o3 :: o4 :: o5 :: o6 :: o7 :: o8 :: o9 :: o10 :: o11 :: o12 :: o13 :: o14 :: o15 :: o16 :: o17 :: o18 :: o19 :: o20 :: o21 :: o22 :: o23 :: o24 :: o25 :: o26 :: o27 :: o28 :: o29 :: o30 :: o31 :: o32 :: o33 :: o34 :: o35 :: o36 :: o37 :: o38 :: o39 :: o40 :: o41 :: o42 :: o43 :: s) H fun x H1 => D.nx (o0 :: o1 :: o2 :: o3 :: o4 :: o5 :: o6 :: o7 :: o8 :: o9 :: o10 :: o11 :: o12 :: o13 :: o14 :: o15 :: o16 :: o17 :: o18 :: o19 :: o20 :: o21 :: o22 :: o23 :: o24 :: o25 :: o26 :: o27 :: o28 :: o29 :: o30 :: o31 :: o32 :: o33 :: o34 :: o35 :: o36 :: o37 :: o38 :: o39 :: o40 :: o41 :: o42 :: some x :: s) H1) : tAsg te (gName 43) D (o0 :: o1 :: o2 :: o3 :: o4 :: o5 :: o6 :: o7 :: o8 :: o9 :: o10 :: o11 :: o12 :: o13 :: o14 :: o15 :: o16 :: o17 :: o18 :: o19 :: o20 :: o21 :: o22 :: o23 :: o24 :: o25 :: o26 :: o27 :: o28 :: o29 :: o30 :: o31 :: o32 :: o33 :: o34 :: o35 :: o36 :: o37 :: o38 :: o39 :: o40 :: o41 :: o42 :: o43 :: s) H := q
theorem k_g43 (q : R (o0 :: o1 :: o2 :: o3 :: o4 :: o5 :: o6 :: o7 :: o8 :: o9 :: o10 :: o11 :: o12 :: o13 :: o14 :: o15 :: o16 :: o17 :: o18 :: o19 :: o20 :: o21 :: o22 :: o23 :: o24 :: o25 :: o26 :: o27 :: o28 :: o29 :: o30 :: o31 :: o32 :: o33 :: o34 :: o35 :: o36 :: o37 :: o38 :: o39 :: o40 :: o41 :: o42 :: some x :: s) H) : gName 43 x (o0 :: o1 :: o2 :: o3 :: o4 :: o5 :: o6 :: o7 :: o8 :: o9 :: o10 :: o11 :: o12 :: o13 :: o14 :: o15 :: o16 :: o17 :: o18 :: o19 :: o20 :: o21 :: o22 :: o23 :: o24 :: o25 :: o26 :: o27 :: o28 :: o29 :: o30 :: o31 :: o32 :: o33 :: o34 :: o35 :: o36 :: o37 :: o38 :: o39 :: o40 :: o41 :: o42 :: o43 :: s) H R := q
end
end Ls
/-! ### the law's draws -/
namespace Ls
open PySem PySem.Spec PyProof.Rows L2
def dd (c : Addr) (n r s : Int) : List (Key × V) := [(.inr ("cells" : Str), .ref c), (.inr ("at" : Str), .int n), (.inr ("rest" : Str), .int r), (.inr ("seed" : Str), .int s)]
theorem kne {a b : Str} (h : ¬ a = b) : ¬ (Sum.inr a : Key) = Sum.inr b := fun e => h (Sum.inr.inj e)
theorem n_ca : ¬ ("cells" : Str) = "at" := by decide +kernel
theorem n_cr : ¬ ("cells" : Str) = "rest" := by decide +kernel
theorem n_cs : ¬ ("cells" : Str) = "seed" := by decide +kernel
theorem n_ar : ¬ ("at" : Str) = "rest" := by decide +kernel
theorem n_as : ¬ ("at" : Str) = "seed" := by decide +kernel
theorem n_rs : ¬ ("rest" : Str) = "seed" := by decide +kernel
section
variable {c : Addr} {n r s m : Int}
theorem dd_cells : valV (dd c n r s) (.inr ("cells" : Str)) = some (.ref c) := valV_pos rfl
theorem dd_at : valV (dd c n r s) (.inr ("at" : Str)) = some (.int n) := (valV_neg (kne n_ca)).trans (valV_pos rfl)
theorem dd_rest : valV (dd c n r s) (.inr ("rest" : Str)) = some (.int r) := (valV_neg (kne n_cr)).trans ((valV_neg (kne n_ar)).trans (valV_pos rfl))
theorem dd_seed : valV (dd c n r s) (.inr ("seed" : Str)) = some (.int s) := (valV_neg (kne n_cs)).trans ((valV_neg (kne n_as)).trans ((valV_neg (kne n_rs)).trans (valV_pos rfl)))
theorem dd_len : (dd c n r s).length < sizeLine := by show 4 < sizeLine; decide
theorem put_of {kvs : List (Key × V)} {k : Key} {v w : V} (h : valV kvs k = some w) : putK kvs k v = kvs.map (fun kv => if kv.1 = k then (kv.1, v) else kv) := by
  unfold putK
  rw [valV_any, h]
  rfl
theorem dd_put_at : putK (dd c n r s) (.inr ("at" : Str)) (.int m) = dd c m r s := by
  rw [put_of dd_at]
  simp only [dd, List.map_cons, List.map_nil, if_neg (kne n_ca), if_neg (kne (fun e => n_ar e.symm)), if_neg (kne (fun e => n_as e.symm)), if_true]
theorem dd_put_rest : putK (dd c n r s) (.inr ("rest" : Str)) (.int m) = dd c n m s := by
  rw [put_of dd_rest]
  simp only [dd, List.map_cons, List.map_nil, if_neg (kne n_cr), if_neg (kne n_ar), if_neg (kne (fun e => n_rs e.symm)), if_true]
theorem dd_put_seed : putK (dd c n r s) (.inr ("seed" : Str)) (.int m) = dd c n r m := by
  rw [put_of dd_seed]
  simp only [dd, List.map_cons, List.map_nil, if_neg (kne n_cs), if_neg (kne n_as), if_neg (kne n_rs), if_true]
end
/-- the draws' dict: any state of it -/
def Draw (K : PySem.W.Frag) (H : Hp) (d c : Addr) : Prop := ∃ (n r s : Int) (ns : List Int), H d = some (.dK (dd c n r s)) ∧ H c = some (.lst (ns.map V.int)) ∧ 0 ≤ n ∧ 0 ≤ r ∧ 0 ≤ s ∧ s < 2305843009213693951
theorem Draw.keeps {K : PySem.W.Frag} {H H' : Hp} {d c : Addr} (h : Draw K H d c) (k : Same H H') : Draw K H' d c := by
  obtain ⟨n, r, s, ns, h1, h2, h3⟩ := h
  exact ⟨n, r, s, ns, k _ _ h1, k _ _ h2, h3⟩
theorem Draw.is {K : PySem.W.Frag} {H : Hp} {d c : Addr} (h : Draw K H d c) : ∃ kvs, H d = some (.dK kvs) := by
  obtain ⟨n, r, s, ns, h1, _⟩ := h
  exact ⟨_, h1⟩
theorem Draw.ne {K : PySem.W.Frag} {H : Hp} {d c a : Addr} {o : HO} (h : Draw K H d c) (e : H a = some o) (n : ∀ kvs, o ≠ .dK kvs) : a ≠ d := by
  obtain ⟨kvs, h1⟩ := h.is
  exact ne_of e h1 (n kvs)
theorem Draw.free {K : PySem.W.Frag} {H : Hp} {d c p : Addr} (h : Draw K H d c) (e : H p = none) : p ≠ d := by
  obtain ⟨kvs, h1⟩ := h.is
  exact fun z => by
    rw [z, h1] at e
    cases e
theorem Draw.tp {K : PySem.W.Frag} {H H' : Hp} {d c : Addr} (h : Draw K H d c) (k : Keep d H H') : Tp K H H' := by
  obtain ⟨kvs, h1⟩ := h.is
  exact keep_tp k h1 rfl
theorem Draw.sql {K : PySem.W.Frag} {H H' : Hp} {d c a : Addr} {xs : List V} (h : Draw K H d c) (k : Keep d H H') (q : SqL K H a xs) : SqL K H' a xs := by
  obtain ⟨kvs, h1⟩ := h.is
  exact sql_keep k h1 q
/-- a write to a list that the draws do not hold -/
theorem Draw.new {K : PySem.W.Frag} {H : Hp} {d c p : Addr} {o : HO} (h : Draw K H d c) (e : H p = none) : Draw K (upd H p o) d c := h.keeps (same_new e)
theorem Draw.nec {K : PySem.W.Frag} {H : Hp} {d c p : Addr} (h : Draw K H d c) (e : H p = none) : p ≠ c := by
  obtain ⟨n, r, s, ns, h1, h2, _⟩ := h
  rintro rfl
  rw [h2] at e
  cases e
theorem Draw.wr {K : PySem.W.Frag} {H : Hp} {d c p : Addr} {o : HO} (h : Draw K H d c) (n1 : p ≠ d) (n2 : p ≠ c) : Draw K (upd H p o) d c := by
  obtain ⟨n, r, s, ns, h1, h2, h3⟩ := h
  exact ⟨n, r, s, ns, by rw [upd_ne n1.symm]; exact h1, by rw [upd_ne n2.symm]; exact h2, h3⟩
def spBegin (K : PySem.W.Frag) : Sp := fun vs H Q _ => ∃ (a : Addr) (ns : List Int), vs = [.ref a] ∧ SqL K H a (ns.map V.int) ∧ ns.length ≤ 63 ∧ ∀ d c H', H d = none → H c = none → Same H H' → Draw K H' d c → Q (.ref d) H'
def spPick (K : PySem.W.Frag) : Sp := fun vs H Q _ => ∃ (d c : Addr) (many : Int), vs = [.ref d, .int many] ∧ Draw K H d c ∧ 0 < many ∧ many < 2 ^ 200 ∧ ∀ r H', Keep d H H' → Draw K H' d c → 0 ≤ r → r < many → Q (.int r) H'
theorem use_pick {K : PySem.W.Frag} {d c : Addr} {many : Int} {H : Hp} {Q : VK} {E : XK} (hD : Draw K H d c) (h1 : 0 < many) (h2 : many < 2 ^ 200) (q : ∀ r H', Keep d H H' → Draw K H' d c → 0 ≤ r → r < many → Q (.int r) H') : spPick K ([.ref d, .int many] ++ []) H Q E := ⟨d, c, many, rfl, hD, h1, h2, q⟩
end Ls
namespace Lw
open PySem PySem.Spec PyProof.Rows L2 Ls
def top (i : Nat) : Stmt := PySem.Challenge.pw_lanescribe_k25_whole_amounts_or_a_ring.main.body.getD i (.Pass ⟨0, 0, 0, 0⟩)
abbrev s_law : Stmt := top 26
theorem sc_law : FnScope ["_law_script", "_law_d", "_law_turn", "_law_lanes", "_law_ties_here", "_law_top", "_law_found", "_law_told", "_law_amount"] ["_law_script"] (defScope s_law) := ⟨rfl, rfl, rfl, by decide +kernel, rfl, by decide +kernel, by decide +kernel⟩
abbrev s__law_begin : Stmt := top 17
theorem sc__law_begin : FnScope ["_law_script", "_law_seed", "_law_cell"] ["_law_script"] (defScope s__law_begin) := ⟨rfl, rfl, rfl, by decide +kernel, rfl, by decide +kernel, by decide +kernel⟩
abbrev s__law_ties : Stmt := top 22
theorem sc__law_ties : FnScope ["_law_d", "_law_lanes", "_law_wide", "_law_found", "_law_step", "_law_one", "_law_other"] ["_law_d", "_law_lanes", "_law_wide"] (defScope s__law_ties) := ⟨rfl, rfl, rfl, by decide +kernel, rfl, by decide +kernel, by decide +kernel⟩
abbrev s__law_of : Stmt := top 19
theorem sc__law_of : FnScope ["_law_d", "_law_things"] ["_law_d", "_law_things"] (defScope s__law_of) := ⟨rfl, rfl, rfl, by decide +kernel, rfl, by decide +kernel, by decide +kernel⟩
abbrev s__law_pick : Stmt := top 18
theorem sc__law_pick : FnScope ["_law_d", "_law_many", "_law_cell", "_law_digit", "_law_one"] ["_law_d", "_law_many"] (defScope s__law_pick) := ⟨rfl, rfl, rfl, by decide +kernel, rfl, by decide +kernel, by decide +kernel⟩
abbrev s_amounts : Stmt := top 13
theorem sc_amounts : FnScope ["lanes", "ties", "most", "row", "ways", "last", "lane"] ["lanes", "ties", "most"] (defScope s_amounts) := ⟨rfl, rfl, rfl, by decide +kernel, rfl, by decide +kernel, by decide +kernel⟩
abbrev s_ring : Stmt := top 14
theorem sc_ring : FnScope ["lanes", "ties", "most", "row", "ways", "last", "begin", "step", "found"] ["lanes", "ties", "most"] (defScope s_ring) := ⟨rfl, rfl, rfl, by decide +kernel, rfl, by decide +kernel, by decide +kernel⟩
abbrev s_meets : Stmt := top 15
theorem sc_meets : FnScope ["lanes", "ties", "row", "most", "amount", "one", "other", "least"] ["lanes", "ties", "row", "most"] (defScope s_meets) := ⟨rfl, rfl, rfl, by decide +kernel, rfl, by decide +kernel, by decide +kernel⟩
abbrev s__law_is_ring : Stmt := top 24
theorem sc__law_is_ring : FnScope ["_law_ring_told", "_law_lanes", "_law_ties_here", "_law_top", "_law_bounds", "_law_lane", "_law_ones", "_law_tie", "_law_at"] ["_law_ring_told", "_law_lanes", "_law_ties_here", "_law_top"] (defScope s__law_is_ring) := ⟨rfl, rfl, rfl, by decide +kernel, rfl, by decide +kernel, by decide +kernel⟩
abbrev s__law_same : Stmt := top 20
theorem sc__law_same : FnScope ["_law_found", "_law_due", "_law_k"] ["_law_found", "_law_due"] (defScope s__law_same) := ⟨rfl, rfl, rfl, by decide +kernel, rfl, by decide +kernel, by decide +kernel⟩
abbrev s__law_meets : Stmt := top 23
theorem sc__law_meets : FnScope ["_law_ties_here", "_law_row", "_law_top", "_law_amount", "_law_one", "_law_other", "_law_least"] ["_law_ties_here", "_law_row", "_law_top"] (defScope s__law_meets) := ⟨rfl, rfl, rfl, by decide +kernel, rfl, by decide +kernel, by decide +kernel⟩
abbrev s__law_borne : Stmt := top 25
theorem sc__law_borne : FnScope ["_law_row", "_law_ties_here", "_law_borne_here", "_law_lane", "_law_step", "_law_tight", "_law_one", "_law_other", "_law_least"] ["_law_row", "_law_ties_here"] (defScope s__law_borne) := ⟨rfl, rfl, rfl, by decide +kernel, rfl, by decide +kernel, by decide +kernel⟩
abbrev s__law_num : Stmt := top 21
theorem sc__law_num : FnScope ["_law_found"] ["_law_found"] (defScope s__law_num) := ⟨rfl, rfl, rfl, by decide +kernel, rfl, by decide +kernel, by decide +kernel⟩
abbrev s_look_ties : Stmt := top 9
theorem sc_look_ties : FnScope ["lanes", "ties", "most", "one", "other", "least"] ["lanes", "ties", "most"] (defScope s_look_ties) := ⟨rfl, rfl, rfl, by decide +kernel, rfl, by decide +kernel, by decide +kernel⟩
abbrev s_settled : Stmt := top 12
theorem sc_settled : FnScope ["lanes", "ties", "most", "row", "place", "ways", "last", "step"] ["lanes", "ties", "most"] (defScope s_settled) := ⟨rfl, rfl, rfl, by decide +kernel, rfl, by decide +kernel, by decide +kernel⟩
abbrev s_pushed : Stmt := top 11
theorem sc_pushed : FnScope ["row", "ties", "ways", "last", "tie", "one", "other", "least"] ["row", "ties", "ways"] (defScope s_pushed) := ⟨rfl, rfl, rfl, by decide +kernel, rfl, by decide +kernel, by decide +kernel⟩
abbrev s_bounds_of : Stmt := top 10
theorem sc_bounds_of : FnScope ["lanes", "most", "lane"] ["lanes", "most"] (defScope s_bounds_of) := ⟨rfl, rfl, rfl, by decide +kernel, rfl, by decide +kernel, by decide +kernel⟩
structure Env (K : PySem.W.Frag) (mg : Str → Option Value) where
  a_law : Addr
  fd_law : FuncData
  F_law : FunD K "law" "law" (defArgs s_law) (defBody s_law) (defScope s_law) [] [] a_law fd_law
  g_law : mg "law" = some (.ref a_law)
  a__law_begin : Addr
  fd__law_begin : FuncData
  F__law_begin : FunD K "_law_begin" "_law_begin" (defArgs s__law_begin) (defBody s__law_begin) (defScope s__law_begin) [] [] a__law_begin fd__law_begin
  g__law_begin : mg "_law_begin" = some (.ref a__law_begin)
  a__law_ties : Addr
  fd__law_ties : FuncData
  F__law_ties : FunD K "_law_ties" "_law_ties" (defArgs s__law_ties) (defBody s__law_ties) (defScope s__law_ties) [] [] a__law_ties fd__law_ties
  g__law_ties : mg "_law_ties" = some (.ref a__law_ties)
  a__law_of : Addr
  fd__law_of : FuncData
  F__law_of : FunD K "_law_of" "_law_of" (defArgs s__law_of) (defBody s__law_of) (defScope s__law_of) [] [] a__law_of fd__law_of
  g__law_of : mg "_law_of" = some (.ref a__law_of)
  a__law_pick : Addr
  fd__law_pick : FuncData
  F__law_pick : FunD K "_law_pick" "_law_pick" (defArgs s__law_pick) (defBody s__law_pick) (defScope s__law_pick) [] [] a__law_pick fd__law_pick
  g__law_pick : mg "_law_pick" = some (.ref a__law_pick)
  a_amounts : Addr
  fd_amounts : FuncData
  F_amounts : FunD K "amounts" "amounts" (defArgs s_amounts) (defBody s_amounts) (defScope s_amounts) [] [("most", .int 99999)] a_amounts fd_amounts
  g_amounts : mg "amounts" = some (.ref a_amounts)
  a_ring : Addr
  fd_ring : FuncData
  F_ring : FunD K "ring" "ring" (defArgs s_ring) (defBody s_ring) (defScope s_ring) [] [("most", .int 99999)] a_ring fd_ring
  g_ring : mg "ring" = some (.ref a_ring)
  a_meets : Addr
  fd_meets : FuncData
  F_meets : FunD K "meets" "meets" (defArgs s_meets) (defBody s_meets) (defScope s_meets) [] [("most", .int 99999)] a_meets fd_meets
  g_meets : mg "meets" = some (.ref a_meets)
  a__law_is_ring : Addr
  fd__law_is_ring : FuncData
  F__law_is_ring : FunD K "_law_is_ring" "_law_is_ring" (defArgs s__law_is_ring) (defBody s__law_is_ring) (defScope s__law_is_ring) [] [] a__law_is_ring fd__law_is_ring
  g__law_is_ring : mg "_law_is_ring" = some (.ref a__law_is_ring)
  a__law_same : Addr
  fd__law_same : FuncData
  F__law_same : FunD K "_law_same" "_law_same" (defArgs s__law_same) (defBody s__law_same) (defScope s__law_same) [] [] a__law_same fd__law_same
  g__law_same : mg "_law_same" = some (.ref a__law_same)
  a__law_meets : Addr
  fd__law_meets : FuncData
  F__law_meets : FunD K "_law_meets" "_law_meets" (defArgs s__law_meets) (defBody s__law_meets) (defScope s__law_meets) [] [] a__law_meets fd__law_meets
  g__law_meets : mg "_law_meets" = some (.ref a__law_meets)
  a__law_borne : Addr
  fd__law_borne : FuncData
  F__law_borne : FunD K "_law_borne" "_law_borne" (defArgs s__law_borne) (defBody s__law_borne) (defScope s__law_borne) [] [] a__law_borne fd__law_borne
  g__law_borne : mg "_law_borne" = some (.ref a__law_borne)
  a__law_num : Addr
  fd__law_num : FuncData
  F__law_num : FunD K "_law_num" "_law_num" (defArgs s__law_num) (defBody s__law_num) (defScope s__law_num) [] [] a__law_num fd__law_num
  g__law_num : mg "_law_num" = some (.ref a__law_num)
  a_look_ties : Addr
  fd_look_ties : FuncData
  F_look_ties : FunD K "look_ties" "look_ties" (defArgs s_look_ties) (defBody s_look_ties) (defScope s_look_ties) [] [] a_look_ties fd_look_ties
  g_look_ties : mg "look_ties" = some (.ref a_look_ties)
  a_settled : Addr
  fd_settled : FuncData
  F_settled : FunD K "settled" "settled" (defArgs s_settled) (defBody s_settled) (defScope s_settled) [] [] a_settled fd_settled
  g_settled : mg "settled" = some (.ref a_settled)
  a_pushed : Addr
  fd_pushed : FuncData
  F_pushed : FunD K "pushed" "pushed" (defArgs s_pushed) (defBody s_pushed) (defScope s_pushed) [] [] a_pushed fd_pushed
  g_pushed : mg "pushed" = some (.ref a_pushed)
  a_bounds_of : Addr
  fd_bounds_of : FuncData
  F_bounds_of : FunD K "bounds_of" "bounds_of" (defArgs s_bounds_of) (defBody s_bounds_of) (defScope s_bounds_of) [] [] a_bounds_of fd_bounds_of
  g_bounds_of : mg "bounds_of" = some (.ref a_bounds_of)
  n_range : mg "range" = none
  n_len : mg "len" = none
  n_list : mg "list" = none
  n_all : mg "all" = none
  n_any : mg "any" = none
  n_isinstance : mg "isinstance" = none
  n_sum : mg "sum" = none
  n_set : mg "set" = none
  n_tuple : mg "tuple" = none
  n_bool : mg "bool" = none
  n_int : mg "int" = none
  n_str : mg "str" = none
  n_sorted : mg "sorted" = none
  c_MOST_AMOUNT : ∃ u, mg "MOST_AMOUNT" = some u ∧ RelV (.int 99999) u
  c_MOST_LANES : ∃ u, mg "MOST_LANES" = some u ∧ RelV (.int 6) u
  c_GREATEST : ∃ u, mg "GREATEST" = some u ∧ RelV (.int 1000000000000) u
  c_LIMIT : ∃ u, mg "LIMIT" = some u ∧ RelV (.int 999999) u
section
variable {K : PySem.W.Frag} {mg : Str → Option Value}
theorem b_law (E : Env K mg) : Binds K E.fd_law ["_law_script"] [] := E.F_law.bindsN fun _ _ _ _ _ _ us hl => match us, hl with | [_], _ => rfl
theorem b__law_begin (E : Env K mg) : Binds K E.fd__law_begin ["_law_script"] [] := E.F__law_begin.bindsN fun _ _ _ _ _ _ us hl => match us, hl with | [_], _ => rfl
theorem b__law_ties (E : Env K mg) : Binds K E.fd__law_ties ["_law_d", "_law_lanes", "_law_wide"] [] := E.F__law_ties.bindsN fun _ _ _ _ _ _ us hl => match us, hl with | [_, _, _], _ => rfl
theorem b__law_of (E : Env K mg) : Binds K E.fd__law_of ["_law_d", "_law_things"] [] := E.F__law_of.bindsN fun _ _ _ _ _ _ us hl => match us, hl with | [_, _], _ => rfl
theorem b__law_pick (E : Env K mg) : Binds K E.fd__law_pick ["_law_d", "_law_many"] [] := E.F__law_pick.bindsN fun _ _ _ _ _ _ us hl => match us, hl with | [_, _], _ => rfl
theorem b__law_is_ring (E : Env K mg) : Binds K E.fd__law_is_ring ["_law_ring_told", "_law_lanes", "_law_ties_here", "_law_top"] [] := E.F__law_is_ring.bindsN fun _ _ _ _ _ _ us hl => match us, hl with | [_, _, _, _], _ => rfl
theorem b__law_same (E : Env K mg) : Binds K E.fd__law_same ["_law_found", "_law_due"] [] := E.F__law_same.bindsN fun _ _ _ _ _ _ us hl => match us, hl with | [_, _], _ => rfl
theorem b__law_meets (E : Env K mg) : Binds K E.fd__law_meets ["_law_ties_here", "_law_row", "_law_top"] [] := E.F__law_meets.bindsN fun _ _ _ _ _ _ us hl => match us, hl with | [_, _, _], _ => rfl
theorem b__law_borne (E : Env K mg) : Binds K E.fd__law_borne ["_law_row", "_law_ties_here"] [] := E.F__law_borne.bindsN fun _ _ _ _ _ _ us hl => match us, hl with | [_, _], _ => rfl
theorem b__law_num (E : Env K mg) : Binds K E.fd__law_num ["_law_found"] [] := E.F__law_num.bindsN fun _ _ _ _ _ _ us hl => match us, hl with | [_], _ => rfl
theorem b_look_ties (E : Env K mg) : Binds K E.fd_look_ties ["lanes", "ties", "most"] [] := E.F_look_ties.bindsN fun _ _ _ _ _ _ us hl => match us, hl with | [_, _, _], _ => rfl
theorem b_settled (E : Env K mg) : Binds K E.fd_settled ["lanes", "ties", "most"] [] := E.F_settled.bindsN fun _ _ _ _ _ _ us hl => match us, hl with | [_, _, _], _ => rfl
theorem b_pushed (E : Env K mg) : Binds K E.fd_pushed ["row", "ties", "ways"] [] := E.F_pushed.bindsN fun _ _ _ _ _ _ us hl => match us, hl with | [_, _, _], _ => rfl
theorem b_bounds_of (E : Env K mg) : Binds K E.fd_bounds_of ["lanes", "most"] [] := E.F_bounds_of.bindsN fun _ _ _ _ _ _ us hl => match us, hl with | [_, _], _ => rfl
end
end Lw
namespace Ls
open PySem PySem.Spec PyProof.Rows L2
/-! ### data and their types -/
/-- data of at most this depth, its lists not too long -/
def OkD : Nat → PyData → Prop
  | _, .none => True
  | _, .bool _ => True
  | _, .int _ => True
  | _, .str x => PyData.strOk x = true
  | n + 1, .list xs => xs.length ≤ 100000 ∧ ∀ d ∈ xs, OkD n d
  | n + 1, .tuple xs => xs.length ≤ 100000 ∧ ∀ d ∈ xs, OkD n d
  | _, _ => False
theorem lay_all : ∀ {xs : List PyData}, (∀ d ∈ xs, d.canLay0 = true) → PyData.canLayAll0 xs = true
  | [], _ => by simp only [PyData.canLayAll0]
  | d :: r, h => by
    simp only [PyData.canLayAll0, Bool.and_eq_true]
    exact ⟨h d List.mem_cons_self, lay_all fun e he => h e (List.mem_cons_of_mem _ he)⟩
theorem depth_all {n : Nat} : ∀ {xs : List PyData}, (∀ d ∈ xs, d.depth ≤ n) → PyData.depthAll xs ≤ n
  | [], _ => by simp only [PyData.depthAll]; omega
  | d :: r, h => by
    simp only [PyData.depthAll]
    have h1 := h d List.mem_cons_self
    have h2 := depth_all fun e he => h e (List.mem_cons_of_mem _ he)
    omega
theorem OkD.lay : ∀ {n : Nat} {d : PyData}, OkD n d → d.canLay0 = true ∧ d.depth ≤ n
  | _, .none, _ => by simp only [PyData.canLay0, PyData.depth]; exact ⟨trivial, Nat.zero_le _⟩
  | _, .bool _, _ => by simp only [PyData.canLay0, PyData.depth]; exact ⟨trivial, Nat.zero_le _⟩
  | _, .int _, _ => by simp only [PyData.canLay0, PyData.depth]; exact ⟨trivial, Nat.zero_le _⟩
  | n, .str x, h => by
    cases n <;> exact ⟨by simp only [PyData.canLay0]; exact h, by simp only [PyData.depth]; omega⟩
  | n + 1, .list xs, h => by
    have ih : ∀ d ∈ xs, d.canLay0 = true ∧ d.depth ≤ n := fun d hd => OkD.lay (h.2 d hd)
    simp only [PyData.canLay0, PyData.depth]
    exact ⟨lay_all fun d hd => (ih d hd).1, Nat.succ_le_succ (depth_all fun d hd => (ih d hd).2)⟩
  | n + 1, .tuple xs, h => by
    have ih : ∀ d ∈ xs, d.canLay0 = true ∧ d.depth ≤ n := fun d hd => OkD.lay (h.2 d hd)
    simp only [PyData.canLay0, PyData.depth]
    exact ⟨lay_all fun d hd => (ih d hd).1, Nat.succ_le_succ (depth_all fun d hd => (ih d hd).2)⟩
  | 0, .list _, h => (show False from h).elim
  | 0, .tuple _, h => (show False from h).elim
  | n, .dict _, h => by
    cases n <;> exact (show False from h).elim
theorem OkD.shaped {n : Nat} {d : PyData} (h : OkD n d) (hn : n ≤ 64) : SeqAt.shaped d = true := by
  obtain ⟨h1, h2⟩ := h.lay
  show (d.canLay0 && decide (d.depth ≤ 64)) = true
  rw [h1, decide_eq_true (Nat.le_trans h2 hn)]
  rfl
theorem OkD.mono : ∀ {n m : Nat} {d : PyData}, n ≤ m → OkD n d → OkD m d
  | n, m, .none, _, _ => by cases m <;> trivial
  | n, m, .bool _, _, _ => by cases m <;> trivial
  | n, m, .int _, _, _ => by cases m <;> trivial
  | n, m, .str x, _, h => by cases n <;> cases m <;> exact h
  | n + 1, m + 1, .list xs, hl, h => ⟨h.1, fun d hd => OkD.mono (Nat.le_of_succ_le_succ hl) (h.2 d hd)⟩
  | n + 1, m + 1, .tuple xs, hl, h => ⟨h.1, fun d hd => OkD.mono (Nat.le_of_succ_le_succ hl) (h.2 d hd)⟩
  | 0, _, .list _, _, h => (show False from h).elim
  | 0, _, .tuple _, _, h => (show False from h).elim
  | n + 1, 0, .list _, hl, _ => absurd hl (by omega)
  | n + 1, 0, .tuple _, hl, _ => absurd hl (by omega)
  | n, m, .dict _, _, h => by cases n <;> exact (show False from h).elim
theorem kt_none_bool : kitB "NoneType" "bool" = some false := by decide +kernel
theorem kt_none_int : kitB "NoneType" "int" = some false := by decide +kernel
theorem kt_none_str : kitB "NoneType" "str" = some false := by decide +kernel
theorem kt_none_list : kitB "NoneType" "list" = some false := by decide +kernel
theorem kt_none_tuple : kitB "NoneType" "tuple" = some false := by decide +kernel
theorem kt_bool_bool : kitB "bool" "bool" = some true := by decide +kernel
theorem kt_bool_int : kitB "bool" "int" = some true := by decide +kernel
theorem kt_bool_str : kitB "bool" "str" = some false := by decide +kernel
theorem kt_bool_list : kitB "bool" "list" = some false := by decide +kernel
theorem kt_bool_tuple : kitB "bool" "tuple" = some false := by decide +kernel
theorem kt_int_bool : kitB "int" "bool" = some false := by decide +kernel
theorem kt_int_int : kitB "int" "int" = some true := by decide +kernel
theorem kt_int_str : kitB "int" "str" = some false := by decide +kernel
theorem kt_int_list : kitB "int" "list" = some false := by decide +kernel
theorem kt_int_tuple : kitB "int" "tuple" = some false := by decide +kernel
theorem kt_str_bool : kitB "str" "bool" = some false := by decide +kernel
theorem kt_str_int : kitB "str" "int" = some false := by decide +kernel
theorem kt_str_str : kitB "str" "str" = some true := by decide +kernel
theorem kt_str_list : kitB "str" "list" = some false := by decide +kernel
theorem kt_str_tuple : kitB "str" "tuple" = some false := by decide +kernel
theorem kt_list_bool : kitB "list" "bool" = some false := by decide +kernel
theorem kt_list_int : kitB "list" "int" = some false := by decide +kernel
theorem kt_list_str : kitB "list" "str" = some false := by decide +kernel
theorem kt_list_list : kitB "list" "list" = some true := by decide +kernel
theorem kt_list_tuple : kitB "list" "tuple" = some false := by decide +kernel
theorem kt_tuple_bool : kitB "tuple" "bool" = some false := by decide +kernel
theorem kt_tuple_int : kitB "tuple" "int" = some false := by decide +kernel
theorem kt_tuple_str : kitB "tuple" "str" = some false := by decide +kernel
theorem kt_tuple_list : kitB "tuple" "list" = some false := by decide +kernel
theorem kt_tuple_tuple : kitB "tuple" "tuple" = some true := by decide +kernel
/-- a datum's type -/
def tyn : PyData → String
  | .none => "NoneType"
  | .bool _ => "bool"
  | .int _ => "int"
  | .str _ => "str"
  | .list _ => "list"
  | .tuple _ => "tuple"
  | .dict _ => "dict"
section
variable {K : PySem.W.Frag} {H H' : Hp} {Q : VK} {x : V} {d : PyData} {b : Bool}
theorem sql_ty {a : Addr} {xs : List V} (h : SqL K H a xs) : TyX K H (.ref a) (.type "list") := by
  rcases h with (h | ⟨o, h⟩) | ⟨o, its, n, h1, h2, _⟩
  · exact .base (.lst h)
  · exact .base (.frz h)
  · exact .kList h1 h2
theorem sqt_ty {a : Addr} {xs : List V} (h : SqT K H a xs) : TyX K H (.ref a) (.type "tuple") := by
  rcases h with (h | ⟨o, h⟩) | ⟨o, its, n, h1, h2, _⟩
  · exact .base (.tup h)
  · exact .fTuple h
  · exact .kTuple h1 h2
theorem dp_ty (h : Dp K H x d) : TyX K H x (.type (tyn d)) := by
  cases h with
  | non => exact .base .non
  | bl b => exact .base (.bl b)
  | int i => exact .base (.int i)
  | str x => exact .base (.str x)
  | lst h _ => exact sql_ty h
  | tup h _ => exact sqt_ty h
theorem k_isi {T U : String} (h : Dp K H x d) (e0 : tyn d = U) (e : kitB U T = some b) (q : Q (.bl b) H) : rIsi K [x, .ty T] H Q := ⟨x, .ty T, _, _, b, rfl, .ty T, dp_ty h, kit_ty (by rw [e0]; exact e), q⟩
theorem k_isi2 {T U W : String} {b1 b2 b : Bool} {tp : Addr} (h : Dp K H x d) (ht : H tp = some (.tup [.ty T, .ty U])) (e0 : tyn d = W) (e1 : kitB W T = some b1) (e2 : kitB W U = some b2) (eb : (b1 || b2) = b) (q : Q (.bl b) H) : rIsiT K [x, .ref tp] H Q :=
  ⟨x, tp, _, _, [.type T, .type U], b1 || b2, rfl, ht, .cons (.ty T) (.cons (.ty U) .nil), dp_ty h, by
    subst e0
    refine kitAny_cons (kit_ty e1) (fun h1 => ?_) fun h1 => by rw [h1]; rfl
    rw [h1, Bool.false_or]
    refine kitAny_cons (kit_ty e2) (fun h2 => by rw [h2]; rfl) fun h2 => h2, by rw [eb]; exact q⟩
theorem k_all {a : Addr} {bs : List Bool} (h : SqL K H a (bs.map V.bl)) (q : Q (.bl (bs.all id)) H) : rAll K [.ref a] H Q := ⟨a, bs, rfl, h, q⟩
theorem k_any {a : Addr} {bs : List Bool} (h : SqL K H a (bs.map V.bl)) (q : Q (.bl (bs.any id)) H) : rAny K [.ref a] H Q := ⟨a, bs, rfl, h, q⟩
theorem k_lc {wi : TI} {g : TG} {tt : TT} {te : TE} {vs : List Nat} {σ : L2.St} (h : wi σ H fun J H1 => ∀ D, H1 D = none → ∃ W : Nat → Nat → Hp → Prop, (∃ m, W 0 m (upd H1 D (.lst []))) ∧ ∀ i m H, W i m H →
  (J.stop i H ∧ Q (.ref D) H) ∨ (J.go i H ∧ ∃ Nx : Hp → Prop, (∀ H', Nx H' → ∃ m', m' < m ∧ W (i + 1) m' H') ∧ ∀ x H', J.yld i H x H' → g x (wipe σ vs) H' fun σ2 H2 => wipe σ2 vs = wipe σ vs ∧ tt σ2 H2 fun b H3 =>
    if b = true then te σ2 H3 fun y H4 => ∃ acc, H4 D = some (.lst acc) ∧ acc.length < sizeLine ∧ Nx (upd H4 D (.lst (acc ++ [y]))) else Nx H3)) : tLc wi g tt te vs σ H Q := h
theorem k_lenE {a : Addr} {xs : List V} (h : SqL K H a xs ∨ SqT K H a xs) (q : Q (.int xs.length) H) : rLenU K [.ref a] H Q := .inl ⟨a, xs, rfl, h, q⟩
theorem k_ixE {a : Addr} {xs : List V} {v : V} {i : Int} (h : SqL K H a xs ∨ SqT K H a xs) (h2 : atI xs i = some v) (q : Q v H) : rIx K (.ref a) (.int i) H Q := by
  rcases h with h | h
  · exact k_ixL h h2 q
  · exact k_ixT h h2 q
theorem seq_same {a : Addr} {xs : List V} (e : Same H H') (h : SqL K H a xs ∨ SqT K H a xs) : SqL K H' a xs ∨ SqT K H' a xs := by
  rcases h with h | h
  · exact .inl (e.seq h)
  · exact .inr (sqt_same e h)
theorem dp_same (e : Same H H') : ∀ {x : V} {d : PyData}, Dp K H x d → Dp K H' x d := by
  intro x d h
  induction h using Dp.rec (motive_2 := fun vs ds _ => DpAll K H' vs ds) with
  | non => exact .non
  | bl b => exact .bl b
  | int i => exact .int i
  | str x => exact .str x
  | lst h _ ih => exact .lst (e.seq h) ih
  | tup h _ ih => exact .tup (sqt_same e h) ih
  | nil => exact .nil
  | cons _ _ h1 h2 => exact .cons h1 h2
theorem dpall_same (e : Same H H') : ∀ {vs : List V} {ds : List PyData}, DpAll K H vs ds → DpAll K H' vs ds
  | _, _, .nil => .nil
  | _, _, .cons a b => .cons (dp_same e a) (dpall_same e b)
theorem DpAll.length' : ∀ {vs : List V} {ds : List PyData}, DpAll K H vs ds → vs.length = ds.length
  | _, _, .nil => rfl
  | _, _, .cons _ hs => congrArg Nat.succ (DpAll.length' hs)
theorem DpAll.getD' : ∀ {vs : List V} {ds : List PyData} {i : Nat} {d : PyData}, DpAll K H vs ds → ds[i]? = some d → ∃ v, vs[i]? = some v ∧ Dp K H v d
  | _, _, i, _, .nil, e => by simp at e
  | _, _, 0, _, .cons a _, e => by
    simp at e
    subst e
    exact ⟨_, rfl, a⟩
  | _, _, i + 1, d, .cons _ b, e => by
    obtain ⟨v, h1, h2⟩ := DpAll.getD' (i := i) (d := d) b (by simpa using e)
    exact ⟨v, by simpa using h1, h2⟩
end
def spSame (K : PySem.W.Frag) (n : Nat) : Sp := fun vs H Q _ => ∃ (x y : V) (d : PyData), vs = [x, y] ∧ Dp K H x d ∧ Dp K H y d ∧ OkD n d ∧ ∀ H', Same H H' → Q (.bl true) H'
theorem use_same {K : PySem.W.Frag} {n : Nat} {x y : V} {d : PyData} {H : Hp} {Q : VK} {E : XK} (h1 : Dp K H x d) (h2 : Dp K H y d) (h3 : OkD n d) (q : ∀ H', Same H H' → Q (.bl true) H') : spSame K n ([x, y] ++ []) H Q E := ⟨x, y, d, rfl, h1, h2, h3, q⟩
end Ls
namespace Ls
open PySem PySem.Spec PyProof.Rows L2
section
variable {σ : L2.St} {H : Hp} {Q : VK} {tk tv : TE} {r : List (TE × TE)}
theorem k_disp {trs : List (TE × TE)} (q : ∀ p, H p = none → tPairs trs σ (upd H p (.dK [])) fun ps H2 => H2 p = some (.dK []) ∧ ∃ kvs : List (Key × V), ps = kvs.map (fun kv => (kV kv.1, kv.2)) ∧ kvs.length ≤ 15 ∧ Q (.ref p) (upd H2 p (.dK (mergeK [] kvs)))) : tDisp trs σ H Q := q
theorem k_prs {R : List (V × V) → Hp → Prop} (h : tk σ H fun x H1 => tv σ H1 fun y H2 => tPairs r σ H2 fun ps H3 => R ((x, y) :: ps) H3) : tPairs ((tk, tv) :: r) σ H R := h
theorem k_prn {R : List (V × V) → Hp → Prop} (h : R [] H) : tPairs [] σ H R := h
theorem cut_to {xs : List V} {i : Int} (h : 0 ≤ i) : cutV xs none (some i) = xs.take i.toNat := by
  obtain ⟨k, rfl⟩ := Int.eq_ofNat_of_zero_le h
  show (xs.drop 0).take (HT.sIx xs.length xs.length (some (k : Int)) - 0) = _
  rw [HT.sIx_nat, List.drop_zero, Nat.sub_zero, Int.toNat_natCast]
  by_cases hk : k ≤ xs.length
  · rw [Nat.min_eq_left hk]
  · rw [Nat.min_eq_right (by omega), List.take_of_length_le (Nat.le_refl _), List.take_of_length_le (by omega)]
theorem cut_from {xs : List V} {i : Int} (h : 0 ≤ i) : cutV xs (some i) none = xs.drop i.toNat := by
  obtain ⟨k, rfl⟩ := Int.eq_ofNat_of_zero_le h
  show (xs.drop (HT.sIx xs.length 0 (some (k : Int)))).take (xs.length - HT.sIx xs.length 0 (some (k : Int))) = _
  rw [HT.sIx_nat, Int.toNat_natCast]
  by_cases hk : k ≤ xs.length
  · rw [Nat.min_eq_left hk]
    exact List.take_of_length_le (by rw [List.length_drop]; omega)
  · rw [Nat.min_eq_right (by omega), List.drop_of_length_le (Nat.le_refl _), List.drop_of_length_le (by omega), List.take_nil]
theorem cut_all {xs : List V} {i : Int} (h : (xs.length : Int) ≤ i) : cutV xs none (some i) = xs := by
  rw [cut_to (by omega), List.take_of_length_le (by omega)]
theorem put_none {kvs : List (Key × V)} {k : Key} {v : V} (h : valV kvs k = none) : putK kvs k v = kvs ++ [(k, v)] := by
  unfold putK
  rw [valV_any, h]
  rfl
theorem dd_merge {c : Addr} {n r s : Int} : mergeK [] (dd c n r s) = dd c n r s := by
  show putK (putK (putK (putK ([] : List (Key × V)) (Sum.inr ("cells" : Str) : Key) (V.ref c)) (Sum.inr ("at" : Str) : Key) (V.int n)) (Sum.inr ("rest" : Str) : Key) (V.int r)) (Sum.inr ("seed" : Str) : Key) (V.int s) = _
  rw [put_none (kvs := []) rfl]
  rw [put_none (kvs := [] ++ _) ((valV_neg (kne n_ca)).trans rfl)]
  rw [put_none (kvs := [] ++ _ ++ _) ((valV_neg (kne n_cr)).trans ((valV_neg (kne n_ar)).trans rfl))]
  rw [put_none (kvs := [] ++ _ ++ _ ++ _) ((valV_neg (kne n_cs)).trans ((valV_neg (kne n_as)).trans ((valV_neg (kne n_rs)).trans rfl)))]
  rfl
end
/-- some element of a list -/
def spOf (K : PySem.W.Frag) : Sp := fun vs H Q _ => ∃ (d c l : Addr) (xs : List V), vs = [.ref d, .ref l] ∧ Draw K H d c ∧ SqL K H l xs ∧ 0 < xs.length ∧ xs.length < 2 ^ 100 ∧ ∀ x H', Keep d H H' → Draw K H' d c → x ∈ xs → Q x H'
theorem use_of {K : PySem.W.Frag} {d c l : Addr} {xs : List V} {H : Hp} {Q : VK} {E : XK} (hD : Draw K H d c) (h : SqL K H l xs) (h1 : 0 < xs.length) (h2 : xs.length < 2 ^ 100) (q : ∀ x H', Keep d H H' → Draw K H' d c → x ∈ xs → Q x H') : spOf K ([.ref d, .ref l] ++ []) H Q E := ⟨d, c, l, xs, rfl, hD, h, h1, h2, q⟩
end Ls
namespace Lm
/-! ### least amounts and rings, in plain Lean -/
abbrev Tie := Int × Int × Int
structure S where
  row : Int → Int
  way : Int → Option Tie
  last : Option Int
def push1 (s : S) (t : Tie) : S :=
  if s.row t.1 < s.row t.2.1 + t.2.2 then ⟨fun p => if p = t.1 then s.row t.2.1 + t.2.2 else s.row p, fun p => if p = t.1 then some t else s.way p, some t.1⟩ else s
def pushedS (s : S) (es : List Tie) : S := es.foldl push1 { s with last := none }
def iter (es : List Tie) (s : S) : Nat → S
  | 0 => s
  | k + 1 => pushedS (iter es s k) es
/-- a tie is met -/
def Met (x : Int → Int) (t : Tie) : Prop := x t.2.1 + t.2.2 ≤ x t.1
theorem push1_pos {s : S} {t : Tie} (h : s.row t.1 < s.row t.2.1 + t.2.2) : push1 s t = ⟨fun p => if p = t.1 then s.row t.2.1 + t.2.2 else s.row p, fun p => if p = t.1 then some t else s.way p, some t.1⟩ := if_pos h
theorem push1_neg {s : S} {t : Tie} (h : ¬ s.row t.1 < s.row t.2.1 + t.2.2) : push1 s t = s := if_neg h
theorem push1_mono (s : S) (t : Tie) (p : Int) : s.row p ≤ (push1 s t).row p := by
  by_cases h : s.row t.1 < s.row t.2.1 + t.2.2
  · rw [push1_pos h]
    show s.row p ≤ if p = t.1 then s.row t.2.1 + t.2.2 else s.row p
    by_cases e : p = t.1
    · rw [if_pos e, e]; omega
    · rw [if_neg e]; omega
  · rw [push1_neg h]; omega
theorem fold_mono (p : Int) : ∀ (ts : List Tie) (s : S), s.row p ≤ (ts.foldl push1 s).row p
  | [], s => Int.le_refl _
  | t :: ts, s => Int.le_trans (push1_mono s t p) (fold_mono p ts (push1 s t))
theorem fold_none : ∀ (ts : List Tie) (s : S), (ts.foldl push1 s).last = none → s.last = none ∧ ts.foldl push1 s = s ∧ ∀ t ∈ ts, Met s.row t
  | [], s, h => ⟨h, rfl, fun t ht => by cases ht⟩
  | t :: ts, s, h => by
    obtain ⟨h1, h2, h3⟩ := fold_none ts (push1 s t) h
    by_cases c : s.row t.1 < s.row t.2.1 + t.2.2
    · rw [push1_pos c] at h1; cases h1
    · rw [push1_neg c] at h1 h2 h3
      refine ⟨h1, ?_, fun u hu => ?_⟩
      · show ts.foldl push1 (push1 s t) = s
        rw [push1_neg c]; exact h2
      · rcases List.mem_cons.mp hu with rfl | hu
        · show s.row u.2.1 + u.2.2 ≤ s.row u.1
          omega
        · exact h3 u hu
theorem fold_least (R : Int → Prop) (x : Int → Int) : ∀ (ts : List Tie) (s : S), (∀ t ∈ ts, R t.1 ∧ R t.2.1 ∧ Met x t) → (∀ p, R p → s.row p ≤ x p) → ∀ p, R p → (ts.foldl push1 s).row p ≤ x p
  | [], s, _, h => h
  | t :: ts, s, ht, h => by
    refine fold_least R x ts (push1 s t) (fun u hu => ht u (List.mem_cons_of_mem _ hu)) fun p hp => ?_
    by_cases c : s.row t.1 < s.row t.2.1 + t.2.2
    · rw [push1_pos c]
      show (if p = t.1 then s.row t.2.1 + t.2.2 else s.row p) ≤ x p
      obtain ⟨r1, r2, m⟩ := ht t List.mem_cons_self
      have m : x t.2.1 + t.2.2 ≤ x t.1 := m
      have := h _ r2
      by_cases e : p = t.1
      · rw [if_pos e, e]; omega
      · rw [if_neg e]; exact h p hp
    · rw [push1_neg c]; exact h p hp
theorem fold_push : ∀ (ts : List Tie) (s : S) (t : Tie), t ∈ ts → s.row t.2.1 + t.2.2 ≤ (ts.foldl push1 s).row t.1
  | u :: ts, s, t, h => by
    rcases List.mem_cons.mp h with rfl | h
    · refine Int.le_trans ?_ (fold_mono t.1 ts (push1 s t))
      by_cases c : s.row t.1 < s.row t.2.1 + t.2.2
      · rw [push1_pos c]
        show _ ≤ if t.1 = t.1 then s.row t.2.1 + t.2.2 else s.row t.1
        rw [if_pos rfl]; omega
      · rw [push1_neg c]; omega
    · have := fold_push ts (push1 s u) t h
      have := push1_mono s u t.2.1
      show _ ≤ (ts.foldl push1 (push1 s u)).row t.1
      omega
/-! ### counting -/
theorem count_le {α : Type} {p q : α → Bool} : ∀ (l : List α), (∀ a ∈ l, p a = true → q a = true) → l.countP p ≤ l.countP q
  | [], _ => Nat.le_refl _
  | a :: l, h => by
    have ih := count_le l fun b hb => h b (List.mem_cons_of_mem _ hb)
    have := h a List.mem_cons_self
    rw [List.countP_cons, List.countP_cons]
    by_cases c : p a = true
    · rw [if_pos c, if_pos (this c)]; omega
    · rw [if_neg c]; omega
theorem count_lt {α : Type} {p q : α → Bool} : ∀ (l : List α), (∀ a ∈ l, p a = true → q a = true) → (∃ a ∈ l, p a = false ∧ q a = true) → l.countP p < l.countP q
  | [], _, ⟨a, h, _⟩ => by cases h
  | a :: l, h, ⟨b, hb, b1, b2⟩ => by
    have h' := fun b hb => h b (List.mem_cons_of_mem a hb)
    have ih := count_le l h'
    have := h a List.mem_cons_self
    rw [List.countP_cons, List.countP_cons]
    rcases List.mem_cons.mp hb with rfl | hb
    · rw [b1, b2, if_neg (by decide), if_pos rfl]; omega
    · have ih := count_lt l h' ⟨b, hb, b1, b2⟩
      by_cases c : p a = true
      · rw [if_pos c, if_pos (this c)]; omega
      · rw [if_neg c]; omega
theorem sum_le (f g : Int → Int) : ∀ (l : List Int), (∀ a ∈ l, f a ≤ g a) → (l.map f).sum ≤ (l.map g).sum
  | [], _ => Int.le_refl _
  | a :: l, h => by
    have ih := sum_le f g l fun b hb => h b (List.mem_cons_of_mem _ hb)
    have := h a List.mem_cons_self
    rw [List.map_cons, List.map_cons, List.sum_cons, List.sum_cons]
    omega
theorem sum_lt (f g : Int → Int) : ∀ (l : List Int), (∀ a ∈ l, f a ≤ g a) → (∃ a ∈ l, f a < g a) → (l.map f).sum < (l.map g).sum
  | [], _, ⟨a, h, _⟩ => by cases h
  | a :: l, h, ⟨b, hb, b1⟩ => by
    have h' := fun b hb => h b (List.mem_cons_of_mem a hb)
    have ih := sum_le f g l h'
    have := h a List.mem_cons_self
    rw [List.map_cons, List.map_cons, List.sum_cons, List.sum_cons]
    rcases List.mem_cons.mp hb with rfl | hb
    · omega
    · have ih := sum_lt f g l h' ⟨b, hb, b1⟩
      omega
theorem sum_nn (f : Int → Int) : ∀ (l : List Int), (∀ a ∈ l, 0 ≤ f a) → 0 ≤ (l.map f).sum
  | [], _ => Int.le_refl _
  | a :: l, h => by
    have ih := sum_nn f l fun b hb => h b (List.mem_cons_of_mem _ hb)
    have := h a List.mem_cons_self
    rw [List.map_cons, List.sum_cons]
    omega
/-! ### when amounts there are, pushing ends -/
/-- amounts over the places ps -/
def Sol (ps : List Int) (es : List Tie) (x : Int → Int) : Prop := (∀ p ∈ ps, 0 ≤ x p) ∧ x (-1) = 0 ∧ ∀ t ∈ es, Met x t
theorem sol_min (ps : List Int) (es : List Tie) : ∀ (n : Nat) (x : Int → Int), Sol ps es x → ((ps.map x).sum).toNat = n → ∃ m, Sol ps es m ∧ ∀ y, Sol ps es y → (ps.map m).sum ≤ (ps.map y).sum := by
  intro n
  induction n using Nat.strongRecOn with
  | _ n ih =>
    intro x hx e
    by_cases c : ∃ y, Sol ps es y ∧ (ps.map y).sum < (ps.map x).sum
    · obtain ⟨y, hy, hl⟩ := c
      have := sum_nn y ps hy.1
      exact ih _ (by omega) y hy rfl
    · refine ⟨x, hx, fun y hy => ?_⟩
      by_cases d : (ps.map x).sum ≤ (ps.map y).sum
      · exact d
      · exact (c ⟨y, hy, by omega⟩).elim
theorem tight {ps : List Int} {es : List Tie} {m r : Int → Int} (hm : Sol ps es m) (mn : ∀ y, Sol ps es y → (ps.map m).sum ≤ (ps.map y).sum) (h0 : ∀ p ∈ ps, 0 ≤ r p) (h1 : ∀ p ∈ ps, r p ≤ m p) (hz : -1 ∈ ps) (hd : ∃ p ∈ ps, r p ≠ m p) :
    ∃ t ∈ es, r t.2.1 = m t.2.1 ∧ r t.1 ≠ m t.1 ∧ m t.1 = m t.2.1 + t.2.2 := by
  apply Classical.byContradiction
  intro hn
  have key : ∀ t ∈ es, r t.2.1 = m t.2.1 → r t.1 ≠ m t.1 → m t.2.1 + t.2.2 + 1 ≤ m t.1 := fun t ht a b => by
    have c := hm.2.2 t ht
    have c : m t.2.1 + t.2.2 ≤ m t.1 := c
    by_cases e : m t.1 = m t.2.1 + t.2.2
    · exact (hn ⟨t, ht, a, b, e⟩).elim
    · omega
  have hs : Sol ps es (fun p => if r p = m p then m p else m p - 1) := by
    refine ⟨fun p hp => ?_, ?_, fun t ht => ?_⟩
    · show 0 ≤ if r p = m p then m p else m p - 1
      have a := h0 p hp
      have b := h1 p hp
      by_cases c : r p = m p
      · rw [if_pos c]; omega
      · rw [if_neg c]; omega
    · show (if r (-1) = m (-1) then m (-1) else m (-1) - 1) = 0
      have a := h0 _ hz
      have b := h1 _ hz
      have c := hm.2.1
      rw [if_pos (by omega)]; exact c
    · show (if r t.2.1 = m t.2.1 then m t.2.1 else m t.2.1 - 1) + t.2.2 ≤ (if r t.1 = m t.1 then m t.1 else m t.1 - 1)
      have c : m t.2.1 + t.2.2 ≤ m t.1 := hm.2.2 t ht
      by_cases a : r t.2.1 = m t.2.1
      · by_cases b : r t.1 = m t.1
        · rw [if_pos a, if_pos b]; exact c
        · have := key t ht a b
          rw [if_pos a, if_neg b]; omega
      · by_cases b : r t.1 = m t.1
        · rw [if_neg a, if_pos b]; omega
        · rw [if_neg a, if_neg b]; omega
  have := mn _ hs
  obtain ⟨p, hp, hne⟩ := hd
  have lt := sum_lt (fun p => if r p = m p then m p else m p - 1) m ps (fun p _ => by
    show (if r p = m p then m p else m p - 1) ≤ m p
    by_cases c : r p = m p
    · rw [if_pos c]; omega
    · rw [if_neg c]; omega) ⟨p, hp, by
      show (if r p = m p then m p else m p - 1) < m p
      rw [if_neg hne]; omega⟩
  omega
/-- how many places are not at their amounts yet -/
def off (ps : List Int) (m : Int → Int) (s : S) : Nat := ps.countP fun p => decide (s.row p ≠ m p)
theorem off_round {ps : List Int} {es : List Tie} {m : Int → Int} {s : S} (hm : Sol ps es m) (mn : ∀ y, Sol ps es y → (ps.map m).sum ≤ (ps.map y).sum) (hp : ∀ t ∈ es, t.1 ∈ ps ∧ t.2.1 ∈ ps) (h0 : ∀ p ∈ ps, 0 ≤ s.row p) (h1 : ∀ p ∈ ps, s.row p ≤ m p) (hz : -1 ∈ ps) :
    (∀ p ∈ ps, 0 ≤ (pushedS s es).row p) ∧ (∀ p ∈ ps, (pushedS s es).row p ≤ m p) ∧ (off ps m (pushedS s es) < off ps m s ∨ off ps m s = 0 ∧ off ps m (pushedS s es) = 0) := by
  have up : ∀ p ∈ ps, (pushedS s es).row p ≤ m p := fold_least (fun p => p ∈ ps) m es { s with last := none } (fun t ht => ⟨(hp t ht).1, (hp t ht).2, hm.2.2 t ht⟩) h1
  have lo : ∀ p, s.row p ≤ (pushedS s es).row p := fun p => fold_mono p es { s with last := none }
  refine ⟨fun p hp => Int.le_trans (h0 p hp) (lo p), up, ?_⟩
  have keep : ∀ p ∈ ps, decide ((pushedS s es).row p ≠ m p) = true → decide (s.row p ≠ m p) = true := fun p hp h => by
    have h := of_decide_eq_true h
    have a := lo p
    have b := up p hp
    exact decide_eq_true (by omega)
  by_cases hd : ∃ p ∈ ps, s.row p ≠ m p
  · left
    obtain ⟨t, ht, a, b, c⟩ := tight hm mn h0 h1 hz hd
    refine count_lt ps keep ⟨t.1, (hp t ht).1, ?_, decide_eq_true b⟩
    have d : s.row t.2.1 + t.2.2 ≤ (pushedS s es).row t.1 := fold_push es { s with last := none } t ht
    have e := up t.1 (hp t ht).1
    exact decide_eq_false (by omega)
  · right
    have z : off ps m s = 0 := List.countP_eq_zero.mpr fun p hp h => hd ⟨p, hp, of_decide_eq_true h⟩
    refine ⟨z, ?_⟩
    have := count_le ps keep
    unfold off at z ⊢
    omega
theorem off_iter {ps : List Int} {es : List Tie} {m : Int → Int} {s : S} (hm : Sol ps es m) (mn : ∀ y, Sol ps es y → (ps.map m).sum ≤ (ps.map y).sum) (hp : ∀ t ∈ es, t.1 ∈ ps ∧ t.2.1 ∈ ps) (h0 : ∀ p ∈ ps, 0 ≤ s.row p) (h1 : ∀ p ∈ ps, s.row p ≤ m p) (hz : -1 ∈ ps) :
    ∀ k, (∀ p ∈ ps, 0 ≤ (iter es s k).row p) ∧ (∀ p ∈ ps, (iter es s k).row p ≤ m p) ∧ off ps m (iter es s k) ≤ off ps m s - k
  | 0 => ⟨h0, h1, Nat.le_refl _⟩
  | k + 1 => by
    obtain ⟨a, b, c⟩ := off_iter hm mn hp h0 h1 hz k
    obtain ⟨d, e, f⟩ := off_round hm mn hp a b hz
    refine ⟨d, e, ?_⟩
    show off ps m (pushedS (iter es s k) es) ≤ _
    omega
theorem fold_still : ∀ (ts : List Tie) (s : S), (∀ t ∈ ts, Met s.row t) → ts.foldl push1 s = s
  | [], s, _ => rfl
  | t :: ts, s, h => by
    have a : s.row t.2.1 + t.2.2 ≤ s.row t.1 := h t List.mem_cons_self
    show ts.foldl push1 (push1 s t) = s
    rw [push1_neg (by omega)]
    exact fold_still ts s fun u hu => h u (List.mem_cons_of_mem _ hu)
/-- when there are amounts, nothing is pushed any more after as many rounds as places -/
theorem ends {ps : List Int} {es : List Tie} {x : Int → Int} {s : S} (hx : Sol ps es x) (hp : ∀ t ∈ es, t.1 ∈ ps ∧ t.2.1 ∈ ps) (h0 : ∀ p, s.row p = 0) (hz : -1 ∈ ps) {k : Nat} (hk : ps.length ≤ k) : (iter es s (k + 1)).last = none := by
  obtain ⟨m, hm, mn⟩ := sol_min ps es _ x hx rfl
  obtain ⟨a, b, c⟩ := off_iter (s := s) hm mn hp (fun p _ => by rw [h0]; exact Int.le_refl _) (fun p q => by rw [h0]; exact hm.1 p q) hz k
  have d : off ps m s ≤ ps.length := List.countP_le_length
  have e : off ps m (iter es s k) = 0 := by omega
  have f : ∀ p ∈ ps, (iter es s k).row p = m p := fun p hp => by
    have := List.countP_eq_zero.mp e p hp
    exact Classical.byContradiction fun h => this (decide_eq_true h)
  show (pushedS (iter es s k) es).last = none
  unfold pushedS
  rw [fold_still es { iter es s k with last := none } fun t ht => by
    show (iter es s k).row t.2.1 + t.2.2 ≤ (iter es s k).row t.1
    rw [f _ (hp t ht).1, f _ (hp t ht).2]
    exact hm.2.2 t ht]
/-- when nothing is pushed any more, the row is the least amounts -/
theorem least {ps : List Int} {es : List Tie} {s : S} (hp : ∀ t ∈ es, t.1 ∈ ps ∧ t.2.1 ∈ ps) (h0 : ∀ p, s.row p = 0) (hz : -1 ∈ ps) {k : Nat} (hl : (iter es s (k + 1)).last = none) (hb : ∀ p ∈ ps, p ≠ -1 → (p, -1, 0) ∈ es) :
    Sol ps es (fun p => (iter es s (k + 1)).row p - (iter es s (k + 1)).row (-1)) ∧ (∀ x, Sol ps es x → ∀ p ∈ ps, (iter es s (k + 1)).row p ≤ x p) ∧ (iter es s (k + 1)).row (-1) = 0 := by
  obtain ⟨_, e, mt⟩ := fold_none es { iter es s k with last := none } hl
  have e : iter es s (k + 1) = { iter es s k with last := none } := e
  have rw0 : (iter es s (k + 1)).row = (iter es s k).row := by rw [e]
  have mt : ∀ t ∈ es, Met (iter es s (k + 1)).row t := fun t ht => by rw [rw0]; exact mt t ht
  have lo : ∀ j, ∀ p, 0 ≤ (iter es s j).row p := by
    intro j
    induction j with
    | zero => intro p; show 0 ≤ s.row p; rw [h0]; exact Int.le_refl _
    | succ j ih => exact fun p => Int.le_trans (ih p) (fold_mono p es { iter es s j with last := none })
  have up : ∀ x, Sol ps es x → ∀ j, ∀ p ∈ ps, (iter es s j).row p ≤ x p := by
    intro x hx j
    induction j with
    | zero => intro p hp; show s.row p ≤ x p; rw [h0]; exact hx.1 p hp
    | succ j ih => exact fold_least (fun p => p ∈ ps) x es { iter es s j with last := none } (fun t ht => ⟨(hp t ht).1, (hp t ht).2, hx.2.2 t ht⟩) ih
  have hs : Sol ps es (fun p => (iter es s (k + 1)).row p - (iter es s (k + 1)).row (-1)) := by
    refine ⟨fun p hp => ?_, ?_, fun t ht => ?_⟩
    · show 0 ≤ (iter es s (k + 1)).row p - (iter es s (k + 1)).row (-1)
      by_cases c : p = -1
      · rw [c]; omega
      · have := mt _ (hb p hp c)
        have : (iter es s (k + 1)).row (-1) + 0 ≤ (iter es s (k + 1)).row p := this
        omega
    · show (iter es s (k + 1)).row (-1) - (iter es s (k + 1)).row (-1) = 0
      omega
    · show (iter es s (k + 1)).row t.2.1 - (iter es s (k + 1)).row (-1) + t.2.2 ≤ (iter es s (k + 1)).row t.1 - (iter es s (k + 1)).row (-1)
      have : (iter es s (k + 1)).row t.2.1 + t.2.2 ≤ (iter es s (k + 1)).row t.1 := mt t ht
      omega
  refine ⟨hs, fun x hx => up x hx (k + 1), ?_⟩
  have a := up _ hs (k + 1) (-1) hz
  have b := lo (k + 1) (-1)
  have a : (iter es s (k + 1)).row (-1) ≤ (iter es s (k + 1)).row (-1) - (iter es s (k + 1)).row (-1) := a
  omega
end Lm
namespace Lm
/-! ### the ring -/
theorem pigeon : ∀ (m : Nat) (f : Nat → Int) (a : Int), (∀ i, i ≤ m → a ≤ f i ∧ f i < a + m) → ∃ i j, i < j ∧ j ≤ m ∧ f i = f j
  | 0, f, a, h => by
    have := h 0 (Nat.le_refl _)
    omega
  | m + 1, f, a, h => by
    by_cases c : ∃ i, i ≤ m ∧ f i = f (m + 1)
    · obtain ⟨i, hi, e⟩ := c
      exact ⟨i, m + 1, by omega, Nat.le_refl _, e⟩
    · have c : ∀ i, i ≤ m → f i ≠ f (m + 1) := fun i hi e => c ⟨i, hi, e⟩
      have hl := h (m + 1) (Nat.le_refl _)
      obtain ⟨i, j, h1, h2, e⟩ := pigeon m (fun i => if f i = a + m then f (m + 1) else f i) a (fun i hi => by
        have := h i (by omega)
        have := c i hi
        show a ≤ (if f i = a + m then f (m + 1) else f i) ∧ (if f i = a + m then f (m + 1) else f i) < a + m
        by_cases d : f i = a + m
        · rw [if_pos d]; omega
        · rw [if_neg d]; omega)
      have e : (if f i = a + m then f (m + 1) else f i) = (if f j = a + m then f (m + 1) else f j) := e
      refine ⟨i, j, h1, by omega, ?_⟩
      have c1 := c i (by omega)
      have c2 := c j h2
      by_cases d1 : f i = a + m
      · by_cases d2 : f j = a + m
        · rw [d1, d2]
        · rw [if_pos d1, if_neg d2] at e
          exact (c2 e.symm).elim
      · by_cases d2 : f j = a + m
        · rw [if_neg d1, if_pos d2] at e
          exact (c1 e).elim
        · rw [if_neg d1, if_neg d2] at e
          exact e
/-- the tie that pushed a place, when there is one -/
def wy (w : Int → Option Tie) (v : Int) : Tie := (w v).getD (0, 0, 0)
def nx (w : Int → Option Tie) (v : Int) : Int := (wy w v).2.1
def go (w : Int → Option Tie) : Nat → Int → Int
  | 0, v => v
  | k + 1, v => nx w (go w k v)
theorem go_add (w : Int → Option Tie) (a v) : ∀ b, go w (a + b) v = go w b (go w a v)
  | 0 => rfl
  | b + 1 => by
    show nx w (go w (a + b) v) = nx w (go w b (go w a v))
    rw [go_add w a v b]
/-- what holds of a row and the ties that pushed it -/
def InvT (es : List Tie) (s : S) (T : Int → Nat) (c : Nat) : Prop :=
  (∀ p, T p ≤ c) ∧ ∀ v t, s.way v = some t → t.1 = v ∧ t ∈ es ∧ s.row v ≤ s.row t.2.1 + t.2.2 ∧ (T v ≤ T t.2.1 → s.row v < s.row t.2.1 + t.2.2)
theorem invT_push {es : List Tie} {s : S} {T : Int → Nat} {c : Nat} {t : Tie} (h : InvT es s T c) (ht : t ∈ es) (hn : t.1 ≠ t.2.1) : ∃ T' c', InvT es (push1 s t) T' c' := by
  by_cases q : s.row t.1 < s.row t.2.1 + t.2.2
  · rw [push1_pos q]
    refine ⟨fun p => if p = t.1 then c + 1 else T p, c + 1, fun p => ?_, fun v u hv => ?_⟩
    · show (if p = t.1 then c + 1 else T p) ≤ c + 1
      have := h.1 p
      by_cases e : p = t.1
      · rw [if_pos e]; omega
      · rw [if_neg e]; omega
    · have hv : (if v = t.1 then some t else s.way v) = some u := hv
      show u.1 = v ∧ u ∈ es ∧ (if v = t.1 then s.row t.2.1 + t.2.2 else s.row v) ≤ (if u.2.1 = t.1 then s.row t.2.1 + t.2.2 else s.row u.2.1) + u.2.2 ∧
        ((if v = t.1 then c + 1 else T v) ≤ (if u.2.1 = t.1 then c + 1 else T u.2.1) → (if v = t.1 then s.row t.2.1 + t.2.2 else s.row v) < (if u.2.1 = t.1 then s.row t.2.1 + t.2.2 else s.row u.2.1) + u.2.2)
      by_cases e : v = t.1
      · rw [if_pos e] at hv
        cases hv
        rw [if_pos e, if_neg hn.symm, if_pos e, if_neg hn.symm]
        refine ⟨e.symm, ht, by omega, fun z => ?_⟩
        have := h.1 t.2.1
        omega
      · rw [if_neg e] at hv
        obtain ⟨a, b, d, f⟩ := h.2 v u hv
        rw [if_neg e, if_neg e]
        by_cases g : u.2.1 = t.1
        · rw [if_pos g, if_pos g]
          rw [g] at d
          exact ⟨a, b, by omega, fun _ => by omega⟩
        · rw [if_neg g, if_neg g]
          exact ⟨a, b, d, f⟩
  · rw [push1_neg q]
    exact ⟨T, c, h⟩
theorem invT_fold {es : List Tie} : ∀ (ts : List Tie) (s : S), (∀ t ∈ ts, t ∈ es ∧ t.1 ≠ t.2.1) → (∃ T c, InvT es s T c) → ∃ T c, InvT es (ts.foldl push1 s) T c
  | [], _, _, h => h
  | t :: ts, s, ht, ⟨T, c, h⟩ => invT_fold ts (push1 s t) (fun u hu => ht u (List.mem_cons_of_mem _ hu)) (invT_push h (ht t List.mem_cons_self).1 (ht t List.mem_cons_self).2)
theorem invT_iter {es : List Tie} {s : S} (hn : ∀ t ∈ es, t.1 ≠ t.2.1) (h0 : ∀ p, s.way p = none) : ∀ k, ∃ T c, InvT es (iter es s k) T c
  | 0 => ⟨fun _ => 0, 0, fun _ => Nat.le_refl _, fun v t h => by
    have h : s.way v = some t := h
    rw [h0] at h; cases h⟩
  | k + 1 => by
    obtain ⟨T, c, h⟩ := invT_iter hn h0 k
    exact invT_fold es { iter es s k with last := none } (fun t ht => ⟨ht, hn t ht⟩) ⟨T, c, h⟩
/-- the rounds in which places were pushed last -/
structure InvR (r : Nat) (pre suf : List Tie) (s : S) (R : Int → Nat) : Prop where
  way : ∀ v t, s.way v = some t → R v ≤ R t.2.1 + 1
  has : ∀ v, s.way v = none → R v = 0
  top : ∀ v, R v ≤ r
  pre : ∀ t ∈ pre, Met s.row t ∨ r ≤ R t.2.1
  suf : ∀ t ∈ suf, Met s.row t ∨ r ≤ R t.2.1 + 1
  last : ∀ v, s.last = some v → R v = r
theorem met_push {s : S} {t u : Tie} (h : Met s.row u) (n : u.2.1 ≠ t.1) : Met (push1 s t).row u := by
  have a := push1_mono s t u.1
  have h : s.row u.2.1 + u.2.2 ≤ s.row u.1 := h
  show (push1 s t).row u.2.1 + u.2.2 ≤ (push1 s t).row u.1
  have b : (push1 s t).row u.2.1 = s.row u.2.1 := by
    by_cases q : s.row t.1 < s.row t.2.1 + t.2.2
    · rw [push1_pos q]
      exact if_neg n
    · rw [push1_neg q]
  omega
theorem met_self {s : S} {t : Tie} (n : t.1 ≠ t.2.1) : Met (push1 s t).row t := by
  by_cases q : s.row t.1 < s.row t.2.1 + t.2.2
  · rw [push1_pos q]
    show (if t.2.1 = t.1 then s.row t.2.1 + t.2.2 else s.row t.2.1) + t.2.2 ≤ (if t.1 = t.1 then s.row t.2.1 + t.2.2 else s.row t.1)
    rw [if_neg n.symm, if_pos rfl]
    exact Int.le_refl _
  · rw [push1_neg q]
    show s.row t.2.1 + t.2.2 ≤ s.row t.1
    omega
theorem invR_push {r : Nat} {pre suf : List Tie} {s : S} {R : Int → Nat} {t : Tie} (h : InvR r pre (t :: suf) s R) (hn : t.1 ≠ t.2.1) : ∃ R', InvR r (pre ++ [t]) suf (push1 s t) R' := by
  by_cases q : s.row t.1 < s.row t.2.1 + t.2.2
  · have ht : r ≤ R t.2.1 + 1 := by
      rcases h.suf t List.mem_cons_self with a | a
      · have a : s.row t.2.1 + t.2.2 ≤ s.row t.1 := a
        omega
      · exact a
    have up : ∀ p, R p ≤ (if p = t.1 then r else R p) := fun p => by
      by_cases e : p = t.1
      · rw [if_pos e]; exact h.top p
      · rw [if_neg e]; exact Nat.le_refl _
    refine ⟨fun p => if p = t.1 then r else R p, ⟨fun v u hv => ?_, fun v hv => ?_, fun v => ?_, fun u hu => ?_, fun u hu => ?_, fun v hv => ?_⟩⟩
    · rw [push1_pos q] at hv
      have hv : (if v = t.1 then some t else s.way v) = some u := hv
      show (if v = t.1 then r else R v) ≤ (if u.2.1 = t.1 then r else R u.2.1) + 1
      have := up u.2.1
      by_cases e : v = t.1
      · rw [if_pos e] at hv
        cases hv
        rw [if_pos e]
        omega
      · rw [if_neg e] at hv
        have := h.way v u hv
        rw [if_neg e]
        omega
    · rw [push1_pos q] at hv
      have hv : (if v = t.1 then some t else s.way v) = none := hv
      show (if v = t.1 then r else R v) = 0
      by_cases e : v = t.1
      · rw [if_pos e] at hv
        cases hv
      · rw [if_neg e] at hv
        rw [if_neg e]
        exact h.has v hv
    · show (if v = t.1 then r else R v) ≤ r
      have := h.top v
      by_cases e : v = t.1
      · rw [if_pos e]; omega
      · rw [if_neg e]; omega
    · show Met _ u ∨ r ≤ (if u.2.1 = t.1 then r else R u.2.1)
      by_cases e : u.2.1 = t.1
      · right; rw [if_pos e]; exact Nat.le_refl _
      · rw [if_neg e]
        rcases List.mem_append.mp hu with hu | hu
        · rcases h.pre u hu with a | a
          · exact .inl (met_push a e)
          · exact .inr a
        · rw [List.mem_singleton] at hu
          subst hu
          exact .inl (met_self hn)
    · show Met _ u ∨ r ≤ (if u.2.1 = t.1 then r else R u.2.1) + 1
      by_cases e : u.2.1 = t.1
      · right; rw [if_pos e]; omega
      · rw [if_neg e]
        rcases h.suf u (List.mem_cons_of_mem _ hu) with a | a
        · exact .inl (met_push a e)
        · exact .inr a
    · rw [push1_pos q] at hv
      have hv : some t.1 = some v := hv
      cases hv
      show (if t.1 = t.1 then r else R t.1) = r
      rw [if_pos rfl]
  · have hm : Met (push1 s t).row t := met_self hn
    rw [push1_neg q] at hm ⊢
    exact ⟨R, ⟨h.way, h.has, h.top, fun u hu => by
      rcases List.mem_append.mp hu with hu | hu
      · exact h.pre u hu
      · rw [List.mem_singleton] at hu
        subst hu
        exact .inl hm, fun u hu => h.suf u (List.mem_cons_of_mem _ hu), h.last⟩⟩
theorem invR_fold {r : Nat} : ∀ (suf pre : List Tie) (s : S), (∀ t ∈ suf, t.1 ≠ t.2.1) → (∃ R, InvR r pre suf s R) → ∃ R, InvR r (pre ++ suf) [] (suf.foldl push1 s) R
  | [], pre, s, _, h => by rw [List.append_nil]; exact h
  | t :: suf, pre, s, hn, ⟨R, h⟩ => by
    have := invR_fold suf (pre ++ [t]) (push1 s t) (fun u hu => hn u (List.mem_cons_of_mem _ hu)) (invR_push h (hn t List.mem_cons_self))
    rw [List.append_assoc] at this
    exact this
theorem invR_iter {es : List Tie} {s : S} (hn : ∀ t ∈ es, t.1 ≠ t.2.1) (h0 : ∀ p, s.way p = none) : ∀ k, ∃ R, InvR (k + 1) es [] (iter es s (k + 1)) R
  | 0 => by
    have := invR_fold (r := 1) es [] { s with last := none } hn ⟨fun _ => 0, fun v t h => by show 0 ≤ _; omega, fun _ _ => rfl, fun _ => by show 0 ≤ 1; decide, fun u hu => (by cases hu), fun u _ => .inr (by show 1 ≤ 0 + 1; decide), fun v h => by cases h⟩
    rw [List.nil_append] at this
    exact this
  | k + 1 => by
    obtain ⟨R, h⟩ := invR_iter hn h0 k
    have := invR_fold (r := k + 2) es [] { iter es s (k + 1) with last := none } hn ⟨R, fun v t hv => h.way v t hv, fun v hv => h.has v hv, fun v => Nat.le_succ_of_le (h.top v), fun u hu => (by cases hu), fun u hu => by
      rcases h.pre u hu with a | a
      · exact .inl a
      · exact .inr (by omega), fun v h => by cases h⟩
    rw [List.nil_append] at this
    exact this
/-- ties in a ring that come to more than nothing -/
structure Ring (es : List Tie) (rs : List Tie) : Prop where
  ne : rs ≠ []
  mem : ∀ r ∈ rs, r ∈ es
  link : ∀ (i : Nat) (t u : Tie), rs[i]? = some t → rs[i + 1]? = some u → t.2.1 = u.1
  clos : ∀ (t u : Tie), rs[0]? = some t → rs[rs.length - 1]? = some u → u.2.1 = t.1
  nodup : ∀ (i j : Nat) (t u : Tie), rs[i]? = some t → rs[j]? = some u → t.1 = u.1 → i = j
  sum : 0 < (rs.map (·.2.2)).sum
/-- what the ways show when pushing has not ended -/
structure Runs (es : List Tie) (w : Int → Option Tie) (n : Nat) (v b : Int) (q : Nat) : Prop where
  steps : ∀ k, k < n → ∃ t, w (go w k v) = some t ∧ t.2.1 = go w (k + 1) v
  begin : b = go w n v
  pos : 1 ≤ q
  le : q < n
  back : go w q b = b
  first : ∀ k, 0 < k → k < q → go w k b ≠ b
  all : ∀ k, ∃ t, w (go w k b) = some t ∧ t.1 = go w k b ∧ t.2.1 = go w (k + 1) b
  ring : Ring es ((List.range q).map fun k => wy w (go w k b))
theorem sum_range (f : Nat → Int) (n : Nat) : ((List.range (n + 1)).map f).sum = ((List.range n).map f).sum + f n := by
  rw [List.range_succ, List.map_append, List.sum_append]
  simp
theorem runs {lanes : Nat} {es : List Tie} {s : S} (hn : ∀ t ∈ es, t.1 ≠ t.2.1) (hp : ∀ t ∈ es, (-1 ≤ t.1 ∧ t.1 < lanes) ∧ -1 ≤ t.2.1 ∧ t.2.1 < lanes) (h0 : ∀ p, s.way p = none) {v : Int} (hl : (iter es s (lanes + 2)).last = some v) :
    ∃ q, Runs es (iter es s (lanes + 2)).way (lanes + 2) v (go (iter es s (lanes + 2)).way (lanes + 2) v) q := by
  obtain ⟨R, hR⟩ := invR_iter hn h0 (lanes + 1)
  obtain ⟨T, c, hT⟩ := invT_iter hn h0 (lanes + 2)
  generalize hs : iter es s (lanes + 2) = f at hl hT ⊢
  have hR : InvR (lanes + 2) es [] f R := by rw [← hs]; exact hR
  have wyS : ∀ u t, f.way u = some t → wy f.way u = t ∧ nx f.way u = t.2.1 := fun u t h => by
    have : wy f.way u = t := by unfold wy; rw [h]; rfl
    exact ⟨this, by unfold nx; rw [this]⟩
  have rnd : ∀ k, k ≤ lanes + 2 → lanes + 2 - k ≤ R (go f.way k v) := by
    intro k
    induction k with
    | zero => intro _; show _ ≤ R v; rw [hR.last v hl]; exact Nat.sub_le _ _
    | succ k ih =>
      intro hk
      have a := ih (by omega)
      cases hw : f.way (go f.way k v) with
      | none =>
        have := hR.has _ hw
        omega
      | some t =>
        have b := hR.way _ _ hw
        have e : go f.way (k + 1) v = t.2.1 := (wyS _ _ hw).2
        rw [e]
        omega
  have some1 : ∀ k, k < lanes + 2 → ∃ t, f.way (go f.way k v) = some t ∧ t.1 = go f.way k v ∧ t.2.1 = go f.way (k + 1) v := fun k hk => by
    cases hw : f.way (go f.way k v) with
    | none =>
      have := hR.has _ hw
      have := rnd k (by omega)
      omega
    | some t => exact ⟨t, rfl, (hT.2 _ _ hw).1, ((wyS _ _ hw).2).symm⟩
  obtain ⟨i, j, hij, hj, e⟩ := pigeon (lanes + 1) (fun k => go f.way k v) (-1) (fun k hk => by
    obtain ⟨t, h1, h2, _⟩ := some1 k (by omega)
    have a := hp t (hT.2 _ _ h1).2.1
    rw [h2] at a
    show -1 ≤ go f.way k v ∧ go f.way k v < -1 + ((lanes + 1 : Nat) : Int)
    omega)
  have e : go f.way i v = go f.way j v := e
  -- from i on, the way turns with period j - i
  have per : ∀ k, go f.way (i + k + (j - i)) v = go f.way (i + k) v := fun k => by
    have : i + k + (j - i) = j + k := by omega
    rw [this, go_add, go_add, e]
  have all1 : ∀ k, ∃ t, f.way (go f.way (i + k) v) = some t ∧ t.1 = go f.way (i + k) v ∧ t.2.1 = go f.way (i + k + 1) v := by
    intro k
    induction k using Nat.strongRecOn with
    | _ k ih =>
      by_cases hk : i + k < lanes + 2
      · exact some1 _ hk
      · have := ih (k - (j - i)) (by omega)
        have e1 : go f.way (i + k) v = go f.way (i + (k - (j - i))) v := by
          have := per (k - (j - i))
          have e2 : i + (k - (j - i)) + (j - i) = i + k := by omega
          rw [e2] at this
          exact this
        have e3 : go f.way (i + k + 1) v = go f.way (i + (k - (j - i)) + 1) v := congrArg (nx f.way) e1
        rw [e1, e3]
        exact this
  generalize hb : go f.way (lanes + 2) v = b
  have gb : ∀ k, go f.way k b = go f.way (i + (lanes + 2 - i + k)) v := fun k => by
    have : i + (lanes + 2 - i + k) = lanes + 2 + k := by omega
    rw [this, go_add, hb]
  have all : ∀ k, ∃ t, f.way (go f.way k b) = some t ∧ t.1 = go f.way k b ∧ t.2.1 = go f.way (k + 1) b := fun k => by
    have := all1 (lanes + 2 - i + k)
    rw [gb k, gb (k + 1)]
    exact this
  have hper : go f.way (j - i) b = b := by
    rw [gb]
    have := per (lanes + 2 - i)
    have e1 : i + (lanes + 2 - i) + (j - i) = i + (lanes + 2 - i + (j - i)) := by omega
    rw [e1] at this
    rw [this]
    have e2 : i + (lanes + 2 - i) = lanes + 2 := by omega
    rw [e2, hb]
  -- the first return
  have least : ∀ n, 1 ≤ n → go f.way n b = b → ∃ q, 1 ≤ q ∧ q ≤ n ∧ go f.way q b = b ∧ ∀ k, 0 < k → k < q → go f.way k b ≠ b := by
    intro n
    induction n using Nat.strongRecOn with
    | _ n ih =>
      intro h1 h2
      by_cases d : ∃ k, 0 < k ∧ k < n ∧ go f.way k b = b
      · obtain ⟨k, a, b', c'⟩ := d
        obtain ⟨q, q1, q2, q3⟩ := ih k b' a c'
        exact ⟨q, q1, by omega, q3⟩
      · exact ⟨n, h1, Nat.le_refl _, h2, fun k a b' c' => d ⟨k, a, b', c'⟩⟩
  obtain ⟨q, q1, q2, q3, q4⟩ := least (j - i) (by omega) hper
  have edge : ∀ k, wy f.way (go f.way k b) ∈ es ∧ (wy f.way (go f.way k b)).1 = go f.way k b ∧ (wy f.way (go f.way k b)).2.1 = go f.way (k + 1) b ∧ f.row (go f.way k b) ≤ f.row (go f.way (k + 1) b) + (wy f.way (go f.way k b)).2.2 ∧
      (T (go f.way k b) ≤ T (go f.way (k + 1) b) → f.row (go f.way k b) < f.row (go f.way (k + 1) b) + (wy f.way (go f.way k b)).2.2) := fun k => by
    obtain ⟨t, h1, h2, h3⟩ := all k
    obtain ⟨a, b', c', d⟩ := hT.2 _ _ h1
    rw [(wyS _ _ h1).1]
    rw [h3] at c' d
    exact ⟨b', h2, h3, c', d⟩
  have tele : ∀ n, f.row b ≤ f.row (go f.way n b) + ((List.range n).map fun k => (wy f.way (go f.way k b)).2.2).sum ∧
      (T (go f.way n b) + n ≤ T b ∨ f.row b < f.row (go f.way n b) + ((List.range n).map fun k => (wy f.way (go f.way k b)).2.2).sum) := by
    intro n
    induction n with
    | zero => exact ⟨by show f.row b ≤ f.row b + 0; omega, .inl (Nat.le_refl _)⟩
    | succ n ih =>
      obtain ⟨a, b'⟩ := ih
      obtain ⟨_, _, _, c', d⟩ := edge n
      rw [sum_range]
      refine ⟨by omega, ?_⟩
      by_cases z : T (go f.way n b) ≤ T (go f.way (n + 1) b)
      · have := d z
        right
        omega
      · rcases b' with b' | b'
        · left; omega
        · right; omega
  have inj : ∀ x y, x < y → y < q → go f.way x b ≠ go f.way y b := fun x y hx hy e => by
    have e1 : go f.way (x + (q - y)) b = go f.way (y + (q - y)) b := by rw [go_add, go_add, e]
    rw [show y + (q - y) = q by omega, q3] at e1
    exact q4 _ (by omega) (by omega) e1
  have get : ∀ x t, ((List.range q).map fun k => wy f.way (go f.way k b))[x]? = some t → x < q ∧ t = wy f.way (go f.way x b) := fun x t h => by
    rw [List.getElem?_map] at h
    obtain ⟨z, hz, rfl⟩ := Option.map_eq_some_iff.mp h
    obtain ⟨hz1, hz2⟩ := List.getElem?_eq_some_iff.mp hz
    rw [List.length_range] at hz1
    rw [List.getElem_range] at hz2
    subst hz2
    exact ⟨hz1, rfl⟩
  refine ⟨q, ⟨fun k hk => ?_, hb.symm ▸ rfl, q1, by omega, q3, q4, all, ⟨?_, ?_, ?_, ?_, ?_, ?_⟩⟩⟩
  · obtain ⟨t, h1, _, h3⟩ := some1 k hk
    exact ⟨t, h1, h3⟩
  · intro h
    have := congrArg List.length h
    rw [List.length_map, List.length_range] at this
    have : q = 0 := this
    omega
  · intro r hr
    obtain ⟨k, _, rfl⟩ := List.mem_map.mp hr
    exact (edge k).1
  · intro x t u h1 h2
    obtain ⟨a, rfl⟩ := get _ _ h1
    obtain ⟨b', rfl⟩ := get _ _ h2
    rw [(edge x).2.2.1, (edge (x + 1)).2.1]
  · intro t u h1 h2
    rw [List.length_map, List.length_range] at h2
    obtain ⟨a, rfl⟩ := get _ _ h1
    obtain ⟨b', rfl⟩ := get _ _ h2
    rw [(edge (q - 1)).2.2.1, (edge 0).2.1, show q - 1 + 1 = q by omega, q3]
    rfl
  · intro x y t u h1 h2 e
    obtain ⟨a, rfl⟩ := get _ _ h1
    obtain ⟨b', rfl⟩ := get _ _ h2
    rw [(edge x).2.1, (edge y).2.1] at e
    rcases Nat.lt_trichotomy x y with h | h | h
    · exact (inj x y h b' e).elim
    · exact h
    · exact (inj y x h a e.symm).elim
  · rw [List.map_map]
    have := (tele q).2
    rw [q3] at this
    have e1 : ((List.range q).map ((fun (x : Tie) => x.2.2) ∘ fun k => wy f.way (go f.way k b))).sum = ((List.range q).map fun k => (wy f.way (go f.way k b)).2.2).sum := rfl
    rw [e1]
    rcases this with h | h
    · omega
    · omega
/-- no amounts meet the ties of a ring -/
theorem Ring.bars {es rs : List Tie} (h : Ring es rs) (x : Int → Int) (hx : ∀ r ∈ rs, Met x r) : False := by
  have key : ∀ (n : Nat) (t u : Tie), n < rs.length → rs[0]? = some t → rs[n]? = some u → x u.2.1 + ((rs.take (n + 1)).map (·.2.2)).sum ≤ x t.1 := by
    intro n
    induction n with
    | zero =>
      intro t u _ h1 h2
      rw [h1] at h2
      cases h2
      have := hx t (List.mem_of_getElem? h1)
      have : x t.2.1 + t.2.2 ≤ x t.1 := this
      rw [List.take_add_one, h1]
      simp
      exact this
    | succ n ih =>
      intro t u hl h1 h2
      have hn : rs[n]? = some rs[n] := List.getElem?_eq_getElem (by omega)
      have a := ih t rs[n] (by omega) h1 hn
      have b := h.link n _ _ hn h2
      have c := hx u (List.mem_of_getElem? h2)
      have c : x u.2.1 + u.2.2 ≤ x u.1 := c
      rw [b] at a
      rw [List.take_add_one, h2, List.map_append, List.sum_append]
      have e1 : ((some u).toList.map fun (z : Tie) => z.2.2).sum = u.2.2 := by simp
      rw [e1]
      omega
  have hl : 0 < rs.length := List.length_pos_iff.mpr h.ne
  have a := key (rs.length - 1) rs[0] rs[rs.length - 1] (by omega) (List.getElem?_eq_getElem hl) (List.getElem?_eq_getElem (by omega))
  have b := h.clos _ _ (List.getElem?_eq_getElem hl) (List.getElem?_eq_getElem (by omega))
  rw [List.take_of_length_le (by omega)] at a
  have c := h.sum
  rw [b] at a
  omega
end Lm
namespace Ls
open PySem PySem.Spec PyProof.Rows L2
/-! ### ties -/
abbrev Tie := Lm.Tie
def tieD (t : Tie) : PyData := .tuple [.int t.1, .int t.2.1, .int t.2.2]
def GoodT (lanes wide : Int) (t : Tie) : Prop := 0 ≤ t.1 ∧ t.1 < lanes ∧ 0 ≤ t.2.1 ∧ t.2.1 < lanes ∧ t.1 ≠ t.2.1 ∧ -wide ≤ t.2.2 ∧ t.2.2 ≤ wide
/-- a list of ties -/
def TieL (K : PySem.W.Frag) (H : Hp) (vs : List V) (ts : List Tie) : Prop := ImAll K H vs (ts.map tieD)
theorem TieL.mono {K : PySem.W.Frag} {H H' : Hp} {vs : List V} {ts : List Tie} (t : Tp K H H') (h : TieL K H vs ts) : TieL K H' vs ts := ImAll.mono t h
theorem TieL.len {K : PySem.W.Frag} {H : Hp} {vs : List V} {ts : List Tie} (h : TieL K H vs ts) : vs.length = ts.length := by
  have := ImAll.length h
  rwa [List.length_map] at this
theorem TieL.snoc {K : PySem.W.Frag} {H : Hp} {vs : List V} {ts : List Tie} {p : Addr} {a b c : Int} (h : TieL K H vs ts) (hp : SqT K H p [.int a, .int b, .int c]) : TieL K H (vs ++ [.ref p]) (ts ++ [(a, b, c)]) := by
  unfold TieL
  rw [List.map_append]
  exact ImAll.snoc h (.tup hp (.cons (.int a) (.cons (.int b) (.cons (.int c) .nil))))
theorem TieL.app {K : PySem.W.Frag} {H : Hp} {vs us : List V} {ts ss : List Tie} (h : TieL K H vs ts) (h2 : TieL K H us ss) : TieL K H (vs ++ us) (ts ++ ss) := by
  unfold TieL
  rw [List.map_append]
  exact ImAll.app h h2
theorem tie_of {K : PySem.W.Frag} {H : Hp} {v : V} {t : Tie} (h : Im K H v (tieD t)) : ∃ a, v = .ref a ∧ SqT K H a [.int t.1, .int t.2.1, .int t.2.2] := by
  obtain ⟨a, xs, rfl, h1, h2⟩ := im_tup h
  refine ⟨a, rfl, ?_⟩
  cases h2 with
  | cons a1 r1 =>
    cases r1 with
    | cons a2 r2 =>
      cases r2 with
      | cons a3 r3 =>
        cases r3
        cases im_int a1
        cases im_int a2
        cases im_int a3
        exact h1
theorem TieL.get {K : PySem.W.Frag} {H : Hp} {vs : List V} {ts : List Tie} {i : Nat} {v : V} (h : TieL K H vs ts) (e : vs[i]? = some v) : ∃ t a, ts[i]? = some t ∧ v = .ref a ∧ SqT K H a [.int t.1, .int t.2.1, .int t.2.2] := by
  obtain ⟨d, h1, h2⟩ := ImAll.get h e
  rw [List.getElem?_map] at h1
  obtain ⟨t, ht, rfl⟩ := Option.map_eq_some_iff.mp h1
  obtain ⟨a, rfl, h3⟩ := tie_of h2
  exact ⟨t, a, ht, rfl, h3⟩
theorem TieL.take {K : PySem.W.Frag} {H : Hp} {vs : List V} {ts : List Tie} (n : Nat) (h : TieL K H vs ts) : TieL K H (vs.take n) (ts.take n) := by
  unfold TieL
  rw [List.map_take]
  exact ImAll.take n h
theorem TieL.drop {K : PySem.W.Frag} {H : Hp} {vs : List V} {ts : List Tie} (n : Nat) (h : TieL K H vs ts) : TieL K H (vs.drop n) (ts.drop n) := by
  unfold TieL
  rw [List.map_drop]
  exact ImAll.drop n h
def spTies (K : PySem.W.Frag) : Sp := fun vs H Q _ => ∃ (d c : Addr) (lanes wide : Int), vs = [.ref d, .int lanes, .int wide] ∧ Draw K H d c ∧ 1 ≤ lanes ∧ lanes < 1000 ∧ 0 ≤ wide ∧ wide < 10000000 ∧
  ∀ p us ts H', H p = none → Keep d H H' → Draw K H' d c → H' p = some (.lst us) → TieL K H' us ts → ts.length ≤ 15 → (∀ t ∈ ts, GoodT lanes wide t) → Q (.ref p) H'
theorem use_ties {K : PySem.W.Frag} {d c : Addr} {lanes wide : Int} {H : Hp} {Q : VK} {E : XK} (hD : Draw K H d c) (h1 : 1 ≤ lanes) (h2 : lanes < 1000) (h3 : 0 ≤ wide) (h4 : wide < 10000000)
    (q : ∀ p us ts H', H p = none → Keep d H H' → Draw K H' d c → H' p = some (.lst us) → TieL K H' us ts → ts.length ≤ 15 → (∀ t ∈ ts, GoodT lanes wide t) → Q (.ref p) H') : spTies K ([.ref d, .int lanes, .int wide] ++ []) H Q E := ⟨d, c, lanes, wide, rfl, hD, h1, h2, h3, h4, q⟩
def moveT (lanes by' : Int) (t : Tie) : Tie := ((t.1 + by') % lanes, (t.2.1 + by') % lanes, t.2.2)
def spMoved (K : PySem.W.Frag) : Sp := fun vs H Q _ => ∃ (a : Addr) (lanes b : Int) (us : List V) (ts : List Tie), vs = [.ref a, .int lanes, .int b] ∧ SqL K H a us ∧ TieL K H us ts ∧ ts.length ≤ 1000 ∧ 0 < lanes ∧
  ∀ p us' H', H p = none → Same H H' → H' p = some (.lst us') → TieL K H' us' (ts.map (moveT lanes b)) → Q (.ref p) H'
theorem use_moved {K : PySem.W.Frag} {a : Addr} {lanes b : Int} {us : List V} {ts : List Tie} {H : Hp} {Q : VK} {E : XK} (h : SqL K H a us) (h1 : TieL K H us ts) (h2 : ts.length ≤ 1000) (h3 : 0 < lanes)
    (q : ∀ p us' H', H p = none → Same H H' → H' p = some (.lst us') → TieL K H' us' (ts.map (moveT lanes b)) → Q (.ref p) H') : spMoved K ([.ref a, .int lanes, .int b] ++ []) H Q E := ⟨a, lanes, b, us, ts, rfl, h, h1, h2, h3, q⟩
end Ls
namespace Ls
open PySem PySem.Spec PyProof.Rows L2
/-! ### the program's own: clocks -/
/-- all but the objects at d and e stays -/
def Keep2 (d e : Addr) (H H' : Hp) : Prop := ∀ b o, b ≠ d → b ≠ e → H b = some o → H' b = some o
theorem Keep2.refl {d e : Addr} {H : Hp} : Keep2 d e H H := fun _ _ _ _ h => h
theorem Keep2.trans {d e : Addr} {H H1 H2 : Hp} (a : Keep2 d e H H1) (b : Keep2 d e H1 H2) : Keep2 d e H H2 := fun c o n m h => b c o n m (a c o n m h)
theorem Keep2.same {d e : Addr} {H H' : Hp} (k : Same H H') : Keep2 d e H H' := fun b o _ _ h => k b o h
theorem Keep2.put1 {d e : Addr} {H H' : Hp} {o : HO} (k : Keep2 d e H H') : Keep2 d e H (upd H' d o) := fun b u n m h => by
  rw [upd_ne n]
  exact k b u n m h
theorem Keep2.put2 {d e : Addr} {H H' : Hp} {o : HO} (k : Keep2 d e H H') : Keep2 d e H (upd H' e o) := fun b u n m h => by
  rw [upd_ne m]
  exact k b u n m h
theorem Keep2.tp {K : PySem.W.Frag} {d e : Addr} {H H' : Hp} {o u : HO} (k : Keep2 d e H H') (h1 : H d = some o) (n1 : NoT o = true) (h2 : H e = some u) (n2 : NoT u = true) : Tp K H H' := fun a xs q => by
  have ne : ∀ z, NoT z = false → H a = some z → a ≠ d := fun z hz e y => by
    rw [y, h1] at e
    cases e
    rw [n1] at hz
    cases hz
  have ne2 : ∀ z, NoT z = false → H a = some z → a ≠ e := fun z hz f y => by
    rw [y, h2] at f
    cases f
    rw [n2] at hz
    cases hz
  rcases q with (q | ⟨z, q⟩) | q
  · exact .inl (.inl (k _ _ (ne _ rfl q) (ne2 _ rfl q) q))
  · exact .inl (.inr ⟨z, k _ _ (ne _ rfl q) (ne2 _ rfl q) q⟩)
  · exact .inr q
theorem sql_keep2 {K : PySem.W.Frag} {d e : Addr} {H H' : Hp} {a : Addr} {xs : List V} {kvs kus : List (Key × V)} (k : Keep2 d e H H') (hd : H d = some (.dK kvs)) (he : H e = some (.dK kus)) (h : SqL K H a xs) : SqL K H' a xs := by
  have ne : ∀ (f : Addr) (kvs : List (Key × V)) u, H f = some (.dK kvs) → (∀ ks, u ≠ .dK ks) → H a = some u → a ≠ f := fun f kvs u hf hu e z => by
    rw [z, hf] at e
    exact hu _ (Option.some.inj e).symm
  rcases h with (q | ⟨u, q⟩) | q
  · exact .inl (.inl (k _ _ (ne _ _ _ hd (fun _ z => by cases z) q) (ne _ _ _ he (fun _ z => by cases z) q) q))
  · exact .inl (.inr ⟨u, k _ _ (ne _ _ _ hd (fun _ z => by cases z) q) (ne _ _ _ he (fun _ z => by cases z) q) q⟩)
  · exact .inr q
theorem Keep2.free {d e p : Addr} {H H' : Hp} {o u : HO} (k : Keep2 d e H H') (hd : H' d = some o) (he : H' e = some u) (h : H' p = none) : H p = none := by
  cases q : H p with
  | none => rfl
  | some z =>
    by_cases a : p = d
    · rw [a, hd] at h; cases h
    · by_cases b : p = e
      · rw [b, he] at h; cases h
      · rw [k p z a b q] at h; cases h
theorem k_dc {wi : TI} {g : TG} {tt : TT} {tk tv : TE} {vs : List Nat} {σ : L2.St} {H : Hp} {Q : VK} (h : wi σ H fun J H1 => ∀ D, H1 D = none → ∃ W : Nat → Nat → Hp → Prop, (∃ m, W 0 m (upd H1 D (.dK []))) ∧ ∀ i m H, W i m H →
  (J.stop i H ∧ Q (.ref D) H) ∨ (J.go i H ∧ ∃ Nx : Hp → Prop, (∀ H', Nx H' → ∃ m', m' < m ∧ W (i + 1) m' H') ∧ ∀ x H', J.yld i H x H' → g x (wipe σ vs) H' fun σ2 H2 => wipe σ2 vs = wipe σ vs ∧ tt σ2 H2 fun b H3 =>
    if b = true then tk σ2 H3 fun y H4 => tv σ2 H4 fun z H5 => ∃ kvs k, y = kV k ∧ H5 D = some (.dK kvs) ∧ kvs.length < sizeLine ∧ Nx (upd H5 D (.dK (putK kvs k z))) else Nx H3)) : tDc wi g tt tk tv vs σ H Q := h
theorem it_range {lo : Int} {n : Nat} {H0 : Hp} {Qd : Hp → Prop} {B : (Hp → Prop) → V → Hp → Prop} (Pv : Nat → Hp → Prop) (h0 : Pv 0 H0) (hs : ∀ i H, i < n → Pv i H → B (Pv (i + 1)) (.int (lo + i)) H) (hd : ∀ H, Pv n H → Qd H) :
    ∃ W : Nat → Nat → Hp → Prop, (∃ m, W 0 m H0) ∧ ∀ i m H, W i m H → ((Itr lo n).stop i H ∧ Qd H) ∨ ((Itr lo n).go i H ∧ ∃ Nx : Hp → Prop, (∀ H', Nx H' → ∃ m', m' < m ∧ W (i + 1) m' H') ∧ ∀ x H', (Itr lo n).yld i H x H' → B Nx x H') := by
  refine ⟨fun i m H => m = n - i ∧ i ≤ n ∧ Pv i H, ⟨n, (Nat.sub_zero n).symm, Nat.zero_le _, h0⟩, ?_⟩
  rintro i m H ⟨rfl, hi, p⟩
  by_cases hlt : i < n
  · exact .inr ⟨hlt, Pv (i + 1), fun H' p' => ⟨n - (i + 1), by omega, rfl, hlt, p'⟩, fun x H' ⟨e1, e2⟩ => by subst e1 e2; exact hs i _ hlt p⟩
  · have e : i = n := by omega
    subst e
    exact .inl ⟨Nat.le_refl _, hd H p⟩
theorem Keep2.over {d e : Addr} {H H1 H2 : Hp} (k : Keep2 d e H1 H2) (s : Same H H1) (hd : H d = none) (he : H e = none) : Same H H2 := fun b o h => k b o (ne_of_none h hd) (ne_of_none h he) (s b o h)
/-- amounts by places, in a dict -/
def RowK (n : Int) (kvs : List (Key × V)) (r : Int → Int) : Prop := (∀ p, -1 ≤ p → p < n → valV kvs (.inl p) = some (.int (r p))) ∧ kvs.length ≤ 1000
theorem RowK.put {n : Int} {kvs : List (Key × V)} {r : Int → Int} {p x : Int} (h : RowK n kvs r) (h1 : -1 ≤ p) (h2 : p < n) : RowK n (putK kvs (.inl p) (.int x)) (fun q => if q = p then x else r q) := by
  refine ⟨fun q q1 q2 => ?_, ?_⟩
  · rw [valV_put, h.1 q q1 q2]
    show _ = some (V.int (if q = p then x else r q))
    by_cases e : q = p
    · rw [if_pos (by rw [e]), if_pos e]
    · rw [if_neg (fun z => e (Sum.inl.inj z)), if_neg e]
  · rw [put_of (h.1 p h1 h2), List.length_map]
    exact h.2
/-- the ties that pushed places, in a dict -/
def WayK (K : PySem.W.Frag) (H : Hp) (kvs : List (Key × V)) (w : Int → Option Tie) : Prop := ∀ p, (w p = none → valV kvs (.inl p) = none) ∧ ∀ t, w p = some t → ∃ a, valV kvs (.inl p) = some (.ref a) ∧ SqT K H a [.int t.1, .int t.2.1, .int t.2.2]
theorem WayK.mono {K : PySem.W.Frag} {H H' : Hp} {kvs : List (Key × V)} {w : Int → Option Tie} (h : WayK K H kvs w) (t : Tp K H H') : WayK K H' kvs w := fun p => ⟨(h p).1, fun u hu => by
  obtain ⟨a, h1, h2⟩ := (h p).2 u hu
  exact ⟨a, h1, t _ _ h2⟩⟩
theorem WayK.put {K : PySem.W.Frag} {H : Hp} {kvs : List (Key × V)} {w : Int → Option Tie} {p : Int} {t : Tie} {a : Addr} (h : WayK K H kvs w) (ht : SqT K H a [.int t.1, .int t.2.1, .int t.2.2]) : WayK K H (putK kvs (.inl p) (.ref a)) (fun q => if q = p then some t else w q) := fun q => by
  rw [valV_put]
  show ((if q = p then some t else w q) = none → _) ∧ ∀ u, (if q = p then some t else w q) = some u → _
  by_cases e : q = p
  · rw [if_pos e, if_pos (by rw [e])]
    refine ⟨fun z => by (cases z), fun u hu => ?_⟩
    cases hu
    exact ⟨a, rfl, ht⟩
  · rw [if_neg e, if_neg (fun z => e (Sum.inl.inj z))]
    exact h q
def bnd (n : Nat) (most : Int) : List Tie := ((List.range n).map fun (i : Nat) => ((i : Int), (-1 : Int), (0 : Int))) ++ (List.range n).map fun (i : Nat) => ((-1 : Int), (i : Int), -most)
def lastV : Option Int → V
  | none => .non
  | some p => .int p
def spLook (K : PySem.W.Frag) : Sp := fun vs H Q _ => ∃ (lanes most : Int) (a : Addr) (us : List V) (ts : List Tie), vs = [.int lanes, .ref a, .int most] ∧ 1 ≤ lanes ∧ lanes ≤ 6 ∧ 0 ≤ most ∧ most ≤ 1000000000000 ∧ SqL K H a us ∧ TieL K H us ts ∧ (∀ t ∈ ts, GoodT lanes 999999 t) ∧ Q .non H
def spBounds (K : PySem.W.Frag) : Sp := fun vs H Q _ => ∃ (n : Nat) (most : Int), vs = [.int n, .int most] ∧ n ≤ 6 ∧ ∀ p us H', H p = none → Same H H' → H' p = some (.lst us) → TieL K H' us (bnd n most) → Q (.ref p) H'
def spPushed (K : PySem.W.Frag) : Sp := fun vs H Q _ => ∃ (n : Int) (rw' l wa : Addr) (kr kw : List (Key × V)) (us : List V) (ts : List Tie) (s : Lm.S), vs = [.ref rw', .ref l, .ref wa] ∧ rw' ≠ wa ∧ H rw' = some (.dK kr) ∧ RowK n kr s.row ∧ H wa = some (.dK kw) ∧ WayK K H kw s.way ∧
  SqL K H l us ∧ TieL K H us ts ∧ (∀ t ∈ ts, (-1 ≤ t.1 ∧ t.1 < n) ∧ -1 ≤ t.2.1 ∧ t.2.1 < n) ∧ kw.length + ts.length ≤ 1000000 ∧
  ∀ H' kr' kw', Keep2 rw' wa H H' → H' rw' = some (.dK kr') → RowK n kr' (Lm.pushedS s ts).row → H' wa = some (.dK kw') → WayK K H' kw' (Lm.pushedS s ts).way → kw'.length ≤ kw.length + ts.length → Q (lastV (Lm.pushedS s ts).last) H'
/-- nothing pushed yet -/
def s0 : Lm.S := ⟨fun _ => 0, fun _ => none, none⟩
def spSettled (K : PySem.W.Frag) : Sp := fun vs H Q _ => ∃ (n : Nat) (most : Int) (l : Addr) (us : List V) (ts : List Tie), vs = [.int n, .ref l, .int most] ∧ 1 ≤ n ∧ n ≤ 6 ∧ H l = some (.lst us) ∧ TieL K H us ts ∧ (∀ t ∈ ts, GoodT n 999999 t) ∧ ts.length ≤ 1000 ∧
  ∀ t rw' wa kr kw k H', Same H H' → SqT K H' t [.ref rw', .ref wa, lastV (Lm.iter (bnd n most ++ ts) s0 k).last] → H' rw' = some (.dK kr) → RowK n kr (Lm.iter (bnd n most ++ ts) s0 k).row → H' wa = some (.dK kw) → WayK K H' kw (Lm.iter (bnd n most ++ ts) s0 k).way →
    k ≤ n + 2 → 0 < k → ((Lm.iter (bnd n most ++ ts) s0 k).last = none ∨ k = n + 2) → Q (.ref t) H'
theorem bnd_ok {n : Nat} {most : Int} : ∀ t ∈ bnd n most, (-1 ≤ t.1 ∧ t.1 < n) ∧ (-1 ≤ t.2.1 ∧ t.2.1 < n) ∧ t.1 ≠ t.2.1 := by
  intro t ht
  rcases List.mem_append.mp ht with ht | ht
  · obtain ⟨i, hi, rfl⟩ := List.mem_map.mp ht
    have := List.mem_range.mp hi
    exact ⟨⟨by show -1 ≤ (i : Int); omega, by show (i : Int) < n; omega⟩, ⟨by show (-1 : Int) ≤ -1; omega, by show (-1 : Int) < n; omega⟩, by show (i : Int) ≠ -1; omega⟩
  · obtain ⟨i, hi, rfl⟩ := List.mem_map.mp ht
    have := List.mem_range.mp hi
    exact ⟨⟨by show (-1 : Int) ≤ -1; omega, by show (-1 : Int) < n; omega⟩, ⟨by show -1 ≤ (i : Int); omega, by show (i : Int) < n; omega⟩, by show (-1 : Int) ≠ (i : Int); omega⟩
theorem all_ok {n : Nat} {most : Int} {ts : List Tie} (h : ∀ t ∈ ts, GoodT n 999999 t) : ∀ t ∈ bnd n most ++ ts, (-1 ≤ t.1 ∧ t.1 < n) ∧ (-1 ≤ t.2.1 ∧ t.2.1 < n) ∧ t.1 ≠ t.2.1 := by
  intro t ht
  rcases List.mem_append.mp ht with ht | ht
  · exact bnd_ok t ht
  · obtain ⟨a, b, c, d, e, _⟩ := h t ht
    exact ⟨⟨by omega, b⟩, ⟨by omega, d⟩, e⟩
theorem bnd_len {n : Nat} {most : Int} : (bnd n most).length = 2 * n := by
  unfold bnd
  rw [List.length_append, List.length_map, List.length_map, List.length_range]
  omega
end Ls
namespace Ls
open PySem PySem.Spec PyProof.Rows L2
/-! ### what amounts and ring answer -/
/-- amounts that lie within their bounds and meet the ties -/
def FeasT (n : Nat) (most : Int) (ts : List Tie) (x : Int → Int) : Prop := (∀ p : Int, 0 ≤ p → p < n → 0 ≤ x p ∧ x p ≤ most) ∧ ∀ t ∈ ts, Lm.Met x t
def LeastT (n : Nat) (most : Int) (ts : List Tie) (x : Int → Int) : Prop := FeasT n most ts x ∧ ∀ y, FeasT n most ts y → ∀ p : Int, 0 ≤ p → p < n → x p ≤ y p
def places (n : Nat) : List Int := (List.range (n + 1)).map fun (i : Nat) => (i : Int) - 1
theorem mem_places {n : Nat} {p : Int} : p ∈ places n ↔ -1 ≤ p ∧ p < n := by
  constructor
  · intro h
    obtain ⟨i, hi, rfl⟩ := List.mem_map.mp h
    have := List.mem_range.mp hi
    omega
  · intro h
    exact List.mem_map.mpr ⟨(p + 1).toNat, List.mem_range.mpr (by omega), by omega⟩
theorem sol_of {n : Nat} {most : Int} {ts : List Tie} {x : Int → Int} (h0 : ∀ t ∈ ts, GoodT n 999999 t) (h : FeasT n most ts x) : Lm.Sol (places n) (bnd n most ++ ts) (fun p => if 0 ≤ p ∧ p < n then x p else 0) := by
  refine ⟨fun p hp => ?_, ?_, fun t ht => ?_⟩
  · show 0 ≤ if 0 ≤ p ∧ p < n then x p else 0
    by_cases c : 0 ≤ p ∧ p < n
    · rw [if_pos c]; exact (h.1 p c.1 c.2).1
    · rw [if_neg c]; exact Int.le_refl _
  · show (if 0 ≤ (-1 : Int) ∧ (-1 : Int) < n then x (-1) else 0) = 0
    rw [if_neg (by omega)]
  · show (if 0 ≤ t.2.1 ∧ t.2.1 < n then x t.2.1 else 0) + t.2.2 ≤ (if 0 ≤ t.1 ∧ t.1 < n then x t.1 else 0)
    rcases List.mem_append.mp ht with ht | ht
    · rcases List.mem_append.mp ht with ht | ht
      · obtain ⟨i, hi, rfl⟩ := List.mem_map.mp ht
        have hi := List.mem_range.mp hi
        have := h.1 (i : Int) (by omega) (by omega)
        show (if 0 ≤ (-1 : Int) ∧ (-1 : Int) < n then x (-1) else 0) + 0 ≤ (if 0 ≤ (i : Int) ∧ (i : Int) < n then x i else 0)
        rw [if_neg (by omega), if_pos (by omega)]
        omega
      · obtain ⟨i, hi, rfl⟩ := List.mem_map.mp ht
        have hi := List.mem_range.mp hi
        have := h.1 (i : Int) (by omega) (by omega)
        show (if 0 ≤ (i : Int) ∧ (i : Int) < n then x i else 0) + -most ≤ (if 0 ≤ (-1 : Int) ∧ (-1 : Int) < n then x (-1) else 0)
        rw [if_pos (by omega), if_neg (by omega)]
        omega
    · obtain ⟨a, b, c, d, _⟩ := h0 t ht
      rw [if_pos ⟨c, d⟩, if_pos ⟨a, b⟩]
      exact h.2 t ht
theorem feas_of {n : Nat} {most : Int} {ts : List Tie} {y : Int → Int} (h : Lm.Sol (places n) (bnd n most ++ ts) y) : FeasT n most ts y := by
  refine ⟨fun p p0 p1 => ⟨h.1 p (mem_places.mpr ⟨by omega, p1⟩), ?_⟩, fun t ht => h.2.2 t (List.mem_append_right _ ht)⟩
  have a := h.2.2 (-1, p, -most) (List.mem_append_left _ (List.mem_append_right _ (List.mem_map.mpr ⟨p.toNat, List.mem_range.mpr (by omega), by rw [Int.toNat_of_nonneg p0]⟩)))
  have a : y p + -most ≤ y (-1) := a
  have b := h.2.1
  omega
theorem iter_some {n : Nat} {most : Int} {ts : List Tie} (h0 : ∀ t ∈ ts, GoodT n 999999 t) {v : Int} (hl : (Lm.iter (bnd n most ++ ts) s0 (n + 2)).last = some v) (x : Int → Int) : ¬ FeasT n most ts x := fun h => by
  have := Lm.ends (s := s0) (sol_of h0 h) (fun t ht => ⟨mem_places.mpr (all_ok h0 t ht).1, mem_places.mpr (all_ok h0 t ht).2.1⟩) (fun _ => rfl) (mem_places.mpr ⟨by omega, by omega⟩) (k := n + 1) (by unfold places; rw [List.length_map, List.length_range]; omega)
  rw [show n + 1 + 1 = n + 2 from rfl] at this
  rw [hl] at this
  cases this
theorem iter_none {n : Nat} {most : Int} {ts : List Tie} (h0 : ∀ t ∈ ts, GoodT n 999999 t) {k : Nat} (hk : 0 < k) (hl : (Lm.iter (bnd n most ++ ts) s0 k).last = none) : LeastT n most ts (Lm.iter (bnd n most ++ ts) s0 k).row := by
  obtain ⟨j, rfl⟩ : ∃ j, k = j + 1 := ⟨k - 1, by omega⟩
  obtain ⟨a, b, c⟩ := Lm.least (s := s0) (ps := places n) (fun t ht => ⟨mem_places.mpr (all_ok h0 t ht).1, mem_places.mpr (all_ok h0 t ht).2.1⟩) (fun _ => rfl) (mem_places.mpr ⟨by omega, by omega⟩) hl (fun p hp hn => by
    have := mem_places.mp hp
    exact List.mem_append_left _ (List.mem_append_left _ (List.mem_map.mpr ⟨p.toNat, List.mem_range.mpr (by omega), by rw [Int.toNat_of_nonneg (by omega)]⟩)))
  rw [c] at a
  have e : (fun p => (Lm.iter (bnd n most ++ ts) s0 (j + 1)).row p - 0) = (Lm.iter (bnd n most ++ ts) s0 (j + 1)).row := by
    funext p
    omega
  rw [e] at a
  refine ⟨feas_of a, fun y hy p p0 p1 => ?_⟩
  have := b _ (sol_of h0 hy) p (mem_places.mpr ⟨by omega, p1⟩)
  have : (Lm.iter (bnd n most ++ ts) s0 (j + 1)).row p ≤ if 0 ≤ p ∧ p < n then y p else 0 := this
  rw [if_pos ⟨p0, p1⟩] at this
  exact this
theorem iter_runs {n : Nat} {most : Int} {ts : List Tie} (h0 : ∀ t ∈ ts, GoodT n 999999 t) {v : Int} (hl : (Lm.iter (bnd n most ++ ts) s0 (n + 2)).last = some v) :
    ∃ q, Lm.Runs (bnd n most ++ ts) (Lm.iter (bnd n most ++ ts) s0 (n + 2)).way (n + 2) v (Lm.go (Lm.iter (bnd n most ++ ts) s0 (n + 2)).way (n + 2) v) q :=
  Lm.runs (fun t ht => (all_ok h0 t ht).2.2) (fun t ht => ⟨(all_ok h0 t ht).1, (all_ok h0 t ht).2.1⟩) (fun _ => rfl) hl
theorem at_end {xs : List V} {v : V} {j : Nat} (hl : xs.length = j + 1) (h : xs[j]? = some v) : atI xs (-1) = some v := by
  rcases List.eq_nil_or_concat xs with rfl | ⟨ys, y, rfl⟩
  · cases hl
  · rw [List.concat_eq_append] at hl h ⊢
    rw [List.length_append, List.length_singleton] at hl
    rw [List.getElem?_append_right (by omega), show j - ys.length = 0 by omega] at h
    cases h
    exact atI_last ys _
theorem k_while {c : TT} {tb : TS} {D : Ends} {σ : L2.St} {H : Hp} (h : ∃ W : Nat → L2.St → Hp → Prop, (∃ m, W m σ H) ∧ ∀ m σ H, W m σ H → c σ H fun b H1 => if b = true then ∃ N : L2.St → Hp → Prop, (∀ σ' H', N σ' H' → ∃ m', m' < m ∧ W m' σ' H') ∧ tb { D with nx := N, ct := N, bk := D.nx } σ H1 else D.nx σ H1) : tWhile c tb D σ H := h
/-- the list of amounts -/
def rowV (n : Nat) (x : Int → Int) : List V := (List.range n).map fun (i : Nat) => V.int (x i)
def spAmounts (K : PySem.W.Frag) : Sp := fun vs H Q _ => ∃ (n : Nat) (most : Int) (l : Addr) (us : List V) (ts : List Tie), vs = [.int n, .ref l, .int most] ∧ 1 ≤ n ∧ n ≤ 6 ∧ 0 ≤ most ∧ most ≤ 1000000000000 ∧ H l = some (.lst us) ∧ TieL K H us ts ∧ (∀ t ∈ ts, GoodT n 999999 t) ∧ ts.length ≤ 1000 ∧
  (∀ p x H', H p = none → Same H H' → H' p = some (.lst (rowV n x)) → LeastT n most ts x → Q (.ref p) H') ∧ ∀ H', Same H H' → (∀ x, ¬ FeasT n most ts x) → Q .non H'
def spRing (K : PySem.W.Frag) : Sp := fun vs H Q _ => ∃ (n : Nat) (most : Int) (l : Addr) (us : List V) (ts : List Tie), vs = [.int n, .ref l, .int most] ∧ 1 ≤ n ∧ n ≤ 6 ∧ 0 ≤ most ∧ most ≤ 1000000000000 ∧ H l = some (.lst us) ∧ TieL K H us ts ∧ (∀ t ∈ ts, GoodT n 999999 t) ∧ ts.length ≤ 1000 ∧
  (∀ p us rs H', H p = none → Same H H' → H' p = some (.lst us) → TieL K H' us rs → rs.length ≤ n + 1 → Lm.Ring (bnd n most ++ ts) rs → (∀ x, ¬ FeasT n most ts x) → Q (.ref p) H') ∧ ∀ H' x, Same H H' → FeasT n most ts x → Q .non H'
end Ls
open PySem PySem.Spec PyProof.Rows L2
namespace Ls
end Ls
open Ls
namespace Ls
open PySem PySem.Spec PyProof.Rows L2
/-! ### xs[::k] -/
theorem vals_at {xs : List V} {us : List Value} (r : Vals xs us) : ∀ i : Nat, (xs[i]? = none ∧ us[i]? = none) ∨ ∃ x u, xs[i]? = some x ∧ us[i]? = some u ∧ RelV x u := by
  unfold Vals at r
  induction r with
  | nil => intro i; exact .inl ⟨rfl, rfl⟩
  | cons h _ ih =>
    intro i
    cases i with
    | zero => exact .inr ⟨_, _, rfl, rfl, h⟩
    | succ i => exact ih i
theorem vals_pick {xs : List V} {us : List Value} (r : Vals xs us) : ∀ idx : List Nat, Vals (idx.filterMap (xs[·]?)) (idx.filterMap (us[·]?))
  | [] => .nil
  | i :: idx => by
    rcases vals_at r i with ⟨h1, h2⟩ | ⟨x, u, h1, h2, h3⟩
    · rw [List.filterMap_cons_none h1, List.filterMap_cons_none h2]
      exact vals_pick r idx
    · rw [List.filterMap_cons_some h1, List.filterMap_cons_some h2]
      exact .cons h3 (vals_pick r idx)
def stepV (xs : List V) (k : Int) : List V := (sliceRange 0 (xs.length : Int) k).filterMap (xs[·]?)
theorem stepV_mem {xs : List V} {k : Int} {v : V} (h : v ∈ stepV xs k) : v ∈ xs := by
  obtain ⟨i, _, e⟩ := List.mem_filterMap.mp h
  exact List.mem_of_getElem? e
theorem stepV_len {xs : List V} {k : Int} (hk : 0 < k) : (stepV xs k).length ≤ xs.length :=
  Nat.le_trans (List.length_filterMap_le ..) (sliceRange_length_le _ _ _ _ (fun _ => ⟨Int.le_refl _, Int.le_refl _⟩) fun h => absurd hk h)
def tStepL (K : PySem.W.Frag) (te : TE) (k : Int) : TE := fun σ H Q => te σ H fun x H1 => ∃ a xs, x = .ref a ∧ SqL K H1 a xs ∧ ∀ p, H1 p = none → Q (.ref p) (upd H1 p (.lst (stepV xs k)))
theorem step_bounds (k : Int) (hk : 0 < k) (n : Nat) : sliceBounds none none (some k) n = (0, (n : Int), k) := by
  unfold sliceBounds
  have h : ¬ k < 0 := by omega
  simp [h]
  exact ⟨fun z => by omega, hk⟩
theorem pe_stepL {X : Cx} {e : Expr} {te : TE} {k : Int} {j : Nat} {p1 p3 pos : Pos} (K : PySem.W.Frag) (hK : X.K = K) (hk : 0 < k) (he : PE X e te) : PE X (.Subscript e (.Slice none none (some (.Constant (.int k) j p1)) p3) pos) (tStepL K te k) := by
  subst hK
  refine ⟨fun pins s σ H Q I h => ?_⟩
  refine Subscript_ (thn (he.run pins s σ H _ I h) fun v s1 ⟨x, H1, I1, r1, q1⟩ => ?_)
  obtain ⟨a, xs, ex, hx, q⟩ := q1
  subst ex
  cases r1
  have hst : PO X (some (.Constant (.int k) j p1)) (tPart (tC (.int k))) := po_some pe_int
  refine wpAny_Slice (thn (po_none.run pins s1 σ H1 (fun o H2 => o = none ∧ H2 = H1) I1 ⟨rfl, rfl⟩) fun vl s2 ⟨l, H2, I2, pl, el, e2⟩ => ?_)
  subst el e2
  refine thn (po_none.run pins s2 σ H2 (fun o H3 => o = none ∧ H3 = H2) I2 ⟨rfl, rfl⟩) fun vu s3 ⟨u, H3, I3, pu, eu, e3⟩ => ?_
  subst eu e3
  refine thn (hst.run pins s3 σ H3 (fun o H4 => o = some k ∧ H4 = H3) I3 ⟨k, rfl, rfl, rfl⟩) fun vs s4 ⟨o, H4, I4, ps, eo, e4⟩ => ?_
  subst eo e4
  have I5 : Inv X pins σ H4 { s4 with heap := s4.heap.push { cls := .type "slice", data := .fields #[vl, vu, vs] } } := I4.kept (t' := s4.toks) fun b ob q => Heap.get?_push_of_some _ q
  obtain ⟨its, r, ht, hz⟩ := I5.list hx
  have hlen := r.length
  refine tail_any (ops := [.ref a, .ref s4.heap.objs.size]) ht.isList.typeIs (PySem.slot_list_getitem.lookup) ?_ (by with_unfolding_all rfl)
  refine wpAny_getItem_list_slice ht.isList (Heap.IsSliceOf.new _ vl vu vs) pl pu ps (by intro z; cases z; omega) ?_ (by rw [List.size_toArray]; omega)
  have ep : slicePick its.toArray none none (some k) = ((sliceRange 0 (xs.length : Int) k).filterMap (its[·]?)).toArray := by
    unfold slicePick
    rw [step_bounds k hk, List.size_toArray, ← hlen]
    simp
  rw [ep]
  refine ⟨.ref _, _, I5.laid (t' := s4.toks) (o := .lst (stepV xs k)) (fun b ob q => Heap.get?_push_of_some _ q) (Nat.le_refl _) ?_, rfl, q _ (I5.hok.fresh (Nat.le_refl _))⟩
  exact ⟨Nat.le_trans (stepV_len hk) hz, _, 0, vals_pick r _, Heap.get?_push_size _ rfl⟩
theorem kLS {X : Cx} {e : Expr} {ta : TE} (K : PySem.W.Frag) (hK : X.K = K) (h : PE X e (RZ.tLenSetI X.K ta)) : PE X e (RZ.tLenSetI K ta) := hK ▸ h
section
variable {K : PySem.W.Frag} {σ : L2.St} {H : Hp} {Q : VK} {te : TE} {k : Int}
theorem k_step (h : te σ H fun x H1 => ∃ a xs, x = .ref a ∧ SqL K H1 a xs ∧ ∀ p, H1 p = none → Q (.ref p) (upd H1 p (.lst (stepV xs k)))) : tStepL K te k σ H Q := h
theorem k_lenset (h : te σ H fun x H1 => ∃ (l : Addr) (ns : List Int), x = V.ref l ∧ SqL K H1 l (ns.map V.int) ∧ ns.Nodup ∧ ns.length ≤ 4000 ∧ Q (.int ns.length) H1) : RZ.tLenSetI K te σ H Q := h
end
/-! ### the ways of an expression joined -/
def tJ (te : TE) : TE := fun σ H Q => ∃ M : VK, te σ H M ∧ ∀ v H', M v H' → Q v H'
theorem pe_join {X : Cx} {e : Expr} {te : TE} (h : PE X e te) : PE X e (tJ te) := by
  refine ⟨fun pins s σ H Q I ⟨M, hm, k⟩ => ?_⟩
  exact thn (h.run pins s σ H M I hm) fun v s1 ⟨x, H1, I1, r1, q1⟩ => ⟨x, H1, I1, r1, k _ _ q1⟩
theorem k_join {te : TE} {σ : L2.St} {H : Hp} {Q : VK} (M : VK) (h : te σ H M) (k : ∀ v H', M v H' → Q v H') : tJ te σ H Q := ⟨M, h, k⟩
theorem k_nojoin {te : TE} {σ : L2.St} {H : Hp} {Q : VK} (h : te σ H Q) : tJ te σ H Q := ⟨Q, h, fun _ _ h => h⟩
/-! ### comprehensions that just make a value of each item -/
theorem lc_mapL {K : PySem.W.Frag} {a : Addr} {xs : List V} {g : TG} {te : TE} {vs : List Nat} {σ : L2.St} {H : Hp} {D : Addr} {Qd : Hp → Prop} (vf : Nat → V) (hx : SqL K H a xs) (hl : xs.length ≤ 1000000) (hD : H D = none)
    (hs : ∀ i x H' (N : VK), xs[i]? = some x → Same H H' → (∀ H'', Same H' H'' → N (vf i) H'') → g x (wipe σ vs) H' fun σ2 H2 => wipe σ2 vs = wipe σ vs ∧ te σ2 H2 N) (hd : ∀ H', Same H H' → H' D = some (.lst ((List.range xs.length).map vf)) → Qd H') :
    ∃ W : Nat → Nat → Hp → Prop, (∃ m, W 0 m (upd H D (.lst []))) ∧ ∀ i m H, W i m H →
      ((Itl K a).stop i H ∧ Qd H) ∨ ((Itl K a).go i H ∧ ∃ Nx : Hp → Prop, (∀ H', Nx H' → ∃ m', m' < m ∧ W (i + 1) m' H') ∧ ∀ x H', (Itl K a).yld i H x H' → g x (wipe σ vs) H' fun σ2 H2 => wipe σ2 vs = wipe σ vs ∧ tYes σ2 H2 fun b H3 =>
        if b = true then te σ2 H3 fun y H4 => ∃ acc, H4 D = some (.lst acc) ∧ acc.length < sizeLine ∧ Nx (upd H4 D (.lst (acc ++ [y]))) else Nx H3) := by
  refine lc_list (xs := xs) (fun i H' => Same H H' ∧ H' D = some (.lst ((List.range i).map vf))) ⟨same_new hD, upd_same⟩ (fun i H' _ hP => hP.1.seq hx) (fun i x H' hi hP => ?_) (fun H' hP => hd H' hP.1 hP.2)
  have hlt : i < xs.length := (List.getElem?_eq_some_iff.mp hi).1
  refine hs i x H' _ hi hP.1 fun H'' s => ?_
  refine ⟨_, s _ _ hP.2, ?_, Same.wr (hP.1.trans s) hD, ?_⟩
  · rw [List.length_map, List.length_range, sizeLine_eq]
    omega
  · rw [upd_same, List.range_succ, List.map_append]
    rfl
theorem lc_mapR {lo : Int} {n : Nat} {g : TG} {te : TE} {vs : List Nat} {σ : L2.St} {H : Hp} {D : Addr} {Qd : Hp → Prop} (vf : Nat → V) (hl : n ≤ 1000000) (hD : H D = none)
    (hs : ∀ i H' (N : VK), i < n → Same H H' → (∀ H'', Same H' H'' → N (vf i) H'') → g (.int (lo + i)) (wipe σ vs) H' fun σ2 H2 => wipe σ2 vs = wipe σ vs ∧ te σ2 H2 N) (hd : ∀ H', Same H H' → H' D = some (.lst ((List.range n).map vf)) → Qd H') :
    ∃ W : Nat → Nat → Hp → Prop, (∃ m, W 0 m (upd H D (.lst []))) ∧ ∀ i m H, W i m H →
      ((Itr lo n).stop i H ∧ Qd H) ∨ ((Itr lo n).go i H ∧ ∃ Nx : Hp → Prop, (∀ H', Nx H' → ∃ m', m' < m ∧ W (i + 1) m' H') ∧ ∀ x H', (Itr lo n).yld i H x H' → g x (wipe σ vs) H' fun σ2 H2 => wipe σ2 vs = wipe σ vs ∧ tYes σ2 H2 fun b H3 =>
        if b = true then te σ2 H3 fun y H4 => ∃ acc, H4 D = some (.lst acc) ∧ acc.length < sizeLine ∧ Nx (upd H4 D (.lst (acc ++ [y]))) else Nx H3) := by
  refine lc_range (fun i H' => Same H H' ∧ H' D = some (.lst ((List.range i).map vf))) ⟨same_new hD, upd_same⟩ (fun i H' hi hP => ?_) (fun H' hP => hd H' hP.1 hP.2)
  refine hs i H' _ hi hP.1 fun H'' s => ?_
  refine ⟨_, s _ _ hP.2, ?_, Same.wr (hP.1.trans s) hD, ?_⟩
  · rw [List.length_map, List.length_range, sizeLine_eq]
    omega
  · rw [upd_same, List.range_succ, List.map_append]
    rfl
theorem range_map_get {α β : Type} (xs : List α) (f : α → β) (d : β) : (List.range xs.length).map (fun i => (xs[i]?.map f).getD d) = xs.map f := by
  apply List.ext_getElem
  · rw [List.length_map, List.length_range, List.length_map]
  · intro i h1 h2
    rw [List.length_map] at h2
    rw [List.getElem_map, List.getElem_range, List.getElem_map, List.getElem?_eq_getElem h2]
    rfl
end Ls
namespace Ls
open PySem PySem.Spec PyProof.Rows L2
/-! ### sorted(set(xs)), xs a list of ints -/
section
variable {P : Program} {w : World} {A : Around} {E : Value → Shared → Prop} {s : Shared}
/-- a set just made, the state with it -/
abbrev empt (w : World) : Obj := { cls := .type "set", dict := none, data := .set #[] 0 (.fresh 0 0 (!w.params.followText "set-order")) }
theorem set_ints {l : Addr} {xs : Array Value} (ks : List Int) {Q : Value → Shared → Prop} (nh : A.handled = none) (li : s.heap.IsList l xs) (ia : IntsAre xs.toList ks) (few : ks.length + 1 < scanBound)
    (k : ∀ g tk c, SetR w g s.heap.objs.size (fun j => decide (j ∈ ks)) c → c ≤ ks.length → (∀ b o, s.heap.get? b = some o → g.get? b = some o) → Q (.ref s.heap.objs.size) { s with heap := g, toks := tk }) :
    wpAny (model P w) A (call (.type "set") [.ref l]) Q E s := by
  have lk : xs.size = ks.length := (Array.length_toList (xs := xs)).symm.trans (IntsAre.length ia)
  obtain ⟨c0, t0, mro0⟩ := F.called_set.mro
  have made0 := F.called_set.made
  have sub0 := F.called_set.sub
  have nt0 := F.called_set.notType
  have cc0 := F.called_set.canCreate
  have tc0 := F.typeCall_set_1 (.ref l)
  refine wpAny_call (codeAny_of_tree (show wpAny _ _ (callAny (.type "set") _) _ _ _ from wpAny_pure ⟨Code.quiet_builtin _ (by decide +kernel), codeAny_builtin F.entry_type_call ?_⟩))
  rw [Around.under_plain (weight_type_call_type "set" [.ref l] []) rfl]
  repeat any_goals first | assumption | wp_step
  refine codeAny_mono (code_set_led1 (E := E) (.ref l) (Q₁ := fun v u => v = .ref s.heap.objs.size ∧ u = { s with heap := s.heap.push (empt w) }) ⟨rfl, rfl⟩) fun res u hu => ?_
  cases res with
  | error e => exact hu
  | ok fin =>
    cases fin with
    | next => exact hu.elim
    | brk => exact hu.elim
    | cont => exact hu.elim
    | ret v =>
      obtain ⟨rfl, rfl⟩ := hu
      have at0 : (s.heap.push (empt w)).get? s.heap.objs.size = some (empt w) := Heap.get?_push_size _ rfl
      have ty0 : Shared.TypeIs { s with heap := s.heap.push (empt w) } (.ref s.heap.objs.size) "set" := ⟨_, at0, rfl⟩
      have il0 := F.called_set.init.lookup
      have ib0 := F.called_set.init.bind (.ref s.heap.objs.size)
      repeat any_goals first | assumption | wp_step
      refine codeAny_mono (codeAny_call_builtin (R := wants (fun v u => v = .none ∧ ∃ g tk c, u = { s with heap := g, toks := tk } ∧ SetR w g s.heap.objs.size (fun j => decide (j ∈ ks)) c ∧ c ≤ ks.length ∧ ∀ b o, s.heap.get? b = some o → g.get? b = some o) E)
        F.called_set.init.plain F.entry_set_init (check_set_init_1 ty0 ?_)) fun res u hu => ?_
      · obtain ⟨⟨oc, od, odat, osl⟩, ol, ocl, nl, odt⟩ := li
        simp only at ocl odt
        subst ocl odt
        have ol1 : (s.heap.push (empt w)).get? l = some { cls := .type "list", dict := od, data := .seq xs nl, slots := osl } := Heap.get?_push_of_some _ ol
        have li1 : (s.heap.push (empt w)).IsList l xs := ⟨_, ol1, rfl, nl, rfl⟩
        have sl0 := F.sub_list_set
        have sf0 := F.sub_list_frozenset
        have nd0 : (Value.type "list" == Value.type "dict") = false := by decide
        unfold Builtin.«set.__init__» noKeywords Builtin.Frozenset.updateFrom
        generalize hit : pyIter = IT
        wp_walk
        subst hit
        refine wpAny_pyIter_list li1 (wpAny_bind (wpAny_runValue ?_))
        have lt0 : l < s.heap.objs.size := Heap.lt_size ol
        have sz1 : (s.heap.push (empt w)).objs.size = s.heap.objs.size + 1 := Heap.size_push ..
        have nl1 : l ≠ (s.heap.push (empt w)).objs.size := by rw [sz1]; exact Nat.ne_of_lt (Nat.lt_succ_of_lt lt0)
        have out1 : s.heap.objs.size ∉ [(s.heap.push (empt w)).objs.size, l] := by
          rw [sz1]
          intro m
          rcases List.mem_cons.mp m with m | m
          · exact Nat.ne_of_lt (Nat.lt_succ_self _) m
          · exact Nat.ne_of_gt lt0 (List.mem_singleton.mp m)
        refine set_update_ints ((Walks.list (by simp [nh]) _ l nl1 xs).toS) s.heap.objs.size out1 ks lk few (fun i v hv => ?_) (xs.size - 0) 0 _ (by omega) (Nat.zero_le _)
          ⟨⟨_, Heap.get?_push_size _ rfl, rfl, rfl⟩, li1.push _⟩ ⟨0, Nat.le_refl _, setR_new_at (Heap.get?_push_of_some _ at0)⟩ ?_
        · have hi : i < ks.length := lk ▸ (Array.getElem?_eq_some_iff.mp hv).1
          obtain ⟨t, e⟩ := IntsAre.int_at ia i v (by rw [Array.getElem?_toList]; exact hv)
          refine ⟨_, t, List.getElem?_eq_getElem hi, e.trans ?_⟩
          rw [List.getD_eq_getElem?_getD, List.getElem?_eq_getElem hi]
          rfl
        · rintro ⟨g, g2, d2, tk, o2⟩ c mv hc hS
          have e1 : g2 = s.gens := mv.gens
          have e2 : d2 = s.drawn := mv.drawn
          have e3 : o2 = s.os := mv.os
          subst e1 e2 e3
          rw [lk] at hc
          refine wpAny_pure (wpAny_pure ⟨rfl, g, tk, c, rfl, hS, hc, fun b o hb => ?_⟩)
          have ltb := Heap.lt_size hb
          refine mv.heap b o (fun m => ?_) (Heap.get?_push_of_some _ (Heap.get?_push_of_some _ hb))
          rcases List.mem_cons.mp m with m | m
          · exact Nat.ne_of_lt ltb m
          · have m := List.mem_singleton.mp m
            rw [m, sz1] at ltb
            exact Nat.not_lt.mpr (Nat.le_succ _) ltb
      · cases res with
        | error e => exact hu
        | ok fin =>
          cases fin with
          | next => exact hu.elim
          | brk => exact hu.elim
          | cont => exact hu.elim
          | ret v =>
            obtain ⟨rfl, g, tk, c, rfl, hS, hc, hk⟩ := hu
            repeat any_goals first | assumption | wp_step
            exact k _ _ _ hS hc hk
end
def tSortSet (K : PySem.W.Frag) (ta : TE) : TE := fun σ H Q => ta σ H fun x H1 => ∃ (l : Addr) (ns : List Int), x = .ref l ∧ SqL K H1 l (ns.map V.int) ∧ ns.length < 60 ∧ ∀ (ms : List Int) (p : Addr), ms.Pairwise (· < ·) → (∀ k : Int, k ∈ ms ↔ k ∈ ns) → H1 p = none → Q (.ref p) (upd H1 p (.lst (ms.map V.int)))
theorem pe_sortSet {X : Cx} {a : Expr} {ta : TE} {p p2 q pos : Pos} (K : PySem.W.Frag) (hK : X.K = K) (hg : Gl X "sorted") (hm : X.mg "sorted" = none) (hg2 : Gl X "set") (hm2 : X.mg "set" = none) (ha : PE X a ta) (hc : X.calm = true := by rfl)
    (na : starEach [a] X.env = (false, eval a X.env) :: starEach [] X.env := by rfl) : PE X (.Call (.Name "sorted" p) [.Call (.Name "set" p2) [a] [] q] [] pos) (tSortSet K ta) := by
  subst hK
  refine ⟨fun pins s σ H Q I h => ?_⟩
  refine Call_ (ld_blt I hg hm boot_sorted (callWith_builtin1 (args_cons ?_ rfl) rfl rfl))
  refine Call_ (ld_blt I hg2 hm2 PyProof.Rows.boot_set ?_)
  refine callWith_type1 (args_cons (thn (ha.run pins s σ H _ I h) fun v s1 ⟨x, H1, I1, r1, q1⟩ => args_nil ?_) na) na rfl
  obtain ⟨l, ns, rfl, hq, h60, q1⟩ := q1
  cases r1
  obtain ⟨its, r, pl, hz⟩ := I1.list hq
  refine set_ints ns (I1.ok.hd hc) pl.isList (by simpa using RZ.intsAre_vals r) (by unfold scanBound; omega) fun g tk c hS hc2 hk => ?_
  have I2 : Inv X pins σ H1 { s1 with heap := g, toks := tk } := I1.kept fun b o e => hk b o e
  refine args_nil ?_
  refine sorted_set hS (I2.ok.hd hc) (by omega) fun s' p out c3 ms kp gn og hp hg3 hi hs hms hl => ?_
  have hn : H1 p = none := I2.hok.fresh hp
  have hlen : (ms.map V.int).length ≤ sizeLine := by rw [List.length_map, hl, sizeLine_eq]; omega
  have J : Inv X pins σ (upd H1 p (.lst (ms.map V.int))) { ({ s1 with heap := g, toks := tk } : Shared) with heap := s'.heap, gens := s'.gens, drawn := s'.drawn, toks := s'.toks } :=
    I2.call (ch := []) (Un.laid kp hp hn) (I2.hok.laid kp hp ⟨hlen, out.toList, c3, vals_of_ints hi, hg3⟩) (by rw [gn]; exact I2.bare) (fun _ z => nomatch z)
  have es : s' = { ({ s1 with heap := g, toks := tk } : Shared) with heap := s'.heap, gens := s'.gens, drawn := s'.drawn, toks := s'.toks } := by
    cases s'
    cases og
    rfl
  rw [es]
  exact ⟨.ref p, _, J, rfl, q1 ms p hs (fun k => (hms k).trans ⟨of_decide_eq_true, decide_eq_true⟩) hn⟩
theorem k_sortset {K : PySem.W.Frag} {σ : L2.St} {H : Hp} {Q : VK} {ta : TE} (h : ta σ H fun x H1 => ∃ (l : Addr) (ns : List Int), x = .ref l ∧ SqL K H1 l (ns.map V.int) ∧ ns.length < 60 ∧ ∀ (ms : List Int) (p : Addr), ms.Pairwise (· < ·) → (∀ k : Int, k ∈ ms ↔ k ∈ ns) → H1 p = none → Q (.ref p) (upd H1 p (.lst (ms.map V.int)))) : tSortSet K ta σ H Q := h
theorem k_listrg {σ : L2.St} {H : Hp} {Q : VK} {te : L2.St → Hp → (Int → Int → Hp → Prop) → Prop} (h : te σ H fun a b H1 => RgOk a b ∧ ∀ q, H1 q = none → Q (.ref q) (upd H1 q (.lst (rgV a b)))) : tLstRg te σ H Q := h
theorem k_rg1 {σ : L2.St} {H : Hp} {ta : TE} {R : Int → Int → Hp → Prop} (h : ta σ H fun x H1 => ∃ n, x = .int n ∧ R 0 n H1) : tRg1 ta σ H R := h
end Ls
namespace Ls
open PySem PySem.Spec PyProof.Rows L2
/-! ### the law, in plain Lean -/
theorem rowV_ext {n : Nat} {x y : Int → Int} (h : ∀ p : Int, 0 ≤ p → p < n → x p = y p) : rowV n x = rowV n y := by
  unfold rowV
  refine List.map_congr_left fun i hi => ?_
  rw [h _ (by omega) (by have := List.mem_range.mp hi; omega)]
theorem least_one {n : Nat} {m : Int} {ts us : List Tie} {x y : Int → Int} (hx : LeastT n m ts x) (hy : LeastT n m us y) (h : ∀ z, FeasT n m ts z ↔ FeasT n m us z) : ∀ p : Int, 0 ≤ p → p < n → x p = y p := fun p p0 p1 => by
  have a := hx.2 y ((h y).mpr hy.1) p p0 p1
  have b := hy.2 x ((h x).mp hx.1) p p0 p1
  omega
theorem feas_sub {n : Nat} {m : Int} {ts us : List Tie} {x : Int → Int} (h : ∀ t ∈ us, t ∈ ts) (hx : FeasT n m ts x) : FeasT n m us x := ⟨hx.1, fun t ht => hx.2 t (h t ht)⟩
/-- what amounts answers, as it stands -/
def Ans (K : PySem.W.Frag) (H : Hp) (v : V) (n : Nat) (most : Int) (ts : List Tie) : Prop := (∃ p x, v = .ref p ∧ H p = some (.lst (rowV n x)) ∧ LeastT n most ts x) ∨ (v = .non ∧ ∀ x, ¬ FeasT n most ts x)
theorem Ans.mono {K : PySem.W.Frag} {H H' : Hp} {v : V} {n : Nat} {most : Int} {ts : List Tie} (h : Ans K H v n most ts) (s : Same H H') : Ans K H' v n most ts := by
  rcases h with ⟨p, x, rfl, h1, h2⟩ | h
  · exact .inl ⟨p, x, rfl, s _ _ h1, h2⟩
  · exact .inr h
theorem Ans.keep {K : PySem.W.Frag} {H H' : Hp} {v : V} {n : Nat} {most : Int} {ts : List Tie} {d c : Addr} (h : Ans K H v n most ts) (hD : Draw K H d c) (k : Keep d H H') : Ans K H' v n most ts := by
  rcases h with ⟨p, x, rfl, h1, h2⟩ | h
  · exact .inl ⟨p, x, rfl, k.at (hD.ne h1 (by intro kvs z; cases z)) h1, h2⟩
  · exact .inr h
def rowD (n : Nat) (x : Int → Int) : PyData := .list ((List.range n).map fun (i : Nat) => PyData.int (x i))
theorem row_dp {K : PySem.W.Frag} {H : Hp} {p : Addr} {n : Nat} {x : Int → Int} (h : H p = some (.lst (rowV n x))) : Dp K H (.ref p) (rowD n x) := by
  refine .lst (sql_of h) ?_
  have := ImAll.dp (K := K) (H := H) (ImAll.ints ((List.range n).map fun (i : Nat) => x i))
  rw [List.map_map, List.map_map] at this
  exact this
theorem row_ok {n : Nat} {x : Int → Int} (h : n ≤ 6) : OkD 1 (rowD n x) := by
  refine ⟨by rw [List.length_map, List.length_range]; omega, fun d hd => ?_⟩
  obtain ⟨i, _, rfl⟩ := List.mem_map.mp hd
  exact True.intro
theorem Ans.data {K : PySem.W.Frag} {H : Hp} {v u : V} {n : Nat} {most : Int} {ts us : List Tie} (hn : n ≤ 6) (h1 : Ans K H v n most ts) (h2 : Ans K H u n most us) (h : ∀ z, FeasT n most ts z ↔ FeasT n most us z) : ∃ d, Dp K H v d ∧ Dp K H u d ∧ OkD 1 d := by
  rcases h1 with ⟨p, x, rfl, a1, a2⟩ | ⟨rfl, a⟩
  · rcases h2 with ⟨q, y, rfl, b1, b2⟩ | ⟨rfl, b⟩
    · rw [rowV_ext (least_one b2 a2 (fun z => (h z).symm))] at b1
      exact ⟨_, row_dp a1, row_dp b1, row_ok hn⟩
    · exact (b x ((h x).mp a2.1)).elim
  · rcases h2 with ⟨q, y, rfl, b1, b2⟩ | ⟨rfl, b⟩
    · exact (a y ((h y).mpr b2.1)).elim
    · exact ⟨.none, .non, .non, True.intro⟩
theorem use_amounts {K : PySem.W.Frag} {H : Hp} {Q : VK} {E : XK} {n : Nat} {most : Int} {l : Addr} {us : List V} {ts : List Tie} (n1 : 1 ≤ n) (n2 : n ≤ 6) (m1 : 0 ≤ most) (m2 : most ≤ 1000000000000) (hl : H l = some (.lst us)) (hT : TieL K H us ts) (hg : ∀ t ∈ ts, GoodT n 999999 t) (hlen : ts.length ≤ 1000)
    (q : ∀ v H', Same H H' → Ans K H' v n most ts → Q v H') : spAmounts K [.int n, .ref l, .int most] H Q E :=
  ⟨n, most, l, us, ts, rfl, n1, n2, m1, m2, hl, hT, hg, hlen, fun p x H' _ s h1 h2 => q _ _ s (.inl ⟨p, x, rfl, h1, h2⟩), fun H' s h => q _ _ s (.inr ⟨rfl, h⟩)⟩
theorem use_ring {K : PySem.W.Frag} {H : Hp} {Q : VK} {E : XK} {n : Nat} {most : Int} {l : Addr} {us : List V} {ts : List Tie} (n1 : 1 ≤ n) (n2 : n ≤ 6) (m1 : 0 ≤ most) (m2 : most ≤ 1000000000000) (hl : H l = some (.lst us)) (hT : TieL K H us ts) (hg : ∀ t ∈ ts, GoodT n 999999 t) (hlen : ts.length ≤ 1000) (hno : ∀ x, ¬ FeasT n most ts x)
    (q : ∀ p us rs H', H p = none → Same H H' → H' p = some (.lst us) → TieL K H' us rs → rs.length ≤ n + 1 → Lm.Ring (bnd n most ++ ts) rs → Q (.ref p) H') : spRing K [.int n, .ref l, .int most] H Q E :=
  ⟨n, most, l, us, ts, rfl, n1, n2, m1, m2, hl, hT, hg, hlen, fun p us rs H' hp s h1 h2 h3 h4 _ => q p us rs H' hp s h1 h2 h3 h4, fun H' x s h => (hno x h).elim⟩
theorem row_at {n : Nat} {x : Int → Int} {j : Int} (j0 : 0 ≤ j) (j1 : j < n) : atI (rowV n x) j = some (.int (x j)) := by
  obtain ⟨i, rfl⟩ := Int.eq_ofNat_of_zero_le j0
  refine atI_nat ?_
  unfold rowV
  rw [List.getElem?_map, List.getElem?_range (by omega)]
  rfl
theorem k_nt {A B : Prop} (h : B) : if (!true) = true then A else B := by rw [if_neg (by decide)]; exact h
theorem k_nf {A B : Prop} (h : A) : if (!false) = true then A else B := by rw [if_pos (by decide)]; exact h
theorem eqv_tie (t u : Tie) : PyData.eqv (tieD t) (tieD u) = decide (t = u) := by
  obtain ⟨a, b, c⟩ := t
  obtain ⟨d, e, f⟩ := u
  simp only [tieD, PyData.eqv, PyData.eqvAll, Bool.and_true]
  by_cases h : (a, b, c) = (d, e, f)
  · cases h
    simp
  · rw [decide_eq_false h]
    simp only [Bool.and_eq_false_iff, beq_eq_false_iff_ne, ne_eq]
    by_cases h1 : a = d
    · by_cases h2 : b = e
      · refine .inr (.inr fun h3 => h ?_)
        rw [h1, h2, h3]
      · exact .inr (.inl h2)
    · exact .inl h1
theorem any_tie (t : Tie) (ts : List Tie) : ((ts.map tieD).any fun z => PyData.eqv z (tieD t)) = decide (t ∈ ts) := by
  by_cases h : t ∈ ts
  · rw [decide_eq_true h, List.any_eq_true]
    exact ⟨tieD t, List.mem_map.mpr ⟨t, h, rfl⟩, by rw [eqv_tie]; exact decide_eq_true rfl⟩
  · rw [decide_eq_false h, List.any_eq_false]
    intro d hd
    obtain ⟨u, hu, rfl⟩ := List.mem_map.mp hd
    rw [eqv_tie]
    intro e
    have e := of_decide_eq_true e
    subst e
    exact h hu
theorem tie_ok (t : Tie) : OkD 1 (tieD t) := ⟨by show 3 ≤ 100000; decide, fun d hd => by
  rcases List.mem_cons.mp hd with rfl | hd
  · exact True.intro
  · rcases List.mem_cons.mp hd with rfl | hd
    · exact True.intro
    · rw [List.mem_singleton] at hd
      subst hd
      exact True.intro⟩
theorem ties_ok {ts : List Tie} (h : ts.length ≤ 100000) : OkD 2 (.list (ts.map tieD)) := ⟨by rw [List.length_map]; exact h, fun d hd => by
  obtain ⟨t, _, rfl⟩ := List.mem_map.mp hd
  exact tie_ok t⟩
theorem k_inT {K : PySem.W.Frag} {H : Hp} {Q : VK} {p a : Addr} {t : Tie} {us : List V} {ts : List Tie} (h1 : SqT K H a [.int t.1, .int t.2.1, .int t.2.2]) (h2 : SqL K H p us) (h3 : TieL K H us ts) (h4 : ts.length ≤ 100000) (q : Q (.bl (decide (t ∈ ts))) H) : rInU K (.ref a) (.ref p) H Q :=
  .inr (.inl ⟨tieD t, ts.map tieD, Im.dp (.tup h1 (.cons (.int t.1) (.cons (.int t.2.1) (.cons (.int t.2.2) .nil)))), .lst h2 (ImAll.dp h3), (tie_ok t).shaped (by decide), (ties_ok h4).shaped (by decide), by rw [any_tie]; exact q⟩)
theorem k_max {K : PySem.W.Frag} {H : Hp} {Q : VK} {p : Addr} {n : Nat} {x : Int → Int} (hn : 0 < n) (h : H p = some (.lst (rowV n x))) (q : ∀ i : Int, 0 ≤ i → i < n → (∀ j : Int, 0 ≤ j → j < n → x j ≤ x i) → Q (.int (x i)) H) : rMaxU K [.ref p] H Q := by
  refine .inr ⟨p, (List.range n).map fun (i : Nat) => x i, rfl, ?_, ?_, fun m hm hmax => ?_⟩
  · rw [List.map_map]
    exact sql_of h
  · rw [List.length_map, List.length_range]
    exact hn
  · obtain ⟨i, hi, rfl⟩ := List.mem_map.mp hm
    have hi := List.mem_range.mp hi
    refine q i (by omega) (by omega) fun j j0 j1 => hmax _ (List.mem_map.mpr ⟨j.toNat, List.mem_range.mpr (by omega), by rw [Int.toNat_of_nonneg j0]⟩)
theorem least_best {n : Nat} {m : Int} {ts : List Tie} {x : Int → Int} (h : LeastT n m ts x) {i : Int} (i0 : 0 ≤ i) (i1 : i < n) (hmax : ∀ j : Int, 0 ≤ j → j < n → x j ≤ x i) : LeastT n (x i) ts x :=
  ⟨⟨fun p p0 p1 => ⟨(h.1.1 p p0 p1).1, hmax p p0 p1⟩, h.1.2⟩, fun y hy => h.2 y ⟨fun p p0 p1 => ⟨(hy.1 p p0 p1).1, Int.le_trans (hy.1 p p0 p1).2 (h.1.1 i i0 i1).2⟩, hy.2⟩⟩
theorem less_bars {n : Nat} {m k : Int} {ts : List Tie} {x : Int → Int} (h : LeastT n m ts x) {i : Int} (i0 : 0 ≤ i) (i1 : i < n) (hk : k < x i) (y : Int → Int) : ¬ FeasT n k ts y := fun hy => by
  have a := h.2 y ⟨fun p p0 p1 => ⟨(hy.1 p p0 p1).1, by have := (hy.1 p p0 p1).2; have := (h.1.1 i i0 i1).2; omega⟩, hy.2⟩ i i0 i1
  have b := (hy.1 i i0 i1).2
  omega
/-! lanes numbered on -/
theorem mv_back {n : Int} {b p : Int} (p0 : 0 ≤ p) (p1 : p < n) : ((p + b) % n - b) % n = p := by
  rw [Int.sub_emod, Int.emod_emod, ← Int.sub_emod, show p + b - b = p by omega]
  exact Int.emod_eq_of_lt p0 p1
theorem mv_forth {n : Int} {b p : Int} (p0 : 0 ≤ p) (p1 : p < n) : ((p - b) % n + b) % n = p := by
  rw [Int.add_emod, Int.emod_emod, ← Int.add_emod, show p - b + b = p by omega]
  exact Int.emod_eq_of_lt p0 p1
theorem moved_good {n : Nat} {b w : Int} {ts : List Tie} (hn : 1 ≤ n) (h : ∀ t ∈ ts, GoodT n w t) : ∀ t ∈ ts.map (moveT n b), GoodT n w t := by
  intro t ht
  obtain ⟨u, hu, rfl⟩ := List.mem_map.mp ht
  obtain ⟨a1, a2, a3, a4, a5, a6, a7⟩ := h u hu
  refine ⟨Int.emod_nonneg _ (by omega), Int.emod_lt_of_pos _ (by omega), Int.emod_nonneg _ (by omega), Int.emod_lt_of_pos _ (by omega), fun e => a5 ?_, a6, a7⟩
  have e : (u.1 + b) % n = (u.2.1 + b) % n := e
  have := mv_back (b := b) a1 a2
  rw [e, mv_back a3 a4] at this
  exact this.symm
theorem feas_moved {n : Nat} {m b : Int} {ts : List Tie} (hn : 1 ≤ n) {w : Int} (hg : ∀ t ∈ ts, GoodT n w t) {x : Int → Int} (h : FeasT n m ts x) : FeasT n m (ts.map (moveT n b)) (fun p => x ((p - b) % n)) := by
  refine ⟨fun p p0 p1 => h.1 _ (Int.emod_nonneg _ (by omega)) (Int.emod_lt_of_pos _ (by omega)), fun t ht => ?_⟩
  obtain ⟨u, hu, rfl⟩ := List.mem_map.mp ht
  obtain ⟨a1, a2, a3, a4, _⟩ := hg u hu
  have c : x u.2.1 + u.2.2 ≤ x u.1 := h.2 u hu
  show x (((u.2.1 + b) % n - b) % n) + u.2.2 ≤ x (((u.1 + b) % n - b) % n)
  rw [mv_back a1 a2, mv_back a3 a4]
  exact c
theorem feas_back {n : Nat} {m b : Int} {ts : List Tie} (hn : 1 ≤ n) {y : Int → Int} (h : FeasT n m (ts.map (moveT n b)) y) : FeasT n m ts (fun p => y ((p + b) % n)) := by
  refine ⟨fun p p0 p1 => h.1 _ (Int.emod_nonneg _ (by omega)) (Int.emod_lt_of_pos _ (by omega)), fun t ht => ?_⟩
  exact h.2 _ (List.mem_map.mpr ⟨t, ht, rfl⟩)
theorem least_moved {n : Nat} {m b : Int} {ts : List Tie} (hn : 1 ≤ n) {w : Int} (hg : ∀ t ∈ ts, GoodT n w t) {x : Int → Int} (h : LeastT n m ts x) : LeastT n m (ts.map (moveT n b)) (fun p => x ((p - b) % n)) := by
  refine ⟨feas_moved hn hg h.1, fun y hy p p0 p1 => ?_⟩
  have := h.2 _ (feas_back hn hy) ((p - b) % n) (Int.emod_nonneg _ (by omega)) (Int.emod_lt_of_pos _ (by omega))
  have : x ((p - b) % n) ≤ y (((p - b) % n + b) % n) := this
  rw [mv_forth p0 p1] at this
  exact this
/-- with the ties of a ring by themselves there are no amounts either -/
theorem ring_bars {n : Nat} {m : Int} {ts rs us : List Tie} (hg : ∀ t ∈ ts, GoodT n 999999 t) (hr : Lm.Ring (bnd n m ++ ts) rs) (hu : ∀ r ∈ rs, r ∈ ts → r ∈ us) (hus : ∀ t ∈ us, t ∈ ts) (x : Int → Int) : ¬ FeasT n m us x := fun h => by
  have hs := sol_of (fun t ht => hg t (hus t ht)) h
  refine hr.bars (fun p => if 0 ≤ p ∧ p < (n : Int) then x p else 0) fun r hr' => ?_
  rcases List.mem_append.mp (hr.mem r hr') with a | a
  · exact hs.2.2 r (List.mem_append_left _ a)
  · exact hs.2.2 r (List.mem_append_right _ (hu r hr' a))
end Ls
namespace Ls
open PySem PySem.Spec PyProof.Rows L2
theorem range_all_get {α : Type} (xs : List α) (f : α → Bool) (d : Bool) : (List.range xs.length).all (fun i => (xs[i]?.map f).getD d) = xs.all f := by
  have h := congrArg (fun l => l.all id) (range_map_get xs f d)
  simp only [List.all_map] at h
  exact h
theorem range_any_get {α : Type} (xs : List α) (f : α → Bool) (d : Bool) : (List.range xs.length).any (fun i => (xs[i]?.map f).getD d) = xs.any f := by
  have h := congrArg (fun l => l.any id) (range_map_get xs f d)
  simp only [List.any_map] at h
  exact h
section
variable {K : PySem.W.Frag} {H : Hp} {Q : VK}
theorem k_allR {a : Addr} {n : Nat} {bf : Nat → Bool} (h : H a = some (.lst ((List.range n).map fun i => V.bl (bf i)))) (q : Q (.bl ((List.range n).all bf)) H) : rAll K [.ref a] H Q := by
  refine k_all (bs := (List.range n).map bf) ?_ ?_
  · rw [List.map_map]
    exact sql_of h
  · rw [List.all_map]
    exact q
theorem k_anyR {a : Addr} {n : Nat} {bf : Nat → Bool} (h : H a = some (.lst ((List.range n).map fun i => V.bl (bf i)))) (q : Q (.bl ((List.range n).any bf)) H) : rAny K [.ref a] H Q := by
  refine k_any (bs := (List.range n).map bf) ?_ ?_
  · rw [List.map_map]
    exact sql_of h
  · rw [List.any_map]
    exact q
theorem k_sumR {a : Addr} {ns : List Int} (h : SqL K H a (ns.map V.int)) (q : Q (.int ns.sum) H) : rSum K [.ref a] H Q := by
  exact ⟨a, ns, rfl, h, q⟩
end
/-! ### rows that meet ties -/
def atZ (ns : List Int) (p : Int) : Int := ns.getD p.toNat 0
theorem atZ_at {ns : List Int} {p : Int} (h0 : 0 ≤ p) (h1 : p < ns.length) : atI (ns.map V.int) p = some (.int (atZ ns p)) := by
  obtain ⟨i, rfl⟩ := Int.eq_ofNat_of_zero_le h0
  refine atI_nat ?_
  unfold atZ
  rw [List.getElem?_map, List.getElem?_eq_getElem (by omega), Int.toNat_natCast, List.getD_eq_getElem?_getD, List.getElem?_eq_getElem (by omega)]
  rfl
def inB (top : Int) (ns : List Int) : Bool := ns.all fun a => decide (0 ≤ a) && decide (a ≤ top)
def tiesB (ts : List Tie) (ns : List Int) : Bool := ts.all fun t => decide (atZ ns t.2.1 + t.2.2 ≤ atZ ns t.1)
def spMeets (K : PySem.W.Frag) : Sp := fun vs H Q _ => ∃ (n : Nat) (most : Int) (l r : Addr) (us : List V) (ts : List Tie) (ns : List Int), vs = [.int n, .ref l, .ref r, .int most] ∧ 1 ≤ n ∧ n ≤ 6 ∧ 0 ≤ most ∧ most ≤ 1000000000000 ∧ SqL K H l us ∧ TieL K H us ts ∧ (∀ t ∈ ts, GoodT n 999999 t) ∧ ts.length ≤ 1000 ∧
  SqL K H r (ns.map V.int) ∧ ns.length ≤ 1000 ∧ ∀ H', Same H H' → Q (.bl (decide (ns.length = n) && (inB most ns && tiesB ts ns))) H'
theorem use_meets {K : PySem.W.Frag} {H : Hp} {Q : VK} {E : XK} {n : Nat} {most : Int} {l r : Addr} {us : List V} {ts : List Tie} {ns : List Int} (n1 : 1 ≤ n) (n2 : n ≤ 6) (m1 : 0 ≤ most) (m2 : most ≤ 1000000000000) (hl : SqL K H l us) (hT : TieL K H us ts) (hg : ∀ t ∈ ts, GoodT n 999999 t) (hlen : ts.length ≤ 1000)
    (hr : SqL K H r (ns.map V.int)) (hns : ns.length ≤ 1000) (q : ∀ H', Same H H' → Q (.bl (decide (ns.length = n) && (inB most ns && tiesB ts ns))) H') : spMeets K [.int n, .ref l, .ref r, .int most] H Q E := ⟨n, most, l, r, us, ts, ns, rfl, n1, n2, m1, m2, hl, hT, hg, hlen, hr, hns, q⟩
def spLMeets (K : PySem.W.Frag) : Sp := fun vs H Q _ => ∃ (n : Nat) (top : Int) (l r : Addr) (us : List V) (ts : List Tie) (ns : List Int), vs = [.ref l, .ref r, .int top] ∧ SqL K H l us ∧ TieL K H us ts ∧ (∀ t ∈ ts, GoodT n 999999 t) ∧ ts.length ≤ 1000 ∧
  SqL K H r (ns.map V.int) ∧ ns.length = n ∧ ns.length ≤ 1000 ∧ ∀ H', Same H H' → Q (.bl (inB top ns && tiesB ts ns)) H'
theorem use_lmeets {K : PySem.W.Frag} {H : Hp} {Q : VK} {E : XK} {n : Nat} {top : Int} {l r : Addr} {us : List V} {ts : List Tie} {ns : List Int} (hl : SqL K H l us) (hT : TieL K H us ts) (hg : ∀ t ∈ ts, GoodT n 999999 t) (hlen : ts.length ≤ 1000)
    (hr : SqL K H r (ns.map V.int)) (hn : ns.length = n) (hns : ns.length ≤ 1000) (q : ∀ H', Same H H' → Q (.bl (inB top ns && tiesB ts ns)) H') : spLMeets K ([.ref l, .ref r, .int top] ++ []) H Q E := ⟨n, top, l, r, us, ts, ns, rfl, hl, hT, hg, hlen, hr, hn, hns, q⟩
/-! ### the ring, as the laws look at it -/
def spIsRing (K : PySem.W.Frag) : Sp := fun vs H Q _ => ∃ (n : Nat) (top : Int) (l r : Addr) (us ur : List V) (ts rs : List Tie), vs = [.ref r, .int n, .ref l, .int top] ∧ n ≤ 6 ∧ SqL K H l us ∧ TieL K H us ts ∧ ts.length ≤ 1000 ∧ SqL K H r ur ∧ TieL K H ur rs ∧ rs.length ≤ 100 ∧ Lm.Ring (bnd n top ++ ts) rs ∧ ∀ H', Same H H' → Q (.bl true) H'
theorem use_isring {K : PySem.W.Frag} {H : Hp} {Q : VK} {E : XK} {n : Nat} {top : Int} {l r : Addr} {us ur : List V} {ts rs : List Tie} (hn : n ≤ 6) (hl : SqL K H l us) (hT : TieL K H us ts) (hlen : ts.length ≤ 1000) (hr : SqL K H r ur) (hR : TieL K H ur rs) (hrl : rs.length ≤ 100) (hring : Lm.Ring (bnd n top ++ ts) rs)
    (q : ∀ H', Same H H' → Q (.bl true) H') : spIsRing K ([.ref r, .int n, .ref l, .int top] ++ []) H Q E := ⟨n, top, l, r, us, ur, ts, rs, rfl, hn, hl, hT, hlen, hr, hR, hrl, hring, q⟩
end Ls
namespace Ls
open PySem PySem.Spec PyProof.Rows L2
/-! ### lists of rows -/
def RowsF (F : Addr → Prop) (H : Hp) (us : List V) (rows : List (List Int)) : Prop := us.length = rows.length ∧ ∀ (i : Nat) (r : List Int), rows[i]? = some r → ∃ a, us[i]? = some (V.ref a) ∧ F a ∧ H a = some (.lst (r.map V.int))
theorem RowsF.nil {F : Addr → Prop} {H : Hp} : RowsF F H [] [] := ⟨rfl, fun i r h => by simp at h⟩
theorem RowsF.mono {F G : Addr → Prop} {H H' : Hp} {us : List V} {rows : List (List Int)} (h : RowsF F H us rows) (k : ∀ a o, F a → H a = some o → G a ∧ H' a = some o) : RowsF G H' us rows := ⟨h.1, fun i r hr => by
  obtain ⟨a, h1, h2, h3⟩ := h.2 i r hr
  obtain ⟨h4, h5⟩ := k _ _ h2 h3
  exact ⟨a, h1, h4, h5⟩⟩
theorem RowsF.app {F : Addr → Prop} {H : Hp} {us ws : List V} {rows more : List (List Int)} (h : RowsF F H us rows) (h2 : RowsF F H ws more) : RowsF F H (us ++ ws) (rows ++ more) := by
  refine ⟨by rw [List.length_append, List.length_append, h.1, h2.1], fun i r hr => ?_⟩
  by_cases hi : i < rows.length
  · rw [List.getElem?_append_left hi] at hr
    rw [List.getElem?_append_left (by rw [h.1]; exact hi)]
    exact h.2 i r hr
  · rw [List.getElem?_append_right (by omega)] at hr
    rw [List.getElem?_append_right (by rw [h.1]; omega), h.1]
    exact h2.2 _ r hr
theorem RowsF.one {F : Addr → Prop} {H : Hp} {a : Addr} {r : List Int} (hf : F a) (h : H a = some (.lst (r.map V.int))) : RowsF F H [.ref a] [r] := ⟨rfl, fun i r' hr => by
  cases i with
  | zero =>
    cases hr
    exact ⟨a, rfl, hf, h⟩
  | succ i => simp at hr⟩
theorem RowsF.get {F : Addr → Prop} {H : Hp} {us : List V} {rows : List (List Int)} {i : Nat} {v : V} (h : RowsF F H us rows) (e : us[i]? = some v) : ∃ a r, v = .ref a ∧ rows[i]? = some r ∧ F a ∧ H a = some (.lst (r.map V.int)) := by
  have hi : i < rows.length := by
    rw [← h.1]
    exact (List.getElem?_eq_some_iff.mp e).1
  obtain ⟨a, h1, h2, h3⟩ := h.2 i _ (List.getElem?_eq_getElem hi)
  rw [e] at h1
  cases h1
  exact ⟨a, _, rfl, List.getElem?_eq_getElem hi, h2, h3⟩
theorem RowsF.mem {F : Addr → Prop} {H : Hp} {us : List V} {rows : List (List Int)} {v : V} (h : RowsF F H us rows) (e : v ∈ us) : ∃ a r, v = .ref a ∧ r ∈ rows ∧ F a ∧ H a = some (.lst (r.map V.int)) := by
  obtain ⟨i, hi⟩ := List.getElem?_of_mem e
  obtain ⟨a, r, h1, h2, h3⟩ := h.get hi
  exact ⟨a, r, h1, List.mem_of_getElem? h2, h3⟩
def moreRows (t : Nat) (r : List Int) : List (List Int) := (List.range (t + 1)).map fun (a : Nat) => r ++ [(a : Int)]
def allRows (t : Nat) : Nat → List (List Int)
  | 0 => [[]]
  | k + 1 => (allRows t k).flatMap (moreRows t)
theorem allRows_len {t : Nat} (ht : t ≤ 7) : ∀ k, (allRows t k).length ≤ 8 ^ k
  | 0 => Nat.le_refl _
  | k + 1 => by
    have key : ∀ l : List (List Int), (l.flatMap (moreRows t)).length = l.length * (t + 1) := by
      intro l
      induction l with
      | nil => simp
      | cons r l ih =>
        rw [List.flatMap_cons, List.length_append, ih, moreRows, List.length_map, List.length_range, List.length_cons, Nat.add_mul]
        omega
    show ((allRows t k).flatMap (moreRows t)).length ≤ 8 ^ (k + 1)
    rw [key, Nat.pow_succ]
    exact Nat.mul_le_mul (allRows_len ht k) (by omega)
theorem mem_allRows {t : Nat} : ∀ (k : Nat) (r : List Int), r ∈ allRows t k ↔ r.length = k ∧ ∀ a ∈ r, 0 ≤ a ∧ a ≤ t
  | 0, r => by
    constructor
    · intro h
      rw [List.mem_singleton.mp h]
      exact ⟨rfl, fun a ha => by cases ha⟩
    · intro h
      rw [List.length_eq_zero_iff.mp h.1]
      exact List.mem_singleton.mpr rfl
  | k + 1, r => by
    show r ∈ (allRows t k).flatMap (moreRows t) ↔ _
    rw [List.mem_flatMap]
    constructor
    · rintro ⟨r', h1, h2⟩
      obtain ⟨a, h3, rfl⟩ := List.mem_map.mp h2
      have h3 := List.mem_range.mp h3
      obtain ⟨h4, h5⟩ := (mem_allRows k r').mp h1
      refine ⟨by rw [List.length_append, h4]; rfl, fun b hb => ?_⟩
      rcases List.mem_append.mp hb with hb | hb
      · exact h5 b hb
      · rw [List.mem_singleton] at hb
        subst hb
        omega
    · rintro ⟨h1, h2⟩
      rcases List.eq_nil_or_concat r with rfl | ⟨r', a, rfl⟩
      · cases h1
      · rw [List.concat_eq_append] at h1 h2 ⊢
        rw [List.length_append, List.length_singleton] at h1
        have ha := h2 a (List.mem_append_right _ (List.mem_singleton.mpr rfl))
        refine ⟨r', (mem_allRows k r').mpr ⟨by omega, fun b hb => h2 b (List.mem_append_left _ hb)⟩, List.mem_map.mpr ⟨a.toNat, List.mem_range.mpr (by omega), ?_⟩⟩
        rw [Int.toNat_of_nonneg ha.1]
def spAllRows (K : PySem.W.Frag) : Sp := fun vs H Q _ => ∃ (n t : Nat), vs = [.int n, .int t] ∧ n ≤ 3 ∧ t ≤ 7 ∧ ∀ p us H', H p = none → Same H H' → H' p = some (.lst us) → RowsF (fun _ => True) H' us (allRows t n) → Q (.ref p) H'
end Ls
namespace Ls
open PySem PySem.Spec PyProof.Rows L2
/-! ### rows and amounts -/
def rowZ (n : Nat) (x : Int → Int) : List Int := (List.range n).map fun (i : Nat) => x i
theorem rowZ_at {n : Nat} {x : Int → Int} {p : Int} (h0 : 0 ≤ p) (h1 : p < n) : atZ (rowZ n x) p = x p := by
  unfold atZ rowZ
  rw [List.getD_eq_getElem?_getD, List.getElem?_map, List.getElem?_range (by omega)]
  show x ((p.toNat : Nat) : Int) = x p
  rw [Int.toNat_of_nonneg h0]
theorem rowZ_len {n : Nat} {x : Int → Int} : (rowZ n x).length = n := by
  unfold rowZ
  rw [List.length_map, List.length_range]
theorem rowB_iff {n : Nat} {t : Int} {ts : List Tie} {r : List Int} (hg : ∀ t ∈ ts, GoodT n 999999 t) (hr : r.length = n) : (inB t r && tiesB ts r) = true ↔ FeasT n t ts (atZ r) := by
  rw [Bool.and_eq_true]
  unfold inB tiesB
  rw [List.all_eq_true, List.all_eq_true]
  constructor
  · rintro ⟨h1, h2⟩
    refine ⟨fun p p0 p1 => ?_, fun u hu => show atZ r u.2.1 + u.2.2 ≤ atZ r u.1 from of_decide_eq_true (h2 u hu)⟩
    have hm : atZ r p ∈ r := by
      unfold atZ
      rw [List.getD_eq_getElem?_getD, List.getElem?_eq_getElem (by omega)]
      exact List.getElem_mem _
    have := h1 _ hm
    rw [Bool.and_eq_true] at this
    exact ⟨of_decide_eq_true this.1, of_decide_eq_true this.2⟩
  · rintro ⟨h1, h2⟩
    refine ⟨fun a ha => ?_, fun u hu => decide_eq_true (show atZ r u.2.1 + u.2.2 ≤ atZ r u.1 from h2 u hu)⟩
    obtain ⟨i, hi⟩ := List.getElem?_of_mem ha
    have hi' : i < r.length := (List.getElem?_eq_some_iff.mp hi).1
    have := h1 (i : Int) (by omega) (by omega)
    have e : atZ r (i : Int) = a := by
      unfold atZ
      rw [List.getD_eq_getElem?_getD, Int.toNat_natCast, hi]
      rfl
    rw [e] at this
    rw [Bool.and_eq_true]
    exact ⟨decide_eq_true this.1, decide_eq_true this.2⟩
theorem feas_rowZ {n : Nat} {t : Int} {ts : List Tie} {x : Int → Int} (hg : ∀ t ∈ ts, GoodT n 999999 t) (h : FeasT n t ts x) : FeasT n t ts (atZ (rowZ n x)) := by
  refine ⟨fun p p0 p1 => ?_, fun u hu => ?_⟩
  · rw [rowZ_at p0 p1]
    exact h.1 p p0 p1
  · obtain ⟨a, b, c, d, _⟩ := hg u hu
    show atZ (rowZ n x) u.2.1 + u.2.2 ≤ atZ (rowZ n x) u.1
    rw [rowZ_at a b, rowZ_at c d]
    exact h.2 u hu
theorem feas_least {n : Nat} {m : Int} {ts : List Tie} (hg : ∀ t ∈ ts, GoodT n 999999 t) {y : Int → Int} (h : FeasT n m ts y) : ∃ x, LeastT n m ts x := by
  cases e : (Lm.iter (bnd n m ++ ts) s0 (n + 2)).last with
  | none => exact ⟨_, iter_none hg (by omega) e⟩
  | some v => exact (iter_some hg e y h).elim
/-- the rows that meet ties -/
def good (t n : Nat) (ts : List Tie) : List (List Int) := (allRows t n).filter fun r => inB t r && tiesB ts r
theorem mem_good {t n : Nat} {ts : List Tie} (hg : ∀ t ∈ ts, GoodT n 999999 t) {r : List Int} : r ∈ good t n ts ↔ r.length = n ∧ FeasT n t ts (atZ r) := by
  unfold good
  rw [List.mem_filter, mem_allRows]
  constructor
  · rintro ⟨⟨h1, h2⟩, h3⟩
    exact ⟨h1, (rowB_iff hg h1).mp h3⟩
  · rintro ⟨h1, h2⟩
    refine ⟨⟨h1, fun a ha => ?_⟩, (rowB_iff hg h1).mpr h2⟩
    obtain ⟨i, hi⟩ := List.getElem?_of_mem ha
    have hi' : i < r.length := (List.getElem?_eq_some_iff.mp hi).1
    have := h2.1 (i : Int) (by omega) (by omega)
    have e : atZ r (i : Int) = a := by
      unfold atZ
      rw [List.getD_eq_getElem?_getD, Int.toNat_natCast, hi]
      rfl
    rw [e] at this
    exact this
theorem k_minZ {K : PySem.W.Frag} {H : Hp} {Q : VK} {p : Addr} {ns : List Int} {x : Int} (h : SqL K H p (ns.map V.int)) (hm : x ∈ ns) (hl : ∀ y ∈ ns, x ≤ y) (q : Q (.int x) H) : rMinU K [.ref p] H Q := by
  refine .inr ⟨p, ns, rfl, h, List.length_pos_of_mem hm, fun m h1 h2 => ?_⟩
  have a := h2 x hm
  have b := hl m h1
  rw [show m = x by omega]
  exact q
theorem rows_dp {K : PySem.W.Frag} {F : Addr → Prop} {H : Hp} : ∀ {us : List V} {rows : List (List Int)}, RowsF F H us rows → DpAll K H us (rows.map fun r => PyData.list (r.map PyData.int))
  | [], [], _ => .nil
  | [], r :: rows, h => by cases h.1
  | u :: us, [], h => by cases h.1
  | u :: us, r :: rows, h => by
    obtain ⟨a, h1, _, h3⟩ := h.2 0 r rfl
    cases h1
    refine .cons (.lst (sql_of h3) (ImAll.dp (ImAll.ints r))) (rows_dp (F := F) ⟨Nat.succ.inj h.1, fun i r' hr => ?_⟩)
    obtain ⟨b, h4⟩ := h.2 (i + 1) r' (by simpa using hr)
    exact ⟨b, by simpa using h4⟩
theorem rows_ok {rows : List (List Int)} (h1 : rows.length ≤ 100000) (h2 : ∀ r ∈ rows, r.length ≤ 100000) : OkD 2 (.list (rows.map fun r => PyData.list (r.map PyData.int))) := ⟨by rw [List.length_map]; exact h1, fun d hd => by
  obtain ⟨r, hr, rfl⟩ := List.mem_map.mp hd
  refine ⟨by rw [List.length_map]; exact h2 r hr, fun e he => ?_⟩
  obtain ⟨i, _, rfl⟩ := List.mem_map.mp he
  exact True.intro⟩
theorem eqv_nil (ds : List PyData) : PyData.eqv (.list ds) (.list []) = decide (ds = []) := by
  cases ds with
  | nil => simp only [PyData.eqv, PyData.eqvAll, decide_true]
  | cons a b =>
    simp only [PyData.eqv, PyData.eqvAll]
    exact (decide_eq_false (by intro z; cases z)).symm
theorem k_neT {K : PySem.W.Frag} {H : Hp} {Q : VK} {p r : Addr} {us vs : List V} {ts : List Tie} (h1 : SqL K H p us) (h2 : TieL K H us ts) (h3 : SqL K H r vs) (h4 : TieL K H vs ts) (hl : ts.length ≤ 100000) (q : Q (.bl false) H) : rNeU K (.ref p) (.ref r) H Q := by
  have ok := ties_ok hl
  refine k_neD (.lst h1 (ImAll.dp h2)) (.lst h3 (ImAll.dp h4)) (ok.shaped (by decide)) (ok.shaped (by decide)) ?_
  rw [SeqAt.eqv_refl _ ok.lay.1]
  exact q
end Ls
namespace Ls
open PySem PySem.Spec PyProof.Rows L2
/-! ### amounts that are borne -/
theorem sorted_eq : ∀ {xs ys : List Int}, xs.Pairwise (· < ·) → ys.Pairwise (· < ·) → (∀ k, k ∈ xs ↔ k ∈ ys) → xs = ys
  | [], [], _, _, _ => rfl
  | [], y :: ys, _, _, h => absurd ((h y).mpr List.mem_cons_self) List.not_mem_nil
  | x :: xs, [], _, _, h => absurd ((h x).mp List.mem_cons_self) List.not_mem_nil
  | x :: xs, y :: ys, hx, hy, h => by
    rw [List.pairwise_cons] at hx hy
    have e : x = y := by
      rcases List.mem_cons.mp ((h x).mp List.mem_cons_self) with a | a
      · exact a
      · rcases List.mem_cons.mp ((h y).mpr List.mem_cons_self) with b | b
        · exact b.symm
        · have := hy.1 x a
          have := hx.1 y b
          omega
    subst e
    refine congrArg (x :: ·) (sorted_eq hx.2 hy.2 fun k => ?_)
    constructor
    · intro hk
      rcases List.mem_cons.mp ((h k).mp (List.mem_cons_of_mem _ hk)) with a | a
      · have := hx.1 k hk
        omega
      · exact a
    · intro hk
      rcases List.mem_cons.mp ((h k).mpr (List.mem_cons_of_mem _ hk)) with a | a
      · have := hy.1 k hk
        omega
      · exact a
/-- how many lanes are not borne yet -/
def loosed (n : Nat) (B : List Int) : Nat := (List.range n).countP fun (i : Nat) => decide ((i : Int) ∉ B)
def tightTo (x : Int → Int) (B : List Int) (ts : List Tie) : List Int := (ts.filter fun t => decide (t.2.1 ∈ B) && decide (x t.1 = x t.2.1 + t.2.2)).map (·.1)
theorem borne_step {n : Nat} {m : Int} {ts : List Tie} {x : Int → Int} (hx : LeastT n m ts x) (hg : ∀ t ∈ ts, GoodT n 999999 t) {B C : List Int} (h0 : ∀ p : Int, 0 ≤ p → p < n → x p = 0 → p ∈ B) (hC : ∀ k, k ∈ C ↔ k ∈ B ++ tightTo x B ts) :
    loosed n C < loosed n B ∨ loosed n B = 0 ∧ loosed n C = 0 := by
  have mono : ∀ i ∈ List.range n, decide ((i : Int) ∉ C) = true → decide ((i : Int) ∉ B) = true := fun i _ h => decide_eq_true fun hb => of_decide_eq_true h ((hC _).mpr (List.mem_append_left _ hb))
  by_cases hd : ∃ i ∈ List.range n, (i : Int) ∉ B
  · left
    have key : ∃ t ∈ ts, t.2.1 ∈ B ∧ t.1 ∉ B ∧ x t.1 = x t.2.1 + t.2.2 := by
      apply Classical.byContradiction
      intro hn
      obtain ⟨i, hi, hib⟩ := hd
      have hi := List.mem_range.mp hi
      have hf : FeasT n m ts (fun p => if p ∈ B then x p else x p - 1) := by
        refine ⟨fun p p0 p1 => ?_, fun t ht => ?_⟩
        · have := hx.1.1 p p0 p1
          show 0 ≤ (if p ∈ B then x p else x p - 1) ∧ (if p ∈ B then x p else x p - 1) ≤ m
          by_cases hp : p ∈ B
          · rw [if_pos hp]; exact this
          · have : x p ≠ 0 := fun e => hp (h0 p p0 p1 e)
            rw [if_neg hp]; omega
        · have c : x t.2.1 + t.2.2 ≤ x t.1 := hx.1.2 t ht
          show (if t.2.1 ∈ B then x t.2.1 else x t.2.1 - 1) + t.2.2 ≤ (if t.1 ∈ B then x t.1 else x t.1 - 1)
          by_cases a : t.2.1 ∈ B
          · by_cases b : t.1 ∈ B
            · rw [if_pos a, if_pos b]; exact c
            · have : x t.1 ≠ x t.2.1 + t.2.2 := fun e => hn ⟨t, ht, a, b, e⟩
              rw [if_pos a, if_neg b]; omega
          · by_cases b : t.1 ∈ B
            · rw [if_neg a, if_pos b]; omega
            · rw [if_neg a, if_neg b]; omega
      have := hx.2 _ hf (i : Int) (by omega) (by omega)
      have : x i ≤ if (i : Int) ∈ B then x i else x i - 1 := this
      rw [if_neg hib] at this
      omega
    obtain ⟨t, ht, a, b, c⟩ := key
    obtain ⟨g1, g2, _⟩ := hg t ht
    refine Lm.count_lt _ mono ⟨t.1.toNat, List.mem_range.mpr (by omega), ?_, ?_⟩
    · rw [Int.toNat_of_nonneg g1]
      refine decide_eq_false fun h => h ((hC _).mpr (List.mem_append_right _ (List.mem_map.mpr ⟨t, List.mem_filter.mpr ⟨ht, ?_⟩, rfl⟩)))
      rw [decide_eq_true a, decide_eq_true c]
      rfl
    · rw [Int.toNat_of_nonneg g1]
      exact decide_eq_true b
  · right
    have z : loosed n B = 0 := List.countP_eq_zero.mpr fun i hi h => hd ⟨i, hi, of_decide_eq_true h⟩
    refine ⟨z, ?_⟩
    have := Lm.count_le _ mono
    unfold loosed at z ⊢
    omega
theorem borne_all {n : Nat} {B : List Int} (hs : B.Pairwise (· < ·)) (hB : ∀ p ∈ B, 0 ≤ p ∧ p < n) (h : loosed n B = 0) : B = (List.range n).map fun (i : Nat) => (i : Int) := by
  refine sorted_eq hs ?_ fun k => ?_
  · rw [List.pairwise_map]
    exact List.pairwise_lt_range.imp fun h => by omega
  · constructor
    · intro hk
      have := hB k hk
      exact List.mem_map.mpr ⟨k.toNat, List.mem_range.mpr (by omega), Int.toNat_of_nonneg this.1⟩
    · intro hk
      obtain ⟨i, hi, rfl⟩ := List.mem_map.mp hk
      have := List.countP_eq_zero.mp h i hi
      exact Classical.byContradiction fun hn => this (decide_eq_true hn)
theorem any_int (k : Int) (ns : List Int) : ((ns.map PyData.int).any fun z => PyData.eqv z (.int k)) = decide (k ∈ ns) := by
  by_cases h : k ∈ ns
  · rw [decide_eq_true h, List.any_eq_true]
    exact ⟨.int k, List.mem_map.mpr ⟨k, h, rfl⟩, by simp only [PyData.eqv, beq_self_eq_true]⟩
  · rw [decide_eq_false h, List.any_eq_false]
    intro d hd
    obtain ⟨i, hi, rfl⟩ := List.mem_map.mp hd
    simp only [PyData.eqv, beq_iff_eq]
    intro e
    exact h (e ▸ hi)
theorem ints_ok {ns : List Int} (h : ns.length ≤ 100000) : OkD 1 (.list (ns.map PyData.int)) := ⟨by rw [List.length_map]; exact h, fun d hd => by
  obtain ⟨i, _, rfl⟩ := List.mem_map.mp hd
  exact True.intro⟩
theorem k_inI {K : PySem.W.Frag} {H : Hp} {Q : VK} {p : Addr} {k : Int} {ns : List Int} (h : SqL K H p (ns.map V.int)) (hl : ns.length ≤ 100000) (q : Q (.bl (decide (k ∈ ns))) H) : rInU K (.int k) (.ref p) H Q :=
  .inr (.inl ⟨.int k, ns.map PyData.int, .int k, .lst h (ImAll.dp (ImAll.ints ns)), OkD.shaped (n := 0) True.intro (by decide), (ints_ok hl).shaped (by decide), by rw [any_int]; exact q⟩)
theorem k_eqInts {K : PySem.W.Frag} {H : Hp} {Q : VK} {p r : Addr} {ns : List Int} (h : SqL K H p (ns.map V.int)) (h2 : SqL K H r (ns.map V.int)) (hl : ns.length ≤ 100000) (q : Q (.bl true) H) : rEqU K (.ref p) (.ref r) H Q := by
  have ok := ints_ok hl
  refine k_eqD (.lst h (ImAll.dp (ImAll.ints ns))) (.lst h2 (ImAll.dp (ImAll.ints ns))) (ok.shaped (by decide)) (ok.shaped (by decide)) ?_
  rw [SeqAt.eqv_refl _ ok.lay.1]
  exact q
def spBorne (K : PySem.W.Frag) : Sp := fun vs H Q _ => ∃ (n : Nat) (m : Int) (r l : Addr) (us : List V) (ts : List Tie) (x : Int → Int), vs = [.ref r, .ref l] ∧ n ≤ 6 ∧ H r = some (.lst (rowV n x)) ∧ SqL K H l us ∧ TieL K H us ts ∧ (∀ t ∈ ts, GoodT n 999999 t) ∧ ts.length ≤ 50 ∧ LeastT n m ts x ∧ ∀ H', Same H H' → Q (.bl true) H'
theorem use_borne {K : PySem.W.Frag} {H : Hp} {Q : VK} {E : XK} {n : Nat} {m : Int} {r l : Addr} {us : List V} {ts : List Tie} {x : Int → Int} (hn : n ≤ 6) (hr : H r = some (.lst (rowV n x))) (hl : SqL K H l us) (hT : TieL K H us ts) (hg : ∀ t ∈ ts, GoodT n 999999 t) (hlen : ts.length ≤ 50) (hx : LeastT n m ts x)
    (q : ∀ H', Same H H' → Q (.bl true) H') : spBorne K ([.ref r, .ref l] ++ []) H Q E := ⟨n, m, r, l, us, ts, x, rfl, hn, hr, hl, hT, hg, hlen, hx, q⟩
def spNum : Sp := fun vs H Q _ => ∃ i : Int, vs = [.int i] ∧ ∀ H', Same H H' → Q (.bl true) H'
end Ls
local macro_rules | `(tactic| walk_at "hg") => `(tactic| first
  | assumption
  | exact upd_same
  | (refine up_new (by assumption) ?_; walk_at "hg")
  | (refine up_ne ?n ?_; (case n => walk_at "ne"); walk_at "hg")
  | (refine Keep.at (by assumption) ?n ?_; (case n => walk_at "ne"); walk_at "hg"))
local macro_rules | `(tactic| walk_at "ne") => `(tactic| first
  | assumption
  | (refine Ne.symm ?_; assumption)
  | (refine ne_of_none ?a ?b; (case b => assumption); (case a => walk_at "hg"))
  | (refine Ne.symm (ne_of_none ?a ?b); (case b => assumption); (case a => walk_at "hg"))
  | (refine ne_of ?a ?b ?c; (case a => assumption); (case b => assumption); (case c => (intro z; cases z))))
local macro_rules | `(tactic| walk_at "sz") => `(tactic| first | omega | decide | (simp only [List.length_cons, List.length_nil, List.length_append, List.length_map, List.length_take, List.length_drop, sizeLine_eq] <;> omega) | (rw [sizeLine_eq]; simp <;> omega))
local macro_rules | `(tactic| walk_at "w1") => `(tactic| first
  | (with_reducible first | refine k_v0 ?_ | refine k_v1 ?_ | refine k_v2 ?_ | refine k_v3 ?_ | refine k_v4 ?_ | refine k_v5 ?_ | refine k_v6 ?_ | refine k_v7 ?_ | refine k_v8 ?_ | refine k_v9 ?_ | refine k_v10 ?_ | refine k_v11 ?_ | refine k_v12 ?_ | refine k_v13 ?_ | refine k_v14 ?_ | refine k_v15 ?_ | refine k_v16 ?_ | refine k_v17 ?_ | refine k_v18 ?_ | refine k_v19 ?_ | refine k_v20 ?_ | refine k_v21 ?_ | refine k_v22 ?_ | refine k_v23 ?_ | refine k_v24 ?_ | refine k_v25 ?_ | refine k_v26 ?_ | refine k_v27 ?_ | refine k_v28 ?_ | refine k_v29 ?_ | refine k_v30 ?_ | refine k_v31 ?_ | refine k_v32 ?_ | refine k_v33 ?_ | refine k_v34 ?_ | refine k_v35 ?_ | refine k_v36 ?_ | refine k_v37 ?_ | refine k_v38 ?_ | refine k_v39 ?_ | refine k_v40 ?_ | refine k_v41 ?_ | refine k_v42 ?_ | refine k_v43 ?_)
  | (with_reducible first
    | refine k_seq ?_ | refine k_c ?_ | refine k_op ?_ | refine k_cons ?_ | refine k_nil ?_ | refine k_call ?_ | refine k_cb ?_ | refine k_ret ?_ | refine k_if ?_ | refine k_test ?_ | refine k_bl ?_
    | refine k_tup ?_ | refine k_lst ?_ | refine k_dget ?_ | refine k_dput ?_ | refine k_drop ?_ | refine k_next ?_ | refine k_B ?_ | refine k_and ?_ | refine k_or ?_ | refine k_not ?_ | refine k_un ?_
    | refine k_bm ?_ | refine k_bm0 ?_ | refine k_sl ?_ | refine k_nop ?_ | refine k_part ?_ | refine k_partI ?_ | refine k_par ?_ | refine k_par2 ?_ | refine k_gcons ?_ | refine k_gnil ?_
    | refine k_andV ?_ | refine k_orV ?_ | refine k_notV ?_ | refine k_ifE ?_ | refine k_chain ?_ | refine k_din ?_ | refine k_dnotin ?_ | refine k_brk ?_ | refine k_cont ?_ | refine k_retN ?_ | refine k_callN ?_ | refine k_yes ?_ | refine k_step ?_ | refine k_lenset ?_ | refine k_sortset ?_ | refine k_listrg ?_ | refine k_rg1 ?_ | refine k_lc ?_ | refine k_dc ?_
    | refine k_addI ?_ | refine k_sub ?_ | refine k_lt ?_ | refine k_le ?_ | refine k_gt ?_ | refine k_ge ?_ | refine k_eqI ?_ | refine k_neI ?_ | refine k_eqS ?_ | refine k_neS ?_ | refine k_eqB ?_ | refine k_neB ?_ | refine k_neg ?_ | refine k_isN ?_ | refine k_isnotN ?_
    | refine k_for ?_ | refine k_itL ?_ | refine k_itT ?_ | refine k_itR1 ?_ | refine k_itR2 ?_ | refine k_tt ?_ | refine k_ff ?_ | refine k_nt ?_ | refine k_nf ?_)
  | (with_reducible first | refine k_s0 ?_ | refine k_s1 ?_ | refine k_s2 ?_ | refine k_s3 ?_ | refine k_s4 ?_ | refine k_s5 ?_ | refine k_s6 ?_ | refine k_s7 ?_ | refine k_s8 ?_ | refine k_s9 ?_ | refine k_s10 ?_ | refine k_s11 ?_ | refine k_s12 ?_ | refine k_s13 ?_ | refine k_s14 ?_ | refine k_s15 ?_ | refine k_s16 ?_ | refine k_s17 ?_ | refine k_s18 ?_ | refine k_s19 ?_ | refine k_s20 ?_ | refine k_s21 ?_ | refine k_s22 ?_ | refine k_s23 ?_ | refine k_s24 ?_ | refine k_s25 ?_ | refine k_s26 ?_ | refine k_s27 ?_ | refine k_s28 ?_ | refine k_s29 ?_ | refine k_s30 ?_ | refine k_s31 ?_ | refine k_s32 ?_ | refine k_s33 ?_ | refine k_s34 ?_ | refine k_s35 ?_ | refine k_s36 ?_ | refine k_s37 ?_ | refine k_s38 ?_ | refine k_s39 ?_ | refine k_s40 ?_ | refine k_s41 ?_ | refine k_s42 ?_ | refine k_s43 ?_)
  | (with_reducible first | refine k_g0 ?_ | refine k_g1 ?_ | refine k_g2 ?_ | refine k_g3 ?_ | refine k_g4 ?_ | refine k_g5 ?_ | refine k_g6 ?_ | refine k_g7 ?_ | refine k_g8 ?_ | refine k_g9 ?_ | refine k_g10 ?_ | refine k_g11 ?_ | refine k_g12 ?_ | refine k_g13 ?_ | refine k_g14 ?_ | refine k_g15 ?_ | refine k_g16 ?_ | refine k_g17 ?_ | refine k_g18 ?_ | refine k_g19 ?_ | refine k_g20 ?_ | refine k_g21 ?_ | refine k_g22 ?_ | refine k_g23 ?_ | refine k_g24 ?_ | refine k_g25 ?_ | refine k_g26 ?_ | refine k_g27 ?_ | refine k_g28 ?_ | refine k_g29 ?_ | refine k_g30 ?_ | refine k_g31 ?_ | refine k_g32 ?_ | refine k_g33 ?_ | refine k_g34 ?_ | refine k_g35 ?_ | refine k_g36 ?_ | refine k_g37 ?_ | refine k_g38 ?_ | refine k_g39 ?_ | refine k_g40 ?_ | refine k_g41 ?_ | refine k_g42 ?_ | refine k_g43 ?_)
  | (with_reducible refine k_asg ?_)
  | (with_reducible refine k_mod ?e ?_; (case e => first | omega | decide))
  | (with_reducible refine k_mulR ?e ?_; (case e => decide))
  | (with_reducible refine k_mulL ?e ?_; (case e => decide))
  | (with_reducible refine k_new ?e ?_; (case e => walk_at "sz")))
local macro_rules | `(tactic| walk_at "w") => `(tactic| repeat walk_at "w1")
local macro_rules | `(tactic| walk_at "lc") => `(tactic| (simp only [wipe, List.map, List.set_cons_succ, List.set_cons_zero]; walk_at "w"; refine ⟨rfl, ?_⟩; walk_at "w"))
local macro_rules | `(tactic| walk_at "fr") => `(tactic| first | assumption | (refine Same.free ?s (by assumption); (case s => walk_at "sm")) | (refine Keep.free ?k ?d (by assumption); (case k => walk_at "kp"); (case d => walk_at "hg")))
local macro_rules | `(tactic| walk_at "sm") => `(tactic| first
  | assumption
  | exact Same.refl _
  | (refine Same.wr ?s ?f; (case s => walk_at "sm"); (case f => walk_at "fr"))
  | (refine Same.trans ?a (by assumption); (case a => walk_at "sm")))
local macro_rules | `(tactic| walk_at "kp") => `(tactic| first
  | assumption
  | exact Keep.refl
  | (refine Keep.put ?s; (case s => walk_at "kp"))
  | (refine Keep.wr ?s ?f; (case s => walk_at "kp"); (case f => walk_at "fr"))
  | (refine Keep.trans ?a (by assumption); (case a => walk_at "kp"))
  | (refine Keep.same ?s; (case s => walk_at "sm")))
local macro_rules | `(tactic| walk_at "ar") => `(tactic| first
  | (refine k_pos ?h ?_; (case h => omega))
  | (refine k_neg' ?h ?_; (case h => omega))
  | (refine k_npos ?h ?_; (case h => omega))
  | (refine k_nneg ?h ?_; (case h => omega)))
local macro_rules | `(tactic| walk_at "wa") => `(tactic| repeat first | walk_at "w1" | walk_at "ar")
local macro_rules | `(tactic| walk_at "lc1") => `(tactic| simp only [wipe, List.map, List.set_cons_succ, List.set_cons_zero])
local macro_rules | `(tactic| walk_at "lc2") => `(tactic| (walk_at "w"; refine ⟨rfl, ?_⟩; walk_at "w"))

namespace Lw
open PySem PySem.Spec PyProof.Rows L2 Ls
section
variable {P : Program} {w : World} {K : PySem.W.Frag} {mg : Str → Option Value} {base : Heap}
theorem ok__law_pick (E : Env K mg) : FnOk P w K mg base CX0 1 E.a__law_pick E.fd__law_pick ["_law_d", "_law_many"] (spPick K) := by
  refine E.F__law_pick.ok sc__law_pick (fun vs H Q E h => ?_) (fun cdv A outer s H vs Q E' hr h => ?_)
  · obtain ⟨d, c, m, rfl, _⟩ := h
    rfl
  · obtain ⟨d, c, many, rfl, ⟨n, r, s, ns, h1, h2, h3, h4, h5, h6⟩, m1, m2, q⟩ := h
    have hu := huOf hr
    refine ⟨_, PSs.nox (pss_cut (ps_if (PW.pt (pw_and (pt_cmpR (op_eqU K rfl hu) (pe_dget (hu1 hu) (pv 0) pe_str (fun _ _ => rfl)) pe_int (nomark _)) (pw_and1 (pt_cmpR (op_lt) (pe_dget (hu1 hu) (pv 0) pe_str (fun _ _ => rfl)) (pe_callB (call_lenU K rfl) (by rfl) E.n_len boot_len (pa_cons (pe_dget (hu1 hu) (pv 0) pe_str (fun _ _ => rfl)) pa_nil)) (nomark _))))) (pss_cons (ps_set (i := 2) sc__law_pick.nd rfl (Or.inl rfl) (pe_ix (ix_U K rfl) (pe_dget (hu1 hu) (pv 0) pe_str (fun _ _ => rfl)) (pe_dget (hu1 hu) (pv 0) pe_str (fun _ _ => rfl)) (fun _ _ => rfl)))
(pss_cons (ps_dput (hu1 hu) (pv 0) pe_str (pe_op (op_addU K rfl) (pe_dget (hu1 hu) (pv 0) pe_str (fun _ _ => rfl)) pe_int) rfl)
(pss_one (ps_if (pt_cmpR (op_ge) (pv 2) (pe_op op_pow pe_int pe_int) (nomark _)) (pss_one (ps_dput (hu1 hu) (pv 0) pe_str (pv 2) rfl)) (pss_one (ps_dput (hu1 hu) (pv 0) pe_str (pe_op op_mod (pe_op (op_addU K rfl) (pe_op (op_addU K rfl) (pe_op op_mul (pe_dget (hu1 hu) (pv 0) pe_str (fun _ _ => rfl)) pe_int) (pe_op op_mul (pv 2) pe_int)) pe_int) pe_int) rfl)))))) pss_nil)
(pss_cons (ps_if (pt_cmpR (op_gt) (pe_dget (hu1 hu) (pv 0) pe_str (fun _ _ => rfl)) pe_int (nomark _)) (pss_cons (ps_set (i := 3) sc__law_pick.nd rfl (Or.inl rfl) (pe_op op_mod (pe_dget (hu1 hu) (pv 0) pe_str (fun _ _ => rfl)) (pv 1)))
(pss_cons (ps_dput (hu1 hu) (pv 0) pe_str (pe_op op_fdivW (pe_dget (hu1 hu) (pv 0) pe_str (fun _ _ => rfl)) (pv 1)) rfl)
(pss_one (ps_ret (pv 3))))) pss_nil)
(pss_cons (ps_set (i := 4) sc__law_pick.nd rfl (Or.inl rfl) (pe_op op_mod (pe_op op_mul (pe_dget (hu1 hu) (pv 0) pe_str (fun _ _ => rfl)) (pe_dget (hu1 hu) (pv 0) pe_str (fun _ _ => rfl))) pe_int))
(pss_cons (ps_dput (hu1 hu) (pv 0) pe_str (pe_op op_mod (pe_op (op_addU K rfl) (pe_op (op_addU K rfl) (pe_op op_mul (pv 4) pe_int) (pe_op op_mul (pe_dget (hu1 hu) (pv 0) pe_str (fun _ _ => rfl)) pe_int)) pe_int) pe_int) rfl)
(pss_one (ps_ret (pe_op op_mod (pe_op op_fdivW (pe_dget (hu1 hu) (pv 0) pe_str (fun _ _ => rfl)) pe_int) (pv 1)))))))), ?_⟩
    refine k_body (s1 := [some (.ref d), some (.int many), none, none, none]) rfl ?_
    refine k_cut (fun σ H' => ∃ (n r s : Int) (v : Option V), σ = [some (.ref d), some (.int many), v, none, none] ∧ Keep d H H' ∧ H' d = some (.dK (dd c n r s)) ∧ H' c = some (.lst (ns.map V.int)) ∧ 0 ≤ n ∧ 0 ≤ r ∧ 0 ≤ s ∧ s < 2305843009213693951) ?_ ?_
    · walk_at "w"
      refine k_getS h1 dd_rest ?_
      walk_at "w"
      refine k_itd (fun hr0 => ?_) (fun hr0 => ?_)
      · walk_at "w"
        refine k_getS h1 dd_at ?_
        walk_at "w"
        refine k_getS h1 dd_cells ?_
        walk_at "w"
        refine k_lenL (sql_of h2) ?_
        walk_at "w"
        refine k_itd (fun hl => ?_) (fun hl => ?_)
        · rw [List.length_map] at hl
          obtain ⟨k, rfl⟩ : ∃ k : Nat, n = (k : Int) := ⟨n.toNat, by omega⟩
          have hk : k < ns.length := by omega
          walk_at "w"
          refine k_getS h1 dd_cells ?_
          walk_at "w"
          refine k_getS h1 dd_at ?_
          walk_at "w"
          refine k_ixL (sql_of h2) (atI_nat (v := .int ns[k]) (by rw [List.getElem?_map, List.getElem?_eq_getElem hk]; rfl)) ?_
          walk_at "w"
          refine k_getS h1 dd_at ?_
          walk_at "w"
          refine k_putS h1 dd_len ?_
          rw [dd_put_at]
          have g1 : Keep d H (upd H d (.dK (dd c (k + 1) r s))) := Keep.put Keep.refl
          have nc : c ≠ d := ne_of h2 h1 (by intro z; cases z)
          have g2 : upd H d (.dK (dd c (k + 1) r s)) c = some (.lst (ns.map V.int)) := g1.at nc h2
          walk_at "w"
          refine k_powL (v := 1000000000000000000) (by decide) (by decide) (by decide) ?_
          walk_at "w"
          refine k_itd (fun hb => ?_) (fun hb => ?_)
          · walk_at "w"
            refine k_putS upd_same dd_len ?_
            rw [dd_put_rest]
            exact ⟨_, _, _, _, rfl, Keep.put g1, upd_same, (Keep.put Keep.refl : Keep d _ _).at nc g2, by omega, by omega, h5, h6⟩
          · walk_at "w"
            refine k_getS upd_same dd_seed ?_
            walk_at "w"
            refine k_putS upd_same dd_len ?_
            rw [dd_put_seed]
            exact ⟨_, _, _, _, rfl, Keep.put g1, upd_same, (Keep.put Keep.refl : Keep d _ _).at nc g2, by omega, by omega, by omega, by omega⟩
        · walk_at "w"
          exact ⟨_, _, _, _, rfl, Keep.refl, h1, h2, h3, h4, h5, h6⟩
      · walk_at "w"
        exact ⟨_, _, _, _, rfl, Keep.refl, h1, h2, h3, h4, h5, h6⟩
    · rintro σ' H' ⟨n, r, s, v, rfl, k, h1, h2, h3, h4, h5, h6⟩
      walk_at "w"
      refine k_getS h1 dd_rest ?_
      walk_at "w"
      refine k_itd (fun hr0 => ?_) (fun hr0 => ?_)
      · walk_at "w"
        refine k_getS h1 dd_rest ?_
        walk_at "w"
        refine k_getS h1 dd_rest ?_
        walk_at "w"
        refine k_fdiv m1 m2 ?_
        walk_at "w"
        refine k_putS h1 dd_len ?_
        rw [dd_put_rest]
        walk_at "w"
        exact q _ _ (Keep.put k) ⟨n, _, s, ns, upd_same, (Keep.put Keep.refl : Keep d _ _).at (ne_of h2 h1 (by intro z; cases z)) h2, h3, Int.ediv_nonneg h4 (by omega), h5, h6⟩ (Int.emod_nonneg _ (by omega)) (Int.emod_lt_of_pos _ m1)
      · walk_at "w"
        refine k_getS h1 dd_seed ?_
        walk_at "w"
        refine k_getS h1 dd_seed ?_
        refine k_mulR (by omega) ?_
        walk_at "w"
        refine k_getS h1 dd_seed ?_
        walk_at "w"
        refine k_putS h1 dd_len ?_
        rw [dd_put_seed]
        walk_at "w"
        refine k_getS upd_same dd_seed ?_
        walk_at "w"
        refine k_fdiv (by decide) (by decide) ?_
        walk_at "w"
        exact q _ _ (Keep.put k) ⟨n, r, _, ns, upd_same, (Keep.put Keep.refl : Keep d _ _).at (ne_of h2 h1 (by intro z; cases z)) h2, h3, h4, Int.emod_nonneg _ (by omega), Int.emod_lt_of_pos _ (by omega)⟩ (Int.emod_nonneg _ (by omega)) (Int.emod_lt_of_pos _ m1)
end
end Lw
namespace Lw
open PySem PySem.Spec PyProof.Rows L2 Ls
section
variable {P : Program} {w : World} {K : PySem.W.Frag} {mg : Str → Option Value} {base : Heap}
theorem same_turn (E : Env K mg) (n : Nat) {sp : Sp} (G__law_same : FnOk P w K mg base CX0 n E.a__law_same E.fd__law_same ["_law_found", "_law_due"] sp)
    (use : ∀ (x y : V) (d : PyData) (H : Hp) (Q : VK) (E : XK) (m : Nat), n = m + 1 → Dp K H x d → Dp K H y d → OkD m d → (∀ H', Same H H' → Q (.bl true) H') → sp ([x, y] ++ []) H Q E) :
    FnOk P w K mg base CX0 (n + 1) E.a__law_same E.fd__law_same ["_law_found", "_law_due"] (spSame K n) := by
  refine E.F__law_same.ok sc__law_same (fun vs H Q E h => ?_) (fun cdv A outer s H vs Q E' hr h => ?_)
  · obtain ⟨x, y, d, rfl, _⟩ := h
    rfl
  · obtain ⟨x, y, d, rfl, hx, hy, hd, q⟩ := h
    have hu := huOf hr
    have b__law_same := b__law_same E
    have hr__law_same := hr
    refine ⟨_, PSs.nox (pss_cons (ps_if (pt_cmpR (op_isU) (pv 1) pe_non (nomark _)) (pss_one (ps_ret (pe_cmpR (op_isU) (pv 0) pe_non (nomark _)))) pss_nil)
(pss_cons (ps_if (PW.pt (pw_or (pt_val (pe_callB (call_isiU K rfl) (by rfl) E.n_isinstance boot_isinstance (pa_cons (pv 1) (pa_cons (pe_ty "bool" rfl E.n_bool (by decide +kernel)) pa_nil)))) (pw_or1 (pt_val (pe_callB (call_isiU K rfl) (by rfl) E.n_isinstance boot_isinstance (pa_cons (pv 0) (pa_cons (pe_ty "bool" rfl E.n_bool (by decide +kernel)) pa_nil))))))) (pss_one (ps_ret (pe_and (pe_callB (call_isiU K rfl) (by rfl) E.n_isinstance boot_isinstance (pa_cons (pv 1) (pa_cons (pe_ty "bool" rfl E.n_bool (by decide +kernel)) pa_nil))) (pe_and (pe_callB (call_isiU K rfl) (by rfl) E.n_isinstance boot_isinstance (pa_cons (pv 0) (pa_cons (pe_ty "bool" rfl E.n_bool (by decide +kernel)) pa_nil))) (pe_one (pe_cmpR (op_eqU K rfl hu) (pv 0) (pv 1) (nomark _))))))) pss_nil)
(pss_cons (ps_if (pt_val (pe_callB (call_isiTU K rfl) (by rfl) E.n_isinstance boot_isinstance (pa_cons (pv 1) (pa_cons (pe_tup (pa_cons (pe_ty "int" rfl E.n_int (by decide +kernel)) (pa_cons (pe_ty "str" rfl E.n_str (by decide +kernel)) pa_nil))) pa_nil)))) (pss_one (ps_ret (pe_and (pe_callB (call_isiTU K rfl) (by rfl) E.n_isinstance boot_isinstance (pa_cons (pv 0) (pa_cons (pe_tup (pa_cons (pe_ty "int" rfl E.n_int (by decide +kernel)) (pa_cons (pe_ty "str" rfl E.n_str (by decide +kernel)) pa_nil))) pa_nil))) (pe_and (pe_cmpR (op_eqU K rfl hu) (pe_callB (call_isiU K rfl) (by rfl) E.n_isinstance boot_isinstance (pa_cons (pv 0) (pa_cons (pe_ty "int" rfl E.n_int (by decide +kernel)) pa_nil))) (pe_callB (call_isiU K rfl) (by rfl) E.n_isinstance boot_isinstance (pa_cons (pv 1) (pa_cons (pe_ty "int" rfl E.n_int (by decide +kernel)) pa_nil))) (nomark _)) (pe_one (pe_cmpR (op_eqU K rfl hu) (pv 0) (pv 1) (nomark _))))))) pss_nil)
(pss_cons (ps_if (PW.pt (pw_or (pt_cmpR (op_neU K rfl hu) (pe_callB (call_isiU K rfl) (by rfl) E.n_isinstance boot_isinstance (pa_cons (pv 1) (pa_cons (pe_ty "list" rfl E.n_list (by decide +kernel)) pa_nil))) (pe_callB (call_isiU K rfl) (by rfl) E.n_isinstance boot_isinstance (pa_cons (pv 0) (pa_cons (pe_ty "list" rfl E.n_list (by decide +kernel)) pa_nil))) (nomark _)) (pw_or1 (pt_cmpR (op_neU K rfl hu) (pe_callB (call_isiU K rfl) (by rfl) E.n_isinstance boot_isinstance (pa_cons (pv 1) (pa_cons (pe_ty "tuple" rfl E.n_tuple (by decide +kernel)) pa_nil))) (pe_callB (call_isiU K rfl) (by rfl) E.n_isinstance boot_isinstance (pa_cons (pv 0) (pa_cons (pe_ty "tuple" rfl E.n_tuple (by decide +kernel)) pa_nil))) (nomark _))))) (pss_one (ps_ret pe_bl)) pss_nil)
(pss_one (ps_ret (pe_and (pe_cmpR (op_eqU K rfl hu) (pe_callB (call_lenU K rfl) (by rfl) E.n_len boot_len (pa_cons (pv 0) pa_nil)) (pe_callB (call_lenU K rfl) (by rfl) E.n_len boot_len (pa_cons (pv 1) pa_nil)) (nomark _)) (pe_one (pe_callB (cr_allU K rfl rfl) (by rfl) E.n_all boot_all (pa_cons (pe_lc (own := [("_law_k", 2)]) rfl sc__law_same.nd (pi_range1 rfl E.n_range (pa_cons (pe_callB (call_lenU K rfl) (by rfl) E.n_len boot_len (pa_cons (pv 1) pa_nil)) pa_nil)) (blkOk_by (N := ["_law_found", "_law_due", "_law_k"]) (sc := defScope s__law_same) (by decide +kernel)) (fun _ _ _ _ _ => (pg_name (i := 2) sc__law_same.nd rfl (Or.inl rfl))) (fun _ _ _ _ _ => pts_nil) (fun _ _ _ _ _ => (pe_call G__law_same hr__law_same rfl E.g__law_same E.F__law_same.kp b__law_same .nil pass0 (pa_cons (pe_ix (ix_U K rfl) (pv 0) (pv 2) (fun _ _ => rfl)) (pa_cons (pe_ix (ix_U K rfl) (pv 1) (pv 2) (fun _ _ => rfl)) pa_nil))))) pa_nil)))))))))), ?_⟩
    refine k_body (s1 := [some x, some y, none]) rfl ?_
    have two : d = .none ∨ (∃ b, d = .bool b) ∨ (∃ i, d = .int i) ∨ (∃ z, d = .str z) ∨ ∃ (a c : Addr) (xs ys : List V) (ds : List PyData) (m : Nat) (U : String) (bL bT : Bool), n = m + 1 ∧ x = .ref a ∧ y = .ref c ∧ (SqL K H a xs ∨ SqT K H a xs) ∧ (SqL K H c ys ∨ SqT K H c ys) ∧ DpAll K H xs ds ∧ DpAll K H ys ds ∧
        ds.length ≤ 100000 ∧ (∀ e ∈ ds, OkD m e) ∧ tyn d = U ∧ kitB U "bool" = some false ∧ kitB U "int" = some false ∧ kitB U "str" = some false ∧ kitB U "list" = some bL ∧ kitB U "tuple" = some bT := by
      cases d with
      | none => exact .inl rfl
      | bool b => exact .inr (.inl ⟨b, rfl⟩)
      | int i => exact .inr (.inr (.inl ⟨i, rfl⟩))
      | str z => exact .inr (.inr (.inr (.inl ⟨z, rfl⟩)))
      | list ds =>
        cases n with
        | zero => exact hd.elim
        | succ m =>
          cases hx with
          | lst h1 h2 =>
            cases hy with
            | lst h3 h4 => exact .inr (.inr (.inr (.inr ⟨_, _, _, _, ds, m, _, _, _, rfl, rfl, rfl, .inl h1, .inl h3, h2, h4, hd.1, hd.2, rfl, kt_list_bool, kt_list_int, kt_list_str, kt_list_list, kt_list_tuple⟩)))
      | tuple ds =>
        cases n with
        | zero => exact hd.elim
        | succ m =>
          cases hx with
          | tup h1 h2 =>
            cases hy with
            | tup h3 h4 => exact .inr (.inr (.inr (.inr ⟨_, _, _, _, ds, m, _, _, _, rfl, rfl, rfl, .inr h1, .inr h3, h2, h4, hd.1, hd.2, rfl, kt_tuple_bool, kt_tuple_int, kt_tuple_str, kt_tuple_list, kt_tuple_tuple⟩)))
      | dict i => cases n <;> exact hd.elim
    walk_at "w"
    rcases two with rfl | ⟨b, rfl⟩ | ⟨i, rfl⟩ | ⟨z, rfl⟩ | ⟨a, c, xs, ys, ds, m, U, bL, bT, rfl, rfl, rfl, sx, sy, ax, ay, hl, hds, e0, eb, ei, es, eL, eT⟩
    · cases hx
      cases hy
      refine k_pos rfl ?_
      walk_at "w"
      exact q H (Same.refl H)
    · cases hx
      cases hy
      refine k_neg' (by simp) ?_
      walk_at "w"
      refine k_isi (.bl b) rfl kt_bool_bool ?_
      walk_at "w"
      refine k_isi (.bl b) rfl kt_bool_bool ?_
      walk_at "w"
      refine k_isi (.bl b) rfl kt_bool_bool ?_
      walk_at "w"
      simp only [decide_true]
      exact q H (Same.refl H)
    · cases hx
      cases hy
      refine k_neg' (by simp) ?_
      walk_at "w"
      refine k_isi (.int i) rfl kt_int_bool ?_
      walk_at "w"
      refine k_isi (.int i) rfl kt_int_bool ?_
      walk_at "w"
      intro t nt
      walk_at "w"
      refine k_isi2 (b := true) (.int i) upd_same rfl kt_int_int kt_int_str rfl ?_
      walk_at "w"
      intro t2 nt2
      walk_at "w"
      refine k_isi2 (b := true) (.int i) upd_same rfl kt_int_int kt_int_str rfl ?_
      walk_at "w"
      refine k_isi (.int i) rfl kt_int_int ?_
      walk_at "w"
      refine k_isi (.int i) rfl kt_int_int ?_
      walk_at "w"
      refine k_pos rfl ?_
      walk_at "w"
      simp only [decide_true]
      exact q _ ((same_new nt).trans (same_new nt2))
    · cases hx
      cases hy
      refine k_neg' (by simp) ?_
      walk_at "w"
      refine k_isi (.str z) rfl kt_str_bool ?_
      walk_at "w"
      refine k_isi (.str z) rfl kt_str_bool ?_
      walk_at "w"
      intro t nt
      walk_at "w"
      refine k_isi2 (b := true) (.str z) upd_same rfl kt_str_int kt_str_str rfl ?_
      walk_at "w"
      intro t2 nt2
      walk_at "w"
      refine k_isi2 (b := true) (.str z) upd_same rfl kt_str_int kt_str_str rfl ?_
      walk_at "w"
      refine k_isi (.str z) rfl kt_str_int ?_
      walk_at "w"
      refine k_isi (.str z) rfl kt_str_int ?_
      walk_at "w"
      refine k_pos rfl ?_
      walk_at "w"
      simp only [decide_true]
      exact q _ ((same_new nt).trans (same_new nt2))
    · refine k_neg' (by simp) ?_
      walk_at "w"
      refine k_isi hy e0 eb ?_
      walk_at "w"
      refine k_isi hx e0 eb ?_
      walk_at "w"
      intro t nt
      have s1 := same_new (o := .tup [.ty "int", .ty "str"]) nt
      walk_at "w"
      refine k_isi2 (b := false) (dp_same s1 hy) upd_same e0 ei es rfl ?_
      walk_at "w"
      refine k_isi (dp_same s1 hy) e0 eL ?_
      walk_at "w"
      refine k_isi (dp_same s1 hx) e0 eL ?_
      walk_at "w"
      refine k_nneg rfl ?_
      walk_at "w"
      refine k_isi (dp_same s1 hy) e0 eT ?_
      walk_at "w"
      refine k_isi (dp_same s1 hx) e0 eT ?_
      walk_at "w"
      refine k_nneg rfl ?_
      walk_at "w"
      refine k_lenE (seq_same s1 sx) ?_
      walk_at "w"
      refine k_lenE (seq_same s1 sy) ?_
      walk_at "w"
      refine k_pos (by rw [DpAll.length' ax, DpAll.length' ay]) ?_
      walk_at "w"
      refine k_lenE (seq_same s1 sy) ?_
      walk_at "w"
      have ly := DpAll.length' ay
      refine k_itr1 (by omega) ?_
      intro D hD
      have s2 := s1.trans (same_new (o := .lst []) hD)
      refine lc_range (fun i H' => Same H H' ∧ H D = none ∧ H' D = some (.lst (List.replicate i (V.bl true)))) ⟨s2, s1.free hD, upd_same⟩ (fun i H' hi hP => ?_) (fun H' hP => ?_)
      · obtain ⟨p1, p2, p3⟩ := hP
        walk_at "lc"
        have hi' : i < ds.length := by omega
        obtain ⟨v, hv, dv⟩ := DpAll.getD' ax (List.getElem?_eq_getElem hi')
        obtain ⟨u, hu', du⟩ := DpAll.getD' ay (List.getElem?_eq_getElem hi')
        refine k_ixE (seq_same p1 sx) (at_of (by omega) hv) ?_
        walk_at "w"
        refine k_ixE (seq_same p1 sy) (at_of (by omega) hu') ?_
        walk_at "w"
        refine use _ _ _ _ _ _ m rfl (dp_same p1 dv) (dp_same p1 du) (hds _ (List.getElem_mem hi')) fun H2 s3 => ?_
        refine ⟨_, s3 _ _ p3, ?_, ?_⟩
        · rw [List.length_replicate, sizeLine_eq]
          omega
        · refine ⟨fun b o e => ?_, p2, ?_⟩
          · rw [upd_ne (ne_of_none e p2)]
            exact s3 _ _ (p1 _ _ e)
          · rw [upd_same, List.replicate_succ']
      · obtain ⟨p1, p2, p3⟩ := hP
        walk_at "w"
        refine k_all (bs := List.replicate (ys.length : Int).toNat true) (by rw [List.map_replicate]; exact sql_of p3) ?_
        have ea : (List.replicate (ys.length : Int).toNat true).all id = true := by
          rw [List.all_eq_true]
          intro x hx
          rw [List.eq_of_mem_replicate hx]
          rfl
        rw [ea]
        exact q _ p1
theorem ok__law_same (E : Env K mg) : ∀ n : Nat, FnOk P w K mg base CX0 (n + 1) E.a__law_same E.fd__law_same ["_law_found", "_law_due"] (spSame K n)
  | 0 => same_turn E 0 (sp := fun _ _ _ _ => False) ⟨fun _ _ _ _ h => h.elim, fun _ _ _ _ _ _ _ _ _ _ _ _ _ h => h.elim⟩ fun x y d H Q E m hm => by omega
  | n + 1 => same_turn E (n + 1) (ok__law_same E n) fun x y d H Q E m hm h1 h2 h3 q => by
    cases hm
    exact use_same h1 h2 h3 q
end
end Lw
namespace Lw
open PySem PySem.Spec PyProof.Rows L2 Ls
section
variable {P : Program} {w : World} {K : PySem.W.Frag} {mg : Str → Option Value} {base : Heap}
theorem ok__law_begin (E : Env K mg) : FnOk P w K mg base CX0 1 E.a__law_begin E.fd__law_begin ["_law_script"] (spBegin K) := by
  refine E.F__law_begin.ok sc__law_begin (fun vs H Q E h => ?_) (fun cdv A outer s H vs Q E' hr h => ?_)
  · obtain ⟨d, m, rfl, _⟩ := h
    rfl
  · obtain ⟨a, ns, rfl, h1, h2, q⟩ := h
    have hu := huOf hr
    refine ⟨_, PSs.nox (pss_cons (ps_set (i := 1) sc__law_begin.nd rfl (Or.inl rfl) pe_int)
(pss_cons (ps_for PassesOwn.never rfl (kIL K rfl (pi_list (pe_slice (sl_U K rfl) (pv 0) po_none (po_some pe_int)))) (pg_name (i := 2) sc__law_begin.nd rfl (Or.inl rfl))
(pss_one (ps_set (i := 1) sc__law_begin.nd rfl (Or.inl rfl) (pe_op op_mod (pe_op (op_addU K rfl) (pe_op (op_addU K rfl) (pe_op op_mul (pv 1) pe_int) (pe_op op_mul (pv 2) pe_int)) pe_int) pe_int))))
(pss_one (ps_ret (pe_disp (pps_cons pe_str (pe_callTy (call_listU K rfl) (by rfl) E.n_list boot_list (pa_cons (pe_slice (sl_U K rfl) (pv 0) po_none (po_some pe_int)) pa_nil)) (pps_cons pe_str pe_int (pps_cons pe_str pe_int (pps_cons pe_str (pv 1) pps_nil)))) (by rfl) (by rfl) (by simp) (by decide)))))), ?_⟩
    refine k_body (s1 := [some (.ref a), none, none]) rfl ?_
    walk_at "w"
    refine k_slL h1 ?_
    rw [cut_all (by rw [List.length_map]; omega)]
    intro p hp
    refine k_itl (sql_of upd_same) ?_
    refine for_list (xs := ns.map V.int) (fun i σ H' => ∃ (s : Int) (c : Option V), σ = [some (.ref a), some (.int s), c] ∧ 0 ≤ s ∧ s < 2305843009213693951 ∧ Same H H' ∧ H' p = some (.lst (ns.map V.int))) ⟨_, _, rfl, by decide, by decide, same_new hp, upd_same⟩ (fun i σ H' _ hP => ?_) (fun i x σ H' hx hP => ?_) (fun σ H' hP => ?_)
    · obtain ⟨s, c, rfl, p1, p2, p3, p4⟩ := hP
      exact sql_of p4
    · obtain ⟨s, c, rfl, p1, p2, p3, p4⟩ := hP
      rw [List.getElem?_map] at hx
      obtain ⟨n, hn, rfl⟩ := Option.map_eq_some_iff.mp hx
      walk_at "w"
      exact ⟨_, _, rfl, Int.emod_nonneg _ (by decide), Int.emod_lt_of_pos _ (by decide), p3, p4⟩
    · obtain ⟨s, c, rfl, p1, p2, p3, p4⟩ := hP
      walk_at "w"
      refine k_disp ?_
      intro d hd
      refine k_prs ?_
      walk_at "w"
      refine k_slL (sql_same (same_new hd) (sql_same p3 h1)) ?_
      rw [cut_all (by rw [List.length_map]; omega)]
      intro pc hpc
      walk_at "w"
      refine k_list (sql_of upd_same) ?_
      intro pl hpl
      refine k_prs ?_
      walk_at "w"
      refine k_prs ?_
      walk_at "w"
      refine k_prs ?_
      walk_at "w"
      refine k_prn ?_
      have hd2 : upd (upd (upd H' d (.dK [])) pc (.lst (ns.map V.int))) pl (.lst (ns.map V.int)) d = some (.dK []) := by walk_at "hg"
      refine ⟨hd2, dd pl 0 0 s, rfl, by show 4 ≤ 15; decide, ?_⟩
      rw [dd_merge]
      refine q _ _ _ ?_ (Same.free p3 (Same.free (same_new hd) (Same.free (same_new hpc) hpl))) ?_ ?_
      · walk_at "fr"
      · walk_at "sm"
      · refine ⟨0, 0, s, ns, upd_same, ?_, by decide, by decide, p1, p2⟩
        rw [upd_ne (ne_of upd_same hd2 (by intro z; cases z))]
        exact upd_same
end
end Lw
namespace Lw
open PySem PySem.Spec PyProof.Rows L2 Ls
section
variable {P : Program} {w : World} {K : PySem.W.Frag} {mg : Str → Option Value} {base : Heap}
theorem ok__law_of (E : Env K mg) (G__law_pick : FnOk P w K mg base CX0 1 E.a__law_pick E.fd__law_pick ["_law_d", "_law_many"] (spPick K)) : FnOk P w K mg base CX0 2 E.a__law_of E.fd__law_of ["_law_d", "_law_things"] (spOf K) := by
  refine E.F__law_of.ok sc__law_of (fun vs H Q E h => ?_) (fun cdv A outer s H vs Q E' hr h => ?_)
  · obtain ⟨d, c, m, xs, rfl, _⟩ := h
    rfl
  · obtain ⟨d, c, l, xs, rfl, hD, hl, h0, hn, q⟩ := h
    have hu := huOf hr
    have hr__law_pick := hr.mono (Nat.le_refl _)
    have b__law_pick := b__law_pick E
    refine ⟨_, PSs.nox (pss_one (ps_ret (pe_ix (ix_U K rfl) (pv 1) (pe_call G__law_pick hr__law_pick rfl E.g__law_pick E.F__law_pick.kp b__law_pick .nil pass0 (pa_cons (pv 0) (pa_cons (pe_callB (call_lenU K rfl) (by rfl) E.n_len boot_len (pa_cons (pv 1) pa_nil)) pa_nil))) (fun _ _ => rfl)))), ?_⟩
    refine k_body (s1 := [some (.ref d), some (.ref l)]) rfl ?_
    walk_at "w"
    refine k_lenL hl ?_
    walk_at "w"
    refine use_pick hD (by omega) (by omega) fun r H1 k1 D1 r0 r1 => ?_
    obtain ⟨k, rfl⟩ := Int.eq_ofNat_of_zero_le r0
    have hk : k < xs.length := by omega
    refine k_ixL (hD.sql k1 hl) (atI_nat (List.getElem?_eq_getElem hk)) ?_
    exact q _ _ k1 D1 (List.getElem_mem hk)
end
end Lw
namespace Lw
open PySem PySem.Spec PyProof.Rows L2 Ls
section
variable {P : Program} {w : World} {K : PySem.W.Frag} {mg : Str → Option Value} {base : Heap}
theorem ok__law_ties (E : Env K mg) (G__law_pick : FnOk P w K mg base CX0 1 E.a__law_pick E.fd__law_pick ["_law_d", "_law_many"] (spPick K)) : FnOk P w K mg base CX0 2 E.a__law_ties E.fd__law_ties ["_law_d", "_law_lanes", "_law_wide"] (spTies K) := by
  refine E.F__law_ties.ok sc__law_ties (fun vs H Q E h => ?_) (fun cdv A outer s H vs Q E' hr h => ?_)
  · obtain ⟨d, c, m, n, rfl, _⟩ := h
    rfl
  · obtain ⟨d, c, lanes, wide, rfl, hD, l1, l2, w1, w2, q⟩ := h
    have hu := huOf hr
    have hr__law_pick := hr.mono (Nat.le_refl _)
    have b__law_pick := b__law_pick E
    refine ⟨_, PSs.nox (pss_cons (ps_set (i := 3) sc__law_ties.nd rfl (Or.inl rfl) (pe_lst pa_nil))
(pss_cut (ps_if (pt_cmpR (op_gt) (pv 1) pe_int (nomark _)) (pss_one (ps_for PassesOwn.never rfl (pi_range1 rfl E.n_range (pa_cons (pe_call G__law_pick hr__law_pick rfl E.g__law_pick E.F__law_pick.kp b__law_pick .nil pass0 (pa_cons (pv 0) (pa_cons (pe_ix (ix_U K rfl) (pe_lst (pa_cons pe_int (pa_cons pe_int (pa_cons pe_int pa_nil)))) (pe_call G__law_pick hr__law_pick rfl E.g__law_pick E.F__law_pick.kp b__law_pick .nil pass0 (pa_cons (pv 0) (pa_cons pe_int pa_nil))) (fun _ _ => rfl)) pa_nil))) pa_nil)) (pg_name (i := 4) sc__law_ties.nd rfl (Or.inl rfl))
(pss_cons (ps_set (i := 5) sc__law_ties.nd rfl (Or.inl rfl) (pe_call G__law_pick hr__law_pick rfl E.g__law_pick E.F__law_pick.kp b__law_pick .nil pass0 (pa_cons (pv 0) (pa_cons (pv 1) pa_nil))))
(pss_cons (ps_set (i := 6) sc__law_ties.nd rfl (Or.inl rfl) (pe_op op_mod (pe_op (op_addU K rfl) (pe_op (op_addU K rfl) (pv 5) pe_int) (pe_call G__law_pick hr__law_pick rfl E.g__law_pick E.F__law_pick.kp b__law_pick .nil pass0 (pa_cons (pv 0) (pa_cons (pe_op op_sub (pv 1) pe_int) pa_nil)))) (pv 1)))
(pss_one (ps_expr (kBM K rfl (pe_bm PySem.F.plainAttrs_list PySem.F.slot_list_append PySem.F.type_list_append mt_append (pv 3) (pa_cons (pe_tup (pa_cons (pv 5) (pa_cons (pv 6) (pa_cons (pe_op op_sub (pe_call G__law_pick hr__law_pick rfl E.g__law_pick E.F__law_pick.kp b__law_pick .nil pass0 (pa_cons (pv 0) (pa_cons (pe_op (op_addU K rfl) (pe_op op_mul pe_int (pv 2)) pe_int) pa_nil))) (pv 2)) pa_nil)))) pa_nil))))))))) pss_nil)
(pss_one (ps_ret (pv 3))))), ?_⟩
    refine k_body (s1 := [some (.ref d), some (.int lanes), some (.int wide), none, none, none, none]) rfl ?_
    walk_at "w"
    intro p hp
    have np := hD.free hp
    have npc := hD.nec hp
    refine k_cut (fun σ H' => ∃ us ts c1 c2 c3, σ = [some (.ref d), some (.int lanes), some (.int wide), some (.ref p), c1, c2, c3] ∧ Keep d H H' ∧ Draw K H' d c ∧ H' p = some (.lst us) ∧ TieL K H' us ts ∧ ts.length ≤ 15 ∧ ∀ t ∈ ts, GoodT lanes wide t) ?_ ?_
    · walk_at "w"
      have D0 : Draw K (upd H p (.lst [])) d c := hD.new hp
      refine k_itd (fun hl => ?_) (fun hl => ?_)
      · walk_at "w"
        intro q1 hq1
        have nq := (hD.new (o := .lst []) hp).free hq1
        walk_at "w"
        refine use_pick (D0.new hq1) (by decide) (by decide) fun r H1 k1 D1 r0 r1 => ?_
        have hq : H1 q1 = some (.lst [.int 4, .int 9, .int 16]) := by walk_at "hg"
        have hm : ∃ m : Int, atI [V.int 4, V.int 9, V.int 16] r = some (.int m) ∧ 0 < m ∧ m ≤ 16 := by
          have : r = 0 ∨ r = 1 ∨ r = 2 := by omega
          rcases this with rfl | rfl | rfl
          · exact ⟨4, rfl, by decide, by decide⟩
          · exact ⟨9, rfl, by decide, by decide⟩
          · exact ⟨16, rfl, by decide, by decide⟩
        obtain ⟨m, em, m0, m1⟩ := hm
        refine k_ixL (sql_of hq) em ?_
        walk_at "w"
        refine use_pick D1 m0 (by omega) fun n H2 k2 D2 n0 n1 => ?_
        walk_at "w"
        refine k_itr1 (by omega) ?_
        have hp2 : H2 p = some (.lst []) := by
          refine k2.at np (k1.at np ?_)
          rw [upd_ne (ne_of_none upd_same hq1)]
          exact upd_same
        have kk : Keep d H H2 := ((((Keep.new Keep.refl hp).new hq1).trans k1).trans k2)
        refine for_range (fun i σ H' => ∃ us ts c1 c2 c3, σ = [some (.ref d), some (.int lanes), some (.int wide), some (.ref p), c1, c2, c3] ∧ Keep d H H' ∧ Draw K H' d c ∧ H' p = some (.lst us) ∧ TieL K H' us ts ∧ ts.length = i ∧ ∀ t ∈ ts, GoodT lanes wide t)
          ⟨_, [], _, _, _, rfl, ?_, D2, hp2, .nil, rfl, fun t ht => by cases ht⟩ (fun i σ H3 hi hP => ?_) (fun σ H3 hP => ?_)
        · exact kk
        · obtain ⟨us, ts, c1, c2, c3, rfl, k3, D3, p3, T3, l3, g3⟩ := hP
          walk_at "w"
          refine use_pick D3 (by omega) (by omega) fun one H4 k4 D4 o0 o1 => ?_
          walk_at "w"
          refine use_pick D4 (by omega) (by omega) fun oth H5 k5 D5 u0 u1 => ?_
          walk_at "w"
          have p5 := k5.at np (k4.at np p3)
          refine k_tyL (sql_of p5) ?_
          walk_at "w"
          refine use_pick D5 (by omega) (by omega) fun le H6 k6 D6 e0 e1 => ?_
          walk_at "w"
          intro tp htp
          walk_at "w"
          have p6 := k6.at np p5
          refine k_app (up_new htp p6) ?_ ?_
          · rw [T3.len, l3, sizeLine_eq]
            omega
          · have T6 : TieL K H6 us ts := T3.mono ((D3.tp k4).trans ((D4.tp k5).trans (D5.tp k6)))
            refine ⟨us ++ [.ref tp], ts ++ [(one, (one + 1 + oth) % lanes, le - wide)], _, _, _, rfl, ?_, ?_, upd_same, ?_, ?_, ?_⟩
            · exact ((((k3.trans k4).trans k5).trans k6).new htp).wr hp
            · exact (D6.new htp).wr np npc
            · refine TieL.mono (wr_tp (up_new htp p6) rfl) (TieL.snoc (T6.mono (Tp.new htp)) sqt_new)
            · rw [List.length_append, l3]; rfl
            · intro t ht
              rcases List.mem_append.mp ht with ht | ht
              · exact g3 t ht
              · rw [List.mem_singleton] at ht
                subst ht
                have e1 := Int.emod_nonneg (one + 1 + oth) (show lanes ≠ 0 by omega)
                have e2 := Int.emod_lt_of_pos (one + 1 + oth) (show 0 < lanes by omega)
                refine ⟨o0, o1, e1, e2, ?_, by simp only []; omega, by simp only []; omega⟩
                show one ≠ (one + 1 + oth) % lanes
                by_cases hc : one + 1 + oth < lanes
                · rw [Int.emod_eq_of_lt (by omega) hc]
                  omega
                · rw [show one + 1 + oth = (one + 1 + oth - lanes) + lanes by omega, Int.add_emod_right, Int.emod_eq_of_lt (by omega) (by omega)]
                  omega
        · obtain ⟨us, ts, c1, c2, c3, rfl, k3, D3, p3, T3, l3, g3⟩ := hP
          exact ⟨us, ts, _, _, _, rfl, k3, D3, p3, T3, by omega, g3⟩
      · walk_at "w"
        exact ⟨[], [], _, _, _, rfl, Keep.new Keep.refl hp, D0, upd_same, .nil, by decide, fun t ht => by cases ht⟩
    · rintro σ' H' ⟨us, ts, c1, c2, c3, rfl, k1, D1, h1, h2, h3, h4⟩
      walk_at "w"
      exact q p us ts H' hp k1 D1 h1 h2 h3 h4
end
end Lw
namespace Lw
open PySem PySem.Spec PyProof.Rows L2 Ls
section
variable {P : Program} {w : World} {K : PySem.W.Frag} {mg : Str → Option Value} {base : Heap}
theorem ok_look_ties (E : Env K mg) : FnOk P w K mg base CX0 1 E.a_look_ties E.fd_look_ties ["lanes", "ties", "most"] (spLook K) := by
  refine E.F_look_ties.ok sc_look_ties (fun vs H Q E h => ?_) (fun cdv A outer s H vs Q E' hr h => ?_)
  · obtain ⟨d, c, m, n, o, rfl, _⟩ := h
    rfl
  · obtain ⟨lanes, most, a, us, ts, rfl, l1, l2, m1, m2, ha, hT, hg, q⟩ := h
    have hu := huOf hr
    refine ⟨_, PSs.nox (pss_cons (ps_if (pt_not (pt_chain op_le op_le pe_int (pv 0) (pe_gc rfl E.c_MOST_LANES))) (pss_one ps_never) pss_nil)
(pss_cons (ps_for PassesOwn.never rfl (kIL K rfl (pi_list (pv 1))) (kGTup (n := 3) K rfl (pg_tup rfl (pgs_cons (pg_name (i := 3) sc_look_ties.nd rfl (Or.inl rfl)) (pgs_cons (pg_name (i := 4) sc_look_ties.nd rfl (Or.inl rfl)) (pgs_cons (pg_name (i := 5) sc_look_ties.nd rfl (Or.inl rfl)) pgs_nil)))))
(pss_one (ps_if (PW.pt (pw_or (pt_not (pt_chain op_le op_lt pe_int (pv 3) (pv 0))) (pw_or (pt_not (pt_chain op_le op_lt pe_int (pv 4) (pv 0))) (pw_or (pt_cmpR (op_eqU K rfl hu) (pv 3) (pv 4) (nomark _)) (pw_or1 (pt_not (pt_chain op_le op_le (pe_un un_neg (pe_gc rfl E.c_LIMIT)) (pv 5) (pe_gc rfl E.c_LIMIT)))))))) (pss_one ps_never) pss_nil)))
(pss_one (ps_if (pt_not (pt_chain op_le op_le pe_int (pv 2) (pe_gc rfl E.c_GREATEST))) (pss_one ps_never) pss_nil)))), ?_⟩
    refine k_body (s1 := [some (.int lanes), some (.ref a), some (.int most), none, none, none]) rfl ?_
    walk_at "wa"
    refine k_itl ha ?_
    refine for_list (xs := us) (fun i σ H' => H' = H ∧ ∃ c1 c2 c3, σ = [some (.int lanes), some (.ref a), some (.int most), c1, c2, c3]) ⟨rfl, _, _, _, rfl⟩ (fun i σ H' _ hP => ?_) (fun i x σ H' hx hP => ?_) (fun σ H' hP => ?_)
    · obtain ⟨rfl, _⟩ := hP
      exact ha
    · obtain ⟨rfl, c1, c2, c3, rfl⟩ := hP
      obtain ⟨t, ta, ht, rfl, st⟩ := hT.get hx
      obtain ⟨g1, g2, g3, g4, g5, g6, g7⟩ := hg t (List.mem_of_getElem? ht)
      refine k_gtup st rfl ?_
      walk_at "wa"
      exact ⟨rfl, _, _, _, rfl⟩
    · obtain ⟨rfl, c1, c2, c3, rfl⟩ := hP
      walk_at "wa"
      exact q
theorem ok_bounds_of (E : Env K mg) : FnOk P w K mg base CX0 1 E.a_bounds_of E.fd_bounds_of ["lanes", "most"] (spBounds K) := by
  refine E.F_bounds_of.ok sc_bounds_of (fun vs H Q E h => ?_) (fun cdv A outer s H vs Q E' hr h => ?_)
  · obtain ⟨d, c, rfl, _⟩ := h
    rfl
  · obtain ⟨n, most, rfl, hn, q⟩ := h
    have hu := huOf hr
    refine ⟨_, PSs.nox (pss_one (ps_ret (pe_op (op_addU K rfl) (pe_lc (own := [("lane", 2)]) rfl sc_bounds_of.nd (pi_range1 rfl E.n_range (pa_cons (pv 0) pa_nil)) (blkOk_by (N := ["lanes", "most", "lane"]) (sc := defScope s_bounds_of) (by decide +kernel)) (fun _ _ _ _ _ => (pg_name (i := 2) sc_bounds_of.nd rfl (Or.inl rfl))) (fun _ _ _ _ _ => pts_nil) (fun _ _ _ _ _ => (pe_tup (pa_cons (pv 2) (pa_cons (pe_un un_neg pe_int) (pa_cons pe_int pa_nil)))))) (pe_lc (own := [("lane", 2)]) rfl sc_bounds_of.nd (pi_range1 rfl E.n_range (pa_cons (pv 0) pa_nil)) (blkOk_by (N := ["lanes", "most", "lane"]) (sc := defScope s_bounds_of) (by decide +kernel)) (fun _ _ _ _ _ => (pg_name (i := 2) sc_bounds_of.nd rfl (Or.inl rfl))) (fun _ _ _ _ _ => pts_nil) (fun _ _ _ _ _ => (pe_tup (pa_cons (pe_un un_neg pe_int) (pa_cons (pv 2) (pa_cons (pe_un un_neg (pv 1)) pa_nil))))))))), ?_⟩
    refine k_body (s1 := [some (.int n), some (.int most), none]) rfl ?_
    walk_at "wa"
    refine k_itr1 (by omega) ?_
    intro p hp
    refine lc_range (fun i H' => Same H H' ∧ ∃ us, H' p = some (.lst us) ∧ TieL K H' us ((List.range i).map fun (i : Nat) => ((i : Int), (-1 : Int), (0 : Int)))) ⟨same_new hp, [], upd_same, .nil⟩ (fun i H' hi hP => ?_) (fun H' hP => ?_)
    · obtain ⟨p1, us, p2, p3⟩ := hP
      walk_at "lc"
      walk_at "wa"
      intro tp htp
      refine ⟨us, up_new htp p2, ?_, ?_, _, upd_same, ?_⟩
      · rw [p3.len, List.length_map, List.length_range, sizeLine_eq]
        omega
      · exact Same.wr (Same.wr p1 (p1.free htp)) hp
      · rw [List.range_succ, List.map_append]
        refine TieL.mono (wr_tp (up_new htp p2) rfl) (TieL.snoc (TieL.mono (Tp.new htp) p3) ?_)
        rw [Int.zero_add]
        exact sqt_new
    · obtain ⟨p1, us, p2, p3⟩ := hP
      walk_at "wa"
      refine k_itr1 (by omega) ?_
      intro l hl
      refine lc_range (fun i H2 => Same H' H2 ∧ ∃ vs, H2 l = some (.lst vs) ∧ TieL K H2 vs ((List.range i).map fun (i : Nat) => ((-1 : Int), (i : Int), -most))) ⟨same_new hl, [], upd_same, .nil⟩ (fun i H2 hi hP => ?_) (fun H2 hP => ?_)
      · obtain ⟨s1, vs, s2, s3⟩ := hP
        walk_at "lc"
        walk_at "wa"
        intro tp htp
        refine ⟨vs, up_new htp s2, ?_, ?_, _, upd_same, ?_⟩
        · rw [s3.len, List.length_map, List.length_range, sizeLine_eq]
          omega
        · exact Same.wr (Same.wr s1 (s1.free htp)) hl
        · rw [List.range_succ, List.map_append]
          refine TieL.mono (wr_tp (up_new htp s2) rfl) (TieL.snoc (TieL.mono (Tp.new htp) s3) ?_)
          rw [Int.zero_add]
          exact sqt_new
      · obtain ⟨s1, vs, s2, s3⟩ := hP
        walk_at "wa"
        rw [Int.toNat_natCast] at p3 s3
        refine k_addL (s1 _ _ p2) s2 ?_ ?_
        · rw [p3.len, s3.len, List.length_map, List.length_map, List.length_range, sizeLine_eq]
          omega
        · intro r hr'
          refine q _ _ _ ?_ ?_ upd_same ?_
          · exact p1.free (s1.free hr')
          · exact Same.wr (p1.trans s1) (p1.free (s1.free hr'))
          · refine TieL.mono (Tp.new hr') ?_
            exact TieL.app (p3.mono (Tp.same s1)) s3
end
end Lw
namespace Lw
open PySem PySem.Spec PyProof.Rows L2 Ls
section
variable {P : Program} {w : World} {K : PySem.W.Frag} {mg : Str → Option Value} {base : Heap}
theorem ok_pushed (E : Env K mg) : FnOk P w K mg base CX0 1 E.a_pushed E.fd_pushed ["row", "ties", "ways"] (spPushed K) := by
  refine E.F_pushed.ok sc_pushed (fun vs H Q E h => ?_) (fun cdv A outer s H vs Q E' hr h => ?_)
  · obtain ⟨d, c, e, f, g, h, i, j, k, rfl, _⟩ := h
    rfl
  · obtain ⟨n, rw', l, wa, kr, kw, us, ts, S0, rfl, nw, hrw, hR, hwa, hW, hl, hT, hp, hlen, q⟩ := h
    have hu := huOf hr
    refine ⟨_, PSs.nox (pss_cons (ps_set (i := 3) sc_pushed.nd rfl (Or.inl rfl) pe_non)
(pss_cons (ps_for PassesOwn.never rfl (kIL K rfl (pi_list (pv 1))) (pg_name (i := 4) sc_pushed.nd rfl (Or.inl rfl))
(pss_cons (ps_asg (pv 4) (kGTup (n := 3) K rfl (pg_tup rfl (pgs_cons (pg_name (i := 5) sc_pushed.nd rfl (Or.inl rfl)) (pgs_cons (pg_name (i := 6) sc_pushed.nd rfl (Or.inl rfl)) (pgs_cons (pg_name (i := 7) sc_pushed.nd rfl (Or.inl rfl)) pgs_nil))))))
(pss_one (ps_if (pt_cmpR (op_lt) (pe_dget (hu1 hu) (pv 0) (pv 5) (fun _ _ => rfl)) (pe_op (op_addU K rfl) (pe_dget (hu1 hu) (pv 0) (pv 6) (fun _ _ => rfl)) (pv 7)) (nomark _)) (pss_cons (ps_dput (hu1 hu) (pv 0) (pv 5) (pe_op (op_addU K rfl) (pe_dget (hu1 hu) (pv 0) (pv 6) (fun _ _ => rfl)) (pv 7)) rfl)
(pss_cons (ps_dput (hu1 hu) (pv 2) (pv 5) (pv 4) rfl)
(pss_one (ps_set (i := 3) sc_pushed.nd rfl (Or.inl rfl) (pv 5))))) pss_nil))))
(pss_one (ps_ret (pv 3))))), ?_⟩
    refine k_body (s1 := [some (.ref rw'), some (.ref l), some (.ref wa), none, none, none, none, none]) rfl ?_
    walk_at "wa"
    refine k_itl hl ?_
    refine for_list (xs := us) (fun i σ H' => ∃ kr' kw' c1 c2 c3 c4, σ = [some (.ref rw'), some (.ref l), some (.ref wa), some (lastV ((ts.take i).foldl Lm.push1 { S0 with last := none }).last), c1, c2, c3, c4] ∧ Keep2 rw' wa H H' ∧ H' rw' = some (.dK kr') ∧
        RowK n kr' ((ts.take i).foldl Lm.push1 { S0 with last := none }).row ∧ H' wa = some (.dK kw') ∧ WayK K H' kw' ((ts.take i).foldl Lm.push1 { S0 with last := none }).way ∧ kw'.length ≤ kw.length + i)
      ⟨kr, kw, _, _, _, _, rfl, Keep2.refl, hrw, hR, hwa, hW, Nat.le_refl _⟩ (fun i σ H' _ hP => ?_) (fun i x σ H' hx hP => ?_) (fun σ H' hP => ?_)
    · obtain ⟨kr', kw', c1, c2, c3, c4, rfl, k1, h1, h2, h3, h4, h5⟩ := hP
      exact sql_keep2 k1 hrw hwa hl
    · obtain ⟨kr', kw', c1, c2, c3, c4, rfl, k1, h1, h2, h3, h4, h5⟩ := hP
      obtain ⟨t, ta, ht, rfl, st⟩ := hT.get hx
      have e1 : ts.take (i + 1) = ts.take i ++ [t] := by rw [List.take_add_one, ht]; rfl
      have hi : i < ts.length := by
        by_cases hi : i < ts.length
        · exact hi
        · rw [List.getElem?_eq_none (by omega)] at ht
          cases ht
      rw [e1, List.foldl_append]
      generalize (ts.take i).foldl Lm.push1 { S0 with last := none } = S at h2 h4 ⊢
      show _
      have tp := k1.tp (K := K) hrw rfl hwa rfl
      have st := tp _ _ st
      obtain ⟨⟨p1, p2⟩, p3, p4⟩ := hp t (List.mem_of_getElem? ht)
      walk_at "wa"
      refine k_gtup st rfl ?_
      walk_at "wa"
      refine k_getI h1 (h2.1 _ p1 p2) ?_
      walk_at "wa"
      refine k_getI h1 (h2.1 _ p3 p4) ?_
      walk_at "wa"
      refine k_itd (fun hc => ?_) (fun hc => ?_)
      · walk_at "wa"
        refine k_getI h1 (h2.1 _ p3 p4) ?_
        walk_at "wa"
        refine k_putI h1 ?_ ?_
        · rw [sizeLine_eq]; have := h2.2; omega
        · walk_at "wa"
          refine k_putI (kvs := kw') ?_ ?_ ?_
          · rw [upd_ne nw.symm]; exact h3
          · rw [sizeLine_eq]; omega
          · walk_at "wa"
            have ef : List.foldl Lm.push1 S [t] = _ := Lm.push1_pos hc
            rw [ef]
            refine ⟨_, _, _, _, _, _, rfl, (k1.put1).put2, ?_, h2.put p1 p2, upd_same, ?_, ?_⟩
            · rw [upd_ne nw]; exact upd_same
            · refine WayK.mono (WayK.put h4 st) ?_
              exact Tp.trans (wr_tp h1 rfl) (wr_tp (by rw [upd_ne nw.symm]; exact h3) rfl)
            · have := length_putK kw' (.inl t.1) (.ref ta)
              omega
      · walk_at "wa"
        have ef : List.foldl Lm.push1 S [t] = _ := Lm.push1_neg hc
        rw [ef]
        exact ⟨_, _, _, _, _, _, rfl, k1, h1, h2, h3, h4, by omega⟩
    · obtain ⟨kr', kw', c1, c2, c3, c4, rfl, k1, h1, h2, h3, h4, h5⟩ := hP
      walk_at "wa"
      rw [hT.len, List.take_length] at *
      exact q _ _ _ k1 h1 h2 h3 h4 h5
end
end Lw
namespace Lw
open PySem PySem.Spec PyProof.Rows L2 Ls
section
variable {P : Program} {w : World} {K : PySem.W.Frag} {mg : Str → Option Value} {base : Heap}
theorem ok_settled (E : Env K mg) (G_bounds_of : FnOk P w K mg base CX0 1 E.a_bounds_of E.fd_bounds_of ["lanes", "most"] (spBounds K)) (G_pushed : FnOk P w K mg base CX0 1 E.a_pushed E.fd_pushed ["row", "ties", "ways"] (spPushed K)) : FnOk P w K mg base CX0 2 E.a_settled E.fd_settled ["lanes", "ties", "most"] (spSettled K) := by
  refine E.F_settled.ok sc_settled (fun vs H Q E h => ?_) (fun cdv A outer s H vs Q E' hr h => ?_)
  · obtain ⟨d, c, e, f, g, rfl, _⟩ := h
    rfl
  · obtain ⟨n, most, l, us, ts, rfl, n1, n2, hl, hT, hg, hlen, q⟩ := h
    have hu := huOf hr
    have hr_bounds_of := hr.mono (Nat.le_refl _)
    have b_bounds_of := b_bounds_of E
    have hr_pushed := hr.mono (Nat.le_refl _)
    have b_pushed := b_pushed E
    refine ⟨_, PSs.nox (pss_cons (ps_setDc (i := 3) (own := [("place", 4)]) rfl sc_settled.nd rfl rfl (swd_true rfl rfl rfl (by decide +kernel)) (pi_range2 rfl E.n_range (pa_cons (pe_un un_neg pe_int) (pa_cons (pv 0) pa_nil))) (blkOk_by (N := ["lanes", "ties", "most", "row", "place", "ways", "last", "step"]) (sc := defScope s_settled) (by decide +kernel)) (fun _ _ _ _ _ => (pg_name (i := 4) sc_settled.nd rfl (Or.inl rfl))) (fun _ _ _ _ _ => pts_nil) (fun _ _ _ _ _ => (pv 4)) (fun _ _ _ _ _ => pe_int))
(pss_cons (ps_set (i := 5) sc_settled.nd rfl (Or.inl rfl) pe_dnewK)
(pss_cons (ps_set (i := 6) sc_settled.nd rfl (Or.inl rfl) pe_non)
(pss_cut (ps_for PassesOwn.never rfl (pi_range1 rfl E.n_range (pa_cons (pe_op (op_addU K rfl) (pv 0) pe_int) pa_nil)) (pg_name (i := 7) sc_settled.nd rfl (Or.inl rfl))
(pss_cons (ps_set (i := 6) sc_settled.nd rfl (Or.inl rfl) (pe_call G_pushed hr_pushed rfl E.g_pushed E.F_pushed.kp b_pushed .nil pass0 (pa_cons (pv 3) (pa_cons (pe_op (op_addU K rfl) (pe_call G_bounds_of hr_bounds_of rfl E.g_bounds_of E.F_bounds_of.kp b_bounds_of .nil pass0 (pa_cons (pv 0) (pa_cons (pv 2) pa_nil))) (pv 1)) (pa_cons (pv 5) pa_nil)))))
(pss_one (ps_if (pt_cmpR (op_isU) (pv 6) pe_non (nomark _)) (pss_one ps_break) pss_nil))))
(pss_one (ps_ret (pe_tup (pa_cons (pv 3) (pa_cons (pv 5) (pa_cons (pv 6) pa_nil)))))))))), ?_⟩
    refine k_body (s1 := [some (.int n), some (.ref l), some (.int most), none, none, none, none, none]) rfl ?_
    walk_at "wa"
    refine k_itr2 (by omega) ?_
    intro rw' hrw
    refine it_range (fun i H' => Same H H' ∧ ∃ kr, H' rw' = some (.dK kr) ∧ RowK ((i : Int) - 1) kr (fun _ => 0) ∧ kr.length ≤ i) ⟨same_new hrw, [], upd_same, ⟨fun p p1 p2 => by omega, Nat.zero_le _⟩, Nat.le_refl _⟩ (fun i H' hi hP => ?_) (fun H' hP => ?_)
    · obtain ⟨p1, kr, p2, p3, p4⟩ := hP
      walk_at "lc"
      walk_at "wa"
      refine ⟨kr, .inl (-1 + (i : Int)), rfl, p2, by rw [sizeLine_eq]; omega, Same.wr p1 hrw, _, upd_same, ⟨fun p q1 q2 => ?_, ?_⟩, ?_⟩
      · rw [valV_put]
        by_cases e : p = -1 + (i : Int)
        · rw [if_pos (by rw [e])]
        · rw [if_neg (fun z => e (Sum.inl.inj z))]
          exact p3.1 p q1 (by omega)
      · have := length_putK kr (.inl (-1 + (i : Int))) (.int 0)
        omega
      · have := length_putK kr (.inl (-1 + (i : Int))) (.int 0)
        omega
    · obtain ⟨p1, kr, p2, p3, p4⟩ := hP
      walk_at "wa"
      refine k_dnew ?_
      intro wa hwa
      walk_at "wa"
      have nw : rw' ≠ wa := ne_of_none p2 hwa
      have fwa : H wa = none := p1.free hwa
      have hes := all_ok (most := most) hg
      have hel : (bnd n most ++ ts).length = 2 * n + ts.length := by rw [List.length_append, bnd_len]
      generalize hE : bnd n most ++ ts = es at q hes hel
      refine k_cut (fun σ H2 => ∃ k kr kw c, σ = [some (.int n), some (.ref l), some (.int most), some (.ref rw'), none, some (.ref wa), some (lastV (Lm.iter es s0 k).last), c] ∧ Same H H2 ∧ H2 rw' = some (.dK kr) ∧ RowK n kr (Lm.iter es s0 k).row ∧ H2 wa = some (.dK kw) ∧ WayK K H2 kw (Lm.iter es s0 k).way ∧ k ≤ n + 2 ∧ 0 < k ∧ ((Lm.iter es s0 k).last = none ∨ k = n + 2)) ?_ ?_
      · walk_at "wa"
        refine k_itr1 (by omega) ?_
        refine for_range (fun i σ H2 => ∃ kr kw c, σ = [some (.int n), some (.ref l), some (.int most), some (.ref rw'), none, some (.ref wa), some (lastV (Lm.iter es s0 i).last), c] ∧ Same H H2 ∧ H2 rw' = some (.dK kr) ∧ RowK n kr (Lm.iter es s0 i).row ∧ H2 wa = some (.dK kw) ∧ WayK K H2 kw (Lm.iter es s0 i).way ∧ kw.length ≤ 1012 * i)
          ⟨kr, [], _, rfl, Same.wr p1 fwa, up_new hwa p2, ⟨fun p q1 q2 => p3.1 p q1 (by omega), p3.2⟩, upd_same, fun p => ⟨fun _ => rfl, fun t h => by cases h⟩, Nat.le_refl _⟩ (fun i σ H2 hi hP => ?_) (fun σ H2 hP => ?_)
        · obtain ⟨kr2, kw2, c, rfl, s1, r1, r2, w1, w2, w3⟩ := hP
          walk_at "wa"
          refine ⟨n, most, rfl, n2, fun b bs H3 nb s3 hb tb => ?_⟩
          walk_at "wa"
          refine k_addL hb (s3 _ _ (s1 _ _ hl)) ?_ ?_
          · rw [tb.len, hT.len, bnd_len, sizeLine_eq]
            omega
          · intro e he
            walk_at "wa"
            have s4 : Same H2 (upd H3 e (.lst (bs ++ us))) := Same.wr s3 (s3.free he)
            have hTe : TieL K (upd H3 e (.lst (bs ++ us))) (bs ++ us) es := by
              rw [← hE]
              exact TieL.app (tb.mono (Tp.new he)) (hT.mono (Tp.same (s1.trans s4)))
            refine ⟨n, rw', e, wa, kr2, kw2, bs ++ us, es, Lm.iter es s0 i, rfl, nw, s4 _ _ r1, r2, s4 _ _ w1, w2.mono (Tp.same s4), sql_of upd_same, hTe, fun t ht => ⟨(hes t ht).1, (hes t ht).2.1⟩, by omega, fun H5 kr5 kw5 k5 a1 a2 a3 a4 a5 => ?_⟩
            walk_at "wa"
            have s5 : Same H H5 := k5.over (s1.trans s4) hrw fwa
            cases hl5 : (Lm.pushedS (Lm.iter es s0 i) es).last with
            | none =>
              walk_at "wa"
              refine k_pos rfl ?_
              walk_at "wa"
              exact ⟨i + 1, _, _, _, by show _ = [_, _, _, _, _, _, some (lastV (Lm.pushedS (Lm.iter es s0 i) es).last), _]; rw [hl5], s5, a1, a2, a3, a4, by omega, by omega, .inl hl5⟩
            | some v =>
              walk_at "wa"
              refine k_neg' (by intro z; cases z) ?_
              walk_at "wa"
              exact ⟨_, _, _, by show _ = [_, _, _, _, _, _, some (lastV (Lm.pushedS (Lm.iter es s0 i) es).last), _]; rw [hl5], s5, a1, a2, a3, a4, by omega⟩
        · obtain ⟨kr2, kw2, c, rfl, s1, r1, r2, w1, w2, w3⟩ := hP
          exact ⟨_, _, _, _, rfl, s1, r1, r2, w1, w2, by omega, by omega, .inr (by omega)⟩
      · rintro σ H2 ⟨k, kr2, kw2, c, rfl, s1, r1, r2, w1, w2, k1, k2, k3⟩
        walk_at "wa"
        intro t ht
        exact q t rw' wa kr2 kw2 k _ (Same.wr s1 (s1.free ht)) sqt_new (up_new ht r1) r2 (up_new ht w1) (w2.mono (Tp.new ht)) k1 k2 k3
end
end Lw
namespace Lw
open PySem PySem.Spec PyProof.Rows L2 Ls
section
variable {P : Program} {w : World} {K : PySem.W.Frag} {mg : Str → Option Value} {base : Heap}
theorem ok_amounts (E : Env K mg) (G_look_ties : FnOk P w K mg base CX0 1 E.a_look_ties E.fd_look_ties ["lanes", "ties", "most"] (spLook K)) (G_settled : FnOk P w K mg base CX0 2 E.a_settled E.fd_settled ["lanes", "ties", "most"] (spSettled K)) : FnOk P w K mg base CX0 3 E.a_amounts E.fd_amounts ["lanes", "ties", "most"] (spAmounts K) := by
  refine E.F_amounts.ok sc_amounts (fun vs H Q E h => ?_) (fun cdv A outer s H vs Q E' hr h => ?_)
  · obtain ⟨d, c, e, f, g, rfl, _⟩ := h
    rfl
  · obtain ⟨n, most, l, us, ts, rfl, n1, n2, m1, m2, hl, hT, hg, hlen, q1, q2⟩ := h
    have hu := huOf hr
    have hr_look_ties := hr.mono (show 1 ≤ 2 by decide)
    have b_look_ties := b_look_ties E
    have hr_settled := hr.mono (show 2 ≤ 2 by decide)
    have b_settled := b_settled E
    refine ⟨_, PSs.nox (pss_cons (ps_expr (pe_call G_look_ties hr_look_ties rfl E.g_look_ties E.F_look_ties.kp b_look_ties .nil pass0 (pa_cons (pv 0) (pa_cons (pv 1) (pa_cons (pv 2) pa_nil)))))
(pss_cons (ps_asg (pe_call G_settled hr_settled rfl E.g_settled E.F_settled.kp b_settled .nil pass0 (pa_cons (pv 0) (pa_cons (pv 1) (pa_cons (pv 2) pa_nil)))) (kGTup (n := 3) K rfl (pg_tup rfl (pgs_cons (pg_name (i := 3) sc_amounts.nd rfl (Or.inr rfl)) (pgs_cons (pg_name (i := 4) sc_amounts.nd rfl (Or.inl rfl)) (pgs_cons (pg_name (i := 5) sc_amounts.nd rfl (Or.inl rfl)) pgs_nil))))))
(pss_cons (ps_if (pt_cmpR (op_isnotU) (pv 5) pe_non (nomark _)) (pss_one (ps_ret pe_non)) pss_nil)
(pss_one (ps_ret (pe_lc (own := [("lane", 6)]) rfl sc_amounts.nd (pi_range1 rfl E.n_range (pa_cons (pv 0) pa_nil)) (blkOk_by (N := ["lanes", "ties", "most", "row", "ways", "last", "lane"]) (sc := defScope s_amounts) (by decide +kernel)) (fun _ _ _ _ _ => (pg_name (i := 6) sc_amounts.nd rfl (Or.inl rfl))) (fun _ _ _ _ _ => pts_nil) (fun _ _ _ _ _ => (pe_dget (hu1 hu) (pv 3) (pv 6) (fun _ _ => rfl))))))))), ?_⟩
    refine k_body (s1 := [some (.int n), some (.ref l), some (.int most), none, none, none, none]) rfl ?_
    walk_at "wa"
    refine ⟨n, most, l, us, ts, rfl, by omega, by omega, m1, m2, sql_of hl, hT, hg, ?_⟩
    walk_at "wa"
    refine ⟨n, most, l, us, ts, rfl, n1, n2, hl, hT, hg, hlen, fun t rw' wa kr kw k H1 s1 st r1 r2 w1 w2 k1 k2 k3 => ?_⟩
    walk_at "wa"
    refine k_gtup st rfl ?_
    walk_at "wa"
    cases hl5 : (Lm.iter (bnd n most ++ ts) s0 k).last with
    | some v =>
      walk_at "wa"
      refine k_npos (by intro z; cases z) ?_
      walk_at "wa"
      have hk : k = n + 2 := by
        rcases k3 with k3 | k3
        · rw [hl5] at k3; cases k3
        · exact k3
      subst hk
      exact q2 _ s1 (iter_some hg hl5)
    | none =>
      walk_at "wa"
      refine k_nneg rfl ?_
      walk_at "wa"
      refine k_itr1 (by omega) ?_
      intro p hp
      refine lc_range (fun i H2 => Same H1 H2 ∧ H2 p = some (.lst (rowV i (Lm.iter (bnd n most ++ ts) s0 k).row))) ⟨same_new hp, upd_same⟩ (fun i H2 hi hP => ?_) (fun H2 hP => ?_)
      · obtain ⟨p1, p2⟩ := hP
        walk_at "lc"
        refine k_getI (p1 _ _ r1) (r2.1 _ (by omega) (by omega)) ?_
        walk_at "wa"
        refine ⟨_, p2, ?_, Same.wr p1 hp, ?_⟩
        · rw [rowV, List.length_map, List.length_range, sizeLine_eq]
          omega
        · rw [upd_same, Int.zero_add]
          unfold rowV
          rw [List.range_succ, List.map_append]
          rfl
      · obtain ⟨p1, p2⟩ := hP
        walk_at "wa"
        rw [Int.toNat_natCast] at p2
        exact q1 p _ _ (s1.free hp) (s1.trans p1) p2 (iter_none hg k2 hl5)
end
end Lw
namespace Lw
open PySem PySem.Spec PyProof.Rows L2 Ls
section
variable {P : Program} {w : World} {K : PySem.W.Frag} {mg : Str → Option Value} {base : Heap}
theorem ok_ring (E : Env K mg) (G_look_ties : FnOk P w K mg base CX0 1 E.a_look_ties E.fd_look_ties ["lanes", "ties", "most"] (spLook K)) (G_settled : FnOk P w K mg base CX0 2 E.a_settled E.fd_settled ["lanes", "ties", "most"] (spSettled K)) : FnOk P w K mg base CX0 3 E.a_ring E.fd_ring ["lanes", "ties", "most"] (spRing K) := by
  refine E.F_ring.ok sc_ring (fun vs H Q E h => ?_) (fun cdv A outer s H vs Q E' hr h => ?_)
  · obtain ⟨d, c, e, f, g, rfl, _⟩ := h
    rfl
  · obtain ⟨n, most, l, us, ts, rfl, n1, n2, m1, m2, hl, hT, hg, hlen, q1, q2⟩ := h
    have hu := huOf hr
    have hr_look_ties := hr.mono (show 1 ≤ 2 by decide)
    have b_look_ties := b_look_ties E
    have hr_settled := hr.mono (show 2 ≤ 2 by decide)
    have b_settled := b_settled E
    refine ⟨_, PSs.nox (pss_cons (ps_expr (pe_call G_look_ties hr_look_ties rfl E.g_look_ties E.F_look_ties.kp b_look_ties .nil pass0 (pa_cons (pv 0) (pa_cons (pv 1) (pa_cons (pv 2) pa_nil)))))
(pss_cons (ps_asg (pe_call G_settled hr_settled rfl E.g_settled E.F_settled.kp b_settled .nil pass0 (pa_cons (pv 0) (pa_cons (pv 1) (pa_cons (pv 2) pa_nil)))) (kGTup (n := 3) K rfl (pg_tup rfl (pgs_cons (pg_name (i := 3) sc_ring.nd rfl (Or.inl rfl)) (pgs_cons (pg_name (i := 4) sc_ring.nd rfl (Or.inl rfl)) (pgs_cons (pg_name (i := 5) sc_ring.nd rfl (Or.inl rfl)) pgs_nil))))))
(pss_cons (ps_if (pt_cmpR (op_isU) (pv 5) pe_non (nomark _)) (pss_one (ps_ret pe_non)) pss_nil)
(pss_cons (ps_set (i := 6) sc_ring.nd rfl (Or.inl rfl) (pv 5))
(pss_cons (ps_for PassesOwn.never rfl (pi_range1 rfl E.n_range (pa_cons (pe_op (op_addU K rfl) (pv 0) pe_int) pa_nil)) (pg_name (i := 7) sc_ring.nd rfl (Or.inl rfl))
(pss_one (ps_set (i := 6) sc_ring.nd rfl (Or.inl rfl) (pe_ix (ix_U K rfl) (pe_dget (hu1 hu) (pv 4) (pv 6) (fun _ _ => rfl)) pe_int (fun _ _ => rfl)))))
(pss_cons (ps_set (i := 8) sc_ring.nd rfl (Or.inl rfl) (pe_lst (pa_cons (pe_dget (hu1 hu) (pv 4) (pv 6) (fun _ _ => rfl)) pa_nil)))
(pss_cons (ps_while PassesOwn.never (pt_cmpR (op_neU K rfl hu) (pe_ix (ix_U K rfl) (pe_ix (ix_U K rfl) (pv 8) (pe_un un_neg pe_int) (fun _ _ => rfl)) pe_int (fun _ _ => rfl)) (pv 6) (nomark _))
(pss_one (ps_expr (kBM K rfl (pe_bm PySem.F.plainAttrs_list PySem.F.slot_list_append PySem.F.type_list_append mt_append (pv 8) (pa_cons (pe_dget (hu1 hu) (pv 4) (pe_ix (ix_U K rfl) (pe_ix (ix_U K rfl) (pv 8) (pe_un un_neg pe_int) (fun _ _ => rfl)) pe_int (fun _ _ => rfl)) (fun _ _ => rfl)) pa_nil))))))
(pss_one (ps_ret (pv 8)))))))))), ?_⟩
    refine k_body (s1 := [some (.int n), some (.ref l), some (.int most), none, none, none, none, none, none]) rfl ?_
    walk_at "wa"
    refine ⟨n, most, l, us, ts, rfl, by omega, by omega, m1, m2, sql_of hl, hT, hg, ?_⟩
    walk_at "wa"
    refine ⟨n, most, l, us, ts, rfl, n1, n2, hl, hT, hg, hlen, fun t rw' wa kr kw k H1 s1 st r1 r2 w1 w2 k1 k2 k3 => ?_⟩
    walk_at "wa"
    refine k_gtup st rfl ?_
    walk_at "wa"
    cases hl5 : (Lm.iter (bnd n most ++ ts) s0 k).last with
    | none =>
      walk_at "wa"
      refine k_pos rfl ?_
      walk_at "wa"
      exact q2 _ _ s1 (iter_none hg k2 hl5).1
    | some v =>
      walk_at "wa"
      refine k_neg' (by intro z; cases z) ?_
      walk_at "wa"
      have hk : k = n + 2 := by
        rcases k3 with k3 | k3
        · rw [hl5] at k3; cases k3
        · exact k3
      subst hk
      obtain ⟨q, hq⟩ := iter_runs hg hl5
      have hno := iter_some hg hl5
      generalize (Lm.iter (bnd n most ++ ts) s0 (n + 2)).way = W at hq w2
      refine k_itr1 (by omega) ?_
      refine for_range (fun i σ H2 => H2 = H1 ∧ ∃ c, σ = [some (.int n), some (.ref l), some (.int most), some (.ref rw'), some (.ref wa), some (lastV (some v)), some (.int (Lm.go W i v)), c, none]) ⟨rfl, _, rfl⟩ (fun i σ H2 hi hP => ?_) (fun σ H2 hP => ?_)
      · obtain ⟨rfl, c, rfl⟩ := hP
        walk_at "wa"
        obtain ⟨t1, e1, e2⟩ := hq.steps i (by omega)
        obtain ⟨a, a1, a2⟩ := (w2 (Lm.go W i v)).2 t1 e1
        refine k_getI w1 a1 ?_
        walk_at "wa"
        refine k_ixT a2 (v := .int t1.2.1) rfl ?_
        walk_at "wa"
        exact ⟨rfl, _, by rw [e2]⟩
      · obtain ⟨rfl, c, rfl⟩ := hP
        rw [show ((n : Int) + 2).toNat = n + 2 by omega]
        generalize hb : Lm.go W (n + 2) v = b at hq
        walk_at "wa"
        obtain ⟨t0, e0, f0, g0⟩ := hq.all 0
        have e0 : W b = some t0 := e0
        obtain ⟨a0, x1, x2⟩ := (w2 b).2 t0 e0
        refine k_getI w1 x1 ?_
        walk_at "wa"
        intro p hp
        walk_at "wa"
        refine k_while ?_
        have wys : ∀ k, ∃ t, W (Lm.go W k b) = some t ∧ Lm.wy W (Lm.go W k b) = t ∧ t.2.1 = Lm.go W (k + 1) b := fun k => by
          obtain ⟨t, y1, y2, y3⟩ := hq.all k
          exact ⟨t, y1, by unfold Lm.wy; rw [y1]; rfl, y3⟩
        refine ⟨fun m σ H3 => ∃ j us, m = q - j ∧ j < q ∧ σ = [some (.int n), some (.ref l), some (.int most), some (.ref rw'), some (.ref wa), some (lastV (some v)), some (.int b), c, some (.ref p)] ∧ Same H2 H3 ∧ H3 p = some (.lst us) ∧ TieL K H3 us ((List.range (j + 1)).map fun k => Lm.wy W (Lm.go W k b)),
          ⟨q, 0, [.ref a0], rfl, hq.pos, rfl, same_new hp, upd_same, ?_⟩, ?_⟩
        · have e1 : Lm.wy W b = t0 := by unfold Lm.wy; rw [e0]; rfl
          have : (List.range (0 + 1)).map (fun k => Lm.wy W (Lm.go W k b)) = [] ++ [(t0.1, t0.2.1, t0.2.2)] := by
            show [Lm.wy W b] = [t0]
            rw [e1]
          rw [this]
          exact TieL.snoc (vs := []) (ts := []) .nil (Tp.new hp _ _ x2)
        · rintro m σ H3 ⟨j, us', rfl, hj, rfl, s3, hp3, hT3⟩
          have hl3 : us'.length = j + 1 := by rw [hT3.len, List.length_map, List.length_range]
          obtain ⟨tj, y1, y2, y3⟩ := wys j
          have hlast : us'[j]? = some us'[j] := List.getElem?_eq_getElem (by omega)
          obtain ⟨t', a', z1, z2, z3⟩ := hT3.get hlast
          rw [List.getElem?_map, List.getElem?_range (by omega)] at z1
          have z1 : some (Lm.wy W (Lm.go W j b)) = some t' := z1
          rw [y2] at z1
          cases z1
          rw [z2] at hlast
          walk_at "wa"
          refine k_ixL (sql_of hp3) (at_end hl3 hlast) ?_
          walk_at "wa"
          refine k_ixT z3 (v := .int tj.2.1) rfl ?_
          walk_at "wa"
          rw [y3]
          refine k_itn (fun hne => ?_) (fun heq => ?_)
          · have hj1 : j + 1 < q := by
              by_cases h : j + 1 = q
              · rw [h, hq.back] at hne
                exact (hne rfl).elim
              · omega
            refine ⟨fun σ H4 => ∃ us4, σ = [some (.int n), some (.ref l), some (.int most), some (.ref rw'), some (.ref wa), some (lastV (some v)), some (.int b), c, some (.ref p)] ∧ Same H2 H4 ∧ H4 p = some (.lst us4) ∧ TieL K H4 us4 ((List.range (j + 1 + 1)).map fun k => Lm.wy W (Lm.go W k b)), fun σ' H4 hN => ?_, ?_⟩
            · obtain ⟨us4, rfl, s4, u1, u2⟩ := hN
              exact ⟨q - (j + 1), by omega, j + 1, us4, rfl, hj1, rfl, s4, u1, u2⟩
            · walk_at "wa"
              refine k_tyL (sql_of hp3) ?_
              walk_at "wa"
              refine k_ixL (sql_of hp3) (at_end hl3 hlast) ?_
              walk_at "wa"
              refine k_ixT z3 (v := .int tj.2.1) rfl ?_
              rw [y3]
              obtain ⟨tk, v1, v2, v3⟩ := wys (j + 1)
              obtain ⟨ak, v4, v5⟩ := (w2 _).2 tk v1
              refine k_getI (s3 _ _ w1) v4 ?_
              walk_at "wa"
              refine k_app hp3 ?_ ?_
              · rw [hl3, sizeLine_eq]
                have := hq.le
                omega
              · refine ⟨_, rfl, Same.wr s3 hp, upd_same, ?_⟩
                rw [List.range_succ (n := j + 1), List.map_append]
                refine TieL.mono (wr_tp hp3 rfl) ?_
                show TieL K H3 _ (_ ++ [Lm.wy W (Lm.go W (j + 1) b)])
                rw [v2]
                exact TieL.snoc hT3 (Tp.same s3 _ _ v5)
          · walk_at "wa"
            have hjq : j + 1 = q := by
              by_cases h : j + 1 = q
              · exact h
              · exact (hq.first (j + 1) (by omega) (by omega) heq).elim
            subst hjq
            refine q1 p us' _ _ (s1.free hp) (s1.trans s3) hp3 hT3 ?_ hq.ring hno
            rw [List.length_map, List.length_range]
            have := hq.le
            omega
end
end Lw
namespace Lw
open PySem PySem.Spec PyProof.Rows L2 Ls
section
variable {P : Program} {w : World} {K : PySem.W.Frag} {mg : Str → Option Value} {base : Heap}
theorem ok_meets (E : Env K mg) (G_look_ties : FnOk P w K mg base CX0 1 E.a_look_ties E.fd_look_ties ["lanes", "ties", "most"] (spLook K)) : FnOk P w K mg base CX0 2 E.a_meets E.fd_meets ["lanes", "ties", "row", "most"] (spMeets K) := by
  refine E.F_meets.ok sc_meets (fun vs H Q E h => ?_) (fun cdv A outer s H vs Q E' hr h => ?_)
  · obtain ⟨d, c, e, f, g, h, i, rfl, _⟩ := h
    rfl
  · obtain ⟨n, most, l, r, us, ts, ns, rfl, n1, n2, m1, m2, hl, hT, hg, hlen, hrw, hns, q⟩ := h
    have hu := huOf hr
    have hr_look_ties := hr.mono (show 1 ≤ 1 by decide)
    have b_look_ties := b_look_ties E
    refine ⟨_, PSs.nox (pss_cons (ps_expr (pe_call G_look_ties hr_look_ties rfl E.g_look_ties E.F_look_ties.kp b_look_ties .nil pass0 (pa_cons (pv 0) (pa_cons (pv 1) (pa_cons (pv 3) pa_nil)))))
(pss_cons (ps_if (PW.pt (pw_or (pt_cmpR (op_neU K rfl hu) (pe_callB (call_lenU K rfl) (by rfl) E.n_len boot_len (pa_cons (pv 2) pa_nil)) (pv 0) (nomark _)) (pw_or1 (pt_not (pt_val (pe_callB (cr_allU K rfl rfl) (by rfl) E.n_all boot_all (pa_cons (pe_lc (own := [("amount", 4)]) rfl sc_meets.nd (kIL K rfl (pi_list (pv 2))) (blkOk_by (N := ["lanes", "ties", "row", "most", "amount", "one", "other", "least"]) (sc := defScope s_meets) (by decide +kernel)) (fun _ _ _ _ _ => (pg_name (i := 4) sc_meets.nd rfl (Or.inl rfl))) (fun _ _ _ _ _ => pts_nil) (fun _ _ _ _ _ => (pe_chain op_le op_le pe_int (pv 4) (pv 3)))) pa_nil))))))) (pss_one (ps_ret pe_bl)) pss_nil)
(pss_one (ps_ret (pe_callB (cr_allU K rfl rfl) (by rfl) E.n_all boot_all (pa_cons (pe_lc (own := [("one", 5), ("other", 6), ("least", 7)]) rfl sc_meets.nd (kIL K rfl (pi_list (pv 1))) (blkOk_by (N := ["lanes", "ties", "row", "most", "amount", "one", "other", "least"]) (sc := defScope s_meets) (by decide +kernel)) (fun _ _ _ _ _ => (kGTup (n := 3) K rfl (pg_tup rfl (pgs_cons (pg_name (i := 5) sc_meets.nd rfl (Or.inl rfl)) (pgs_cons (pg_name (i := 6) sc_meets.nd rfl (Or.inl rfl)) (pgs_cons (pg_name (i := 7) sc_meets.nd rfl (Or.inl rfl)) pgs_nil)))))) (fun _ _ _ _ _ => pts_nil) (fun _ _ _ _ _ => (pe_cmpR (op_ge) (pe_ix (ix_U K rfl) (pv 2) (pv 5) (fun _ _ => rfl)) (pe_op (op_addU K rfl) (pe_ix (ix_U K rfl) (pv 2) (pv 6) (fun _ _ => rfl)) (pv 7)) (nomark _)))) pa_nil)))))), ?_⟩
    refine k_body (s1 := [some (.int n), some (.ref l), some (.ref r), some (.int most), none, none, none, none]) rfl ?_
    walk_at "wa"
    refine ⟨n, most, l, us, ts, rfl, by omega, by omega, m1, m2, hl, hT, hg, ?_⟩
    walk_at "wa"
    refine k_lenL hrw ?_
    rw [List.length_map]
    walk_at "wa"
    refine k_itn (fun hne => ?_) (fun heq => ?_)
    · walk_at "wa"
      have := q H (Same.refl H)
      rw [decide_eq_false (by omega), Bool.false_and] at this
      exact this
    walk_at "wa"
    have heq : ns.length = n := by omega
    refine k_itl hrw ?_
    intro p hp
    refine lc_mapL (xs := ns.map V.int) (fun i => V.bl ((ns[i]?.map fun a => decide (0 ≤ a) && decide (a ≤ most)).getD true)) hrw (by rw [List.length_map]; omega) hp (fun i x H' N hx s qN => ?_) (fun H' s hp' => ?_)
    · rw [List.getElem?_map] at hx
      obtain ⟨a, ha, rfl⟩ := Option.map_eq_some_iff.mp hx
      rw [ha] at qN
      walk_at "lc"
      walk_at "wa"
      refine k_itd (fun h1 => ?_) (fun h1 => ?_)
      · walk_at "wa"
        have := qN _ (Same.refl _)
        rw [Option.map_some, Option.getD_some, decide_eq_true h1, Bool.true_and] at this
        exact this
      · have := qN _ (Same.refl _)
        rw [Option.map_some, Option.getD_some, decide_eq_false h1, Bool.false_and] at this
        exact this
    walk_at "wa"
    rw [List.length_map] at hp'
    refine k_allR hp' ?_
    rw [range_all_get]
    walk_at "wa"
    refine k_ite (fun h1 => ?_) (fun h1 => ?_)
    · walk_at "wa"
      have hb : inB most ns = false := by
        cases e : inB most ns with
        | false => rfl
        | true =>
          have e : (ns.all fun a => decide (0 ≤ a) && decide (a ≤ most)) = true := e
          rw [e] at h1
          cases h1
      have := q H' s
      rw [hb, Bool.false_and, Bool.and_false] at this
      exact this
    · have hb : inB most ns = true := by
        cases e : inB most ns with
        | true => rfl
        | false =>
          have e : (ns.all fun a => decide (0 ≤ a) && decide (a ≤ most)) = false := e
          rw [e] at h1
          cases h1
      walk_at "wa"
      refine k_itl (sql_same s hl) ?_
      intro p2 hp2
      refine lc_mapL (xs := us) (fun i => V.bl ((ts[i]?.map fun t => decide (atZ ns t.2.1 + t.2.2 ≤ atZ ns t.1)).getD true)) (sql_same s hl) (by rw [hT.len]; omega) hp2 (fun i x H2 N hx s2 qN => ?_) (fun H2 s2 hp2' => ?_)
      · obtain ⟨t, ta, ht, rfl, st⟩ := (hT.mono (Tp.same (s.trans s2))).get hx
        obtain ⟨g1, g2, g3, g4, _⟩ := hg t (List.mem_of_getElem? ht)
        rw [ht] at qN
        walk_at "lc1"
        refine k_gtup st rfl ?_
        walk_at "lc2"
        refine k_ixL (sql_same (s.trans s2) hrw) (atZ_at g1 (by omega)) ?_
        walk_at "wa"
        refine k_ixL (sql_same (s.trans s2) hrw) (atZ_at g3 (by omega)) ?_
        walk_at "wa"
        exact qN _ (Same.refl _)
      · walk_at "wa"
        rw [hT.len] at hp2'
        refine k_allR hp2' ?_
        rw [range_all_get]
        have := q H2 (s.trans s2)
        rw [decide_eq_true heq, hb, Bool.true_and, Bool.true_and] at this
        exact this
theorem ok__law_meets (E : Env K mg) : FnOk P w K mg base CX0 1 E.a__law_meets E.fd__law_meets ["_law_ties_here", "_law_row", "_law_top"] (spLMeets K) := by
  refine E.F__law_meets.ok sc__law_meets (fun vs H Q E h => ?_) (fun cdv A outer s H vs Q E' hr h => ?_)
  · obtain ⟨d, c, e, f, g, h, i, rfl, _⟩ := h
    rfl
  · obtain ⟨n, most, l, r, us, ts, ns, rfl, hl, hT, hg, hlen, hrw, heq, hns, q⟩ := h
    have hu := huOf hr
    refine ⟨_, PSs.nox (pss_cons (ps_if (pt_not (pt_val (pe_callB (cr_allU K rfl rfl) (by rfl) E.n_all boot_all (pa_cons (pe_lc (own := [("_law_amount", 3)]) rfl sc__law_meets.nd (kIL K rfl (pi_list (pv 1))) (blkOk_by (N := ["_law_ties_here", "_law_row", "_law_top", "_law_amount", "_law_one", "_law_other", "_law_least"]) (sc := defScope s__law_meets) (by decide +kernel)) (fun _ _ _ _ _ => (pg_name (i := 3) sc__law_meets.nd rfl (Or.inl rfl))) (fun _ _ _ _ _ => pts_nil) (fun _ _ _ _ _ => (pe_chain op_le op_le pe_int (pv 3) (pv 2)))) pa_nil)))) (pss_one (ps_ret pe_bl)) pss_nil)
(pss_one (ps_ret (pe_callB (cr_allU K rfl rfl) (by rfl) E.n_all boot_all (pa_cons (pe_lc (own := [("_law_one", 4), ("_law_other", 5), ("_law_least", 6)]) rfl sc__law_meets.nd (kIL K rfl (pi_list (pv 0))) (blkOk_by (N := ["_law_ties_here", "_law_row", "_law_top", "_law_amount", "_law_one", "_law_other", "_law_least"]) (sc := defScope s__law_meets) (by decide +kernel)) (fun _ _ _ _ _ => (kGTup (n := 3) K rfl (pg_tup rfl (pgs_cons (pg_name (i := 4) sc__law_meets.nd rfl (Or.inl rfl)) (pgs_cons (pg_name (i := 5) sc__law_meets.nd rfl (Or.inl rfl)) (pgs_cons (pg_name (i := 6) sc__law_meets.nd rfl (Or.inl rfl)) pgs_nil)))))) (fun _ _ _ _ _ => pts_nil) (fun _ _ _ _ _ => (pe_cmpR (op_ge) (pe_ix (ix_U K rfl) (pv 1) (pv 4) (fun _ _ => rfl)) (pe_op (op_addU K rfl) (pe_ix (ix_U K rfl) (pv 1) (pv 5) (fun _ _ => rfl)) (pv 6)) (nomark _)))) pa_nil))))), ?_⟩
    refine k_body (s1 := [some (.ref l), some (.ref r), some (.int most), none, none, none, none]) rfl ?_
    walk_at "wa"
    refine k_itl hrw ?_
    intro p hp
    refine lc_mapL (xs := ns.map V.int) (fun i => V.bl ((ns[i]?.map fun a => decide (0 ≤ a) && decide (a ≤ most)).getD true)) hrw (by rw [List.length_map]; omega) hp (fun i x H' N hx s qN => ?_) (fun H' s hp' => ?_)
    · rw [List.getElem?_map] at hx
      obtain ⟨a, ha, rfl⟩ := Option.map_eq_some_iff.mp hx
      rw [ha] at qN
      walk_at "lc"
      walk_at "wa"
      refine k_itd (fun h1 => ?_) (fun h1 => ?_)
      · walk_at "wa"
        have := qN _ (Same.refl _)
        rw [Option.map_some, Option.getD_some, decide_eq_true h1, Bool.true_and] at this
        exact this
      · have := qN _ (Same.refl _)
        rw [Option.map_some, Option.getD_some, decide_eq_false h1, Bool.false_and] at this
        exact this
    walk_at "wa"
    rw [List.length_map] at hp'
    refine k_allR hp' ?_
    rw [range_all_get]
    walk_at "wa"
    refine k_ite (fun h1 => ?_) (fun h1 => ?_)
    · walk_at "wa"
      have hb : inB most ns = false := by
        cases e : inB most ns with
        | false => rfl
        | true =>
          have e : (ns.all fun a => decide (0 ≤ a) && decide (a ≤ most)) = true := e
          rw [e] at h1
          cases h1
      have := q H' s
      rw [hb, Bool.false_and] at this
      exact this
    · have hb : inB most ns = true := by
        cases e : inB most ns with
        | true => rfl
        | false =>
          have e : (ns.all fun a => decide (0 ≤ a) && decide (a ≤ most)) = false := e
          rw [e] at h1
          cases h1
      walk_at "wa"
      refine k_itl (sql_same s hl) ?_
      intro p2 hp2
      refine lc_mapL (xs := us) (fun i => V.bl ((ts[i]?.map fun t => decide (atZ ns t.2.1 + t.2.2 ≤ atZ ns t.1)).getD true)) (sql_same s hl) (by rw [hT.len]; omega) hp2 (fun i x H2 N hx s2 qN => ?_) (fun H2 s2 hp2' => ?_)
      · obtain ⟨t, ta, ht, rfl, st⟩ := (hT.mono (Tp.same (s.trans s2))).get hx
        obtain ⟨g1, g2, g3, g4, _⟩ := hg t (List.mem_of_getElem? ht)
        rw [ht] at qN
        walk_at "lc1"
        refine k_gtup st rfl ?_
        walk_at "lc2"
        refine k_ixL (sql_same (s.trans s2) hrw) (atZ_at g1 (by omega)) ?_
        walk_at "wa"
        refine k_ixL (sql_same (s.trans s2) hrw) (atZ_at g3 (by omega)) ?_
        walk_at "wa"
        exact qN _ (Same.refl _)
      · walk_at "wa"
        rw [hT.len] at hp2'
        refine k_allR hp2' ?_
        rw [range_all_get]
        have := q H2 (s.trans s2)
        rw [hb, Bool.true_and] at this
        exact this
end
end Lw
namespace Lw
open PySem PySem.Spec PyProof.Rows L2 Ls
section
variable {P : Program} {w : World} {K : PySem.W.Frag} {mg : Str → Option Value} {base : Heap}
theorem ok__law_is_ring (E : Env K mg) : FnOk P w K mg base CX0 1 E.a__law_is_ring E.fd__law_is_ring ["_law_ring_told", "_law_lanes", "_law_ties_here", "_law_top"] (spIsRing K) := by
  refine E.F__law_is_ring.ok sc__law_is_ring (fun vs H Q E h => ?_) (fun cdv A outer s H vs Q E' hr h => ?_)
  · obtain ⟨d, c, e, f, g, h, i, j, rfl, _⟩ := h
    rfl
  · obtain ⟨n, top, l, r, us, ur, ts, rs, rfl, n1, hl, hT, hlen, hrr, hR, hrl, hring, q⟩ := h
    have hu := huOf hr
    have lr := hR.len
    refine ⟨_, PSs.nox (pss_cons (ps_if (PW.pt (pw_or (pt_not (pt_val (pe_callB (call_isiU K rfl) (by rfl) E.n_isinstance boot_isinstance (pa_cons (pv 0) (pa_cons (pe_ty "list" rfl E.n_list (by decide +kernel)) pa_nil))))) (pw_or1 (pt_cmpR (op_eqU K rfl hu) (pv 0) (pe_lst pa_nil) (nomark _))))) (pss_one (ps_ret pe_bl)) pss_nil)
(pss_cons (ps_set (i := 4) sc__law_is_ring.nd rfl (Or.inr rfl) (pe_op (op_addU K rfl) (pe_lc (own := [("_law_lane", 5)]) rfl sc__law_is_ring.nd (pi_range1 rfl E.n_range (pa_cons (pv 1) pa_nil)) (blkOk_by (N := ["_law_ring_told", "_law_lanes", "_law_ties_here", "_law_top", "_law_bounds", "_law_lane", "_law_ones", "_law_tie", "_law_at"]) (sc := defScope s__law_is_ring) (by decide +kernel)) (fun _ _ _ _ _ => (pg_name (i := 5) sc__law_is_ring.nd rfl (Or.inl rfl))) (fun _ _ _ _ _ => pts_nil) (fun _ _ _ _ _ => (pe_tup (pa_cons (pv 5) (pa_cons (pe_un un_neg pe_int) (pa_cons pe_int pa_nil)))))) (pe_lc (own := [("_law_lane", 5)]) rfl sc__law_is_ring.nd (pi_range1 rfl E.n_range (pa_cons (pv 1) pa_nil)) (blkOk_by (N := ["_law_ring_told", "_law_lanes", "_law_ties_here", "_law_top", "_law_bounds", "_law_lane", "_law_ones", "_law_tie", "_law_at"]) (sc := defScope s__law_is_ring) (by decide +kernel)) (fun _ _ _ _ _ => (pg_name (i := 5) sc__law_is_ring.nd rfl (Or.inl rfl))) (fun _ _ _ _ _ => pts_nil) (fun _ _ _ _ _ => (pe_tup (pa_cons (pe_un un_neg pe_int) (pa_cons (pv 5) (pa_cons (pe_op op_sub pe_int (pv 3)) pa_nil))))))))
(pss_cons (ps_setLc (i := 6) (own := [("_law_tie", 7)]) rfl sc__law_is_ring.nd rfl rfl (sw_true rfl rfl rfl (by decide +kernel)) (kIL K rfl (pi_list (pv 0))) (blkOk_by (N := ["_law_ring_told", "_law_lanes", "_law_ties_here", "_law_top", "_law_bounds", "_law_lane", "_law_ones", "_law_tie", "_law_at"]) (sc := defScope s__law_is_ring) (by decide +kernel)) (fun _ _ _ _ _ => (pg_name (i := 7) sc__law_is_ring.nd rfl (Or.inl rfl))) (fun _ _ _ _ _ => pts_nil) (fun _ _ _ _ _ => (pe_ix (ix_U K rfl) (pv 7) pe_int (fun _ _ => rfl))))
(pss_cons (ps_if (PW.pt (pw_or (pt_cmpR (op_lt) (kLS K rfl (RZ.pe_lenSetI rfl E.n_len rfl E.n_set (pv 6))) (pe_callB (call_lenU K rfl) (by rfl) E.n_len boot_len (pa_cons (pv 6) pa_nil)) (nomark _)) (pw_or1 (pt_not (pt_val (pe_callB (cr_allU K rfl rfl) (by rfl) E.n_all boot_all (pa_cons (pe_lc (own := [("_law_tie", 7)]) rfl sc__law_is_ring.nd (kIL K rfl (pi_list (pv 0))) (blkOk_by (N := ["_law_ring_told", "_law_lanes", "_law_ties_here", "_law_top", "_law_bounds", "_law_lane", "_law_ones", "_law_tie", "_law_at"]) (sc := defScope s__law_is_ring) (by decide +kernel)) (fun _ _ _ _ _ => (pg_name (i := 7) sc__law_is_ring.nd rfl (Or.inl rfl))) (fun _ _ _ _ _ => pts_nil) (fun _ _ _ _ _ => (pe_or (pe_cmpR (op_inU K rfl hu) (pv 7) (pv 2) (by with_unfolding_all rfl)) (pe_one (pe_cmpR (op_inU K rfl hu) (pv 7) (pv 4) (by with_unfolding_all rfl)))))) pa_nil))))))) (pss_one (ps_ret pe_bl)) pss_nil)
(pss_cons (ps_if (pt_val (pe_callB (cr_anyU K rfl rfl) (by rfl) E.n_any boot_any (pa_cons (pe_lc (own := [("_law_at", 8)]) rfl sc__law_is_ring.nd (pi_range1 rfl E.n_range (pa_cons (pe_callB (call_lenU K rfl) (by rfl) E.n_len boot_len (pa_cons (pv 0) pa_nil)) pa_nil)) (blkOk_by (N := ["_law_ring_told", "_law_lanes", "_law_ties_here", "_law_top", "_law_bounds", "_law_lane", "_law_ones", "_law_tie", "_law_at"]) (sc := defScope s__law_is_ring) (by decide +kernel)) (fun _ _ _ _ _ => (pg_name (i := 8) sc__law_is_ring.nd rfl (Or.inl rfl))) (fun _ _ _ _ _ => pts_nil) (fun _ _ _ _ _ => (pe_cmpR (op_neU K rfl hu) (pe_ix (ix_U K rfl) (pe_ix (ix_U K rfl) (pv 0) (pe_op op_sub (pv 8) pe_int) (fun _ _ => rfl)) pe_int (fun _ _ => rfl)) (pe_ix (ix_U K rfl) (pe_ix (ix_U K rfl) (pv 0) (pv 8) (fun _ _ => rfl)) pe_int (fun _ _ => rfl)) (nomark _)))) pa_nil))) (pss_one (ps_ret pe_bl)) pss_nil)
(pss_one (ps_ret (pe_and (pe_cmpR (op_gt) (pe_callB (cr_sumU K rfl rfl) (by rfl) E.n_sum boot_sum (pa_cons (pe_lc (own := [("_law_tie", 7)]) rfl sc__law_is_ring.nd (kIL K rfl (pi_list (pv 0))) (blkOk_by (N := ["_law_ring_told", "_law_lanes", "_law_ties_here", "_law_top", "_law_bounds", "_law_lane", "_law_ones", "_law_tie", "_law_at"]) (sc := defScope s__law_is_ring) (by decide +kernel)) (fun _ _ _ _ _ => (pg_name (i := 7) sc__law_is_ring.nd rfl (Or.inl rfl))) (fun _ _ _ _ _ => pts_nil) (fun _ _ _ _ _ => (pe_ix (ix_U K rfl) (pv 7) pe_int (fun _ _ => rfl)))) pa_nil)) pe_int (nomark _)) (pe_one (pe_callB (cr_allU K rfl rfl) (by rfl) E.n_all boot_all (pa_cons (pe_lc (own := [("_law_tie", 7)]) rfl sc__law_is_ring.nd (kIL K rfl (pi_list (pv 0))) (blkOk_by (N := ["_law_ring_told", "_law_lanes", "_law_ties_here", "_law_top", "_law_bounds", "_law_lane", "_law_ones", "_law_tie", "_law_at"]) (sc := defScope s__law_is_ring) (by decide +kernel)) (fun _ _ _ _ _ => (pg_name (i := 7) sc__law_is_ring.nd rfl (Or.inl rfl))) (fun _ _ _ _ _ => pts_nil) (fun _ _ _ _ _ => (pe_callB (call_isiU K rfl) (by rfl) E.n_isinstance boot_isinstance (pa_cons (pv 7) (pa_cons (pe_ty "tuple" rfl E.n_tuple (by decide +kernel)) pa_nil))))) pa_nil))))))))))), ?_⟩
    refine k_body (s1 := [some (.ref r), some (.int n), some (.ref l), some (.int top), none, none, none, none, none]) rfl ?_
    have dR : ∀ H', Same H H' → Dp K H' (.ref r) (.list (rs.map tieD)) := fun H' s => .lst (sql_same s hrr) (ImAll.dp (hR.mono (Tp.same s)))
    walk_at "wa"
    refine k_isi (dR H (Same.refl _)) rfl kt_list_list ?_
    walk_at "wa"
    intro e he
    refine k_eqD (dR _ (same_new he)) (.lst (sql_of upd_same) .nil) ((ties_ok (by omega)).shaped (by decide)) (OkD.shaped (n := 1) ⟨by decide, fun d hd => by cases hd⟩ (by decide)) ?_
    have e0 : PyData.eqv (.list (rs.map tieD)) (.list []) = false := by
      cases h : rs with
      | nil => exact (hring.ne h).elim
      | cons a b => simp only [List.map_cons, PyData.eqv, PyData.eqvAll]
    rw [e0]
    walk_at "wa"
    have s0 := same_new (o := .lst []) he
    refine k_itr1 (by omega) ?_
    intro p hp
    refine lc_range (fun i H' => Same H H' ∧ ∃ us, H' p = some (.lst us) ∧ TieL K H' us ((List.range i).map fun (i : Nat) => ((i : Int), (-1 : Int), (0 : Int)))) ⟨s0.trans (same_new hp), [], upd_same, .nil⟩ (fun i H' hi hP => ?_) (fun H' hP => ?_)
    · obtain ⟨p1, us, p2, p3⟩ := hP
      walk_at "lc"
      walk_at "wa"
      intro tp htp
      refine ⟨us, up_new htp p2, ?_, ?_, _, upd_same, ?_⟩
      · rw [p3.len, List.length_map, List.length_range, sizeLine_eq]
        omega
      · exact Same.wr (Same.wr p1 (p1.free htp)) (s0.free hp)
      · rw [List.range_succ, List.map_append]
        refine TieL.mono (wr_tp (up_new htp p2) rfl) (TieL.snoc (TieL.mono (Tp.new htp) p3) ?_)
        rw [Int.zero_add]
        exact sqt_new
    obtain ⟨p1, ub, p2, p3⟩ := hP
    walk_at "wa"
    refine k_itr1 (by omega) ?_
    intro l2 hl2
    refine lc_range (fun i H2 => Same H' H2 ∧ ∃ vs, H2 l2 = some (.lst vs) ∧ TieL K H2 vs ((List.range i).map fun (i : Nat) => ((-1 : Int), (i : Int), -top))) ⟨same_new hl2, [], upd_same, .nil⟩ (fun i H2 hi hP => ?_) (fun H2 hP => ?_)
    · obtain ⟨s1, vs, s2, s3⟩ := hP
      walk_at "lc"
      walk_at "wa"
      intro tp htp
      refine ⟨vs, up_new htp s2, ?_, ?_, _, upd_same, ?_⟩
      · rw [s3.len, List.length_map, List.length_range, sizeLine_eq]
        omega
      · exact Same.wr (Same.wr s1 (s1.free htp)) hl2
      · rw [List.range_succ, List.map_append]
        refine TieL.mono (wr_tp (up_new htp s2) rfl) (TieL.snoc (TieL.mono (Tp.new htp) s3) ?_)
        rw [Int.zero_add, Int.zero_sub]
        exact sqt_new
    obtain ⟨s1, vb, s2, s3⟩ := hP
    walk_at "wa"
    rw [Int.toNat_natCast] at p3 s3
    refine k_addL (s1 _ _ p2) s2 ?_ ?_
    · rw [p3.len, s3.len, List.length_map, List.length_map, List.length_range, sizeLine_eq]
      omega
    intro b hb
    have s4 : Same H2 (upd H2 b (.lst (ub ++ vb))) := same_new hb
    have S4 := (p1.trans s1).trans s4
    have TB : TieL K (upd H2 b (.lst (ub ++ vb))) (ub ++ vb) (bnd n top) := TieL.mono (Tp.same s4) (TieL.app (p3.mono (Tp.same s1)) s3)
    have HB : upd H2 b (.lst (ub ++ vb)) b = some (.lst (ub ++ vb)) := upd_same
    generalize upd H2 b (.lst (ub ++ vb)) = H3 at S4 TB HB
    clear s4 s3 s2 s1 p3 p2 p1 hl2 hp hb
    walk_at "wa"
    refine k_itl (sql_same S4 hrr) ?_
    intro o ho
    refine lc_mapL (xs := ur) (fun i => (rs[i]?.map fun t => V.int t.1).getD .non) (sql_same S4 hrr) (by omega) ho (fun i x H' N hx s qN => ?_) (fun H4 s5 ho' => ?_)
    · obtain ⟨t, ta, ht, rfl, st⟩ := (hR.mono (Tp.same (S4.trans s))).get hx
      rw [ht] at qN
      walk_at "lc"
      refine k_ixT st (v := .int t.1) rfl ?_
      exact qN _ (Same.refl _)
    have ho4 : H4 o = some (.lst ((rs.map (·.1)).map V.int)) := by
      rw [ho', lr, range_map_get, List.map_map]
      rfl
    have S5 := S4.trans s5
    walk_at "wa"
    refine ⟨o, rs.map (·.1), rfl, sql_of ho4, ?_, ?_, ?_⟩
    · rw [List.nodup_iff_pairwise_ne, List.pairwise_iff_getElem]
      intro i j hi hj hij e
      rw [List.getElem_map, List.getElem_map] at e
      rw [List.length_map] at hi hj
      have := hring.nodup i j _ _ (List.getElem?_eq_getElem hi) (List.getElem?_eq_getElem hj) e
      omega
    · rw [List.length_map]; omega
    walk_at "wa"
    refine k_lenL (sql_of ho4) ?_
    rw [List.length_map (f := V.int)]
    walk_at "wa"
    refine k_itl (sql_same S5 hrr) ?_
    intro p hp
    refine lc_mapL (xs := ur) (fun i => V.bl true) (sql_same S5 hrr) (by omega) hp (fun i x H' N hx s qN => ?_) (fun H5 s6 hp' => ?_)
    · obtain ⟨t, ta, ht, rfl, st⟩ := (hR.mono (Tp.same (S5.trans s))).get hx
      walk_at "lc"
      refine k_inT st (sql_same (S5.trans s) hl) (hT.mono (Tp.same (S5.trans s))) (by omega) ?_
      walk_at "wa"
      refine k_itd (fun h1 => ?_) (fun h1 => ?_)
      · exact qN _ (Same.refl _)
      · have hb : t ∈ bnd n top := by
          rcases List.mem_append.mp (hring.mem t (List.mem_of_getElem? ht)) with h | h
          · exact h
          · exact (h1 h).elim
        walk_at "wa"
        refine k_inT st (sql_of (s _ _ (s5 _ _ HB))) (TB.mono (Tp.same (s5.trans s))) (by rw [bnd_len]; omega) ?_
        rw [decide_eq_true hb]
        exact qN _ (Same.refl _)
    have S6 := S5.trans s6
    walk_at "wa"
    refine k_allR (bf := fun _ => true) hp' ?_
    rw [show (List.range ur.length).all (fun _ => true) = true by simp]
    walk_at "wa"
    refine k_lenL (sql_same S6 hrr) ?_
    walk_at "wa"
    refine k_itr1 (by omega) ?_
    intro p2 hp2
    refine lc_mapR (fun i => V.bl false) (by omega) hp2 (fun i H' N hi s qN => ?_) (fun H6 s7 hp7 => ?_)
    · have hi' : i < rs.length := by omega
      have hiu : i < ur.length := by omega
      walk_at "lc"
      obtain ⟨j, hj, hji⟩ : ∃ j, j < rs.length ∧ (∀ xs : List V, xs.length = rs.length → ∀ v, xs[j]? = some v → atI xs (0 + (i : Int) - 1) = some v) ∧ ∀ t u, rs[j]? = some t → rs[i]? = some u → t.2.1 = u.1 := by
        cases i with
        | zero =>
          refine ⟨rs.length - 1, by omega, fun xs hx v hv => ?_, fun t u h1 h2 => hring.clos u t h2 h1⟩
          show atI xs (-1) = some v
          exact at_end (j := rs.length - 1) (by omega) hv
        | succ i =>
          refine ⟨i, by omega, fun xs hx v hv => ?_, fun t u h1 h2 => hring.link i t u h1 h2⟩
          rw [show (0 : Int) + ((i + 1 : Nat) : Int) - 1 = (i : Int) by omega]
          exact atI_nat hv
      have hgj : ur[j]? = some ur[j] := List.getElem?_eq_getElem (by omega)
      have hgi : ur[i]? = some ur[i] := List.getElem?_eq_getElem hiu
      obtain ⟨t, ta, ht, et, st⟩ := (hR.mono (Tp.same (S6.trans s))).get hgj
      obtain ⟨u, ua, hut, eu, su⟩ := (hR.mono (Tp.same (S6.trans s))).get hgi
      rw [et] at hgj
      rw [eu] at hgi
      refine k_ixL (sql_same (S6.trans s) hrr) (hji.1 ur lr _ hgj) ?_
      walk_at "wa"
      refine k_ixT st (v := .int t.2.1) rfl ?_
      walk_at "wa"
      refine k_ixL (sql_same (S6.trans s) hrr) (at_of (by omega) hgi) ?_
      walk_at "wa"
      refine k_ixT su (v := .int u.1) rfl ?_
      walk_at "wa"
      rw [hji.2 t u ht hut, decide_eq_true rfl]
      exact qN _ (Same.refl _)
    have S7 := S6.trans s7
    walk_at "wa"
    refine k_anyR (bf := fun _ => false) hp7 ?_
    rw [show (List.range (ur.length : Int).toNat).any (fun _ => false) = false by simp]
    walk_at "wa"
    refine k_itl (sql_same S7 hrr) ?_
    intro p3 hp3
    refine lc_mapL (xs := ur) (fun i => (rs[i]?.map fun t => V.int t.2.2).getD .non) (sql_same S7 hrr) (by omega) hp3 (fun i x H' N hx s qN => ?_) (fun H8 s8 hp8 => ?_)
    · obtain ⟨t, ta, ht, rfl, st⟩ := (hR.mono (Tp.same (S7.trans s))).get hx
      rw [ht] at qN
      walk_at "lc"
      refine k_ixT st (v := .int t.2.2) rfl ?_
      exact qN _ (Same.refl _)
    have S8 := S7.trans s8
    have hs8 : H8 p3 = some (.lst ((rs.map (·.2.2)).map V.int)) := by
      rw [hp8, lr, range_map_get, List.map_map]
      rfl
    walk_at "wa"
    refine k_sumR (sql_of hs8) ?_
    have hsum := hring.sum
    walk_at "wa"
    refine k_itl (sql_same S8 hrr) ?_
    intro p4 hp4
    refine lc_mapL (xs := ur) (fun i => V.bl true) (sql_same S8 hrr) (by omega) hp4 (fun i x H' N hx s qN => ?_) (fun H9 s9 hp9 => ?_)
    · obtain ⟨t, ta, ht, rfl, st⟩ := (hR.mono (Tp.same (S8.trans s))).get hx
      walk_at "lc"
      refine k_isi (Im.dp (.tup st (.cons (.int t.1) (.cons (.int t.2.1) (.cons (.int t.2.2) .nil))))) rfl kt_tuple_tuple ?_
      exact qN _ (Same.refl _)
    walk_at "wa"
    refine k_allR (bf := fun _ => true) hp9 ?_
    rw [show (List.range ur.length).all (fun _ => true) = true by simp]
    exact q _ (S8.trans s9)
end
end Lw
namespace Lw
open PySem PySem.Spec PyProof.Rows L2 Ls
section
variable {P : Program} {w : World} {K : PySem.W.Frag} {mg : Str → Option Value} {base : Heap}
theorem ok__law_num (E : Env K mg) : FnOk P w K mg base CX0 1 E.a__law_num E.fd__law_num ["_law_found"] spNum := by
  refine E.F__law_num.ok sc__law_num (fun vs H Q E h => ?_) (fun cdv A outer s H vs Q E' hr h => ?_)
  · obtain ⟨i, rfl, _⟩ := h
    rfl
  · obtain ⟨i, rfl, q⟩ := h
    have hu := huOf hr
    refine ⟨_, PSs.nox (pss_one (ps_ret (pe_and (pe_callB (call_isiU K rfl) (by rfl) E.n_isinstance boot_isinstance (pa_cons (pv 0) (pa_cons (pe_ty "int" rfl E.n_int (by decide +kernel)) pa_nil))) (pe_one (pe_not (pe_callB (call_isiU K rfl) (by rfl) E.n_isinstance boot_isinstance (pa_cons (pv 0) (pa_cons (pe_ty "bool" rfl E.n_bool (by decide +kernel)) pa_nil)))))))), ?_⟩
    refine k_body (s1 := [some (.int i)]) rfl ?_
    walk_at "wa"
    refine k_isi (.int i) rfl kt_int_int ?_
    walk_at "wa"
    refine k_isi (.int i) rfl kt_int_bool ?_
    walk_at "wa"
    exact q _ (Same.refl _)
theorem ok__law_borne (E : Env K mg) : FnOk P w K mg base CX0 1 E.a__law_borne E.fd__law_borne ["_law_row", "_law_ties_here"] (spBorne K) := by
  refine E.F__law_borne.ok sc__law_borne (fun vs H Q E h => ?_) (fun cdv A outer s H vs Q E' hr h => ?_)
  · obtain ⟨n, m, r, l, us, ts, x, rfl, _⟩ := h
    rfl
  · obtain ⟨n, m, r, l, us, ts, x, rfl, hn, hrow, hl, hT, hg, hlen, hx, q⟩ := h
    have hu := huOf hr
    have hrl : (rowV n x).length = n := by rw [rowV, List.length_map, List.length_range]
    refine ⟨_, PSs.nox (pss_cons (ps_set (i := 2) sc__law_borne.nd rfl (Or.inr rfl) (pe_lc (own := [("_law_lane", 3)]) rfl sc__law_borne.nd (pi_range1 rfl E.n_range (pa_cons (pe_callB (call_lenU K rfl) (by rfl) E.n_len boot_len (pa_cons (pv 0) pa_nil)) pa_nil)) (blkOk_by (N := ["_law_row", "_law_ties_here", "_law_borne_here", "_law_lane", "_law_step", "_law_tight", "_law_one", "_law_other", "_law_least"]) (sc := defScope s__law_borne) (by decide +kernel)) (fun _ _ _ _ _ => (pg_name (i := 3) sc__law_borne.nd rfl (Or.inl rfl))) (fun _ _ _ _ _ => (pts_one (pt_cmpR (op_eqU K rfl hu) (pe_ix (ix_U K rfl) (pv 0) (pv 3) (fun _ _ => rfl)) pe_int (nomark _)))) (fun _ _ _ _ _ => (pv 3))))
(pss_cons (ps_for PassesOwn.never rfl (pi_range1 rfl E.n_range (pa_cons (pe_callB (call_lenU K rfl) (by rfl) E.n_len boot_len (pa_cons (pv 0) pa_nil)) pa_nil)) (pg_name (i := 4) sc__law_borne.nd rfl (Or.inl rfl))
(pss_cons (ps_setLc (i := 5) (own := [("_law_one", 6), ("_law_other", 7), ("_law_least", 8)]) rfl sc__law_borne.nd rfl rfl (sw_true rfl rfl rfl (by decide +kernel)) (kIL K rfl (pi_list (pv 1))) (blkOk_by (N := ["_law_row", "_law_ties_here", "_law_borne_here", "_law_lane", "_law_step", "_law_tight", "_law_one", "_law_other", "_law_least"]) (sc := defScope s__law_borne) (by decide +kernel)) (fun _ _ _ _ _ => (kGTup (n := 3) K rfl (pg_tup rfl (pgs_cons (pg_name (i := 6) sc__law_borne.nd rfl (Or.inl rfl)) (pgs_cons (pg_name (i := 7) sc__law_borne.nd rfl (Or.inl rfl)) (pgs_cons (pg_name (i := 8) sc__law_borne.nd rfl (Or.inl rfl)) pgs_nil)))))) (fun _ _ _ _ _ => (pts_one (PW.pt (pw_and (pt_cmpR (op_inU K rfl hu) (pv 7) (pv 2) (by with_unfolding_all rfl)) (pw_and1 (pt_cmpR (op_eqU K rfl hu) (pe_ix (ix_U K rfl) (pv 0) (pv 6) (fun _ _ => rfl)) (pe_op (op_addU K rfl) (pe_ix (ix_U K rfl) (pv 0) (pv 7) (fun _ _ => rfl)) (pv 8)) (nomark _))))))) (fun _ _ _ _ _ => (pv 6)))
(pss_one (ps_set (i := 2) sc__law_borne.nd rfl (Or.inr rfl) (pe_sortSet K rfl rfl E.n_sorted rfl E.n_set (pe_op (op_addU K rfl) (pv 2) (pv 5)))))))
(pss_one (ps_ret (pe_cmpR (op_eqU K rfl hu) (pv 2) (pe_listRg rfl rfl E.n_list (prg_1 rfl E.n_range (pe_callB (call_lenU K rfl) (by rfl) E.n_len boot_len (pa_cons (pv 0) pa_nil)))) (nomark _)))))), ?_⟩
    refine k_body (s1 := [some (.ref r), some (.ref l), none, none, none, none, none, none, none]) rfl ?_
    walk_at "wa"
    refine k_lenL (sql_of hrow) ?_
    rw [hrl]
    walk_at "wa"
    refine k_itr1 (by omega) ?_
    intro p hp
    refine lc_range (fun i H' => Same H H' ∧ H' p = some (.lst ((((List.range i).map fun (j : Nat) => (j : Int)).filter fun j => decide (x j = 0)).map V.int))) ⟨same_new hp, upd_same⟩ (fun i H' hi hP => ?_) (fun H' hP => ?_)
    · obtain ⟨p1, p2⟩ := hP
      walk_at "lc"
      rw [Int.zero_add]
      refine k_ixL (sql_of (p1 _ _ hrow)) (row_at (by omega) (by omega)) ?_
      walk_at "wa"
      rw [List.range_succ, List.map_append, List.filter_append]
      refine k_itd (fun h0 => ?_) (fun h0 => ?_)
      · walk_at "wa"
        refine ⟨_, p2, ?_, Same.wr p1 hp, ?_⟩
        · rw [List.length_map, sizeLine_eq]
          have a1 := List.length_filter_le (fun (j : Int) => decide (x j = 0)) ((List.range i).map fun (j : Nat) => (j : Int))
          rw [List.length_map, List.length_range] at a1
          omega
        · rw [upd_same, List.map_append]
          show _ = some (HO.lst (_ ++ (([(i : Int)].filter fun j => decide (x j = 0)).map V.int)))
          rw [List.filter_cons_of_pos (p := fun j => decide (x j = 0)) (decide_eq_true h0)]
          rfl
      · refine ⟨p1, ?_⟩
        rw [List.map_append]
        show H' p = some (HO.lst (_ ++ (([(i : Int)].filter fun j => decide (x j = 0)).map V.int)))
        rw [List.filter_cons_of_neg (p := fun j => decide (x j = 0)) (by rw [decide_eq_false h0]; decide)]
        simp only [List.filter_nil, List.map_nil, List.append_nil]
        exact p2
    obtain ⟨p1, p2⟩ := hP
    rw [Int.toNat_natCast] at p2
    walk_at "wa"
    refine k_lenL (sql_of (p1 _ _ hrow)) ?_
    rw [hrl]
    walk_at "wa"
    refine k_itr1 (by omega) ?_
    refine for_range (fun k σ H2 => ∃ (pb : Addr) (B : List Int) (c3 c4 c5 c6 c7 c8 : Option V), σ = [some (.ref r), some (.ref l), some (.ref pb), c3, c4, c5, c6, c7, c8] ∧ Same H H2 ∧ H2 pb = some (.lst (B.map V.int)) ∧ B.Pairwise (· < ·) ∧ (∀ p : Int, p ∈ B → 0 ≤ p ∧ p < n) ∧ (∀ p : Int, 0 ≤ p → p < n → x p = 0 → p ∈ B) ∧ loosed n B ≤ n - k)
      ⟨p, _, _, _, _, _, _, _, rfl, p1, p2, ?_, ?_, ?_, ?_⟩ (fun k σ H2 hk hP => ?_) (fun σ H2 hP => ?_)
    · refine List.Pairwise.filter _ ?_
      rw [List.pairwise_map]
      exact List.pairwise_lt_range.imp fun h => by omega
    · intro p hp'
      obtain ⟨i, hi, rfl⟩ := List.mem_map.mp (List.mem_filter.mp hp').1
      have := List.mem_range.mp hi
      omega
    · intro p p0 pn h0
      exact List.mem_filter.mpr ⟨List.mem_map.mpr ⟨p.toNat, List.mem_range.mpr (by omega), Int.toNat_of_nonneg p0⟩, decide_eq_true h0⟩
    · unfold loosed
      have := List.countP_le_length (p := fun (i : Nat) => decide ((i : Int) ∉ (((List.range n).map fun (j : Nat) => (j : Int)).filter fun j => decide (x j = 0)))) (l := List.range n)
      rw [List.length_range] at this
      exact this
    · obtain ⟨pb, B, c3, c4, c5, c6, c7, c8, rfl, s2, hb, b1, b2, b3, b4⟩ := hP
      have bl : B.length ≤ 6 := by
        have e1 : B = (List.map (fun (i : Nat) => (i : Int)) (List.range n)).filter fun i => decide (i ∈ B) := by
          refine sorted_eq b1 (List.Pairwise.filter _ (by rw [List.pairwise_map]; exact List.pairwise_lt_range.imp fun h => by omega)) fun k => ?_
          rw [List.mem_filter, List.mem_map]
          constructor
          · intro hk
            have := b2 k hk
            exact ⟨⟨k.toNat, List.mem_range.mpr (by omega), Int.toNat_of_nonneg this.1⟩, decide_eq_true hk⟩
          · rintro ⟨_, h⟩
            exact of_decide_eq_true h
        have e2 := List.length_filter_le (fun (i : Int) => decide (i ∈ B)) (List.map (fun (i : Nat) => (i : Int)) (List.range n))
        rw [← e1, List.length_map, List.length_range] at e2
        omega
      walk_at "wa"
      refine k_itl (sql_same s2 hl) ?_
      intro pt hpt
      refine lc_list (xs := us) (fun i H' => Same H2 H' ∧ H' pt = some (.lst ((tightTo x B (ts.take i)).map V.int))) ⟨same_new hpt, upd_same⟩ (fun i H' _ hP => sql_same (s2.trans hP.1) hl) (fun i v H3 hi hP => ?_) (fun H3 hP => ?_)
      · obtain ⟨s3, h3⟩ := hP
        obtain ⟨t, ta, ht, rfl, st⟩ := (hT.mono (Tp.same (s2.trans s3))).get hi
        obtain ⟨g1, g2, g3, g4, _⟩ := hg t (List.mem_of_getElem? ht)
        have e1 : ts.take (i + 1) = ts.take i ++ [t] := by rw [List.take_add_one, ht]; rfl
        have e2 : tightTo x B (ts.take (i + 1)) = tightTo x B (ts.take i) ++ tightTo x B [t] := by rw [e1]; unfold tightTo; rw [List.filter_append, List.map_append]
        have lt : (tightTo x B (ts.take i)).length ≤ 50 := by
          unfold tightTo
          rw [List.length_map]
          have a1 := List.length_filter_le (fun (t : Tie) => decide (t.2.1 ∈ B) && decide (x t.1 = x t.2.1 + t.2.2)) (ts.take i)
          rw [List.length_take] at a1
          omega
        walk_at "lc1"
        refine k_gtup st rfl ?_
        walk_at "lc2"
        refine k_inI (sql_of (s3 _ _ hb)) (by omega) ?_
        walk_at "wa"
        rw [e2, List.map_append]
        refine k_itd (fun h1 => ?_) (fun h1 => ?_)
        · walk_at "wa"
          refine k_ixL (sql_of (s3 _ _ (s2 _ _ hrow))) (row_at g1 g2) ?_
          walk_at "wa"
          refine k_ixL (sql_of (s3 _ _ (s2 _ _ hrow))) (row_at g3 g4) ?_
          walk_at "wa"
          refine k_itd (fun h2 => ?_) (fun h2 => ?_)
          · walk_at "wa"
            refine ⟨_, h3, by rw [List.length_map, sizeLine_eq]; omega, Same.wr s3 hpt, ?_⟩
            have e3 : tightTo x B [t] = [t.1] := by
              unfold tightTo
              rw [List.filter_cons_of_pos (by rw [decide_eq_true h1, decide_eq_true h2]; rfl)]
              rfl
            rw [upd_same, e3]
            rfl
          · refine ⟨s3, ?_⟩
            have e3 : tightTo x B [t] = [] := by
              unfold tightTo
              rw [List.filter_cons_of_neg (by rw [decide_eq_false h2]; simp)]
              rfl
            rw [e3, List.map_nil, List.append_nil]
            exact h3
        · walk_at "wa"
          refine ⟨s3, ?_⟩
          have e3 : tightTo x B [t] = [] := by
            unfold tightTo
            rw [List.filter_cons_of_neg (by rw [decide_eq_false h1]; simp)]
            rfl
          rw [e3, List.map_nil, List.append_nil]
          exact h3
      · obtain ⟨s3, h3⟩ := hP
        rw [hT.len, List.take_length] at h3
        have lt : (tightTo x B ts).length ≤ 50 := by
          unfold tightTo
          rw [List.length_map]
          have a1 := List.length_filter_le (fun (t : Tie) => decide (t.2.1 ∈ B) && decide (x t.1 = x t.2.1 + t.2.2)) ts
          omega
        walk_at "wa"
        refine k_addL (s3 _ _ hb) h3 ?_ ?_
        · rw [List.length_map, List.length_map, sizeLine_eq]
          omega
        intro pc hpc
        walk_at "wa"
        refine ⟨pc, B ++ tightTo x B ts, rfl, by rw [List.map_append]; exact sql_of upd_same, by rw [List.length_append]; omega, fun ms pd hs hm hpd => ?_⟩
        walk_at "wa"
        have st := borne_step hx hg b3 hm
        have s4 := s3.trans (same_new (o := .lst (B.map V.int ++ (tightTo x B ts).map V.int)) hpc)
        refine ⟨pd, ms, _, _, _, _, _, _, rfl, Same.wr (s2.trans s4) ((s2.trans s4).free hpd), upd_same, hs, fun p hp => ?_, fun p p0 p1 h0 => (hm p).mpr (List.mem_append_left _ (b3 p p0 p1 h0)), by omega⟩
        rcases List.mem_append.mp ((hm p).mp hp) with h | h
        · exact b2 p h
        · obtain ⟨t, ht, rfl⟩ := List.mem_map.mp h
          obtain ⟨g1, g2, _⟩ := hg t (List.mem_filter.mp ht).1
          exact ⟨g1, g2⟩
    · obtain ⟨pb, B, c3, c4, c5, c6, c7, c8, rfl, s2, hb, b1, b2, b3, b4⟩ := hP
      rw [Int.toNat_natCast] at b4
      have e1 := borne_all b1 b2 (by omega)
      walk_at "wa"
      refine k_lenL (sql_of (s2 _ _ hrow)) ?_
      rw [hrl]
      walk_at "wa"
      refine ⟨RgOk.of_le (by omega) (by omega) (by omega) (by omega), ?_⟩
      intro pr hpr
      walk_at "wa"
      refine k_eqInts (ns := B) (sql_of (up_new hpr hb)) (sql_of ?_) (by rw [e1, List.length_map, List.length_range]; omega) ?_
      · rw [upd_same]
        congr 2
        rw [e1, List.map_map]
        unfold rgV
        rw [show ((n : Int) - 0).toNat = n by omega]
        refine List.map_congr_left fun i _ => ?_
        show V.int (0 + (i : Int)) = V.int i
        rw [Int.zero_add]
      · exact q _ (Same.wr s2 (s2.free hpr))
end
end Lw
namespace Ls
open PySem PySem.Spec PyProof.Rows L2
theorem k_isnotB {H : Hp} {Q : VK} {a b : Bool} (q : Q (.bl (!decide (a = b))) H) : rIsNotU (.bl a) (.bl b) H Q := .inr ⟨a, b, rfl, rfl, q⟩
end Ls
namespace Lw
open PySem PySem.Spec PyProof.Rows L2 Ls
def spLaw (K : PySem.W.Frag) : Sp := fun vs H Q _ => ∃ (a : Addr) (ns : List Int), vs = [.ref a] ∧ SqL K H a (ns.map V.int) ∧ ns.length ≤ 63 ∧ ∀ H', Q (.bl true) H'
section
variable {P : Program} {w : World} {K : PySem.W.Frag} {mg : Str → Option Value} {base : Heap}
theorem ok_law (E : Env K mg) (G__law_begin : FnOk P w K mg base CX0 1 E.a__law_begin E.fd__law_begin ["_law_script"] (spBegin K))
    (G__law_pick : FnOk P w K mg base CX0 1 E.a__law_pick E.fd__law_pick ["_law_d", "_law_many"] (spPick K))
    (G__law_of : FnOk P w K mg base CX0 2 E.a__law_of E.fd__law_of ["_law_d", "_law_things"] (spOf K))
    (G__law_ties : FnOk P w K mg base CX0 2 E.a__law_ties E.fd__law_ties ["_law_d", "_law_lanes", "_law_wide"] (spTies K))
    (G__law_same : FnOk P w K mg base CX0 2 E.a__law_same E.fd__law_same ["_law_found", "_law_due"] (spSame K 1))
    (G__law_num : FnOk P w K mg base CX0 1 E.a__law_num E.fd__law_num ["_law_found"] spNum)
    (G__law_meets : FnOk P w K mg base CX0 1 E.a__law_meets E.fd__law_meets ["_law_ties_here", "_law_row", "_law_top"] (spLMeets K))
    (G__law_borne : FnOk P w K mg base CX0 1 E.a__law_borne E.fd__law_borne ["_law_row", "_law_ties_here"] (spBorne K))
    (G__law_is_ring : FnOk P w K mg base CX0 1 E.a__law_is_ring E.fd__law_is_ring ["_law_ring_told", "_law_lanes", "_law_ties_here", "_law_top"] (spIsRing K))
    (G_amounts : FnOk P w K mg base CX0 3 E.a_amounts E.fd_amounts ["lanes", "ties", "most"] (spAmounts K))
    (G_meets : FnOk P w K mg base CX0 2 E.a_meets E.fd_meets ["lanes", "ties", "row", "most"] (spMeets K))
    (G_ring : FnOk P w K mg base CX0 3 E.a_ring E.fd_ring ["lanes", "ties", "most"] (spRing K)) : FnOk P w K mg base CX0 4 E.a_law E.fd_law ["_law_script"] (spLaw K) := by
  refine E.F_law.ok sc_law (fun vs H Q E h => ?_) (fun cdv A outer s H vs Q E' hr h => ?_)
  · obtain ⟨d, c, rfl, _⟩ := h
    rfl
  · obtain ⟨a, ns, rfl, ha, hns, q⟩ := h
    have hu := huOf hr
    have hr__law_begin := hr.mono (show 1 ≤ 3 by decide)
    have hr__law_pick := hr.mono (show 1 ≤ 3 by decide)
    have hr__law_of := hr.mono (show 2 ≤ 3 by decide)
    have hr__law_ties := hr.mono (show 2 ≤ 3 by decide)
    have hr__law_same := hr.mono (show 2 ≤ 3 by decide)
    have hr__law_num := hr.mono (show 1 ≤ 3 by decide)
    have hr__law_meets := hr.mono (show 1 ≤ 3 by decide)
    have hr__law_borne := hr.mono (show 1 ≤ 3 by decide)
    have hr__law_is_ring := hr.mono (show 1 ≤ 3 by decide)
    have hr_amounts := hr.mono (show 3 ≤ 3 by decide)
    have hr_meets := hr.mono (show 2 ≤ 3 by decide)
    have hr_ring := hr.mono (show 3 ≤ 3 by decide)
    have b__law_begin := b__law_begin E
    have b__law_pick := b__law_pick E
    have b__law_of := b__law_of E
    have b__law_ties := b__law_ties E
    have b__law_same := b__law_same E
    have b__law_num := b__law_num E
    have b__law_meets := b__law_meets E
    have b__law_borne := b__law_borne E
    have b__law_is_ring := b__law_is_ring E
    obtain ⟨_, kb_amounts⟩ := E.F_amounts.kbinds0 (ps := ["lanes", "ties", "most"]) 2 ["most"] [] (fun us _ ws => us ++ ws) (by simp) (by simp) (fun r1 _ r3 => r1.append r3) (fun _ _ _ _ _ _ us mv ws h1 h2 h3 => match us, mv, ws, h1, h2, h3 with | [_, _], [], [_], _, _, _ => rfl)
    obtain ⟨_, kb_ring⟩ := E.F_ring.kbinds0 (ps := ["lanes", "ties", "most"]) 2 ["most"] [] (fun us _ ws => us ++ ws) (by simp) (by simp) (fun r1 _ r3 => r1.append r3) (fun _ _ _ _ _ _ us mv ws h1 h2 h3 => match us, mv, ws, h1, h2, h3 with | [_, _], [], [_], _, _, _ => rfl)
    obtain ⟨_, kb_meets⟩ := E.F_meets.kbinds0 (ps := ["lanes", "ties", "row", "most"]) 3 ["most"] [] (fun us _ ws => us ++ ws) (by simp) (by simp) (fun r1 _ r3 => r1.append r3) (fun _ _ _ _ _ _ us mv ws h1 h2 h3 => match us, mv, ws, h1, h2, h3 with | [_, _, _], [], [_], _, _, _ => rfl)
    obtain ⟨_, rv_amounts, db_amounts⟩ := E.F_amounts.binds0 (ps := ["lanes", "ties", "most"]) 2 (by simp) rfl (fun _ _ _ _ _ _ us ks h1 h2 => match us, ks, h1, h2 with | [_, _], [_], _, _ => ⟨_, _, _, _, _, _, rfl, rfl, rfl⟩)
    obtain ⟨_, rv_ring, db_ring⟩ := E.F_ring.binds0 (ps := ["lanes", "ties", "most"]) 2 (by simp) rfl (fun _ _ _ _ _ _ us ks h1 h2 => match us, ks, h1, h2 with | [_, _], [_], _, _ => ⟨_, _, _, _, _, _, rfl, rfl, rfl⟩)
    refine ⟨_, PSs.nox (pss_cons (ps_set (i := 1) sc_law.nd rfl (Or.inl rfl) (pe_call G__law_begin hr__law_begin rfl E.g__law_begin E.F__law_begin.kp b__law_begin .nil pass0 (pa_cons (pv 0) pa_nil)))
(pss_cons (ps_for PassesOwn.never rfl (pi_range1 rfl E.n_range (pa_cons pe_int pa_nil)) (pg_name (i := 2) sc_law.nd rfl (Or.inl rfl))
(pss_cons (ps_set (i := 3) sc_law.nd rfl (Or.inl rfl) (pe_op (op_addU K rfl) pe_int (pe_call G__law_pick hr__law_pick rfl E.g__law_pick E.F__law_pick.kp b__law_pick .nil pass0 (pa_cons (pv 1) (pa_cons pe_int pa_nil)))))
(pss_cons (ps_set (i := 4) sc_law.nd rfl (Or.inl rfl) (pe_call G__law_ties hr__law_ties rfl E.g__law_ties E.F__law_ties.kp b__law_ties .nil pass0 (pa_cons (pv 1) (pa_cons (pv 3) (pa_cons (pe_ix (ix_U K rfl) (pe_lst (pa_cons pe_int (pa_cons pe_int (pa_cons pe_int pa_nil)))) (pe_call G__law_pick hr__law_pick rfl E.g__law_pick E.F__law_pick.kp b__law_pick .nil pass0 (pa_cons (pv 1) (pa_cons pe_int pa_nil))) (fun _ _ => rfl)) pa_nil)))))
(pss_cons (ps_set (i := 5) sc_law.nd rfl (Or.inr rfl) (pe_call G__law_of hr__law_of rfl E.g__law_of E.F__law_of.kp b__law_of .nil pass0 (pa_cons (pv 1) (pa_cons (pe_lst (pa_cons pe_int (pa_cons pe_int (pa_cons pe_int (pa_cons pe_int (pa_cons (pe_op op_pow pe_int pe_int) (pa_cons (pe_call G__law_pick hr__law_pick rfl E.g__law_pick E.F__law_pick.kp b__law_pick .nil pass0 (pa_cons (pv 1) (pa_cons (pe_op op_pow pe_int pe_int) pa_nil))) pa_nil))))))) pa_nil))))
(pss_cons (ps_set (i := 6) sc_law.nd rfl (Or.inl rfl) (pe_join (pe_ifExp (pt_cmpR (op_neU K rfl hu) (pv 5) pe_int (nomark _)) (pe_callN G_amounts hr_amounts rfl E.g_amounts E.F_amounts.kp kb_amounts pass0 (pa_cons (pv 3) (pa_cons (pv 4) pa_nil)) (pk_cons (pv 5) pk_nil)) (pe_call G_amounts hr_amounts rfl E.g_amounts E.F_amounts.kp db_amounts rv_amounts pass0 (pa_cons (pv 3) (pa_cons (pv 4) pa_nil))))))
(pss_cons (ps_set (i := 7) sc_law.nd rfl (Or.inl rfl) (pe_join (pe_ifExp (pt_cmpR (op_neU K rfl hu) (pv 5) pe_int (nomark _)) (pe_callN G_ring hr_ring rfl E.g_ring E.F_ring.kp kb_ring pass0 (pa_cons (pv 3) (pa_cons (pv 4) pa_nil)) (pk_cons (pv 5) pk_nil)) (pe_call G_ring hr_ring rfl E.g_ring E.F_ring.kp db_ring rv_ring pass0 (pa_cons (pv 3) (pa_cons (pv 4) pa_nil))))))
(pss_cons (ps_if (pt_cmpR (op_eqU K rfl hu) (pe_cmpR (op_isU) (pv 6) pe_non (nomark _)) (pe_cmpR (op_isU) (pv 7) pe_non (nomark _)) (nomark _)) (pss_one (ps_ret pe_bl)) pss_nil)
(pss_one (ps_if (pt_cmpR (op_isU) (pv 6) pe_non (nomark _)) (pss_cons (ps_if (pt_not (pt_val (pe_call G__law_is_ring hr__law_is_ring rfl E.g__law_is_ring E.F__law_is_ring.kp b__law_is_ring .nil pass0 (pa_cons (pv 7) (pa_cons (pv 3) (pa_cons (pv 4) (pa_cons (pv 5) pa_nil))))))) (pss_one (ps_ret pe_bl)) pss_nil)
(pss_one (ps_expr (kBM K rfl (pe_bm PySem.F.plainAttrs_list PySem.F.slot_list_append PySem.F.type_list_append mt_append (pv 7) (pa_cons pe_int pa_nil)))))) (pss_cons (ps_if (PW.pt (pw_or (pt_not (pt_val (pe_call G__law_same hr__law_same rfl E.g__law_same E.F__law_same.kp b__law_same .nil pass0 (pa_cons (pv 6) (pa_cons (pe_lc (own := [("_law_amount", 8)]) rfl sc_law.nd (kIL K rfl (pi_list (pv 6))) (blkOk_by (N := ["_law_script", "_law_d", "_law_turn", "_law_lanes", "_law_ties_here", "_law_top", "_law_found", "_law_told", "_law_amount"]) (sc := defScope s_law) (by decide +kernel)) (fun _ _ _ _ _ => (pg_name (i := 8) sc_law.nd rfl (Or.inl rfl))) (fun _ _ _ _ _ => (pts_one (pt_val (pe_call G__law_num hr__law_num rfl E.g__law_num E.F__law_num.kp b__law_num .nil pass0 (pa_cons (pv 8) pa_nil))))) (fun _ _ _ _ _ => (pv 8))) pa_nil))))) (pw_or1 (pt_cmpR (op_neU K rfl hu) (pe_callB (call_lenU K rfl) (by rfl) E.n_len boot_len (pa_cons (pv 6) pa_nil)) (pv 3) (nomark _))))) (pss_one (ps_ret pe_bl)) pss_nil)
(pss_cons (ps_if (PW.pt (pw_or (pt_not (pt_val (pe_call G__law_meets hr__law_meets rfl E.g__law_meets E.F__law_meets.kp b__law_meets .nil pass0 (pa_cons (pv 4) (pa_cons (pv 6) (pa_cons (pv 5) pa_nil)))))) (pw_or1 (pt_not (pt_val (pe_call G__law_borne hr__law_borne rfl E.g__law_borne E.F__law_borne.kp b__law_borne .nil pass0 (pa_cons (pv 6) (pa_cons (pv 4) pa_nil)))))))) (pss_one (ps_ret pe_bl)) pss_nil)
(pss_cons (ps_if (pt_cmpR (op_isnotU) (pe_callN G_meets hr_meets rfl E.g_meets E.F_meets.kp kb_meets pass0 (pa_cons (pv 3) (pa_cons (pv 4) (pa_cons (pv 6) pa_nil))) (pk_cons (pv 5) pk_nil)) pe_bl (nomark _)) (pss_one (ps_ret pe_bl)) pss_nil)
(pss_cons (ps_if (PW.pt (pw_or (pt_val (pe_callN G_meets hr_meets rfl E.g_meets E.F_meets.kp kb_meets pass0 (pa_cons (pv 3) (pa_cons (pv 4) (pa_cons (pe_op (op_addU K rfl) (pv 6) (pe_lst (pa_cons pe_int pa_nil))) pa_nil))) (pk_cons (pv 5) pk_nil))) (pw_or1 (pt_val (pe_callN G_meets hr_meets rfl E.g_meets E.F_meets.kp kb_meets pass0 (pa_cons (pv 3) (pa_cons (pv 4) (pa_cons (pe_slice (sl_U K rfl) (pv 6) (po_some pe_int) po_none) pa_nil))) (pk_cons (pv 5) pk_nil)))))) (pss_one (ps_ret pe_bl)) pss_nil)
(pss_one (ps_if (pt_val (pe_callN G_meets hr_meets rfl E.g_meets E.F_meets.kp kb_meets pass0 (pa_cons (pv 3) (pa_cons (pv 4) (pa_cons (pe_lc (own := [("_law_amount", 8)]) rfl sc_law.nd (kIL K rfl (pi_list (pv 6))) (blkOk_by (N := ["_law_script", "_law_d", "_law_turn", "_law_lanes", "_law_ties_here", "_law_top", "_law_found", "_law_told", "_law_amount"]) (sc := defScope s_law) (by decide +kernel)) (fun _ _ _ _ _ => (pg_name (i := 8) sc_law.nd rfl (Or.inl rfl))) (fun _ _ _ _ _ => pts_nil) (fun _ _ _ _ _ => (pe_op (op_addU K rfl) (pe_op (op_addU K rfl) (pv 8) pe_int) (pv 5)))) pa_nil))) (pk_cons (pv 5) pk_nil))) (pss_one (ps_ret pe_bl)) pss_nil)))))))))))))))
(pss_one (ps_ret (pe_cmpR (op_eqU K rfl hu) (pe_gc rfl E.c_MOST_AMOUNT) pe_int (nomark _)))))), ?_⟩
    refine k_body (s1 := [some (.ref a), none, none, none, none, none, none, none, none]) rfl ?_
    walk_at "wa"
    refine ⟨a, ns, rfl, ha, hns, fun d c H1 hd hc s1 D1 => ?_⟩
    walk_at "wa"
    refine k_itr1 (by decide) ?_
    refine for_range (fun i σ H' => Draw K H' d c ∧ ∃ c2 c3 c4 c5 c6 c7 c8, σ = [some (.ref a), some (.ref d), c2, c3, c4, c5, c6, c7, c8]) ⟨D1, _, _, _, _, _, _, _, rfl⟩ (fun i σ H2 _ hP => ?_) (fun σ H2 hP => ?_)
    · clear D1 s1 hd hc
      obtain ⟨D2, c2, c3, c4, c5, c6, c7, c8, rfl⟩ := hP
      walk_at "wa"
      refine use_pick D2 (by decide) (by decide) fun r H3 k3 D3 r0 r1 => ?_
      walk_at "wa"
      obtain ⟨n, hn⟩ := Int.eq_ofNat_of_zero_le (show 0 ≤ 1 + r by omega)
      rw [hn]
      have n1 : 1 ≤ n := by omega
      have n2 : n ≤ 6 := by omega
      intro q1 hq1
      walk_at "wa"
      have nq := D3.free hq1
      refine use_pick (D3.new hq1) (by decide) (by decide) fun r2 H4 k4 D4 r3 r4 => ?_
      have hm : ∃ m : Int, atI [V.int 4, V.int 60, V.int 999999] r2 = some (.int m) ∧ 0 ≤ m ∧ m ≤ 999999 := by
        have : r2 = 0 ∨ r2 = 1 ∨ r2 = 2 := by omega
        rcases this with rfl | rfl | rfl
        · exact ⟨4, rfl, by decide, by decide⟩
        · exact ⟨60, rfl, by decide, by decide⟩
        · exact ⟨999999, rfl, by decide, by decide⟩
      obtain ⟨wide, em, w0, w1⟩ := hm
      refine k_ixL (sql_of (k4.at nq upd_same)) em ?_
      walk_at "wa"
      refine use_ties D4 (by omega) (by omega) w0 (by omega) fun p us ts H5 hp k5 D5 h5 T5 l5 g5 => ?_
      have np := D4.free hp
      have gg : ∀ t ∈ ts, GoodT n 999999 t := fun t ht => by
        obtain ⟨a1, a2, a3, a4, a5, a6, a7⟩ := g5 t ht
        exact ⟨a1, a2, a3, a4, a5, by omega, by omega⟩
      clear k5 hp g5 k4 k3 D4 D3 D2 hq1 nq em
      walk_at "wa"
      refine k_powL (v := 1000000000000) (by decide) (by decide) (by decide) ?_
      walk_at "wa"
      refine k_powL (v := 10000000) (by decide) (by decide) (by decide) ?_
      walk_at "wa"
      refine use_pick D5 (by decide) (by decide) fun tp H6 k6 D6 tp0 tp1 => ?_
      walk_at "wa"
      intro e he
      have h6 : H6 p = some (.lst us) := k6.at np h5
      have T6 : TieL K H6 us ts := T5.mono (D5.tp k6)
      walk_at "wa"
      refine ⟨d, c, e, _, rfl, D6.new he, sql_of upd_same, by show 0 < 6; decide, by show 6 < 2 ^ 100; decide, fun x H7 k7 D7 hx => ?_⟩
      obtain ⟨top, rfl, t0, t1⟩ : ∃ top : Int, x = .int top ∧ 0 ≤ top ∧ top ≤ 1000000000000 := by
        rcases List.mem_cons.mp hx with rfl | hx
        · exact ⟨_, rfl, by decide, by decide⟩
        · rcases List.mem_cons.mp hx with rfl | hx
          · exact ⟨_, rfl, by decide, by decide⟩
          · rcases List.mem_cons.mp hx with rfl | hx
            · exact ⟨_, rfl, by decide, by decide⟩
            · rcases List.mem_cons.mp hx with rfl | hx
              · exact ⟨_, rfl, by decide, by decide⟩
              · rcases List.mem_cons.mp hx with rfl | hx
                · exact ⟨_, rfl, by decide, by decide⟩
                · rw [List.mem_singleton] at hx
                  subst hx
                  exact ⟨_, rfl, by omega, by omega⟩
      have h7 : H7 p = some (.lst us) := k7.at np (same_new he _ _ h6)
      have T7 : TieL K H7 us ts := T6.mono ((Tp.new he).trans ((D6.new he).tp k7))
      clear h6 T6 k7 D6 he k6 D5 h5 T5 hx
      walk_at "wa"
      refine k_join (fun v H' => Same H7 H' ∧ Ans K H' v n top ts) ?_ ?_
      · walk_at "wa"
        refine k_itn (fun hne => ?_) (fun heq => ?_)
        · walk_at "wa"
          exact ⟨rfl, rfl, use_amounts n1 n2 t0 t1 h7 T7 gg (by omega) fun v H' s A => ⟨s, A⟩⟩
        · walk_at "wa"
          subst heq
          exact use_amounts (most := 99999) n1 n2 (by decide) (by decide) h7 T7 gg (by omega) fun v H' s A => ⟨s, A⟩
      rintro v H8 ⟨s8, A8⟩
      have h8 := s8 _ _ h7
      have T8 := T7.mono (Tp.same s8)
      have D8 := D7.keeps s8
      clear h7 T7 D7 s8
      walk_at "wa"
      have ringed : ∀ (most : Int) (M : VK), most = top → (∀ H', Same H8 H' → v ≠ .non → M .non H') → (∀ pr ur rs H', Same H8 H' → v = .non → pr ≠ d → pr ≠ c → H' pr = some (.lst ur) → TieL K H' ur rs → rs.length ≤ n + 1 → Lm.Ring (bnd n top ++ ts) rs → M (.ref pr) H') → spRing K [.int n, .ref p, .int most] H8 M E0 := fun most M em m1 m2 => by
        subst em
        rcases A8 with ⟨pv, x, rfl, _, hx⟩ | ⟨rfl, hno⟩
        · exact ⟨n, _, p, us, ts, rfl, n1, n2, t0, t1, h8, T8, gg, by omega, fun p us rs H' _ _ _ _ _ _ hno => (hno x hx.1).elim, fun H' x s _ => m1 H' s (by intro z; cases z)⟩
        · exact ⟨n, _, p, us, ts, rfl, n1, n2, t0, t1, h8, T8, gg, by omega, fun pr ur rs H' hpr s h1 h2 h3 h4 _ => m2 pr ur rs H' s rfl (D8.free hpr) (D8.nec hpr) h1 h2 h3 h4, fun H' x s hx => (hno x hx).elim⟩
      refine k_join (fun u H' => Same H8 H' ∧ ((u = .non ∧ v ≠ .non) ∨ (v = .non ∧ ∃ pr ur rs, u = .ref pr ∧ pr ≠ d ∧ pr ≠ c ∧ H' pr = some (.lst ur) ∧ TieL K H' ur rs ∧ rs.length ≤ n + 1 ∧ Lm.Ring (bnd n top ++ ts) rs))) ?_ ?_
      · walk_at "wa"
        refine k_itn (fun hne => ?_) (fun heq => ?_)
        · walk_at "wa"
          exact ⟨rfl, rfl, ringed top _ rfl (fun H' s hv => ⟨s, .inl ⟨rfl, hv⟩⟩) fun pr ur rs H' s hv n1 n2 h1 h2 h3 h4 => ⟨s, .inr ⟨hv, pr, ur, rs, rfl, n1, n2, h1, h2, h3, h4⟩⟩⟩
        · walk_at "wa"
          exact ringed 99999 _ heq.symm (fun H' s hv => ⟨s, .inl ⟨rfl, hv⟩⟩) fun pr ur rs H' s hv n1 n2 h1 h2 h3 h4 => ⟨s, .inr ⟨hv, pr, ur, rs, rfl, n1, n2, h1, h2, h3, h4⟩⟩
      rintro u H9 ⟨s9, hu9⟩
      have h9 := s9 _ _ h8
      have T9 := T8.mono (Tp.same s9)
      have D9 := D8.keeps s9
      have A9 := A8.mono s9
      clear h8 T8 D8 s9 A8 ringed
      walk_at "wa"
      rcases hu9 with ⟨rfl, hv⟩ | ⟨rfl, pr, ur, rs, rfl, nd, nc, r1', r2', r3', r4'⟩
      · rcases A9 with ⟨pv, x, rfl, v1, v2⟩ | ⟨rfl, _⟩
        · rw [show decide (V.ref pv = V.non) = false from decide_eq_false (by intro z; cases z), show decide (V.non = V.non) = true from decide_eq_true rfl]
          walk_at "wa"
          refine k_neg' (by intro z; cases z) ?_
          walk_at "wa"
          have hv1 : ∀ H', Same H9 H' → SqL K H' pv ((rowZ n x).map V.int) := fun H' s => by
            have := sql_of (K := K) (s _ _ v1)
            unfold rowZ
            rw [List.map_map]
            exact this
          have feasB : (inB top (rowZ n x) && tiesB ts (rowZ n x)) = true := (rowB_iff gg rowZ_len).mpr (feas_rowZ gg v2.1)
          refine k_itl (sql_of v1) ?_
          intro pl hpl
          refine lc_list (xs := rowV n x) (fun j H' => Same H9 H' ∧ H' pl = some (.lst (rowV j x))) ⟨same_new hpl, upd_same⟩ (fun j H' _ hP => sql_of (hP.1 _ _ v1)) (fun j y H' hy hP => ?_) (fun H10 hP => ?_)
          · obtain ⟨p1, p2⟩ := hP
            unfold rowV at hy
            rw [List.getElem?_map] at hy
            obtain ⟨k, hk, rfl⟩ := Option.map_eq_some_iff.mp hy
            obtain ⟨hk1, hk2⟩ := List.getElem?_eq_some_iff.mp hk
            rw [List.length_range] at hk1
            rw [List.getElem_range] at hk2
            subst hk2
            walk_at "lc"
            refine ⟨_, rfl, fun H11 s11 => ?_⟩
            walk_at "wa"
            refine ⟨_, s11 _ _ p2, ?_, Same.wr (p1.trans s11) hpl, ?_⟩
            · rw [rowV, List.length_map, List.length_range, sizeLine_eq]
              omega
            · rw [upd_same]
              unfold rowV
              rw [List.range_succ, List.map_append]
              rfl
          obtain ⟨s10, h10⟩ := hP
          rw [show (rowV n x).length = n by rw [rowV, List.length_map, List.length_range]] at h10
          walk_at "wa"
          refine use_same (row_dp (s10 _ _ v1)) (row_dp h10) (row_ok n2) fun H11 s11 => ?_
          have S11 := s10.trans s11
          walk_at "wa"
          refine k_lenL (sql_of (S11 _ _ v1)) ?_
          rw [show (rowV n x).length = n by rw [rowV, List.length_map, List.length_range]]
          walk_at "wa"
          refine use_lmeets (n := n) (sql_of (S11 _ _ h9)) (T9.mono (Tp.same S11)) gg (by omega) (hv1 _ S11) rowZ_len (by rw [rowZ_len]; omega) fun H12 s12 => ?_
          have S12 := S11.trans s12
          rw [feasB]
          walk_at "wa"
          refine use_borne (m := top) n2 (S12 _ _ v1) (sql_of (S12 _ _ h9)) (T9.mono (Tp.same S12)) gg (by omega) v2 fun H13 s13 => ?_
          have S13 := S12.trans s13
          walk_at "wa"
          refine ⟨rfl, rfl, use_meets (ns := rowZ n x) n1 n2 t0 t1 (sql_of (S13 _ _ h9)) (T9.mono (Tp.same S13)) gg (by omega) (hv1 _ S13) (by rw [rowZ_len]; omega) fun H14 s14 => ?_⟩
          have S14 := S13.trans s14
          rw [feasB, decide_eq_true rowZ_len]
          walk_at "wa"
          refine k_isnotB ?_
          walk_at "wa"
          refine k_nneg rfl ?_
          walk_at "wa"
          intro z1 hz1
          refine k_addL (same_new hz1 _ _ (S14 _ _ v1)) upd_same ?_ ?_
          · rw [rowV, List.length_map, List.length_range, sizeLine_eq]
            show n + 1 ≤ _
            omega
          intro z2 hz2
          walk_at "wa"
          have S16 := (S14.trans (same_new (o := .lst [.int 0]) hz1)).trans (same_new (o := .lst (rowV n x ++ [.int 0])) hz2)
          refine ⟨rfl, rfl, use_meets (ns := rowZ n x ++ [0]) n1 n2 t0 t1 (sql_of (S16 _ _ h9)) (T9.mono (Tp.same S16)) gg (by omega) ?_ (by rw [List.length_append, rowZ_len]; show n + 1 ≤ 1000; omega) fun H17 s17 => ?_⟩
          · rw [List.map_append]
            unfold rowZ
            rw [List.map_map]
            exact sql_of upd_same
          have S17 := S16.trans s17
          have eL : decide ((rowZ n x ++ [(0 : Int)]).length = n) = false := decide_eq_false (by rw [List.length_append, rowZ_len]; show n + 1 ≠ n; omega)
          rw [eL, Bool.false_and]
          walk_at "wa"
          refine k_slL (sql_of (S17 _ _ v1)) ?_
          rw [cut_from (by decide)]
          intro z3 hz3
          walk_at "wa"
          have S18 := S17.trans (same_new (o := .lst ((rowV n x).drop (1 : Int).toNat)) hz3)
          refine ⟨rfl, rfl, use_meets (ns := (rowZ n x).drop 1) n1 n2 t0 t1 (sql_of (S18 _ _ h9)) (T9.mono (Tp.same S18)) gg (by omega) ?_ (by rw [List.length_drop, rowZ_len]; omega) fun H19 s19 => ?_⟩
          · rw [List.map_drop]
            unfold rowZ
            rw [List.map_map]
            exact sql_of upd_same
          have S19 := S18.trans s19
          rw [show decide (((rowZ n x).drop 1).length = n) = false from decide_eq_false (by rw [List.length_drop, rowZ_len]; omega), Bool.false_and]
          walk_at "wa"
          refine k_itl (sql_of (S19 _ _ v1)) ?_
          intro z4 hz4
          refine lc_mapL (xs := rowV n x) (fun k => V.int (x k + 1 + top)) (sql_of (S19 _ _ v1)) (by rw [rowV, List.length_map, List.length_range]; omega) hz4 (fun k y H' N hy s qN => ?_) (fun H20 s20 h20 => ?_)
          · unfold rowV at hy
            rw [List.getElem?_map] at hy
            obtain ⟨k', hk, rfl⟩ := Option.map_eq_some_iff.mp hy
            obtain ⟨hk1, hk2⟩ := List.getElem?_eq_some_iff.mp hk
            rw [List.getElem_range] at hk2
            subst hk2
            walk_at "lc"
            walk_at "wa"
            exact qN _ (Same.refl _)
          have S20 := S19.trans s20
          rw [show (rowV n x).length = n by rw [rowV, List.length_map, List.length_range]] at h20
          walk_at "wa"
          refine ⟨rfl, rfl, use_meets (ns := rowZ n fun k => x k + 1 + top) n1 n2 t0 t1 (sql_of (S20 _ _ h9)) (T9.mono (Tp.same S20)) gg (by omega) ?_ (by rw [rowZ_len]; omega) fun H21 s21 => ?_⟩
          · unfold rowZ
            rw [List.map_map]
            exact sql_of h20
          have S21 := S20.trans s21
          rw [show inB top (rowZ n fun k => x k + 1 + top) = false from by
            cases e : inB top (rowZ n fun k => x k + 1 + top) with
            | false => rfl
            | true =>
              unfold inB at e
              rw [List.all_eq_true] at e
              have := e (x 0 + 1 + top) (List.mem_map.mpr ⟨0, List.mem_range.mpr (by omega), rfl⟩)
              rw [Bool.and_eq_true] at this
              have a1 := of_decide_eq_true this.2
              have a2 := (v2.1.1 0 (by omega) (by omega)).1
              omega, Bool.false_and, Bool.and_false]
          walk_at "wa"
          exact ⟨D9.keeps S21, _, _, _, _, _, _, _, rfl⟩
        · exact (hv rfl).elim
      · rw [show decide (V.ref pr = V.non) = false from decide_eq_false (by intro z; cases z), show decide (V.non = V.non) = true from decide_eq_true rfl]
        walk_at "wa"
        refine k_neg' (by intro z; cases z) ?_
        walk_at "wa"
        refine k_pos rfl ?_
        walk_at "wa"
        refine use_isring n2 (sql_of h9) T9 (by omega) (sql_of r1') r2' (by omega) r4' fun H10 s10 => ?_
        walk_at "wa"
        refine k_tyL (sql_of (s10 _ _ r1')) ?_
        walk_at "wa"
        refine k_app (s10 _ _ r1') ?_ ?_
        · rw [r2'.len, sizeLine_eq]
          omega
        · exact ⟨(D9.keeps s10).wr nd nc, _, _, _, _, _, _, _, rfl⟩
    · obtain ⟨D2, c2, c3, c4, c5, c6, c7, c8, rfl⟩ := hP
      walk_at "wa"
      simp only [decide_true]
      exact q _
theorem law_ok (E : Env K mg) : FnOk P w K mg base CX0 4 E.a_law E.fd_law ["_law_script"] (spLaw K) := by
  have k := ok_look_ties (P := P) (w := w) (base := base) E
  have st := ok_settled E (ok_bounds_of (P := P) (w := w) (base := base) E) (ok_pushed E)
  exact ok_law E (ok__law_begin E) (ok__law_pick E) (ok__law_of E (ok__law_pick E)) (ok__law_ties E (ok__law_pick E)) (ok__law_same E 1) (ok__law_num E) (ok__law_meets E) (ok__law_borne E) (ok__law_is_ring E) (ok_amounts E k st) (ok_meets E k) (ok_ring E k st)
end
end Lw
namespace Lw
open PySem PySem.Spec PyProof.Rows L2 Ls
def d_law : He.DefD := ⟨("law", none), "law", "law", defArgs s_law, defBody s_law, defScope s_law, [], []⟩
def d__law_begin : He.DefD := ⟨("_law_begin", none), "_law_begin", "_law_begin", defArgs s__law_begin, defBody s__law_begin, defScope s__law_begin, [], []⟩
def d__law_ties : He.DefD := ⟨("_law_ties", none), "_law_ties", "_law_ties", defArgs s__law_ties, defBody s__law_ties, defScope s__law_ties, [], []⟩
def d__law_of : He.DefD := ⟨("_law_of", none), "_law_of", "_law_of", defArgs s__law_of, defBody s__law_of, defScope s__law_of, [], []⟩
def d__law_pick : He.DefD := ⟨("_law_pick", none), "_law_pick", "_law_pick", defArgs s__law_pick, defBody s__law_pick, defScope s__law_pick, [], []⟩
def d_amounts : He.DefD := ⟨("amounts", none), "amounts", "amounts", defArgs s_amounts, defBody s_amounts, defScope s_amounts, [], [("most", .int 99999)]⟩
def d_ring : He.DefD := ⟨("ring", none), "ring", "ring", defArgs s_ring, defBody s_ring, defScope s_ring, [], [("most", .int 99999)]⟩
def d_meets : He.DefD := ⟨("meets", none), "meets", "meets", defArgs s_meets, defBody s_meets, defScope s_meets, [], [("most", .int 99999)]⟩
def d__law_is_ring : He.DefD := ⟨("_law_is_ring", none), "_law_is_ring", "_law_is_ring", defArgs s__law_is_ring, defBody s__law_is_ring, defScope s__law_is_ring, [], []⟩
def d__law_same : He.DefD := ⟨("_law_same", none), "_law_same", "_law_same", defArgs s__law_same, defBody s__law_same, defScope s__law_same, [], []⟩
def d__law_meets : He.DefD := ⟨("_law_meets", none), "_law_meets", "_law_meets", defArgs s__law_meets, defBody s__law_meets, defScope s__law_meets, [], []⟩
def d__law_borne : He.DefD := ⟨("_law_borne", none), "_law_borne", "_law_borne", defArgs s__law_borne, defBody s__law_borne, defScope s__law_borne, [], []⟩
def d__law_num : He.DefD := ⟨("_law_num", none), "_law_num", "_law_num", defArgs s__law_num, defBody s__law_num, defScope s__law_num, [], []⟩
def d_look_ties : He.DefD := ⟨("look_ties", none), "look_ties", "look_ties", defArgs s_look_ties, defBody s_look_ties, defScope s_look_ties, [], []⟩
def d_settled : He.DefD := ⟨("settled", none), "settled", "settled", defArgs s_settled, defBody s_settled, defScope s_settled, [], []⟩
def d_pushed : He.DefD := ⟨("pushed", none), "pushed", "pushed", defArgs s_pushed, defBody s_pushed, defScope s_pushed, [], []⟩
def d_bounds_of : He.DefD := ⟨("bounds_of", none), "bounds_of", "bounds_of", defArgs s_bounds_of, defBody s_bounds_of, defScope s_bounds_of, [], []⟩
def fn : List He.DefD := [d_law, d__law_begin, d__law_ties, d__law_of, d__law_pick, d_amounts, d_ring, d_meets, d__law_is_ring, d__law_same, d__law_meets, d__law_borne, d__law_num, d_look_ties, d_settled, d_pushed, d_bounds_of]
def fa : List He.Fa := [.glo "law", .glo "_law_begin", .glo "_law_ties", .glo "_law_of", .glo "_law_pick", .glo "amounts", .glo "ring", .glo "meets", .glo "_law_is_ring", .glo "_law_same", .glo "_law_meets", .glo "_law_borne", .glo "_law_num", .glo "look_ties", .glo "settled", .glo "pushed", .glo "bounds_of", .free "range", .free "len", .free "list", .free "all", .free "any", .free "isinstance", .free "sum", .free "set", .free "tuple", .free "bool", .free "int", .free "str", .free "sorted", .int "MOST_AMOUNT" 99999, .int "MOST_LANES" 6, .int "GREATEST" 1000000000000, .int "LIMIT" 999999]
abbrev R : PySem.W.OpenRow := PySem.W.OpenLaw.row PySem.Challenge.rw_lanescribe_k25_whole_amounts_or_a_ring
abbrev hk : PySem.W.Hook := He.hookD 4 fa fn
def ob (s : PySem.W.SharedT) : He.AlD := He.obsDG 4 fa fn (HandSHeadRun.getT s)
theorem ob_eq (s : PySem.W.SharedT) : ob s = hk.obs s.abs := He.obsDG_eq (HandSHeadRun.getT_eq s)
def loose : List PySem.Str := (["__name__", "ScribeError", "BadSize", "BadTie", "LIMIT", "MOST_AMOUNT", "MOST_LANES", "GREATEST", "look_ties", "bounds_of", "pushed", "settled", "amounts", "ring", "meets", "_law_begin", "_law_pick", "_law_of", "_law_same", "_law_num", "_law_ties", "_law_meets", "_law_is_ring", "_law_borne"] : List PySem.Str)
theorem run (w : World) : HandSHeadRun.RunEq R (PySem.W.view R.prog [26]) hk ob 3000 loose w := by
  intro os
  kernel_rfl
theorem facts {K : PySem.W.Frag} {h : Heap} {mg : Str → Option Value} (X : K.In h) (G : h.Ns mainGlobals mg) (c : He.SaysD fa fn K) : ∃ E : Env K mg, E.a_law = He.ga K "law" := by
  obtain ⟨fd_law, F_law⟩ := c.def_ 0 (d := d_law) rfl
  obtain ⟨fd__law_begin, F__law_begin⟩ := c.def_ 1 (d := d__law_begin) rfl
  obtain ⟨fd__law_ties, F__law_ties⟩ := c.def_ 2 (d := d__law_ties) rfl
  obtain ⟨fd__law_of, F__law_of⟩ := c.def_ 3 (d := d__law_of) rfl
  obtain ⟨fd__law_pick, F__law_pick⟩ := c.def_ 4 (d := d__law_pick) rfl
  obtain ⟨fd_amounts, F_amounts⟩ := c.def_ 5 (d := d_amounts) rfl
  obtain ⟨fd_ring, F_ring⟩ := c.def_ 6 (d := d_ring) rfl
  obtain ⟨fd_meets, F_meets⟩ := c.def_ 7 (d := d_meets) rfl
  obtain ⟨fd__law_is_ring, F__law_is_ring⟩ := c.def_ 8 (d := d__law_is_ring) rfl
  obtain ⟨fd__law_same, F__law_same⟩ := c.def_ 9 (d := d__law_same) rfl
  obtain ⟨fd__law_meets, F__law_meets⟩ := c.def_ 10 (d := d__law_meets) rfl
  obtain ⟨fd__law_borne, F__law_borne⟩ := c.def_ 11 (d := d__law_borne) rfl
  obtain ⟨fd__law_num, F__law_num⟩ := c.def_ 12 (d := d__law_num) rfl
  obtain ⟨fd_look_ties, F_look_ties⟩ := c.def_ 13 (d := d_look_ties) rfl
  obtain ⟨fd_settled, F_settled⟩ := c.def_ 14 (d := d_settled) rfl
  obtain ⟨fd_pushed, F_pushed⟩ := c.def_ 15 (d := d_pushed) rfl
  obtain ⟨fd_bounds_of, F_bounds_of⟩ := c.def_ 16 (d := d_bounds_of) rfl
  refine ⟨{
    a_law := He.ga K "law", fd_law := fd_law, F_law := F_law, g_law := He.glo_ok X G (c.fact 0 (f := .glo "law") rfl)
    a__law_begin := He.ga K "_law_begin", fd__law_begin := fd__law_begin, F__law_begin := F__law_begin, g__law_begin := He.glo_ok X G (c.fact 1 (f := .glo "_law_begin") rfl)
    a__law_ties := He.ga K "_law_ties", fd__law_ties := fd__law_ties, F__law_ties := F__law_ties, g__law_ties := He.glo_ok X G (c.fact 2 (f := .glo "_law_ties") rfl)
    a__law_of := He.ga K "_law_of", fd__law_of := fd__law_of, F__law_of := F__law_of, g__law_of := He.glo_ok X G (c.fact 3 (f := .glo "_law_of") rfl)
    a__law_pick := He.ga K "_law_pick", fd__law_pick := fd__law_pick, F__law_pick := F__law_pick, g__law_pick := He.glo_ok X G (c.fact 4 (f := .glo "_law_pick") rfl)
    a_amounts := He.ga K "amounts", fd_amounts := fd_amounts, F_amounts := F_amounts, g_amounts := He.glo_ok X G (c.fact 5 (f := .glo "amounts") rfl)
    a_ring := He.ga K "ring", fd_ring := fd_ring, F_ring := F_ring, g_ring := He.glo_ok X G (c.fact 6 (f := .glo "ring") rfl)
    a_meets := He.ga K "meets", fd_meets := fd_meets, F_meets := F_meets, g_meets := He.glo_ok X G (c.fact 7 (f := .glo "meets") rfl)
    a__law_is_ring := He.ga K "_law_is_ring", fd__law_is_ring := fd__law_is_ring, F__law_is_ring := F__law_is_ring, g__law_is_ring := He.glo_ok X G (c.fact 8 (f := .glo "_law_is_ring") rfl)
    a__law_same := He.ga K "_law_same", fd__law_same := fd__law_same, F__law_same := F__law_same, g__law_same := He.glo_ok X G (c.fact 9 (f := .glo "_law_same") rfl)
    a__law_meets := He.ga K "_law_meets", fd__law_meets := fd__law_meets, F__law_meets := F__law_meets, g__law_meets := He.glo_ok X G (c.fact 10 (f := .glo "_law_meets") rfl)
    a__law_borne := He.ga K "_law_borne", fd__law_borne := fd__law_borne, F__law_borne := F__law_borne, g__law_borne := He.glo_ok X G (c.fact 11 (f := .glo "_law_borne") rfl)
    a__law_num := He.ga K "_law_num", fd__law_num := fd__law_num, F__law_num := F__law_num, g__law_num := He.glo_ok X G (c.fact 12 (f := .glo "_law_num") rfl)
    a_look_ties := He.ga K "look_ties", fd_look_ties := fd_look_ties, F_look_ties := F_look_ties, g_look_ties := He.glo_ok X G (c.fact 13 (f := .glo "look_ties") rfl)
    a_settled := He.ga K "settled", fd_settled := fd_settled, F_settled := F_settled, g_settled := He.glo_ok X G (c.fact 14 (f := .glo "settled") rfl)
    a_pushed := He.ga K "pushed", fd_pushed := fd_pushed, F_pushed := F_pushed, g_pushed := He.glo_ok X G (c.fact 15 (f := .glo "pushed") rfl)
    a_bounds_of := He.ga K "bounds_of", fd_bounds_of := fd_bounds_of, F_bounds_of := F_bounds_of, g_bounds_of := He.glo_ok X G (c.fact 16 (f := .glo "bounds_of") rfl)
    n_range := He.free_ok X G (c.fact 17 (f := .free "range") rfl)
    n_len := He.free_ok X G (c.fact 18 (f := .free "len") rfl)
    n_list := He.free_ok X G (c.fact 19 (f := .free "list") rfl)
    n_all := He.free_ok X G (c.fact 20 (f := .free "all") rfl)
    n_any := He.free_ok X G (c.fact 21 (f := .free "any") rfl)
    n_isinstance := He.free_ok X G (c.fact 22 (f := .free "isinstance") rfl)
    n_sum := He.free_ok X G (c.fact 23 (f := .free "sum") rfl)
    n_set := He.free_ok X G (c.fact 24 (f := .free "set") rfl)
    n_tuple := He.free_ok X G (c.fact 25 (f := .free "tuple") rfl)
    n_bool := He.free_ok X G (c.fact 26 (f := .free "bool") rfl)
    n_int := He.free_ok X G (c.fact 27 (f := .free "int") rfl)
    n_str := He.free_ok X G (c.fact 28 (f := .free "str") rfl)
    n_sorted := He.free_ok X G (c.fact 29 (f := .free "sorted") rfl)
    c_MOST_AMOUNT := by
      obtain ⟨t, e⟩ := He.int_ok X G (c.fact 30 (f := .int "MOST_AMOUNT" 99999) rfl)
      exact ⟨_, e, ⟨t, rfl⟩⟩
    c_MOST_LANES := by
      obtain ⟨t, e⟩ := He.int_ok X G (c.fact 31 (f := .int "MOST_LANES" 6) rfl)
      exact ⟨_, e, ⟨t, rfl⟩⟩
    c_GREATEST := by
      obtain ⟨t, e⟩ := He.int_ok X G (c.fact 32 (f := .int "GREATEST" 1000000000000) rfl)
      exact ⟨_, e, ⟨t, rfl⟩⟩
    c_LIMIT := by
      obtain ⟨t, e⟩ := He.int_ok X G (c.fact 33 (f := .int "LIMIT" 999999) rfl)
      exact ⟨_, e, ⟨t, rfl⟩⟩
    }, rfl⟩
end Lw
open PySem PySem.W PySem.Calls PyProof.Rows
theorem PySem.Challenge.cw_lanescribe_k25_whole_amounts_or_a_ring_holds : PySem.Challenge.rw_lanescribe_k25_whole_amounts_or_a_ring.Holds := by
  w_on; o_law
  refine HandSHeadRun.head_any (r := OpenLaw.row PySem.Challenge.rw_lanescribe_k25_whole_amounts_or_a_ring) (q := view (OpenLaw.row PySem.Challenge.rw_lanescribe_k25_whole_amounts_or_a_ring).prog [26]) (H := Lw.hk) (ob := Lw.ob) (M := 3000) (loose := Lw.loose) (d := HandSHeadRun.topDef (OpenLaw.row PySem.Challenge.rw_lanescribe_k25_whole_amounts_or_a_ring).prog 26) (kwd := []) Lw.ob_eq
    (by kernel_rfl) (fun s => by kernel_rfl) Lw.run (by kernel_rfl) (by kernel_rfl) (by kernel_rfl) (by rfl) (by first | assumption | decide +kernel) (by decide +kernel) ⟨rfl, rfl, rfl, rfl, rfl, by decide +kernel⟩ ?hw ?hc
  case hw => w_witness2
  case hc =>
    refine L2.walk_ofE (l := PySem.Challenge.rw_lanescribe_k25_whole_amounts_or_a_ring) (n := 63) (k := 4) (x := "_law_script") (CX := L2.CX0) rfl (by decide) (by kernel_rfl) ⟨rfl, by decide, by decide⟩ ?F (fun _ _ _ _ z => z)
    intro w mg fa h Y G hmg0
    obtain ⟨K, KX, c⟩ := Y
    have hmg : mg ("law" : PySem.Str) = some (.ref fa) := by
      have e : (HandSHeadRun.topDef (OpenLaw.row PySem.Challenge.rw_lanescribe_k25_whole_amounts_or_a_ring).prog 26).name = ("law" : PySem.Str) := by kernel_rfl
      rw [← e]
      exact hmg0
    obtain ⟨E, ea⟩ := Lw.facts KX G c
    have e := hmg.symm.trans E.g_law
    cases e
    have b := L2.FunD.bindsA (ps := ["_law_script"]) E.F_law fun _ _ _ _ _ _ us hl => match us, hl with | [_], _ => rfl
    exact ⟨K, E.fd_law, Lw.spLaw K, KX, fun s v => b s [v] rfl, fun H a ns hl _ hS => ⟨a, ns, rfl, hS, hl, fun _ => rfl⟩, fun base _ _ => Lw.law_ok E⟩
