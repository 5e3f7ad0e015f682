import PyProof.Rows.All
import Wide.All
import OpenK.AllK
import Wide.FinOn
import PySem.Challenge.RW_postmead_k10_plots_and_ties
import HandS.ForMost
import HandS.ForExc
import HandS.IsInst
import HandS.Deep
import HandS.Codes
import HandS.SortRule
import HandS.Wide
import HandS.ExcIs
import HandS.TryOnly
import HandS.TupLe
set_option Elab.async false
set_option linter.all false
set_option maxRecDepth 100000
set_option maxHeartbeats 4000000
/-! ### readings, step by step: one lemma a construct, for the first row of a goal -/
namespace Pm
open PySem PySem.Spec PyProof.Rows L2
theorem size_ok {n : Nat} (h : n ≤ 16777216) : n ≤ sizeLine := by rw [sizeLine_eq]; exact h
theorem size_lt {n : Nat} (h : n < 16777216) : n < sizeLine := by rw [sizeLine_eq]; exact h
/-! the rules over the written part K, by its name -/
section
variable {X : Cx} {K : PySem.W.Frag}
theorem ix_listK (e : X.K = K := by rfl) : IxR X (rIxL K) := e ▸ ix_list
theorem ix_tupK (e : X.K = K := by rfl) : IxR X (rIxT K) := e ▸ ix_tup
theorem sl_listK (e : X.K = K := by rfl) : SlR X (rSlL K) := e ▸ sl_list
theorem op_eqDK (hu : X.A.units + 64 < cLine) (e : X.K = K := by rfl) : OpR X (compareOp .Eq) (rEqD K) := e ▸ op_eqD hu
theorem op_neDK (hu : X.A.units + 64 < cLine) (e : X.K = K := by rfl) : OpR X (compareOp .NotEq) (rNeD K) := e ▸ op_neD hu
theorem op_inDK (hu : X.A.units + 65 < cLine) (e : X.K = K := by rfl) : OpR X (compareOp .In) (rInD K) := e ▸ op_inD hu
theorem op_notInDK (hu : X.A.units + 65 < cLine) (e : X.K = K := by rfl) : OpR X (compareOp .NotIn) (rNotInD K) := e ▸ op_notInD hu
theorem op_in_seqK (e : X.K = K := by rfl) : OpR X (compareOp .In) (rIn K false) := e ▸ op_in_seq
theorem op_notIn_seqK (e : X.K = K := by rfl) : OpR X (compareOp .NotIn) (rIn K true) := e ▸ op_notIn_seq
theorem cr_sumK (hc : X.calm = true) (e : X.K = K := by rfl) : CallR X (.builtin "sum") (rSum K) := e ▸ cr_sum hc
theorem cr_sortK (e : X.K = K := by rfl) : CallR X (.builtin "sorted") (rSortedPO K) := e ▸ cr_sortedPO
theorem call_isK (e : X.K = K := by rfl) : CallR X (.builtin "isinstance") (rIsi K) := e ▸ call_isi
theorem k_bm {ex : Expr} {T : String} {r : V → List V → Hp → VK → Prop} {to : TE} {t : TA} (h : PE X ex (tBM X.K T r to t)) (e : X.K = K := by rfl) : PE X ex (tBM K T r to t) := e ▸ h
theorem k_bm0 {ex : Expr} {T : String} {r : V → List V → Hp → VK → Prop} {to : TE} (h : PE X ex (tBM0 X.K T r to)) (e : X.K = K := by rfl) : PE X ex (tBM0 K T r to) := e ▸ h
theorem k_il {tg ex : Expr} {te : TE} (h : PI X tg ex (iList X.K te)) (e : X.K = K := by rfl) : PI X tg ex (iList K te) := e ▸ h
theorem k_it {tg ex : Expr} {te : TE} (h : PI X tg ex (iTup X.K te)) (e : X.K = K := by rfl) : PI X tg ex (iTup K te) := e ▸ h
theorem k_gt {tg : Expr} {n : Nat} {t : TGs} (h : PG X tg (gTup X.K n t)) (e : X.K = K := by rfl) : PG X tg (gTup K n t) := e ▸ h
end
/-- a op1 b op2 c op3 d -/
def tChain3 (r r' r'' : R2) (ta tb tc td : TE) : TE := fun σ H Q => ta σ H fun x H1 => tb σ H1 fun y H2 => r x y H2 fun z H3 => ∃ k, z = .bl k ∧
  (if k = true then tc σ H3 fun w' H4 => r' y w' H4 fun z' H5 => ∃ k', z' = .bl k' ∧ (if k' = true then td σ H5 fun v' H6 => r'' w' v' H6 Q else Q (.bl false) H5) else Q (.bl false) H3)
section
variable {X : Cx} {a b c d : Expr} {ta tb tc td : TE} {pos : Pos}
theorem pt_chain3 {op op' op'' : CmpOp} {r r' r'' : R2} (ho : OpR X (compareOp op) r) (ho' : OpR X (compareOp op') r') (ho'' : OpR X (compareOp op'') r'') (ha : PE X a ta) (hb : PE X b tb) (hc : PE X c tc) (hd : PE X d td)
    (hm : lastMarks [op, op', op''] [b, c, d] = false := by with_unfolding_all rfl) : PT X (.Compare a [op, op', op''] [b, c, d] pos) (tTest (tChain3 r r' r'' ta tb tc td)) := by
  refine ⟨fun pins s σ H Q I h => ?_⟩
  refine isTrue_chain (thn (ha.run pins s σ H _ I h) fun v s1 ⟨x, H1, I1, r1, q1⟩ => test_link (thn (hb.run pins s1 σ H1 _ I1 q1) fun u s2 ⟨y, H2, I2, r2, q2⟩ =>
    thn (ho pins s2 σ H2 x y v u _ I2 r1 r2 q2) fun e s3 ⟨z, H3, I3, r3, k, e', q3⟩ => ?_)) hm
  subst e'
  cases r3
  refine wpAny_truthy_bool ?_
  cases k with
  | false =>
    obtain ⟨k', e', q'⟩ := q3
    cases e'
    exact ite_ff ⟨H3, I3, q'⟩
  | true =>
    refine ite_tt (test_link (thn (hc.run pins s3 σ H3 _ I3 q3) fun w' s4 ⟨z', H4, I4, r4, q4⟩ => thn (ho' pins s4 σ H4 y z' u w' _ I4 r2 r4 q4) fun d' s5 ⟨z2, H5, I5, r5, k2, e2, q5⟩ => ?_))
    subst e2
    cases r5
    refine wpAny_truthy_bool ?_
    cases k2 with
    | false =>
      obtain ⟨k', e', q'⟩ := q5
      cases e'
      exact ite_ff ⟨H5, I5, q'⟩
    | true =>
      refine ite_tt (test_last (thn (hd.run pins s5 σ H5 _ I5 q5) fun v' s6 ⟨z6, H6, I6, r6, q6⟩ => thn (ho'' pins s6 σ H6 z' z6 w' v' _ I6 r4 r6 q6) fun d7 s7 ⟨z7, H7, I7, r7, k7, e7, q7⟩ => ?_))
      subst e7
      cases r7
      exact wpAny_truthy_bool ⟨H7, I7, q7⟩
end
/-! the rules of some calls, by a name -/
def rAbs : List V → Hp → VK → Prop := fun xs H Q => ∃ i, xs = [.int i] ∧ Q (.int (if i < 0 then -i else i)) H
theorem c_abs {X : Cx} : CallR X (.builtin "abs") rAbs := call_abs
def rMax2 : List V → Hp → VK → Prop := fun xs H Q => ∃ i j, xs = [.int i, .int j] ∧ Q (.int (if j > i then j else i)) H
theorem c_max {X : Cx} (hc : X.calm = true) : CallR X (.builtin "max") rMax2 := call_max2 hc
def rMin2 : List V → Hp → VK → Prop := fun xs H Q => ∃ i j, xs = [.int i, .int j] ∧ Q (.int (if j < i then j else i)) H
theorem c_min {X : Cx} (hc : X.calm = true) : CallR X (.builtin "min") rMin2 := call_min2 hc
def rLen (K : PySem.W.Frag) : List V → Hp → VK → Prop := fun xs H Q => ∃ p ys, xs = [.ref p] ∧ (SqL K H p ys ∨ SqT K H p ys) ∧ Q (.int ys.length) H
theorem c_len {X : Cx} {K : PySem.W.Frag} (e : X.K = K := by rfl) : CallR X (.builtin "len") (rLen K) := e ▸ call_len_seq
def rLenS : List V → Hp → VK → Prop := fun xs H Q => ∃ z : Str, xs = [.str z] ∧ z.length ≤ sizeLine ∧ Q (.int z.length) H
theorem c_lenS {X : Cx} : CallR X (.builtin "len") rLenS := call_len_str
def rInt1 : List V → Hp → VK → Prop := fun xs H Q => (∃ i, xs = [.int i] ∧ Q (.int i) H) ∨ ∃ k, xs = [.bl k] ∧ Q (.int (if k then 1 else 0)) H
theorem c_int1 {X : Cx} : CallR X (.type "int") rInt1 := call_int1
def rListOf (K : PySem.W.Frag) : List V → Hp → VK → Prop := fun xs H Q => ∃ p ys, xs = [.ref p] ∧ (SqL K H p ys ∨ SqT K H p ys) ∧ ∀ l, H l = none → Q (.ref l) (upd H l (.lst ys))
theorem c_listOf {X : Cx} {K : PySem.W.Frag} (e : X.K = K := by rfl) : CallR X (.type "list") (rListOf K) := e ▸ call_list_of
def rTupOf (K : PySem.W.Frag) : List V → Hp → VK → Prop := fun xs H Q => ∃ p ys, xs = [.ref p] ∧ ((SqL K H p ys ∧ ∀ l, H l = none → Q (.ref l) (upd H l (.tup ys))) ∨ (SqT K H p ys ∧ Q (.ref p) H))
theorem c_tupOf {X : Cx} {K : PySem.W.Frag} (e : X.K = K := by rfl) : CallR X (.type "tuple") (rTupOf K) := e ▸ call_tuple_of
def rCatS : R2 := fun x y H Q => ∃ i j, x = .str i ∧ y = .str j ∧ i.length + j.length ≤ sizeLine ∧ Q (.str (i ++ j)) H
theorem o_catS {X : Cx} : OpR X (binaryOp .Add) rCatS := op_add_str
def TupK (Q : VK) : List V → Hp → Prop := fun xs H1 => xs.length ≤ sizeLine ∧ ∀ p, H1 p = none → Q (.ref p) (upd H1 p (.tup xs))
def LstK (Q : VK) : List V → Hp → Prop := fun xs H1 => xs.length ≤ sizeLine ∧ ∀ p, H1 p = none → Q (.ref p) (upd H1 p (.lst xs))
/-- isinstance(e, c) of the exception at a that an except suite holds (its class cls, its dict d) -/
def rIsX (K : PySem.W.Frag) (cls : Value) (d : Option Addr) (a : Addr) : List V → Hp → VK → Prop := fun xs H Q => ∃ (D : Addr) (c : V) (cv : Value) (b : Bool), cls = .ref D ∧ d = none ∧ ExcC K D ∧ xs = [.ref a, c] ∧ (∀ u, RelV c u → u = cv) ∧ PySem.W.kitOne K (.ref D) cv = some b ∧ Q (.bl b) H
theorem c_isX {X : Cx} {K : PySem.W.Frag} {a : Addr} {oe : Obj} {cls : Value} {d : Option Addr} {pn : List (Addr × Obj)} (hz : Zc cls d oe) (hf : ∃ vs, oe.data = .fields vs) (e : X.K = K := by rfl) : CallR (X.suite a ((a, oe) :: pn)) (.builtin "isinstance") (rIsX K cls d a) := by
  subst e
  intro pins s σ H xs us Q I r h
  obtain ⟨D, c, cv, b, rfl, rfl, C, ex, hc, k, q⟩ := h
  exact call_isE C hz hf pins s σ H xs us Q I r ⟨c, cv, b, ex, hc, k, q⟩
/-- what is asked of a for's body, once what is walked is there -/
def ForB (g : TG) (t : TS) (nx : L2.St → Hp → Prop) (rt : VK) (σ : L2.St) : It → Hp → Prop := fun J H1 => ∃ W : Nat → Nat → L2.St → Hp → Prop, (∃ m, W 0 m σ H1) ∧ ∀ i m σ H, W i m σ H →
  (J.stop i H ∧ nx σ H) ∨ (J.go i H ∧ ∃ N : L2.St → Hp → Prop, (∀ σ' H', N σ' H' → ∃ m', m' < m ∧ W (i + 1) m' σ' H') ∧ ∀ x H', J.yld i H x H' → g x σ H' fun σ2 H2 => t ⟨N, rt, nx, N⟩ σ2 H2)
def WhB (t : TS) (nx : L2.St → Hp → Prop) (rt : VK) (Pv : Nat → L2.St → Hp → Prop) (m : Nat) (σ : L2.St) : Bool → Hp → Prop := fun b H1 => if b = true then ∃ N : L2.St → Hp → Prop, (∀ σ' H', N σ' H' → ∃ m', m' < m ∧ Pv m' σ' H') ∧ t ⟨N, rt, nx, N⟩ σ H1 else nx σ H1
def ParK (i j : Nat) (nx : L2.St → Hp → Prop) (σ : L2.St) : List V → Hp → Prop := fun vs H1 => ∃ v w, vs = [v, w] ∧ nx ((σ.set i (some v)).set j (some w)) H1
def PartK (O : Option Int → Hp → Prop) : VK := fun x H1 => ∃ i, x = .int i ∧ O (some i) H1
/-! dicts with keys that are tuples -/
def DPK (nx : L2.St → Hp → Prop) (σ : L2.St) (v x : V) : VK := fun y H3 => ∃ a H4, x = .ref a ∧ DPut H3 a y v H4 ∧ nx σ H4
def DInK (y : V) (Q : VK) : VK := fun x H2 => ∃ a o, x = .ref a ∧ DGet H2 a y o ∧ Q (.bl o.isSome) H2
def DNotInK (y : V) (Q : VK) : VK := fun x H2 => ∃ a o, x = .ref a ∧ DGet H2 a y o ∧ Q (.bl (!o.isSome)) H2
def DGK (x : V) (Q : VK) : VK := fun y H2 => ∃ a v, x = .ref a ∧ DGet H2 a y (some v) ∧ Q v H2
def RdL (K : PySem.W.Frag) (R : It → Hp → Prop) : VK := fun x H1 => ∃ a, x = .ref a ∧ (∃ xs, SqL K H1 a xs) ∧ R (Itl K a) H1
def RdT (K : PySem.W.Frag) (R : It → Hp → Prop) : VK := fun x H1 => ∃ a, x = .ref a ∧ (∃ xs, SqT K H1 a xs) ∧ R (Itt K a) H1
def Rg1 (R : It → Hp → Prop) : List V → Hp → Prop := fun vs H1 => ∃ j : Int, vs = [.int j] ∧ -(2 ^ 62) ≤ j ∧ j < 2 ^ 62 ∧ R (Itr 0 j.toNat) H1
def Rg2 (R : It → Hp → Prop) : List V → Hp → Prop := fun vs H1 => ∃ i j : Int, vs = [.int i, .int j] ∧ (-(2 ^ 62) ≤ i ∧ i < 2 ^ 62 ∧ -(2 ^ 62) ≤ j ∧ j < 2 ^ 62) ∧ R (Itr i (j - i).toNat) H1
/-- what is asked of a list comprehension, once what is walked is there -/
def LcB (g : TG) (tt : TT) (te : TE) (vs : List Nat) (σ : L2.St) (Q : VK) : It → Hp → Prop := fun J H1 => ∀ D, H1 D = none → ∃ W : Nat → Nat → Hp → Prop, (∃ m, W 0 m (upd H1 D (.lst []))) ∧ ∀ i m H, W i m H →
  (J.stop i H ∧ Q (.ref D) H) ∨ (J.go i H ∧ ∃ Nx : Hp → Prop, (∀ H', Nx H' → ∃ m', m' < m ∧ W (i + 1) m' H') ∧ ∀ x H', J.yld i H x H' → g x (wipe σ vs) H' fun σ2 H2 => wipe σ2 vs = wipe σ vs ∧ tt σ2 H2 fun b H3 =>
    if b = true then te σ2 H3 fun y H4 => ∃ acc, H4 D = some (.lst acc) ∧ acc.length < sizeLine ∧ Nx (upd H4 D (.lst (acc ++ [y]))) else Nx H3)
/-- a turn of a comprehension: the item put behind the list at D -/
def LcPut (D : Addr) (Nx : Hp → Prop) : VK := fun y H4 => ∃ acc, H4 D = some (.lst acc) ∧ acc.length < sizeLine ∧ Nx (upd H4 D (.lst (acc ++ [y])))
def LcTurn (tt : TT) (te : TE) (vs : List Nat) (σ : L2.St) (D : Addr) (Nx : Hp → Prop) : L2.St → Hp → Prop := fun σ2 H2 => wipe σ2 vs = wipe σ vs ∧ tt σ2 H2 fun b H3 => if b = true then te σ2 H3 (LcPut D Nx) else Nx H3
section
variable {nx bk ct : L2.St → Hp → Prop} {rt : VK} {σ : L2.St} {H : Hp} {t u : TS} {te ta tb tc : TE} {g : TG} {Q : VK} {B : Bool → Hp → Prop} {c c' : TT} {L : List V → Hp → Prop}
theorem w_seq (h : t ⟨u ⟨nx, rt, bk, ct⟩, rt, bk, ct⟩ σ H) : tSeq t u ⟨nx, rt, bk, ct⟩ σ H := h
theorem w_cut (Mid : L2.St → Hp → Prop) (h : t ⟨Mid, rt, bk, ct⟩ σ H) (h2 : ∀ σ' H', Mid σ' H' → u ⟨nx, rt, bk, ct⟩ σ' H') : C8.tCut t u ⟨nx, rt, bk, ct⟩ σ H := ⟨Mid, h, h2⟩
theorem w_asg (h : te σ H fun x H1 => g x σ H1 nx) : tAsg te g ⟨nx, rt, bk, ct⟩ σ H := h
theorem w_drop (h : te σ H fun _ H1 => nx σ H1) : tDrop te ⟨nx, rt, bk, ct⟩ σ H := h
theorem w_ret (h : te σ H rt) : tRet te ⟨nx, rt, bk, ct⟩ σ H := h
theorem w_retN (h : rt .non H) : tRetN ⟨nx, rt, bk, ct⟩ σ H := h
theorem w_next (h : nx σ H) : tNext ⟨nx, rt, bk, ct⟩ σ H := h
theorem w_brk (h : bk σ H) : tBreak ⟨nx, rt, bk, ct⟩ σ H := h
theorem w_cont (h : ct σ H) : tCont ⟨nx, rt, bk, ct⟩ σ H := h
theorem w_if (h : c σ H fun b H1 => if b = true then t ⟨nx, rt, bk, ct⟩ σ H1 else u ⟨nx, rt, bk, ct⟩ σ H1) : tIfS c t u ⟨nx, rt, bk, ct⟩ σ H := h
theorem w_par {i j : Nat} {t : TA} (h : t σ H (ParK i j nx σ)) : tPar i j t ⟨nx, rt, bk, ct⟩ σ H := h
theorem w_par2 {v w : V} {i j : Nat} (h : nx ((σ.set i (some v)).set j (some w)) H) : ParK i j nx σ [v, w] H := ⟨v, w, rfl, h⟩
theorem w_gname {v : V} {i : Nat} {R : L2.St → Hp → Prop} (h : R (σ.set i (some v)) H) : gName i v σ H R := h
theorem w_gtup {K : PySem.W.Frag} {n : Nat} {t : TGs} {a : Addr} {xs : List V} {R : L2.St → Hp → Prop} (hl : SqT K H a xs) (e : xs.length = n) (h : t xs σ H R) : gTup K n t (.ref a) σ H R := ⟨a, xs, rfl, hl, e, h⟩
theorem w_gcons {t : TG} {u : TGs} {v : V} {r : List V} {R : L2.St → Hp → Prop} (h : t v σ H fun σ' H' => u r σ' H' R) : gCons t u (v :: r) σ H R := ⟨v, r, rfl, h⟩
theorem w_gnil {R : L2.St → Hp → Prop} (h : R σ H) : gNil [] σ H R := ⟨rfl, h⟩
theorem w_var {i : Nat} {v : V} (e : σ[i]? = some (some v)) (h : Q v H) : tVar i σ H Q := ⟨v, e, h⟩
theorem w_c {v : V} (h : Q v H) : tC v σ H Q := h
theorem w_op {r : R2} (h : ta σ H fun x H1 => tb σ H1 fun y H2 => r x y H2 Q) : tOp r ta tb σ H Q := h
theorem w_un {r : V → Hp → VK → Prop} (h : ta σ H fun x H1 => r x H1 Q) : tUn r ta σ H Q := h
theorem w_i0 {k : Int → Int → V} {i j : Int} (h : Q (k i j) H) : rI0 k (.int i) (.int j) H Q := ⟨i, j, rfl, rfl, h⟩
theorem w_i {C : Int → Int → Prop} {k : Int → Int → V} {i j : Int} (hc : C i j) (h : Q (k i j) H) : rI C k (.int i) (.int j) H Q := ⟨i, j, rfl, rfl, hc, h⟩
theorem w_u {k : Int → V} {i : Int} (h : Q (k i) H) : rU k (.int i) H Q := ⟨i, rfl, h⟩
theorem w_eqi {i j : Int} (h : Q (.bl (decide (i = j))) H) : rEq (.int i) (.int j) H Q := by
  refine ⟨rfl, ?_⟩
  have e : decide (V.int i = V.int j) = decide (i = j) := by simp
  rw [e]; exact h
theorem w_nei {i j : Int} (h : Q (.bl (!decide (i = j))) H) : rNe (.int i) (.int j) H Q := by
  refine ⟨rfl, ?_⟩
  have e : decide (V.int i = V.int j) = decide (i = j) := by simp
  rw [e]; exact h
theorem w_eqb {i j : Bool} (h : Q (.bl (i == j)) H) : rEq (.bl i) (.bl j) H Q := by
  refine ⟨rfl, ?_⟩
  have e : decide (V.bl i = V.bl j) = (i == j) := by cases i <;> cases j <;> rfl
  rw [e]; exact h
theorem w_neb {i j : Bool} (h : Q (.bl (!(i == j))) H) : rNe (.bl i) (.bl j) H Q := by
  refine ⟨rfl, ?_⟩
  have e : decide (V.bl i = V.bl j) = (i == j) := by cases i <;> cases j <;> rfl
  rw [e]; exact h
theorem w_eqs {i j : Str} (h : Q (.bl (decide (i = j))) H) : rEq (.str i) (.str j) H Q := by
  refine ⟨rfl, ?_⟩
  have e : decide (V.str i = V.str j) = decide (i = j) := by simp
  rw [e]; exact h
theorem w_cb {r : List V → Hp → VK → Prop} {t : TA} (h : t σ H fun vs H1 => r vs H1 Q) : tCB r t σ H Q := h
theorem w_nil (h : L [] H) : tNil σ H L := h
theorem w_cons {t : TA} (h : ta σ H fun x H1 => t σ H1 fun xs H2 => L (x :: xs) H2) : tCons ta t σ H L := h
theorem w_call {sp : Sp} {E : XK} {t : TA} (h : t σ H fun vs H1 => sp (vs ++ []) H1 Q E) : tCall sp [] E t σ H Q := h
theorem w_tup {t : TA} (h : t σ H (TupK Q)) : tTup t σ H Q := h
theorem w_lst {t : TA} (h : t σ H (LstK Q)) : tLst t σ H Q := h
theorem w_newT {xs : List V} (h : ∀ p, H p = none → Q (.ref p) (upd H p (.tup xs))) (hz : xs.length ≤ sizeLine := by exact Pm.size_ok (Nat.le_of_ble_eq_true rfl)) : TupK Q xs H := ⟨hz, h⟩
theorem w_newL {xs : List V} (h : ∀ p, H p = none → Q (.ref p) (upd H p (.lst xs))) (hz : xs.length ≤ sizeLine := by exact Pm.size_ok (Nat.le_of_ble_eq_true rfl)) : LstK Q xs H := ⟨hz, h⟩
theorem w_test (h : te σ H fun x H' => ∃ k, x = .bl k ∧ B k H') : tTest te σ H B := h
theorem w_b (h : te σ H fun x H' => ∃ k, x = .bl k ∧ B k H') : tB te σ H B := h
theorem w_bl {k : Bool} (h : B k H) : ∃ k', V.bl k = .bl k' ∧ B k' H := ⟨k, rfl, h⟩
theorem w_and (h : c σ H fun b H1 => if b = true then c' σ H1 B else B false H1) : tAnd c c' σ H B := h
theorem w_or (h : c σ H fun b H1 => if b = true then B true H1 else c' σ H1 B) : tOr c c' σ H B := h
theorem w_not (h : c σ H fun b H1 => B (!b) H1) : tNot c σ H B := h
theorem w_andV (h : ta σ H fun x H1 => ∃ k, x = .bl k ∧ if k = true then tb σ H1 Q else Q (.bl false) H1) : tAndV ta tb σ H Q := h
theorem w_orV (h : ta σ H fun x H1 => ∃ k, x = .bl k ∧ if k = true then Q (.bl true) H1 else tb σ H1 Q) : tOrV ta tb σ H Q := h
theorem w_notV (h : ta σ H fun x H1 => ∃ k, x = .bl k ∧ Q (.bl (!k)) H1) : tNotV ta σ H Q := h
theorem w_ifE (h : c σ H fun b H1 => if b = true then ta σ H1 Q else tb σ H1 Q) : tIf c ta tb σ H Q := h
theorem w_chain {r r' : R2} (h : ta σ H fun x H1 => tb σ H1 fun y H2 => r x y H2 fun z H3 => ∃ k, z = .bl k ∧ (if k = true then tc σ H3 fun w H4 => r' y w H4 Q else Q (.bl false) H3)) : tChain r r' ta tb tc σ H Q := h
theorem w_chain3 {r r' r'' : R2} {td : TE} (h : ta σ H fun x H1 => tb σ H1 fun y H2 => r x y H2 fun z H3 => ∃ k, z = .bl k ∧
  (if k = true then tc σ H3 fun w' H4 => r' y w' H4 fun z' H5 => ∃ k', z' = .bl k' ∧ (if k' = true then td σ H5 fun v' H6 => r'' w' v' H6 Q else Q (.bl false) H5) else Q (.bl false) H3)) : tChain3 r r' r'' ta tb tc td σ H Q := h
theorem w_blx {k : Bool} {R : Bool → Prop} (h : R k) : ∃ k', V.bl k = .bl k' ∧ R k' := ⟨k, rfl, h⟩
theorem w_iteT {A C : Prop} (h : A) : if true = true then A else C := by rw [if_pos rfl]; exact h
theorem w_iteF {A C : Prop} (h : C) : if false = true then A else C := by rw [if_neg Bool.false_ne_true]; exact h
theorem w_iteN1 {A C : Prop} (h : C) : if (!true) = true then A else C := w_iteF h
theorem w_iteN0 {A C : Prop} (h : A) : if (!false) = true then A else C := w_iteT h
theorem w_ite {p A C : Prop} [Decidable p] (h1 : p → A) (h2 : ¬ p → C) : if decide p = true then A else C := by
  by_cases h : p
  · rw [decide_eq_true h, if_pos rfl]; exact h1 h
  · rw [decide_eq_false h, if_neg Bool.false_ne_true]; exact h2 h
theorem w_iteN {p A C : Prop} [Decidable p] (h1 : ¬ p → A) (h2 : p → C) : if (!decide p) = true then A else C := by
  by_cases h : p
  · rw [decide_eq_true h]; exact w_iteF (h2 h)
  · rw [decide_eq_false h]; exact w_iteT (h1 h)
theorem w_abs {i : Int} (h : Q (.int (if i < 0 then -i else i)) H) : rAbs [.int i] H Q := ⟨i, rfl, h⟩
theorem w_max {i j : Int} (h : Q (.int (max i j)) H) : rMax2 [V.int i, V.int j] H Q := by
  refine ⟨i, j, rfl, ?_⟩
  have e : (if j > i then j else i) = max i j := by rw [Int.max_def]; split <;> split <;> omega
  rw [e]; exact h
theorem w_min {i j : Int} (h : Q (.int (min i j)) H) : rMin2 [V.int i, V.int j] H Q := by
  refine ⟨i, j, rfl, ?_⟩
  have e : (if j < i then j else i) = min i j := by rw [Int.min_def]; split <;> split <;> omega
  rw [e]; exact h
theorem w_mul1 {i j : Int} (h : -(2 ^ 64) < i ∧ i < 2 ^ 64) : CMul i j := .inl h
theorem w_mul2 {i j : Int} (h : -(2 ^ 64) < j ∧ j < 2 ^ 64) : CMul i j := .inr h
theorem w_ixL {K : PySem.W.Frag} {p : Addr} {xs : List V} {i : Int} {v : V} (hl : SqL K H p xs) (e : atI xs i = some v) (h : Q v H) : rIxL K (.ref p) (.int i) H Q := ⟨p, xs, i, v, rfl, rfl, hl, e, h⟩
theorem w_ixT {K : PySem.W.Frag} {p : Addr} {xs : List V} {i : Int} {v : V} (hl : SqT K H p xs) (e : atI xs i = some v) (h : Q v H) : rIxT K (.ref p) (.int i) H Q := ⟨p, xs, i, v, rfl, rfl, hl, e, h⟩
theorem w_bm {K : PySem.W.Frag} {T : String} {r : V → List V → Hp → VK → Prop} {t : TA} (h : ta σ H fun x H1 => tyV K T x H1 ∧ t σ H1 fun xs H2 => r x xs H2 Q) : tBM K T r ta t σ H Q := h
theorem w_bm0 {K : PySem.W.Frag} {T : String} {r : V → List V → Hp → VK → Prop} (h : ta σ H fun x H1 => tyV K T x H1 ∧ r x [] H1 Q) : tBM0 K T r ta σ H Q := h
theorem w_append {l : Addr} {xs : List V} {y : V} (hl : H l = some (.lst xs)) (hz : xs.length < sizeLine) (h : Q .non (upd H l (.lst (xs ++ [y])))) : rAppend (.ref l) [y] H Q := ⟨l, xs, y, rfl, rfl, hl, hz, h⟩
theorem w_len {K : PySem.W.Frag} {p : Addr} {ys : List V} (hl : SqL K H p ys ∨ SqT K H p ys) (h : Q (.int ys.length) H) : rLen K [V.ref p] H Q := ⟨p, ys, rfl, hl, h⟩
theorem w_lenL {K : PySem.W.Frag} {p : Addr} {ys : List V} (hl : SqL K H p ys) (h : Q (.int ys.length) H) : rLen K [V.ref p] H Q := ⟨p, ys, rfl, .inl hl, h⟩
theorem w_lenT {K : PySem.W.Frag} {p : Addr} {ys : List V} (hl : SqT K H p ys) (h : Q (.int ys.length) H) : rLen K [V.ref p] H Q := ⟨p, ys, rfl, .inr hl, h⟩
theorem w_lenS {z : Str} (hl : z.length ≤ sizeLine) (h : Q (.int z.length) H) : rLenS [V.str z] H Q := ⟨z, rfl, hl, h⟩
theorem w_int1 {b : Bool} (h : Q (.int (if b then 1 else 0)) H) : rInt1 [.bl b] H Q := .inr ⟨b, rfl, h⟩
theorem w_listOf {K : PySem.W.Frag} {p : Addr} {ys : List V} (hl : SqL K H p ys) (h : ∀ l, H l = none → Q (.ref l) (upd H l (.lst ys))) : rListOf K [.ref p] H Q := ⟨p, ys, rfl, .inl hl, h⟩
theorem w_tupOf {K : PySem.W.Frag} {p : Addr} {ys : List V} (hl : SqL K H p ys) (h : ∀ l, H l = none → Q (.ref l) (upd H l (.tup ys))) : rTupOf K [.ref p] H Q := ⟨p, ys, rfl, .inl ⟨hl, h⟩⟩
theorem w_sl {r : V → Option Int → Option Int → Hp → VK → Prop} {tl th : TO} (h : te σ H fun x H1 => tl σ H1 fun l H2 => th σ H2 fun u H3 => r x l u H3 Q) : tSl r te tl th σ H Q := h
theorem w_noPart {O : Option Int → Hp → Prop} (h : O none H) : tNoPart σ H O := h
theorem w_part {O : Option Int → Hp → Prop} (h : te σ H (PartK O)) : tPart te σ H O := h
theorem w_partK {O : Option Int → Hp → Prop} {i : Int} (h : O (some i) H) : PartK O (.int i) H := ⟨i, rfl, h⟩
theorem w_slL {K : PySem.W.Frag} {a : Addr} {xs : List V} {lo hi : Option Int} (hl : SqL K H a xs) (h : ∀ p, H p = none → Q (.ref p) (upd H p (.lst (cutV xs lo hi)))) : rSlL K (.ref a) lo hi H Q := ⟨a, xs, rfl, hl, h⟩
theorem w_cat {l b : Addr} {xs zs : List V} (h1 : H l = some (.lst xs)) (h2 : H b = some (.lst zs)) (hz : xs.length + zs.length ≤ sizeLine) (h : ∀ p, H p = none → Q (.ref p) (upd H p (.lst (xs ++ zs)))) : rCat (.ref l) (.ref b) H Q := ⟨l, b, xs, zs, rfl, rfl, h1, h2, hz, h⟩
theorem w_dput {td ty tv : TE} (h : tv σ H fun v H1 => td σ H1 fun x H2 => ty σ H2 (DPK nx σ v x)) : sDPut td ty tv ⟨nx, rt, bk, ct⟩ σ H := h
theorem w_dpT {a b : Addr} {kvs : List (List L2.Key × V)} {k : List L2.Key} {v : V} (h1 : H a = some (.dT kvs)) (h2 : H b = some (.tup (k.map kV))) (hl : kvs.length < sizeLine) (h : nx σ (upd H a (.dT (putK kvs k v)))) : DPK nx σ v (.ref a) (.ref b) H := ⟨a, _, rfl, DPut.t h1 h2 hl, h⟩
theorem w_dpK {a : Addr} {kvs : List (L2.Key × V)} {k : L2.Key} {v : V} (h1 : H a = some (.dK kvs)) (hl : kvs.length < sizeLine) (h : nx σ (upd H a (.dK (putK kvs k v)))) : DPK nx σ v (.ref a) (kV k) H := ⟨a, _, rfl, DPut.k h1 hl, h⟩
theorem w_din {ty td : TE} (h : ty σ H fun y H1 => td σ H1 (DInK y Q)) : tDIn ty td σ H Q := h
theorem w_dnotin {ty td : TE} (h : ty σ H fun y H1 => td σ H1 (DNotInK y Q)) : tDNotIn ty td σ H Q := h
theorem w_diT {a b : Addr} {kvs : List (List L2.Key × V)} {k : List L2.Key} (h1 : H a = some (.dT kvs)) (h2 : H b = some (.tup (k.map kV))) (h : Q (.bl (valV kvs k).isSome) H) : DInK (.ref b) Q (.ref a) H := ⟨a, _, rfl, DGet.t h1 h2, h⟩
theorem w_dniT {a b : Addr} {kvs : List (List L2.Key × V)} {k : List L2.Key} (h1 : H a = some (.dT kvs)) (h2 : H b = some (.tup (k.map kV))) (h : Q (.bl (!(valV kvs k).isSome)) H) : DNotInK (.ref b) Q (.ref a) H := ⟨a, _, rfl, DGet.t h1 h2, h⟩
theorem w_diK {a : Addr} {kvs : List (L2.Key × V)} {k : L2.Key} (h1 : H a = some (.dK kvs)) (h : Q (.bl (valV kvs k).isSome) H) : DInK (kV k) Q (.ref a) H := ⟨a, _, rfl, DGet.k h1, h⟩
theorem w_dniK {a : Addr} {kvs : List (L2.Key × V)} {k : L2.Key} (h1 : H a = some (.dK kvs)) (h : Q (.bl (!(valV kvs k).isSome)) H) : DNotInK (kV k) Q (.ref a) H := ⟨a, _, rfl, DGet.k h1, h⟩
theorem w_dget {td ty : TE} (h : td σ H fun x H1 => ty σ H1 (DGK x Q)) : tDGet td ty σ H Q := h
theorem w_dgT {a b : Addr} {kvs : List (List L2.Key × V)} {k : List L2.Key} {v : V} (h1 : H a = some (.dT kvs)) (h2 : H b = some (.tup (k.map kV))) (e : valV kvs k = some v) (h : Q v H) : DGK (.ref a) Q (.ref b) H := ⟨a, v, rfl, by rw [← e]; exact DGet.t h1 h2, h⟩
theorem w_dgK {a : Addr} {kvs : List (L2.Key × V)} {k : L2.Key} {v : V} (h1 : H a = some (.dK kvs)) (e : valV kvs k = some v) (h : Q v H) : DGK (.ref a) Q (kV k) H := ⟨a, v, rfl, by rw [← e]; exact DGet.k h1, h⟩
theorem w_dnewT (h : ∀ p, H p = none → Q (.ref p) (upd H p (.dT []))) : tDNewT σ H Q := h
theorem w_dnewK (h : ∀ p, H p = none → Q (.ref p) (upd H p (.dK []))) : tDNewK σ H Q := h
theorem w_for {wi : TI} (h : wi σ H (ForB g t nx rt σ)) : tFor wi g t ⟨nx, rt, bk, ct⟩ σ H := h
theorem w_iList {K : PySem.W.Frag} {R : It → Hp → Prop} (h : te σ H (RdL K R)) : iList K te σ H R := h
theorem w_iTup {K : PySem.W.Frag} {R : It → Hp → Prop} (h : te σ H (RdT K R)) : iTup K te σ H R := h
theorem w_rdL {K : PySem.W.Frag} {R : It → Hp → Prop} {a : Addr} {xs : List V} (hl : SqL K H a xs) (h : R (Itl K a) H) : RdL K R (.ref a) H := ⟨a, rfl, ⟨xs, hl⟩, h⟩
theorem w_rdT {K : PySem.W.Frag} {R : It → Hp → Prop} {a : Addr} {xs : List V} (hl : SqT K H a xs) (h : R (Itt K a) H) : RdT K R (.ref a) H := ⟨a, rfl, ⟨xs, hl⟩, h⟩
theorem w_iRng1 {t : TA} {R : It → Hp → Prop} (h : t σ H (Rg1 R)) : iRng1 t σ H R := h
theorem w_iRng2 {t : TA} {R : It → Hp → Prop} (h : t σ H (Rg2 R)) : iRng2 t σ H R := h
theorem w_rg1 {j : Int} {R : It → Hp → Prop} (h1 : -(2 ^ 62) ≤ j ∧ j < 2 ^ 62) (h : R (Itr 0 j.toNat) H) : Rg1 R [.int j] H := ⟨j, rfl, h1.1, h1.2, h⟩
theorem w_rg2 {i j : Int} {R : It → Hp → Prop} (h1 : (-(2 ^ 62) ≤ i ∧ i < 2 ^ 62) ∧ (-(2 ^ 62) ≤ j ∧ j < 2 ^ 62)) (h : R (Itr i (j - i).toNat) H) : Rg2 R [.int i, .int j] H := ⟨i, j, rfl, ⟨h1.1.1, h1.1.2, h1.2.1, h1.2.2⟩, h⟩
/-- for over a range, by what holds ahead of turn i -/
theorem w_forR {lo : Int} {n : Nat} (Pv : Nat → L2.St → Hp → Prop) (h0 : Pv 0 σ H) (hs : ∀ i σ H, i < n → Pv i σ H → g (.int (lo + i)) σ H fun σ2 H2 => t ⟨Pv (i + 1), rt, nx, Pv (i + 1)⟩ σ2 H2) (hd : ∀ σ H, Pv n σ H → nx σ H) : ForB g t nx rt σ (Itr lo n) H :=
  for_range (D := ⟨nx, rt, fun _ _ => False, fun _ _ => False⟩) Pv h0 hs hd
theorem w_forL {K : PySem.W.Frag} {a : Addr} {xs : List V} (Pv : Nat → L2.St → Hp → Prop) (h0 : Pv 0 σ H) (hl : ∀ i σ H, i ≤ xs.length → Pv i σ H → SqL K H a xs) (hs : ∀ i x σ H, xs[i]? = some x → Pv i σ H → g x σ H fun σ2 H2 => t ⟨Pv (i + 1), rt, nx, Pv (i + 1)⟩ σ2 H2) (hd : ∀ σ H, Pv xs.length σ H → nx σ H) : ForB g t nx rt σ (Itl K a) H :=
  for_list (D := ⟨nx, rt, fun _ _ => False, fun _ _ => False⟩) Pv h0 hl hs hd
theorem w_forT {K : PySem.W.Frag} {a : Addr} {xs : List V} (Pv : Nat → L2.St → Hp → Prop) (h0 : Pv 0 σ H) (hl : ∀ i σ H, i ≤ xs.length → Pv i σ H → SqT K H a xs) (hs : ∀ i x σ H, xs[i]? = some x → Pv i σ H → g x σ H fun σ2 H2 => t ⟨Pv (i + 1), rt, nx, Pv (i + 1)⟩ σ2 H2) (hd : ∀ σ H, Pv xs.length σ H → nx σ H) : ForB g t nx rt σ (Itt K a) H :=
  for_tup (D := ⟨nx, rt, fun _ _ => False, fun _ _ => False⟩) Pv h0 hl hs hd
/-- while, by an invariant with a measure -/
theorem w_while {c : TT} (Pv : Nat → L2.St → Hp → Prop) (m : Nat) (h0 : Pv m σ H) (hs : ∀ m σ H, Pv m σ H → c σ H (WhB t nx rt Pv m σ)) : tWhile c t ⟨nx, rt, bk, ct⟩ σ H := ⟨Pv, ⟨m, h0⟩, hs⟩
theorem w_whT {Pv : Nat → L2.St → Hp → Prop} {m : Nat} (h : t ⟨fun σ' H' => ∃ m', m' < m ∧ Pv m' σ' H', rt, nx, fun σ' H' => ∃ m', m' < m ∧ Pv m' σ' H'⟩ σ H) : WhB t nx rt Pv m σ true H := w_iteT ⟨_, fun _ _ h => h, h⟩
theorem w_whF {Pv : Nat → L2.St → Hp → Prop} {m : Nat} (h : nx σ H) : WhB t nx rt Pv m σ false H := w_iteF h
theorem w_wh {Pv : Nat → L2.St → Hp → Prop} {m : Nat} {p : Prop} [Decidable p] (h1 : p → t ⟨fun σ' H' => ∃ m', m' < m ∧ Pv m' σ' H', rt, nx, fun σ' H' => ∃ m', m' < m ∧ Pv m' σ' H'⟩ σ H) (h2 : ¬ p → nx σ H) : WhB t nx rt Pv m σ (decide p) H := by
  by_cases h : p
  · rw [decide_eq_true h]; exact w_whT (h1 h)
  · rw [decide_eq_false h]; exact w_whF (h2 h)
theorem w_lc {wi : TI} {tt : TT} {vs : List Nat} (h : wi σ H (LcB g tt te vs σ Q)) : tLc wi g tt te vs σ H Q := h
theorem w_yes (h : B true H) : tYes σ H B := h
theorem w_lcR {lo : Int} {n : Nat} {tt : TT} {vs : List Nat} (h : ∀ D, H D = none → ∃ Pv : Nat → Hp → Prop, Pv 0 (upd H D (.lst [])) ∧
    (∀ i H1, i < n → Pv i H1 → g (.int (lo + i)) (wipe σ vs) H1 (LcTurn tt te vs σ D (Pv (i + 1)))) ∧ ∀ H1, Pv n H1 → Q (.ref D) H1) : LcB g tt te vs σ Q (Itr lo n) H := fun D hD => by
  obtain ⟨Pv, h0, hs, hd⟩ := h D hD
  exact lc_range (Qd := Q (.ref D)) Pv h0 hs hd
theorem w_lcL {K : PySem.W.Frag} {a : Addr} {xs : List V} {tt : TT} {vs : List Nat} (h : ∀ D, H D = none → ∃ Pv : Nat → Hp → Prop, Pv 0 (upd H D (.lst [])) ∧ (∀ i H1, i ≤ xs.length → Pv i H1 → SqL K H1 a xs) ∧
    (∀ i x H1, xs[i]? = some x → Pv i H1 → g x (wipe σ vs) H1 (LcTurn tt te vs σ D (Pv (i + 1)))) ∧ ∀ H1, Pv xs.length H1 → Q (.ref D) H1) : LcB g tt te vs σ Q (Itl K a) H := fun D hD => by
  obtain ⟨Pv, h0, hl, hs, hd⟩ := h D hD
  exact lc_list (Qd := Q (.ref D)) Pv h0 hl hs hd
theorem w_turn {tt : TT} {vs : List Nat} {σ2 : L2.St} {D : Addr} {Nx : Hp → Prop} (e : wipe σ2 vs = wipe σ vs) (h : tt σ2 H fun b H3 => if b = true then te σ2 H3 (LcPut D Nx) else Nx H3) : LcTurn tt te vs σ D Nx σ2 H := ⟨e, h⟩
theorem w_put {D : Addr} {Nx : Hp → Prop} {acc : List V} {y : V} (hl : H D = some (.lst acc)) (hz : acc.length < sizeLine) (h : Nx (upd H D (.lst (acc ++ [y])))) : LcPut D Nx y H := ⟨acc, hl, hz, h⟩
theorem w_isiInt {K : PySem.W.Frag} {i : Int} {n : String} {b : Bool} (e : kitB "int" n = some b) (h : Q (.bl b) H) : rIsi K [.int i, .ty n] H Q := ⟨_, _, _, _, b, rfl, .ty n, .base (.int i), kit_ty e, h⟩
theorem w_isiBl {K : PySem.W.Frag} {i : Bool} {n : String} {b : Bool} (e : kitB "bool" n = some b) (h : Q (.bl b) H) : rIsi K [.bl i, .ty n] H Q := ⟨_, _, _, _, b, rfl, .ty n, .base (.bl i), kit_ty e, h⟩
theorem w_isiTup {K : PySem.W.Frag} {a : Addr} {xs : List V} {n : String} {b : Bool} (hl : SqT K H a xs) (e : kitB "tuple" n = some b) (h : Q (.bl b) H) : rIsi K [.ref a, .ty n] H Q := by
  rcases hl with (h1 | ⟨o, h1⟩) | ⟨o, its, m, h1, h2, h3⟩
  · exact ⟨_, _, _, _, b, rfl, .ty n, .base (.tup h1), kit_ty e, h⟩
  · exact ⟨_, _, _, _, b, rfl, .ty n, .fTuple h1, kit_ty e, h⟩
  · exact ⟨_, _, _, _, b, rfl, .ty n, .kTuple h1 h2, kit_ty e, h⟩
theorem w_isiLst {K : PySem.W.Frag} {a : Addr} {xs : List V} {n : String} {b : Bool} (hl : SqL K H a xs) (e : kitB "list" n = some b) (h : Q (.bl b) H) : rIsi K [.ref a, .ty n] H Q := by
  rcases hl with (h1 | ⟨o, h1⟩) | ⟨o, its, m, h1, h2, h3⟩
  · exact ⟨_, _, _, _, b, rfl, .ty n, .base (.lst h1), kit_ty e, h⟩
  · exact ⟨_, _, _, _, b, rfl, .ty n, .base (.frz h1), kit_ty e, h⟩
  · exact ⟨_, _, _, _, b, rfl, .ty n, .kList h1 h2, kit_ty e, h⟩
theorem inV_ints (i : Int) : ∀ ns : List Int, inV (.int i) (ns.map V.int) = decide (i ∈ ns)
  | [] => rfl
  | x :: r => by
    have ih := inV_ints i r
    show (eqV (.int x) (.int i) || inV (.int i) (r.map V.int)) = _
    rw [ih]
    show ((x == i) || decide (i ∈ r)) = _
    by_cases h : x = i
    · subst h; simp
    · have h2 : ¬ i = x := fun e => h e.symm
      simp [h, h2]
theorem w_inInts {K : PySem.W.Frag} {a : Addr} {i : Int} {ns : List Int} (hl : SqL K H a (ns.map V.int) ∨ SqT K H a (ns.map V.int)) (h : Q (.bl (decide (i ∈ ns))) H) : rIn K false (.int i) (.ref a) H Q := by
  refine ⟨a, _, rfl, hl, rfl, ?_, ?_⟩
  · rw [List.all_map]; exact List.all_eq_true.mpr fun _ _ => rfl
  · rw [if_neg Bool.false_ne_true, inV_ints]
    exact h
theorem w_ninInts {K : PySem.W.Frag} {a : Addr} {i : Int} {ns : List Int} (hl : SqL K H a (ns.map V.int) ∨ SqT K H a (ns.map V.int)) (h : Q (.bl (!decide (i ∈ ns))) H) : rIn K true (.int i) (.ref a) H Q := by
  refine ⟨a, _, rfl, hl, rfl, ?_, ?_⟩
  · rw [List.all_map]; exact List.all_eq_true.mpr fun _ _ => rfl
  · rw [if_pos rfl, inV_ints]
    exact h
theorem w_isX {K : PySem.W.Frag} {D a : Addr} {c : V} {cv : Value} {b : Bool} (C : ExcC K D) (hc : ∀ u, RelV c u → u = cv) (k : PySem.W.kitOne K (.ref D) cv = some b) (h : Q (.bl b) H) : rIsX K (.ref D) none a [.ref a, c] H Q := ⟨D, c, cv, b, rfl, rfl, C, rfl, hc, k, h⟩
theorem w_callS {sp : Sp} {E : L2.St → XK} {t : TA} (h : t σ H fun vs H1 => sp vs H1 Q (E σ)) : tCallS sp E t σ H Q := h
theorem eqv_ints2 (a b c d : Int) : PyData.eqv (.tuple [.int a, .int b]) (.tuple [.int c, .int d]) = decide (a = c ∧ b = d) := by
  simp only [PyData.eqv, PyData.eqvAll, Bool.and_true]
  by_cases h : a = c <;> by_cases h2 : b = d <;> simp [h, h2]
theorem dp_ints2 {K : PySem.W.Frag} {t : Addr} {a b : Int} (h : SqT K H t [.int a, .int b]) : Dp K H (.ref t) (.tuple [.int a, .int b]) := .tup h (.cons (.int a) (.cons (.int b) .nil))
theorem w_eqPair {K : PySem.W.Frag} {t u : Addr} {a b c d : Int} (h1 : SqT K H t [.int a, .int b]) (h2 : SqT K H u [.int c, .int d]) (h : Q (.bl (decide (a = c ∧ b = d))) H) : rEqD K (.ref t) (.ref u) H Q :=
  ⟨_, _, dp_ints2 h1, dp_ints2 h2, rfl, rfl, by rw [eqv_ints2]; exact h⟩
theorem w_nePair {K : PySem.W.Frag} {t u : Addr} {a b c d : Int} (h1 : SqT K H t [.int a, .int b]) (h2 : SqT K H u [.int c, .int d]) (h : Q (.bl (!decide (a = c ∧ b = d))) H) : rNeD K (.ref t) (.ref u) H Q :=
  ⟨_, _, dp_ints2 h1, dp_ints2 h2, rfl, rfl, by rw [eqv_ints2]; exact h⟩
theorem Same.tup {K : PySem.W.Frag} {H H' : Hp} {a : Addr} {xs : List V} (e : Same H H') (h : SqT K H a xs) : SqT K H' a xs := by
  rcases h with (h | ⟨o, h⟩) | h
  · exact .inl (.inl (e _ _ h))
  · exact .inl (.inr ⟨o, e _ _ h⟩)
  · exact .inr h
theorem w_sum {K : PySem.W.Frag} {a : Addr} {ns : List Int} (hl : SqL K H a (ns.map V.int)) (h : Q (.int ns.sum) H) : rSum K [V.ref a] H Q := ⟨a, ns, rfl, hl, h⟩
theorem w_isi {K : PySem.W.Frag} {x c : V} {t u : Value} {b : Bool} (k : ClsV c u) (ty : TyX K H x t) (e : PySem.W.kitOne K t u = some b) (h : Q (.bl b) H) : rIsi K [x, c] H Q := ⟨x, c, t, u, b, rfl, k, ty, e, h⟩
end
theorem same_new {H : Hp} {p : Addr} (h : H p = none) (o : HO) : Same H (upd H p o) := fun b u q => by rw [upd_ne (ne_of_none q h)]; exact q
theorem cut_take {xs : List V} {k : Int} (h0 : 0 ≤ k) (h : k ≤ (xs.length : Int)) : cutV xs none (some k) = xs.take k.toNat := by
  unfold cutV HT.sIx
  simp only
  rw [if_neg (by omega), List.drop_zero, Nat.sub_zero, Nat.min_eq_left (by omega)]
theorem cut_drop {xs : List V} {k : Int} (h0 : 0 ≤ k) (h : k ≤ (xs.length : Int)) : cutV xs (some k) none = xs.drop k.toNat := by
  unfold cutV HT.sIx
  simp only
  rw [if_neg (by omega), Nat.min_eq_left (by omega)]
  exact List.take_of_length_le (by rw [List.length_drop]; omega)
theorem cut_mid {xs : List V} {i k : Int} (h0 : 0 ≤ i) (h1 : 0 ≤ k) : cutV xs (some i) (some k) = (xs.drop i.toNat).take (k.toNat - i.toNat) := by
  unfold cutV HT.sIx
  simp only
  rw [if_neg (by omega), if_neg (by omega)]
  by_cases h : i.toNat ≤ xs.length
  · rw [Nat.min_eq_left h]
    by_cases h2 : k.toNat ≤ xs.length
    · rw [Nat.min_eq_left h2]
    · rw [Nat.min_eq_right (by omega), List.take_of_length_le (i := k.toNat - i.toNat) (by rw [List.length_drop]; omega)]
      exact List.take_of_length_le (by rw [List.length_drop]; omega)
  · rw [List.drop_of_length_le (i := min i.toNat xs.length) (by omega), List.drop_of_length_le (i := i.toNat) (by omega), List.take_nil, List.take_nil]
theorem putK_len {κ : Type} [DecidableEq κ] (kvs : List (κ × V)) (k : κ) (v : V) : (putK kvs k v).length ≤ kvs.length + 1 := by
  unfold putK
  split
  · rw [List.length_map]; omega
  · rw [List.length_append, List.length_singleton]; exact Nat.le_refl _
theorem _root_.L2.Room.u65 {A : Around} {k : Nat} (hr : Room k A) : A.units + 65 < cLine := by have := hr.un; omega
theorem hu65 {A : Around} {k : Nat} (hr : Room k A) : A.units + 65 < cLine := by have := hr.un; omega
theorem atI2 (a b : V) : atI [a, b] 0 = some a ∧ atI [a, b] 1 = some b := ⟨rfl, rfl⟩
theorem atI_int {ns : List Int} {i : Int} (h0 : 0 ≤ i) (h : i < (ns.length : Int)) : atI (ns.map V.int) i = some (.int (ns.getD i.toNat 0)) := by
  have hk : i.toNat < ns.length := by omega
  have ek : i = ((i.toNat : Nat) : Int) := by omega
  have q : atI (ns.map V.int) ((i.toNat : Nat) : Int) = some (.int ns[i.toNat]) := atI_nat (by rw [List.getElem?_map, List.getElem?_eq_getElem hk] <;> rfl)
  rw [← ek] at q
  rw [q, List.getD_eq_getElem?_getD, List.getElem?_eq_getElem hk] <;> rfl
end Pm
/-! ### lists of pairs of numbers -/
namespace Pm
open PySem PySem.Spec PyProof.Rows L2
/-- item by item -/
def All2 {α β : Type} (R : α → β → Prop) : List α → List β → Prop
  | [], [] => True
  | x :: xs, y :: ys => R x y ∧ All2 R xs ys
  | _, _ => False
section
variable {α β : Type} {R S : α → β → Prop}
theorem All2.nil : All2 R [] [] := trivial
theorem All2.cons {x : α} {y : β} {xs : List α} {ys : List β} (h : R x y) (t : All2 R xs ys) : All2 R (x :: xs) (y :: ys) := ⟨h, t⟩
theorem All2.length : ∀ {xs : List α} {ys : List β}, All2 R xs ys → xs.length = ys.length
  | [], [], _ => rfl
  | _ :: _, _ :: _, h => by rw [List.length_cons, List.length_cons, h.2.length]
theorem All2.mono (f : ∀ x y, R x y → S x y) : ∀ {xs : List α} {ys : List β}, All2 R xs ys → All2 S xs ys
  | [], [], _ => trivial
  | _ :: _, _ :: _, h => ⟨f _ _ h.1, h.2.mono f⟩
theorem All2.get : ∀ {xs : List α} {ys : List β} {i : Nat} {x : α}, All2 R xs ys → xs[i]? = some x → ∃ y, ys[i]? = some y ∧ R x y
  | [], [], _, _, _, e => by simp at e
  | _ :: _, _ :: _, 0, _, h, e => by simp at e; subst e; exact ⟨_, rfl, h.1⟩
  | _ :: _, _ :: _, i + 1, x, h, e => by
    obtain ⟨y, e1, r⟩ := All2.get (i := i) (x := x) h.2 (by simpa using e)
    exact ⟨y, by simpa using e1, r⟩
theorem All2.get' : ∀ {xs : List α} {ys : List β} {i : Nat} {y : β}, All2 R xs ys → ys[i]? = some y → ∃ x, xs[i]? = some x ∧ R x y
  | [], [], _, _, _, e => by simp at e
  | _ :: _, _ :: _, 0, _, h, e => by simp at e; subst e; exact ⟨_, rfl, h.1⟩
  | _ :: _, _ :: _, i + 1, y, h, e => by
    obtain ⟨x, e1, r⟩ := All2.get' (i := i) (y := y) h.2 (by simpa using e)
    exact ⟨x, by simpa using e1, r⟩
theorem All2.append : ∀ {xs : List α} {ys : List β} {xs' : List α} {ys' : List β}, All2 R xs ys → All2 R xs' ys' → All2 R (xs ++ xs') (ys ++ ys')
  | [], [], _, _, _, h => h
  | _ :: _, _ :: _, _, _, h, h' => ⟨h.1, h.2.append h'⟩
theorem All2.snoc {xs : List α} {ys : List β} {x : α} {y : β} (h : All2 R xs ys) (r : R x y) : All2 R (xs ++ [x]) (ys ++ [y]) := h.append ⟨r, trivial⟩
theorem All2.take : ∀ {xs : List α} {ys : List β} (n : Nat), All2 R xs ys → All2 R (xs.take n) (ys.take n)
  | [], [], n, _ => by rw [List.take_nil, List.take_nil]; trivial
  | _ :: _, _ :: _, 0, _ => trivial
  | _ :: _, _ :: _, n + 1, h => ⟨h.1, h.2.take n⟩
theorem All2.drop : ∀ {xs : List α} {ys : List β} (n : Nat), All2 R xs ys → All2 R (xs.drop n) (ys.drop n)
  | [], [], n, _ => by rw [List.drop_nil, List.drop_nil]; trivial
  | _ :: _, _ :: _, 0, h => h
  | _ :: _, _ :: _, n + 1, h => h.2.drop n
theorem All2.mem : ∀ {xs : List α} {ys : List β} {x : α}, All2 R xs ys → x ∈ xs → ∃ y, y ∈ ys ∧ R x y
  | [], [], _, _, e => by simp at e
  | a :: _, b :: _, x, h, e => by
    rcases List.mem_cons.mp e with e | e
    · subst e; exact ⟨b, List.mem_cons_self, h.1⟩
    · obtain ⟨y, e1, r⟩ := h.2.mem e
      exact ⟨y, List.mem_cons_of_mem _ e1, r⟩
theorem All2.map_eq {f : α → β} : ∀ {xs : List α} {ys : List β}, All2 R xs ys → (∀ x y, R x y → f x = y) → xs.map f = ys
  | [], [], _, _ => rfl
  | _ :: _, _ :: _, h, q => by rw [List.map_cons, q _ _ h.1, h.2.map_eq q]
theorem All2.of_map {f : α → β} : ∀ {xs : List α}, (∀ x ∈ xs, R x (f x)) → All2 R xs (xs.map f)
  | [], _ => trivial
  | _ :: _, h => ⟨h _ List.mem_cons_self, All2.of_map fun x hx => h x (List.mem_cons_of_mem _ hx)⟩
end
/-- tuples stay -/
def Keeps (H H' : Hp) : Prop := ∀ t xs, H t = some (.tup xs) → H' t = some (.tup xs)
theorem Keeps.refl (H : Hp) : Keeps H H := fun _ _ h => h
theorem Keeps.trans {H H1 H2 : Hp} (a : Keeps H H1) (b : Keeps H1 H2) : Keeps H H2 := fun t xs h => b t xs (a t xs h)
theorem keeps {H H' : Hp} (s : Same H H') : Keeps H H' := fun _ _ h => s _ _ h
theorem keeps_lst {H : Hp} {a : Addr} {xs ys : List V} (h : H a = some (.lst xs)) : Keeps H (upd H a (.lst ys)) := fun t zs e => by
  rw [upd_ne (fun z => by subst z; rw [e] at h; cases h)]
  exact e
theorem keeps_dT {H : Hp} {a : Addr} {xs ys : List (List L2.Key × V)} (h : H a = some (.dT xs)) : Keeps H (upd H a (.dT ys)) := fun t zs e => by
  rw [upd_ne (fun z => by subst z; rw [e] at h; cases h)]
  exact e
theorem keeps_dK {H : Hp} {a : Addr} {xs ys : List (L2.Key × V)} (h : H a = some (.dK xs)) : Keeps H (upd H a (.dK ys)) := fun t zs e => by
  rw [upd_ne (fun z => by subst z; rw [e] at h; cases h)]
  exact e
/-- all but the object at a stays -/
theorem same_but {H H' : Hp} {a : Addr} {o : HO} (h0 : H a = none) (s : Same H H') : Same H (upd H' a o) := fun b u e => by
  rw [upd_ne (fun z => by subst z; rw [h0] at e; cases e)]
  exact s b u e
/-! #### pairs -/
abbrev IP := Int × Int
def Pr (H : Hp) (v : V) (p : IP) : Prop := ∃ t, v = .ref t ∧ H t = some (.tup [.int p.1, .int p.2])
abbrev Prs (H : Hp) : List V → List IP → Prop := All2 (Pr H)
theorem Pr.keep {H H' : Hp} (k : Keeps H H') {v : V} {p : IP} (h : Pr H v p) : Pr H' v p := by
  obtain ⟨t, e, ht⟩ := h
  exact ⟨t, e, k _ _ ht⟩
theorem prs_keep {H H' : Hp} (k : Keeps H H') {vs : List V} {ps : List IP} (h : Prs H vs ps) : Prs H' vs ps := h.mono fun _ _ r => r.keep k
theorem Pr.inj {H : Hp} {v : V} {p q : IP} (h : Pr H v p) (k : Pr H v q) : p = q := by
  obtain ⟨t, rfl, ht⟩ := h
  obtain ⟨u, e, hu⟩ := k
  cases e
  rw [ht] at hu
  have e := HO.tup.inj (Option.some.inj hu)
  injection e with e1 e2
  injection e2 with e2 _
  obtain ⟨a, b⟩ := p
  obtain ⟨c, d⟩ := q
  rw [show a = c from V.int.inj e1, show b = d from V.int.inj e2]
/-- the pair at a value -/
def kOf (H : Hp) : V → IP
  | .ref t => match H t with
    | some (.tup [.int a, .int b]) => (a, b)
    | _ => (0, 0)
  | _ => (0, 0)
theorem Pr.k {H : Hp} {v : V} {p : IP} (h : Pr H v p) : kOf H v = p := by
  obtain ⟨t, rfl, ht⟩ := h
  show (match H t with | some (.tup [.int a, .int b]) => (a, b) | _ => (0, 0)) = p
  rw [ht]
theorem Pr.tup {K : PySem.W.Frag} {H : Hp} {t : Addr} {p : IP} (h : Pr H (.ref t) p) : SqT K H t [.int p.1, .int p.2] := by
  obtain ⟨u, e, hu⟩ := h
  cases e
  exact SqT.of hu
theorem pr_new {H : Hp} {t : Addr} {a b : Int} (h : H t = some (.tup [.int a, .int b])) : Pr H (.ref t) (a, b) := ⟨t, rfl, h⟩
def pD (p : IP) : PyData := .tuple [.int p.1, .int p.2]
theorem dp_pr {K : PySem.W.Frag} {H : Hp} {v : V} {p : IP} (h : Pr H v p) : Dp K H v (pD p) := by
  obtain ⟨t, rfl, ht⟩ := h
  exact dp_ints2 (SqT.of ht)
theorem dp_prs {K : PySem.W.Frag} {H : Hp} : ∀ {vs : List V} {ps : List IP}, Prs H vs ps → DpAll K H vs (ps.map pD)
  | [], [], _ => .nil
  | _ :: _, _ :: _, h => .cons (dp_pr h.1) (dp_prs h.2)
theorem eqv_pD (p q : IP) : PyData.eqv (pD p) (pD q) = decide (p = q) := by
  obtain ⟨a, b⟩ := p
  obtain ⟨c, d⟩ := q
  rw [show PyData.eqv (pD (a, b)) (pD (c, d)) = decide (a = c ∧ b = d) from eqv_ints2 a b c d]
  exact decide_eq_decide.mpr ⟨fun h => by rw [h.1, h.2], fun h => ⟨congrArg Prod.fst h, congrArg Prod.snd h⟩⟩
theorem eqvAll_pD : ∀ ps qs : List IP, PyData.eqvAll (ps.map pD) (qs.map pD) = decide (ps = qs)
  | [], [] => by simp [PyData.eqvAll]
  | [], q :: qs => by simp [PyData.eqvAll]
  | p :: ps, [] => by simp [PyData.eqvAll]
  | p :: ps, q :: qs => by
    rw [List.map_cons, List.map_cons, PyData.eqvAll, eqv_pD, eqvAll_pD ps qs]
    by_cases h : p = q <;> by_cases h2 : ps = qs <;> simp [h, h2]
theorem eqv_list (ps qs : List IP) : PyData.eqv (.list (ps.map pD)) (.list (qs.map pD)) = decide (ps = qs) := by
  rw [PyData.eqv, eqvAll_pD]
theorem any_pD (q : IP) : ∀ ps : List IP, ((ps.map pD).any fun z => PyData.eqv z (pD q)) = decide (q ∈ ps)
  | [] => by simp
  | p :: ps => by
    rw [List.map_cons, List.any_cons, eqv_pD, any_pD q ps]
    by_cases h : p = q
    · subst h; simp
    · have h2 : ¬ q = p := fun e => h e.symm
      simp [h, h2]
theorem lay_pD (p : IP) : (pD p).canLay0 = true := by simp [pD, PyData.canLay0, PyData.canLayAll0]
theorem lays_pD : ∀ ps : List IP, PyData.canLayAll0 (ps.map pD) = true
  | [] => by simp [PyData.canLayAll0]
  | p :: ps => by simp [PyData.canLayAll0, lay_pD p, lays_pD ps]
theorem depth_pD (p : IP) : (pD p).depth = 1 := by simp [pD, PyData.depth, PyData.depthAll]
theorem depths_pD : ∀ ps : List IP, PyData.depthAll (ps.map pD) ≤ 1
  | [] => by simp [PyData.depthAll]
  | p :: ps => by
    have h1 := depths_pD ps
    have h2 := depth_pD p
    simp only [List.map_cons, PyData.depthAll]
    omega
theorem shaped_pD (p : IP) : SeqAt.shaped (pD p) = true := by
  show ((pD p).canLay0 && decide ((pD p).depth ≤ 64)) = true
  rw [lay_pD, depth_pD]
  rfl
theorem shaped_pDs (ps : List IP) : SeqAt.shaped (.list (ps.map pD)) = true := by
  have h1 := depths_pD ps
  have h2 : PyData.depth (.list (ps.map pD)) ≤ 64 := by
    simp only [PyData.depth]
    omega
  show (PyData.canLay0 (.list (ps.map pD)) && decide (PyData.depth (.list (ps.map pD)) ≤ 64)) = true
  rw [Bool.and_eq_true]
  exact ⟨by simp only [PyData.canLay0]; exact lays_pD ps, decide_eq_true h2⟩
section
variable {K : PySem.W.Frag} {H : Hp} {Q : VK} {a b t u : Addr} {v : V} {vs ws : List V} {p q : IP} {ps qs : List IP}
theorem w_eqPL (h1 : SqL K H a vs) (p1 : Prs H vs ps) (h2 : SqL K H b ws) (p2 : Prs H ws qs) (h : Q (.bl (decide (ps = qs))) H) : rEqD K (.ref a) (.ref b) H Q :=
  ⟨_, _, .lst h1 (dp_prs p1), .lst h2 (dp_prs p2), shaped_pDs _, shaped_pDs _, by rw [eqv_list]; exact h⟩
theorem w_nePL (h1 : SqL K H a vs) (p1 : Prs H vs ps) (h2 : SqL K H b ws) (p2 : Prs H ws qs) (h : Q (.bl (!decide (ps = qs))) H) : rNeD K (.ref a) (.ref b) H Q :=
  ⟨_, _, .lst h1 (dp_prs p1), .lst h2 (dp_prs p2), shaped_pDs _, shaped_pDs _, by rw [eqv_list]; exact h⟩
theorem w_eqP (h1 : Pr H (.ref t) p) (h2 : Pr H (.ref u) q) (h : Q (.bl (decide (p = q))) H) : rEqD K (.ref t) (.ref u) H Q :=
  ⟨_, _, dp_pr h1, dp_pr h2, shaped_pD _, shaped_pD _, by rw [eqv_pD]; exact h⟩
theorem w_neP (h1 : Pr H (.ref t) p) (h2 : Pr H (.ref u) q) (h : Q (.bl (!decide (p = q))) H) : rNeD K (.ref t) (.ref u) H Q :=
  ⟨_, _, dp_pr h1, dp_pr h2, shaped_pD _, shaped_pD _, by rw [eqv_pD]; exact h⟩
theorem w_inPL (h1 : Pr H v p) (h2 : SqL K H a vs) (p2 : Prs H vs ps) (h : Q (.bl (decide (p ∈ ps))) H) : rInD K v (.ref a) H Q :=
  ⟨_, _, dp_pr h1, .lst h2 (dp_prs p2), shaped_pD _, shaped_pDs _, by rw [any_pD]; exact h⟩
theorem w_ninPL (h1 : Pr H v p) (h2 : SqL K H a vs) (p2 : Prs H vs ps) (h : Q (.bl (!decide (p ∈ ps))) H) : rNotInD K v (.ref a) H Q :=
  ⟨_, _, dp_pr h1, .lst h2 (dp_prs p2), shaped_pD _, shaped_pDs _, by rw [any_pD]; exact h⟩
end
/-! #### lists of numbers -/
theorem dp_ints {K : PySem.W.Frag} {H : Hp} : ∀ ns : List Int, DpAll K H (ns.map V.int) (ns.map PyData.int)
  | [] => .nil
  | i :: r => .cons (.int i) (dp_ints r)
theorem eqvAll_ints : ∀ ns ms : List Int, PyData.eqvAll (ns.map PyData.int) (ms.map PyData.int) = decide (ns = ms)
  | [], [] => by simp [PyData.eqvAll]
  | [], q :: qs => by simp [PyData.eqvAll]
  | p :: ps, [] => by simp [PyData.eqvAll]
  | p :: ps, q :: qs => by
    rw [List.map_cons, List.map_cons, PyData.eqvAll, eqvAll_ints ps qs, PyData.eqv]
    by_cases h : p = q <;> by_cases h2 : ps = qs <;> simp [h, h2]
theorem lays_ints : ∀ ns : List Int, PyData.canLayAll0 (ns.map PyData.int) = true
  | [] => by simp [PyData.canLayAll0]
  | p :: ps => by simp [PyData.canLayAll0, PyData.canLay0, lays_ints ps]
theorem depths_ints : ∀ ns : List Int, PyData.depthAll (ns.map PyData.int) = 0
  | [] => by simp [PyData.depthAll]
  | p :: ps => by simp [PyData.depthAll, PyData.depth, depths_ints ps]
theorem shaped_ints (ns : List Int) : SeqAt.shaped (.list (ns.map PyData.int)) = true := by
  show (PyData.canLay0 (.list (ns.map PyData.int)) && decide (PyData.depth (.list (ns.map PyData.int)) ≤ 64)) = true
  rw [Bool.and_eq_true]
  exact ⟨by simp only [PyData.canLay0]; exact lays_ints ns, decide_eq_true (by simp only [PyData.depth]; rw [depths_ints]; decide)⟩
theorem w_eqIL {K : PySem.W.Frag} {H : Hp} {Q : VK} {a b : Addr} {ns ms : List Int} (h1 : SqL K H a (ns.map V.int)) (h2 : SqL K H b (ms.map V.int)) (h : Q (.bl (decide (ns = ms))) H) : rEqD K (.ref a) (.ref b) H Q :=
  ⟨_, _, .lst h1 (dp_ints ns), .lst h2 (dp_ints ms), shaped_ints _, shaped_ints _, by rw [PyData.eqv, eqvAll_ints]; exact h⟩
theorem w_neIL {K : PySem.W.Frag} {H : Hp} {Q : VK} {a b : Addr} {ns ms : List Int} (h1 : SqL K H a (ns.map V.int)) (h2 : SqL K H b (ms.map V.int)) (h : Q (.bl (!decide (ns = ms))) H) : rNeD K (.ref a) (.ref b) H Q :=
  ⟨_, _, .lst h1 (dp_ints ns), .lst h2 (dp_ints ms), shaped_ints _, shaped_ints _, by rw [PyData.eqv, eqvAll_ints]; exact h⟩
/-! #### in order -/
def lexLe (p q : IP) : Bool := decide (p.1 < q.1 ∨ (p.1 = q.1 ∧ p.2 ≤ q.2))
theorem lexLe_iff {p q : IP} : lexLe p q = true ↔ (p.1 < q.1 ∨ (p.1 = q.1 ∧ p.2 ≤ q.2)) := decide_eq_true_iff
theorem lexLe_trans (p q r : IP) (h : lexLe p q = true) (k : lexLe q r = true) : lexLe p r = true := by
  have h := lexLe_iff.mp h
  have k := lexLe_iff.mp k
  exact lexLe_iff.mpr (by omega)
theorem lexLe_total (p q : IP) : (lexLe p q || lexLe q p) = true := by
  rw [Bool.or_eq_true, lexLe_iff, lexLe_iff]
  omega
theorem lexLe_anti {p q : IP} (h : lexLe p q = true) (k : lexLe q p = true) : p = q := by
  have h := lexLe_iff.mp h
  have k := lexLe_iff.mp k
  obtain ⟨a, b⟩ := p
  obtain ⟨c, d⟩ := q
  simp only at h k
  have e1 : a = c := by omega
  have e2 : b = d := by omega
  rw [e1, e2]
abbrev Rising (ps : List IP) : Prop := ps.Pairwise fun p q => lexLe p q = true
def sortP (ps : List IP) : List IP := ps.mergeSort lexLe
theorem sortP_perm (ps : List IP) : (sortP ps).Perm ps := List.mergeSort_perm ps lexLe
theorem sortP_rising (ps : List IP) : Rising (sortP ps) := List.pairwise_mergeSort lexLe_trans lexLe_total ps
theorem rising_eq {ps qs : List IP} (h : Rising ps) (k : Rising qs) (e : ps.Perm qs) : ps = qs := List.Perm.eq_of_pairwise (fun _ _ _ _ a b => lexLe_anti a b) h k e
theorem sortP_eq {ps qs : List IP} (h : Rising ps) (e : ps.Perm qs) : sortP qs = ps := rising_eq (sortP_rising qs) h ((sortP_perm qs).trans e.symm)
theorem sortP_self {ps : List IP} (h : Rising ps) : sortP ps = ps := sortP_eq h (List.Perm.refl _)
theorem sortP_congr {ps qs : List IP} (e : ps.Perm qs) : sortP ps = sortP qs := sortP_eq (sortP_rising qs) ((sortP_perm qs).trans e.symm)
theorem sortP_len (ps : List IP) : (sortP ps).length = ps.length := (sortP_perm ps).length_eq
theorem mem_sortP {p : IP} {ps : List IP} : p ∈ sortP ps ↔ p ∈ ps := (sortP_perm ps).mem_iff
theorem lexB_le {p q : IP} (h : SrtO.lexB q p = false) : lexLe p q = true := by
  have h := SrtO.lexB_no.mp h
  exact lexLe_iff.mpr (by omega)
theorem w_sortP {K : PySem.W.Frag} {H : Hp} {Q : VK} {a : Addr} {vs : List V} {ps : List IP} (h1 : SqL K H a vs) (p1 : Prs H vs ps) (h : ∀ ys p, H p = none → Prs H ys (sortP ps) → Q (.ref p) (upd H p (.lst ys))) : rSortedPO K [.ref a] H Q := by
  refine ⟨a, vs, kOf H, rfl, h1, fun x hx => ?_, fun ys p hs hb hp => h ys p hp ?_⟩
  · obtain ⟨q, _, r⟩ := p1.mem hx
    rw [r.k]
    obtain ⟨t, rfl, ht⟩ := r
    exact ⟨t, rfl, ht⟩
  · have e1 : vs.map (kOf H) = ps := p1.map_eq fun _ _ r => r.k
    have pm : (ys.map (kOf H)).Perm ps := by rw [← e1]; exact hb.perm.map _
    have rs : Rising (ys.map (kOf H)) := List.pairwise_map.mpr (hs.imp fun {x y} q => lexB_le q)
    rw [sortP_eq rs pm]
    refine All2.of_map fun y hy => ?_
    obtain ⟨q, _, r⟩ := p1.mem (hb.perm.mem_iff.mp hy)
    rw [r.k]
    exact r
/-- a new list of pairs -/
def PLNew (H : Hp) (ps : List IP) (Q : VK) : Prop := ∀ (p : Addr) (H' : Hp) (ws : List V), Same H H' → H p = none → H' p = some (.lst ws) → Prs H' ws ps → Q (.ref p) H'
/-- a list of pairs that is handed in -/
def PL (K : PySem.W.Frag) (H : Hp) (a : Addr) (ps : List IP) : Prop := ∃ vs, SqL K H a vs ∧ Prs H vs ps
theorem PL.same {K : PySem.W.Frag} {H H' : Hp} {a : Addr} {ps : List IP} (h : PL K H a ps) (s : Same H H') : PL K H' a ps := by
  obtain ⟨vs, h1, h2⟩ := h
  exact ⟨vs, s.seq h1, prs_keep (keeps s) h2⟩
/-! #### comprehensions, item by item -/
section
variable {H : Hp} {Q : VK} {σ : L2.St} {g : TG} {tt : TT} {te : TE} {vs : List Nat} {β : Type} {R : Hp → V → β → Prop}
theorem put_next (mono : ∀ H H' v b, Keeps H H' → R H v b → R H' v b) {H0 H1 H4 : Hp} {D : Addr} {acc : List V} {bs : List β} {y : V} {b : β} {Pv : Hp → Prop} (hD : H0 D = none) (s1 : Same H0 H1) (hd : H1 D = some (.lst acc)) (ha : All2 (R H1) acc bs) (hz : bs.length < 1000000)
    (s4 : Same H1 H4) (hy : R H4 y b) (hp : ∀ H5 acc', Same H0 H5 → H5 D = some (.lst acc') → All2 (R H5) acc' (bs ++ [b]) → Pv H5) : LcPut D Pv y H4 := by
  refine w_put (s4 _ _ hd) (size_lt (by rw [ha.length]; omega)) (hp _ _ (same_but hD (s1.trans s4)) upd_same ?_)
  have k := keeps_lst (ys := acc ++ [y]) (s4 _ _ hd)
  exact (ha.mono fun _ _ r => mono _ _ _ _ k (mono _ _ _ _ (keeps s4) r)).snoc (mono _ _ _ _ k hy)
/-- [f(k) for k in range(n)] -/
theorem w_lcRm (mono : ∀ H H' v b, Keeps H H' → R H v b → R H' v b) {lo : Int} {n : Nat} (f : Nat → β) (hn : n < 1000000)
    (body : ∀ D i H1 (Nx : Hp → Prop), H D = none → i < n → Same H H1 → (∀ y H4, Same H1 H4 → R H4 y (f i) → LcPut D Nx y H4) → g (.int (lo + i)) (wipe σ vs) H1 (LcTurn tt te vs σ D Nx))
    (done : ∀ D H1 ws, H D = none → Same H H1 → H1 D = some (.lst ws) → All2 (R H1) ws ((List.range n).map f) → Q (.ref D) H1) : LcB g tt te vs σ Q (Itr lo n) H := by
  refine w_lcR fun D hD => ⟨fun i H1 => Same H H1 ∧ ∃ acc, H1 D = some (.lst acc) ∧ All2 (R H1) acc ((List.range i).map f), ⟨same_new hD _, [], upd_same, trivial⟩, ?_, ?_⟩
  · rintro i H1 hi ⟨s1, acc, hd, ha⟩
    refine body D i H1 _ hD hi s1 fun y H4 s4 hy => ?_
    refine put_next mono hD s1 hd ha (by rw [List.length_map, List.length_range]; omega) s4 hy fun H5 acc' s5 h5 a5 => ⟨s5, acc', h5, ?_⟩
    rw [List.range_succ, List.map_append]
    exact a5
  · rintro H1 ⟨s1, acc, hd, ha⟩
    exact done D H1 acc hD s1 hd ha
/-- [f(x) for x in xs if p(x)]: the items taken by a relation of their own -/
theorem w_lcLf (mono : ∀ H H' v b, Keeps H H' → R H v b → R H' v b) {K : PySem.W.Frag} {a : Addr} {xs : List V} {γ : Type} {S : Hp → V → γ → Prop} (monoS : ∀ H H' v b, Keeps H H' → S H v b → S H' v b) {cs : List γ} (hl : SqL K H a xs) (hx : All2 (S H) xs cs) (f : γ → β) (pr : γ → Bool) (hn : cs.length < 1000000)
    (body : ∀ D (x : V) (c : γ) H1 (Nx : Hp → Prop), H D = none → c ∈ cs → S H1 x c → Same H H1 → (∀ y H4, pr c = true → Same H1 H4 → R H4 y (f c) → LcPut D Nx y H4) → (∀ H4, pr c = false → Same H1 H4 → Nx H4) → g x (wipe σ vs) H1 (LcTurn tt te vs σ D Nx))
    (done : ∀ D H1 ws, H D = none → Same H H1 → H1 D = some (.lst ws) → All2 (R H1) ws ((cs.filter pr).map f) → Q (.ref D) H1) : LcB g tt te vs σ Q (Itl K a) H := by
  have hlen := hx.length
  refine w_lcL (xs := xs) fun D hD => ⟨fun i H1 => Same H H1 ∧ ∃ acc, H1 D = some (.lst acc) ∧ All2 (R H1) acc (((cs.take i).filter pr).map f), ⟨same_new hD _, [], upd_same, trivial⟩, ?_, ?_, ?_⟩
  · rintro i H1 _ ⟨s1, _⟩
    exact s1.seq hl
  · rintro i x H1 hi ⟨s1, acc, hd, ha⟩
    obtain ⟨c, hc, hs⟩ := hx.get hi
    have hlt : i < cs.length := (List.getElem?_eq_some_iff.mp hc).1
    have hle : (((cs.take i).filter pr).map f).length < 1000000 := by
      rw [List.length_map]
      have := List.length_filter_le pr (cs.take i)
      rw [List.length_take] at this
      omega
    have et : cs.take (i + 1) = cs.take i ++ [c] := by rw [List.take_add_one, hc] <;> rfl
    refine body D x c H1 _ hD (List.mem_of_getElem? hc) (monoS _ _ _ _ (keeps s1) hs) s1 (fun y H4 hp s4 hy => ?_) (fun H4 hp s4 => ?_)
    · refine put_next mono hD s1 hd ha hle s4 hy fun H5 acc' s5 h5 a5 => ⟨s5, acc', h5, ?_⟩
      rw [et, List.filter_append, List.map_append]
      have e1 : List.filter pr [c] = [c] := by simp [hp]
      rw [e1]
      exact a5
    · refine ⟨s1.trans s4, acc, s4 _ _ hd, ?_⟩
      have e1 : List.filter pr [c] = [] := by simp [hp]
      rw [et, List.filter_append, e1, List.append_nil]
      exact ha.mono fun _ _ r => mono _ _ _ _ (keeps s4) r
  · rintro H1 ⟨s1, acc, hd, ha⟩
    rw [hlen, List.take_length] at ha
    exact done D H1 acc hD s1 hd ha
end
theorem pr_mono (H H' : Hp) (v : V) (b : IP) (k : Keeps H H') (h : Pr H v b) : Pr H' v b := h.keep k
/-- an int as an item -/
def In (_ : Hp) (v : V) (i : Int) : Prop := v = .int i
theorem in_mono (H H' : Hp) (v : V) (b : Int) (_ : Keeps H H') (h : In H v b) : In H' v b := h
theorem ins_map {H : Hp} : ∀ {vs : List V} {ns : List Int}, All2 (In H) vs ns → vs = ns.map V.int
  | [], [], _ => rfl
  | _ :: _, _ :: _, h => by rw [List.map_cons, ← ins_map h.2, h.1]
theorem ins_of {H : Hp} : ∀ ns : List Int, All2 (In H) (ns.map V.int) ns
  | [] => trivial
  | _ :: r => ⟨rfl, ins_of r⟩
end Pm
/-! ### nested tuples of numbers, their order, sorted lists of them -/
namespace Pm
inductive ND where
  | i (n : Int)
  | t (xs : List ND)
namespace ND
mutual
def cmp : ND → ND → Ordering
  | .i a, .i b => compare a b
  | .i _, .t _ => .lt
  | .t _, .i _ => .gt
  | .t xs, .t ys => cmpL xs ys
def cmpL : List ND → List ND → Ordering
  | [], [] => .eq
  | [], _ :: _ => .lt
  | _ :: _, [] => .gt
  | x :: xs, y :: ys => (cmp x y).then (cmpL xs ys)
end
mutual
theorem cmp_swap : ∀ x y : ND, cmp y x = (cmp x y).swap
  | .i a, .i b => by simp only [cmp]; exact Std.OrientedCmp.eq_swap
  | .i _, .t _ => rfl
  | .t _, .i _ => rfl
  | .t xs, .t ys => by simp only [cmp]; exact cmpL_swap xs ys
theorem cmpL_swap : ∀ xs ys : List ND, cmpL ys xs = (cmpL xs ys).swap
  | [], [] => rfl
  | [], _ :: _ => rfl
  | _ :: _, [] => rfl
  | x :: xs, y :: ys => by
    simp only [cmpL]
    rw [cmp_swap x y, cmpL_swap xs ys]
    cases cmp x y <;> cases cmpL xs ys <;> rfl
end
mutual
theorem cmp_eq : ∀ {x y : ND}, cmp x y = .eq → x = y
  | .i a, .i b, h => by
    simp only [cmp] at h
    rw [show a = b from Std.LawfulEqCmp.eq_of_compare h]
  | .i _, .t _, h => by cases h
  | .t _, .i _, h => by cases h
  | .t xs, .t ys, h => by
    simp only [cmp] at h
    rw [cmpL_eq h]
theorem cmpL_eq : ∀ {xs ys : List ND}, cmpL xs ys = .eq → xs = ys
  | [], [], _ => rfl
  | [], _ :: _, h => by cases h
  | _ :: _, [], h => by cases h
  | x :: xs, y :: ys, h => by
    simp only [cmpL] at h
    cases e : cmp x y with
    | eq =>
      rw [e] at h
      rw [cmp_eq e, cmpL_eq (xs := xs) (ys := ys) h]
    | lt => rw [e] at h; cases h
    | gt => rw [e] at h; cases h
end
mutual
theorem cmp_self : ∀ x : ND, cmp x x = .eq
  | .i a => by simp only [cmp]; exact Std.ReflCmp.compare_self
  | .t xs => by simp only [cmp]; exact cmpL_self xs
theorem cmpL_self : ∀ xs : List ND, cmpL xs xs = .eq
  | [] => rfl
  | x :: xs => by simp only [cmpL]; rw [cmp_self x, cmpL_self xs]; rfl
end
theorem int_lt {a b : Int} : compare a b = .lt ↔ a < b := Int.compare_eq_lt
mutual
theorem cmp_trans : ∀ {x y z : ND}, cmp x y = .lt → cmp y z = .lt → cmp x z = .lt
  | .i a, .i b, .i c, h, k => by
    simp only [cmp] at h k ⊢
    rw [int_lt] at h k ⊢
    omega
  | .i _, .i _, .t _, _, _ => rfl
  | .i _, .t _, .i _, _, k => by cases k
  | .i _, .t _, .t _, _, _ => rfl
  | .t _, .i _, _, h, _ => by cases h
  | .t _, .t _, .i _, _, k => by cases k
  | .t xs, .t ys, .t zs, h, k => by
    simp only [cmp] at h k ⊢
    exact cmpL_trans h k
theorem cmpL_trans : ∀ {xs ys zs : List ND}, cmpL xs ys = .lt → cmpL ys zs = .lt → cmpL xs zs = .lt
  | [], [], _, h, _ => by cases h
  | [], _ :: _, [], _, k => by cases k
  | [], _ :: _, _ :: _, _, _ => rfl
  | _ :: _, [], _, h, _ => by cases h
  | _ :: _, _ :: _, [], _, k => by cases k
  | x :: xs, y :: ys, z :: zs, h, k => by
    simp only [cmpL] at h k ⊢
    cases e1 : cmp x y with
    | gt => rw [e1] at h; cases h
    | lt =>
      cases e2 : cmp y z with
      | gt => rw [e2] at k; cases k
      | lt => rw [cmp_trans e1 e2]; rfl
      | eq => rw [← cmp_eq e2, e1]; rfl
    | eq =>
      rw [e1] at h
      have h : cmpL xs ys = .lt := h
      have e := cmp_eq e1
      subst e
      cases e2 : cmp x z with
      | gt => rw [e2] at k; cases k
      | lt => rfl
      | eq =>
        rw [e2] at k
        have k : cmpL ys zs = .lt := k
        show (Ordering.eq).then (cmpL xs zs) = .lt
        exact cmpL_trans (xs := xs) h k
end
def ltB (x y : ND) : Bool := cmp x y == .lt
theorem ltB_iff {x y : ND} : ltB x y = true ↔ cmp x y = .lt := by unfold ltB; cases cmp x y <;> simp
theorem ltB_no {x y : ND} : ltB x y = false ↔ cmp x y ≠ .lt := by unfold ltB; cases cmp x y <;> simp
theorem ltB_asym {x y : ND} (h : ltB x y = true) : ltB y x = false := by
  rw [ltB_iff] at h
  rw [ltB_no, cmp_swap x y, h]
  simp
theorem ltB_tr {x y z : ND} (h1 : ltB y x = false) (h2 : ltB z y = false) : ltB z x = false := by
  rw [ltB_no] at *
  intro h
  cases e : cmp x y with
  | lt => exact h2 (cmp_trans h e)
  | eq => exact h2 (by rw [← cmp_eq e]; exact h)
  | gt => exact h1 (by rw [cmp_swap x y, e]; rfl)
def leB (x y : ND) : Bool := !ltB y x
theorem leB_trans (x y z : ND) (h : leB x y = true) (k : leB y z = true) : leB x z = true := by
  unfold leB at *
  rw [Bool.not_eq_true'] at *
  exact ltB_tr h k
theorem leB_total (x y : ND) : (leB x y || leB y x) = true := by
  unfold leB
  cases e : ltB y x with
  | false => rfl
  | true => rw [ltB_asym e]; rfl
theorem leB_anti {x y : ND} (h : leB x y = true) (k : leB y x = true) : x = y := by
  unfold leB at *
  rw [Bool.not_eq_true', ltB_no] at *
  cases e : cmp x y with
  | eq => exact cmp_eq e
  | lt => exact absurd e k
  | gt => exact absurd (by rw [cmp_swap x y, e]; rfl) h
abbrev Ris (ds : List ND) : Prop := ds.Pairwise fun x y => leB x y = true
def sort (ds : List ND) : List ND := ds.mergeSort leB
theorem sort_perm (ds : List ND) : (sort ds).Perm ds := List.mergeSort_perm ds leB
theorem sort_ris (ds : List ND) : Ris (sort ds) := List.pairwise_mergeSort leB_trans leB_total ds
theorem ris_eq {ds es : List ND} (h : Ris ds) (k : Ris es) (e : ds.Perm es) : ds = es := List.Perm.eq_of_pairwise (fun _ _ _ _ a b => leB_anti a b) h k e
theorem sort_eq {ds es : List ND} (h : Ris ds) (e : ds.Perm es) : sort es = ds := ris_eq (sort_ris es) h ((sort_perm es).trans e.symm)
/-! #### as data -/
mutual
def py : ND → PySem.PyData
  | .i n => .int n
  | .t xs => .tuple (pyL xs)
def pyL : List ND → List PySem.PyData
  | [] => []
  | x :: xs => py x :: pyL xs
end
theorem pyL_map : ∀ xs : List ND, pyL xs = xs.map py
  | [] => rfl
  | x :: xs => by rw [pyL, pyL_map xs]; rfl
mutual
def of : PySem.PyData → ND
  | .int n => .i n
  | .tuple xs => .t (ofL xs)
  | .list _ => .i 0
  | .dict _ => .i 0
  | .none => .i 0
  | .bool _ => .i 0
  | .str _ => .i 0
def ofL : List PySem.PyData → List ND
  | [] => []
  | x :: xs => of x :: ofL xs
end
mutual
theorem of_py : ∀ d : ND, of (py d) = d
  | .i n => by simp only [py, of]
  | .t xs => by simp only [py, of]; rw [ofL_pyL xs]
theorem ofL_pyL : ∀ ds : List ND, ofL (pyL ds) = ds
  | [] => rfl
  | x :: xs => by simp only [pyL, ofL]; rw [of_py x, ofL_pyL xs]
end
mutual
theorem lay : ∀ d : ND, (py d).canLay0 = true
  | .i n => by simp only [py, PySem.PyData.canLay0]
  | .t xs => by simp only [py, PySem.PyData.canLay0]; exact layL xs
theorem layL : ∀ ds : List ND, PySem.PyData.canLayAll0 (pyL ds) = true
  | [] => by simp only [pyL, PySem.PyData.canLayAll0]
  | x :: xs => by simp only [pyL, PySem.PyData.canLayAll0]; rw [lay x, layL xs]; rfl
end
mutual
theorem eqv_py : ∀ x y : ND, PySem.PyData.eqv (py x) (py y) = (cmp x y == .eq)
  | .i a, .i b => by
    simp only [py, PySem.PyData.eqv, cmp]
    by_cases h : a = b
    · subst h; simp
    · have : compare a b ≠ .eq := fun e => h (Std.LawfulEqCmp.eq_of_compare e)
      cases e : compare a b <;> simp_all
  | .i _, .t _ => by simp only [py, PySem.PyData.eqv, cmp]; rfl
  | .t _, .i _ => by simp only [py, PySem.PyData.eqv, cmp]; rfl
  | .t xs, .t ys => by simp only [py, PySem.PyData.eqv, cmp]; exact eqvAll_py xs ys
theorem eqvAll_py : ∀ xs ys : List ND, PySem.PyData.eqvAll (pyL xs) (pyL ys) = (cmpL xs ys == .eq)
  | [], [] => by simp [pyL, PySem.PyData.eqvAll, cmpL]
  | [], _ :: _ => by simp [pyL, PySem.PyData.eqvAll, cmpL]
  | _ :: _, [] => by simp [pyL, PySem.PyData.eqvAll, cmpL]
  | x :: xs, y :: ys => by
    simp only [pyL, PySem.PyData.eqvAll, cmpL]
    rw [eqv_py x y, eqvAll_py xs ys]
    cases cmp x y <;> cases cmpL xs ys <;> rfl
end
theorem eqv_false {x y : ND} (h : PySem.PyData.eqv (py x) (py y) = false) : cmp x y ≠ .eq := fun e => by
  rw [eqv_py, e] at h
  cases h
theorem eqv_true {x y : ND} (h : PySem.PyData.eqv (py x) (py y) = true) : cmp x y = .eq := by
  rw [eqv_py] at h
  cases e : cmp x y with
  | eq => rfl
  | lt => rw [e] at h; cases h
  | gt => rw [e] at h; cases h
mutual
def hom : ND → ND → Bool
  | .i _, .i _ => true
  | .t xs, .t ys => homL xs ys
  | .i _, .t _ => false
  | .t _, .i _ => false
def homL : List ND → List ND → Bool
  | [], _ => true
  | _ :: _, [] => true
  | x :: xs, y :: ys => hom x y && homL xs ys
end
def dep (d : ND) : Nat := (py d).depth
end ND
open PySem PySem.Spec PyProof.Rows L2
/-! #### < of nested tuples -/
theorem readsAll_at {h : Heap} : ∀ {vs : List Value} {ds : List PyData} {as : List Addr} {j : Nat} (_ : ReadsAll h vs ds as) (h1 : j < vs.length) (h2 : j < ds.length), ∃ bs, Reads h vs[j] ds[j] bs
  | _ :: _, _ :: _, _, 0, .cons r _, _, _ => ⟨_, r⟩
  | _ :: _, _ :: _, _, j + 1, .cons _ t, h1, h2 => readsAll_at t (Nat.lt_of_succ_lt_succ h1) (Nat.lt_of_succ_lt_succ h2)
theorem lexAt_shift (e r : Nat → Bool) (z : Bool) : ∀ (k i : Nat), Ob.lexAt (fun j => e (j + 1)) (fun j => r (j + 1)) z i k = Ob.lexAt e r z (i + 1) k
  | 0, _ => rfl
  | k + 1, i => by
    show (if e (i + 1) = true then Ob.lexAt _ _ z (i + 1) k else r (i + 1)) = (if e (i + 1) = true then Ob.lexAt e r z (i + 1 + 1) k else r (i + 1))
    rw [lexAt_shift e r z k (i + 1)]
theorem lexAt_cmp : ∀ (xs ys : List ND), Ob.lexAt (fun j => ND.cmp (xs.getD j (.i 0)) (ys.getD j (.i 0)) == .eq) (fun j => ND.ltB (xs.getD j (.i 0)) (ys.getD j (.i 0))) (decide (xs.length < ys.length)) 0 (min xs.length ys.length) = (ND.cmpL xs ys == .lt)
  | [], [] => rfl
  | [], y :: ys => by simp [Ob.lexAt, ND.cmpL]
  | x :: xs, [] => by simp [Ob.lexAt, ND.cmpL]
  | x :: xs, y :: ys => by
    have ih := lexAt_cmp xs ys
    rw [List.length_cons, List.length_cons, show min (xs.length + 1) (ys.length + 1) = min xs.length ys.length + 1 by omega, Ob.lexAt_succ]
    rw [← lexAt_shift]
    show (if (ND.cmp x y == .eq) = true then Ob.lexAt (fun j => ND.cmp (xs.getD j (.i 0)) (ys.getD j (.i 0)) == .eq) (fun j => ND.ltB (xs.getD j (.i 0)) (ys.getD j (.i 0))) (decide (xs.length + 1 < ys.length + 1)) 0 _ else ND.ltB x y) = ((ND.cmp x y).then (ND.cmpL xs ys) == .lt)
    rw [show decide (xs.length + 1 < ys.length + 1) = decide (xs.length < ys.length) from decide_eq_decide.mpr (by omega), ih]
    unfold ND.ltB
    cases ND.cmp x y <;> rfl
theorem py_getD (xs : List ND) {j : Nat} (h : j < (ND.pyL xs).length) : (ND.pyL xs)[j] = ND.py (xs.getD j (.i 0)) := by
  have h' : j < xs.length := by rw [ND.pyL_map, List.length_map] at h; exact h
  rw [List.getD_eq_getElem?_getD, List.getElem?_eq_getElem h']
  simp only [ND.pyL_map, List.getElem_map, Option.getD_some]
theorem depL (xs : List ND) (j : Nat) : (ND.py (xs.getD j (.i 0))).depth ≤ PyData.depthAll (ND.pyL xs) := by
  induction xs generalizing j with
  | nil => show PyData.depth (.int 0) ≤ _; simp [PyData.depth]
  | cons x xs ih =>
    cases j with
    | zero =>
      show (ND.py x).depth ≤ PyData.depthAll (ND.py x :: ND.pyL xs)
      simp only [PyData.depthAll]
      omega
    | succ j =>
      have := ih j
      show (ND.py (xs.getD j (.i 0))).depth ≤ PyData.depthAll (ND.py x :: ND.pyL xs)
      simp only [PyData.depthAll]
      omega
theorem hom_at : ∀ {xs ys : List ND} {j : Nat}, ND.homL xs ys = true → j < xs.length → j < ys.length → ND.hom (xs.getD j (.i 0)) (ys.getD j (.i 0)) = true
  | x :: xs, y :: ys, 0, h, _, _ => by
    simp only [ND.homL, Bool.and_eq_true] at h
    exact h.1
  | x :: xs, y :: ys, j + 1, h, h1, h2 => by
    simp only [ND.homL, Bool.and_eq_true] at h
    exact hom_at (xs := xs) (ys := ys) h.2 (Nat.lt_of_succ_lt_succ h1) (Nat.lt_of_succ_lt_succ h2)
theorem nd_size : ∀ (xs : List ND) (j : Nat), j < xs.length → sizeOf (xs.getD j (.i 0)) < sizeOf xs
  | x :: xs, 0, _ => by show sizeOf x < sizeOf (x :: xs); simp; omega
  | x :: xs, j + 1, h => by
    have := nd_size xs j (Nat.lt_of_succ_lt_succ h)
    show sizeOf (xs.getD j (.i 0)) < sizeOf (x :: xs)
    simp only [List.cons.sizeOf_spec]
    omega
/-- x < y of nested tuples of numbers of one form -/
theorem rc_lt : ∀ (x y : ND) (A : Around) (s : Shared) (a b : Value) (as bs : List Addr), Reads s.heap a x.py as → Reads s.heap b y.py bs → ND.hom x y = true → A.units + min x.dep y.dep < cLine → Ob.RcOp .Lt A s a b (ND.ltB x y)
  | .i p, .i q, A, s, a, b, as, bs, ra, rb, _, hu => by
    simp only [ND.py] at ra rb
    cases ra
    cases rb
    have e : ND.ltB (.i p) (.i q) = decide (p < q) := by
      unfold ND.ltB
      simp only [ND.cmp]
      by_cases h : p < q
      · rw [decide_eq_true h, ND.int_lt.mpr h]; rfl
      · rw [decide_eq_false h]
        have : compare p q ≠ .lt := fun e => h (ND.int_lt.mp e)
        cases e : compare p q <;> simp_all
    rw [e]
    exact Ob.RcOp.lt_int _ _ _ _
  | .t xs, .t ys, A, s, a, b, as, bs, ra, rb, hh, hu => by
    simp only [ND.py] at ra rb
    cases ra with
    | tuple k1 k2 k3 k4 =>
      cases rb with
      | tuple l1 l2 l3 l4 =>
        rename_i a oa vs na b ob ws nb
        have n1 := SeqAt.ReadsAll.length _ _ _ k4
        have n2 := SeqAt.ReadsAll.length _ _ _ l4
        simp only [ND.hom] at hh
        have dx : (ND.t xs).dep = PyData.depthAll (ND.pyL xs) + 1 := by simp only [ND.dep, ND.py, PyData.depth]
        have dy : (ND.t ys).dep = PyData.depthAll (ND.pyL ys) + 1 := by simp only [ND.dep, ND.py, PyData.depth]
        rw [dx, dy] at hu
        have px : (ND.pyL xs).length = xs.length := by rw [ND.pyL_map, List.length_map]
        have py' : (ND.pyL ys).length = ys.length := by rw [ND.pyL_map, List.length_map]
        have e1 : vs.size = xs.length := by rw [← px, ← n1, Array.length_toList]
        have e2 : ws.size = ys.length := by rw [← py', ← n2, Array.length_toList]
        have in1 : A.in1.units = A.units + 1 := rfl
        have R := Ob.RcOp.tuples_lt (A := A) (s := s) (e := fun j => ND.cmp (xs.getD j (.i 0)) (ys.getD j (.i 0)) == .eq) (r := fun j => ND.ltB (xs.getD j (.i 0)) (ys.getD j (.i 0))) ⟨_, k1, k2, _, k3⟩ ⟨_, l1, l2, _, l3⟩ (by omega)
          (fun j h1 h2 => by
            obtain ⟨cs, r1⟩ := readsAll_at (j := j) k4 (by simpa using h1) (by omega)
            obtain ⟨ds, r2⟩ := readsAll_at (j := j) l4 (by simpa using h2) (by omega)
            rw [py_getD] at r1 r2
            have z := SeqAt.eqAt_reads _ _ A.in1 s _ _ _ _ r1 r2 (ND.lay _) (ND.lay _) (by have := depL xs j; have := depL ys j; rw [in1]; omega)
            rw [ND.eqv_py] at z
            simpa using z)
          (fun j h1 h2 _ => by
            obtain ⟨cs, r1⟩ := readsAll_at (j := j) k4 (by simpa using h1) (by omega)
            obtain ⟨ds, r2⟩ := readsAll_at (j := j) l4 (by simpa using h2) (by omega)
            rw [py_getD] at r1 r2
            have sz := nd_size xs j (by omega)
            have z := rc_lt (xs.getD j (.i 0)) (ys.getD j (.i 0)) A.in1 s _ _ _ _ r1 r2 (hom_at hh (by omega) (by omega)) (by have := depL xs j; have := depL ys j; rw [in1]; simp only [ND.dep]; omega)
            simpa using z)
        rw [e1, e2, lexAt_cmp] at R
        exact R
  | .i _, .t _, _, _, _, _, _, _, _, _, h, _ => by simp [ND.hom] at h
  | .t _, .i _, _, _, _, _, _, _, _, _, h, _ => by simp [ND.hom] at h
termination_by x => sizeOf x
decreasing_by simp only [ND.t.sizeOf_spec]; omega
theorem lexAt_not (e r : Nat → Bool) (z : Bool) : ∀ (k i : Nat), Ob.lexAt e (fun j => !r j) (!z) i k = !Ob.lexAt e r z i k
  | 0, _ => rfl
  | k + 1, i => by
    rw [Ob.lexAt_succ, Ob.lexAt_succ, lexAt_not e r z k (i + 1)]
    split <;> rfl
/-- x >= y of nested tuples of numbers of one form -/
theorem rc_ge : ∀ (x y : ND) (A : Around) (s : Shared) (a b : Value) (as bs : List Addr), Reads s.heap a x.py as → Reads s.heap b y.py bs → ND.hom x y = true → A.units + min x.dep y.dep < cLine → Ob.RcOp .GtE A s a b (!ND.ltB x y)
  | .i p, .i q, A, s, a, b, as, bs, ra, rb, _, hu => by
    simp only [ND.py] at ra rb
    cases ra
    cases rb
    have e : ND.ltB (.i p) (.i q) = decide (p < q) := by
      unfold ND.ltB
      simp only [ND.cmp]
      by_cases h : p < q
      · rw [decide_eq_true h, ND.int_lt.mpr h]; rfl
      · rw [decide_eq_false h]
        have : compare p q ≠ .lt := fun e => h (ND.int_lt.mp e)
        cases e : compare p q <;> simp_all
    rw [e, show (!decide (p < q)) = decide (q ≤ p) by by_cases h : p < q <;> simp [h] <;> omega]
    exact Ob.RcOp.ge_int _ _ _ _
  | .t xs, .t ys, A, s, a, b, as, bs, ra, rb, hh, hu => by
    simp only [ND.py] at ra rb
    cases ra with
    | tuple k1 k2 k3 k4 =>
      cases rb with
      | tuple l1 l2 l3 l4 =>
        rename_i a oa vs na b ob ws nb
        have n1 := SeqAt.ReadsAll.length _ _ _ k4
        have n2 := SeqAt.ReadsAll.length _ _ _ l4
        simp only [ND.hom] at hh
        have dx : (ND.t xs).dep = PyData.depthAll (ND.pyL xs) + 1 := by simp only [ND.dep, ND.py, PyData.depth]
        have dy : (ND.t ys).dep = PyData.depthAll (ND.pyL ys) + 1 := by simp only [ND.dep, ND.py, PyData.depth]
        rw [dx, dy] at hu
        have px : (ND.pyL xs).length = xs.length := by rw [ND.pyL_map, List.length_map]
        have py' : (ND.pyL ys).length = ys.length := by rw [ND.pyL_map, List.length_map]
        have e1 : vs.size = xs.length := by rw [← px, ← n1, Array.length_toList]
        have e2 : ws.size = ys.length := by rw [← py', ← n2, Array.length_toList]
        have in1 : A.in1.units = A.units + 1 := rfl
        have R := Ob.RcOp.tuples_ge (A := A) (s := s) (e := fun j => ND.cmp (xs.getD j (.i 0)) (ys.getD j (.i 0)) == .eq) (r := fun j => !ND.ltB (xs.getD j (.i 0)) (ys.getD j (.i 0))) ⟨_, k1, k2, _, k3⟩ ⟨_, l1, l2, _, l3⟩ (by omega)
          (fun j h1 h2 => by
            obtain ⟨cs, r1⟩ := readsAll_at (j := j) k4 (by simpa using h1) (by omega)
            obtain ⟨ds, r2⟩ := readsAll_at (j := j) l4 (by simpa using h2) (by omega)
            rw [py_getD] at r1 r2
            have z := SeqAt.eqAt_reads _ _ A.in1 s _ _ _ _ r1 r2 (ND.lay _) (ND.lay _) (by have := depL xs j; have := depL ys j; rw [in1]; omega)
            rw [ND.eqv_py] at z
            simpa using z)
          (fun j h1 h2 _ => by
            obtain ⟨cs, r1⟩ := readsAll_at (j := j) k4 (by simpa using h1) (by omega)
            obtain ⟨ds, r2⟩ := readsAll_at (j := j) l4 (by simpa using h2) (by omega)
            rw [py_getD] at r1 r2
            have sz := nd_size xs j (by omega)
            have z := rc_ge (xs.getD j (.i 0)) (ys.getD j (.i 0)) A.in1 s _ _ _ _ r1 r2 (hom_at hh (by omega) (by omega)) (by have := depL xs j; have := depL ys j; rw [in1]; simp only [ND.dep]; omega)
            simpa using z)
        rw [e1, e2, show decide (xs.length ≥ ys.length) = !decide (xs.length < ys.length) by by_cases h : xs.length < ys.length <;> simp [h] <;> omega, lexAt_not, lexAt_cmp] at R
        exact R
  | .i _, .t _, _, _, _, _, _, _, _, _, h, _ => by simp [ND.hom] at h
  | .t _, .i _, _, _, _, _, _, _, _, _, h, _ => by simp [ND.hom] at h
termination_by x => sizeOf x
decreasing_by simp only [ND.t.sizeOf_spec]; omega

/-! #### sorted(l) -/
mutual
theorem reads_keep {h h' : Heap} (k : ∀ b o, h.get? b = some o → o.cls = .type "tuple" → h'.get? b = some o) : ∀ (d : ND) (v : Value) (as : List Addr), Reads h v d.py as → Reads h' v d.py as
  | .i n, v, as, r => by
    simp only [ND.py] at r ⊢
    cases r
    exact .int _ _
  | .t xs, v, as, r => by
    simp only [ND.py] at r ⊢
    cases r with
    | tuple k1 k2 k3 k4 => exact .tuple (k _ _ k1 k2) k2 k3 (readsL_keep k xs _ _ k4)
theorem readsL_keep {h h' : Heap} (k : ∀ b o, h.get? b = some o → o.cls = .type "tuple" → h'.get? b = some o) : ∀ (ds : List ND) (vs : List Value) (as : List Addr), ReadsAll h vs (ND.pyL ds) as → ReadsAll h' vs (ND.pyL ds) as
  | [], vs, as, r => by
    simp only [ND.pyL] at r ⊢
    cases r
    exact .nil
  | d :: ds, vs, as, r => by
    simp only [ND.pyL] at r ⊢
    cases r with
    | cons r1 r2 => exact .cons (reads_keep k d _ _ r1) (readsL_keep k ds _ _ r2)
end
section
variable {prog : Program} {w : World} {A : Around} {E : Value → Shared → Prop} {s : Shared}
theorem kat_all {b : Bool} : ∀ (xs ys : List ND) (vs ws : List Value) (as bs : List Addr) (i : Nat), ReadsAll s.heap vs (ND.pyL xs) as → ReadsAll s.heap ws (ND.pyL ys) bs → ND.homL xs ys = true → A.units + max (PyData.depthAll (ND.pyL xs)) (PyData.depthAll (ND.pyL ys)) < cLine →
    ((b && i == 0) = true → ∀ x ∈ xs, ∃ n r, xs = .i n :: r) → PySem.W.KatLex prog w A b (decide (xs.length < ys.length)) (fun r s' => s' = s ∧ r = (ND.cmpL xs ys == .lt)) (vs.zip ws) i s
  | [], [], vs, ws, as, bs, i, ra, rb, _, _, _ => by
    simp only [ND.pyL] at ra rb
    cases ra
    cases rb
    exact PySem.W.kat_nil ⟨rfl, rfl⟩
  | [], y :: ys, vs, ws, as, bs, i, ra, rb, _, _, _ => by
    simp only [ND.pyL] at ra rb
    cases ra
    exact PySem.W.kat_nil ⟨rfl, by simp [ND.cmpL]⟩
  | x :: xs, [], vs, ws, as, bs, i, ra, rb, _, _, _ => by
    simp only [ND.pyL] at ra rb
    cases rb
    rw [List.zip_nil_right]
    exact PySem.W.kat_nil ⟨rfl, by simp [ND.cmpL]⟩
  | x :: xs, y :: ys, vs, ws, as, bs, i, ra, rb, hh, hu, hb => by
    simp only [ND.pyL] at ra rb hu
    simp only [PyData.depthAll] at hu
    simp only [ND.homL, Bool.and_eq_true] at hh
    cases ra with
    | cons r1 r2 =>
      cases rb with
      | cons q1 q2 =>
        rename_i v vs' as1 as2 u us' bs1 bs2
        rw [List.zip_cons_cons]
        have ee := SeqAt.eqAt_reads _ _ A s _ _ _ _ r1 q1 (ND.lay x) (ND.lay y) (by omega)
        refine PySem.W.kat_cons (ee prog w _ _ ?_)
        refine PySem.W.kat_go (fun e1 => ?_) (fun e1 => ?_)
        · have ec := ND.eqv_true e1
          have ih := kat_all (b := b) xs ys vs' us' _ _ (i + 1) r2 q2 hh.2 (by omega) (fun z => by simp at z)
          rw [List.length_cons, List.length_cons, show decide (xs.length + 1 < ys.length + 1) = decide (xs.length < ys.length) from decide_eq_decide.mpr (by omega)]
          refine PySem.W.kat_yes ?_
          have ev : ND.cmpL (x :: xs) (y :: ys) = ND.cmpL xs ys := by simp only [ND.cmpL]; rw [ec]; rfl
          rw [ev]
          exact ih
        · have ec := ND.eqv_false e1
          have ev : (ND.cmpL (x :: xs) (y :: ys) == .lt) = ND.ltB x y := by
            simp only [ND.cmpL, ND.ltB]
            cases e : ND.cmp x y with
            | eq => exact absurd e ec
            | lt => rfl
            | gt => rfl
          rw [ev]
          refine PySem.W.kat_no ?_
          cases hc : (b && i == 0) with
          | true =>
            obtain ⟨n, r, en⟩ := hb hc x List.mem_cons_self
            injection en with en _
            subst en
            cases y with
            | t _ => simp [ND.hom] at hh
            | i m =>
              simp only [ND.py] at r1 q1
              cases r1
              cases q1
              refine TS.oneLt_ints true ?_
              refine ⟨rfl, ?_⟩
              unfold ND.ltB
              simp only [ND.cmp]
              by_cases h : n < m
              · rw [decide_eq_true h, ND.int_lt.mpr h]; rfl
              · rw [decide_eq_false h]
                have : compare n m ≠ .lt := fun e => h (ND.int_lt.mp e)
                cases e : compare n m <;> simp_all
          | false =>
            refine PySem.W.kat_one _ _ ?_
            exact rc_lt x y A s _ _ _ _ r1 q1 hh.1 (by simp only [ND.dep]; omega) prog w _ _ ⟨rfl, rfl⟩
noncomputable def datOf (h : Heap) (v : Value) : ND := ND.of (SeqAt.readOf h v)
theorem datOf_eq {h : Heap} {v : Value} {d : ND} {as : List Addr} (r : Reads h v d.py as) : datOf h v = d := by
  unfold datOf
  rw [SeqAt.readOf_eq (ND.lay d) r, ND.of_py]
/-- what a list to be sorted holds: tuples, not empty, of one form -/
structure SrtOk (ds : List ND) : Prop where
  tup : ∀ d ∈ ds, ∃ f r, d = .t (f :: r)
  hom : ∀ d ∈ ds, ∀ e ∈ ds, ND.hom d e = true
  dep : ∀ d ∈ ds, d.dep ≤ 8
theorem swo_dat (f : Value → ND) : SrtO.Swo fun v u => ND.ltB (f v) (f u) := ⟨fun _ _ h => ND.ltB_asym h, fun _ _ _ h1 h2 => ND.ltB_tr h1 h2⟩
theorem firsts_nd : ∀ {h : Heap} {vs : List Value} {ds : List ND}, All2 (fun v d => ∃ as, Reads h v (ND.py d) as) vs ds → (∀ d ∈ ds, ∃ f r, d = .t (f :: r)) →
    ∃ fs : List Value, PySem.W.KatTups h vs fs ∧ fs.length = vs.length ∧ ∀ f ∈ fs, ∃ d g r as, d ∈ ds ∧ d = .t (g :: r) ∧ Reads h f g.py as
  | _, [], [], _, _ => ⟨[], .nil, rfl, fun _ hf => absurd hf List.not_mem_nil⟩
  | h, v :: vs, d :: ds, ha, ht => by
    obtain ⟨⟨as, r⟩, ha'⟩ := ha
    obtain ⟨fs, k, kl, kf⟩ := firsts_nd ha' fun d hd => ht d (List.mem_cons_of_mem _ hd)
    obtain ⟨g, rr, e⟩ := ht d List.mem_cons_self
    subst e
    simp only [ND.py, ND.pyL] at r
    cases r with
    | tuple k1 k2 k3 k4 =>
      rename_i a o ws n
      obtain ⟨wl⟩ := ws
      cases k4 with
      | cons q1 q2 =>
        rename_i x xs bs cs
        refine ⟨x :: fs, .cons k1 k2 k3 (by simp) k, by simp [kl], fun f hf => ?_⟩
        rcases List.mem_cons.mp hf with e | e
        · subst e
          exact ⟨_, g, rr, _, List.mem_cons_self, rfl, q1⟩
        · obtain ⟨d, g', r', as', h1, h2, h3⟩ := kf f e
          exact ⟨d, g', r', as', List.mem_cons_of_mem _ h1, h2, h3⟩
theorem nd_sortable {a : Addr} {vs : List Value} {ds : List ND} (h0 : 0 < vs.length) (hp : All2 (fun v d => ∃ as, Reads s.heap v (ND.py d) as) vs ds) (ok : SrtOk ds) (hu : A.units + 16 < cLine) (ha : ∀ o, s.heap.get? a = some o → o.cls ≠ .type "tuple") (f : Value → ND) (hf : ∀ v ∈ vs, ∀ d as, Reads s.heap v (ND.py d) as → f v = d) : SrtO.SortableO prog w A s a vs fun v u => ND.ltB (f v) (f u) := by
  intro h' keep
  have kt : ∀ b o, s.heap.get? b = some o → o.cls = .type "tuple" → h'.get? b = some o := fun b o e c => keep b o (fun z => by subst z; exact ha o e c) e
  have hp' : All2 (fun v d => ∃ as, Reads h' v (ND.py d) as) vs ds := hp.mono fun v d ⟨as, r⟩ => ⟨as, reads_keep kt d v as r⟩
  obtain ⟨fs, k1, k2, k3⟩ := firsts_nd hp' ok.tup
  -- the kind
  obtain ⟨f0, hf0⟩ : ∃ f0, f0 ∈ fs := by
    match fs, k2 with
    | [], k => simp at k; omega
    | x :: _, _ => exact ⟨x, List.mem_cons_self⟩
  obtain ⟨d0, g0, r0, as0, hd0, e0, rd0⟩ := k3 f0 hf0
  have same : ∀ f ∈ fs, ∃ g as, Reads h' f (ND.py g) as ∧ ND.hom g g0 = true := fun f hf => by
    obtain ⟨d, g, r, as, hd, e, rd⟩ := k3 f hf
    have hh := ok.hom d hd d0 hd0
    rw [e, e0] at hh
    simp only [ND.hom, ND.homL, Bool.and_eq_true] at hh
    exact ⟨g, as, rd, hh.1⟩
  have cmpB : ∀ b : Bool, (b = true → ∀ d ∈ ds, ∃ n r, d = .t (.i n :: r)) → SrtO.Cmp prog w A { s with heap := h' } (tuples' b) (fun p => p.1 ∈ vs) (SrtO.lt2 fun v u => ND.ltB (f v) (f u)) := fun b hb p q hm hm' => by
    obtain ⟨d, hd, as, rd⟩ := hp.mem hm
    obtain ⟨e, he, bs, re⟩ := hp.mem hm'
    have ef := hf _ hm d as rd
    have eg := hf _ hm' e bs re
    show wpAny (model prog w) A (keyLt' (tuples' b) p.1 q.1) (fun r s' => s' = _ ∧ r = ND.ltB (f p.1) (f q.1)) (fun _ _ => False) _
    rw [ef, eg]
    have rd' := reads_keep kt d _ _ rd
    have re' := reads_keep kt e _ _ re
    have hh := ok.hom d hd e he
    have dd := ok.dep d hd
    have de := ok.dep e he
    obtain ⟨g, r, rfl⟩ := ok.tup d hd
    obtain ⟨g', r', rfl⟩ := ok.tup e he
    have hb' : b = true → ∃ n, g = .i n := fun z => by
      obtain ⟨n, rr, en⟩ := hb z _ hd
      injection en with en
      injection en with en _
      exact ⟨n, en⟩
    generalize hv : p.1 = v at rd'
    generalize hw : q.1 = u at re'
    have dx : ∀ xs : List ND, (ND.t xs).dep = PyData.depthAll (ND.pyL xs) + 1 := fun xs => by simp only [ND.dep, ND.py, PyData.depth]
    rw [dx] at dd de
    have rd2 : Reads h' v (.tuple (ND.pyL (g :: r))) as := by simpa only [ND.py] using rd'
    have re2 : Reads h' u (.tuple (ND.pyL (g' :: r'))) bs := by simpa only [ND.py] using re'
    cases rd2 with
    | tuple k1 k2 k3 k4 =>
      cases re2 with
      | tuple l1 l2 l3 l4 =>
        rename_i va vo vvs vn ua uo uvs un
        refine PySem.W.kat_lt k1 k3 l1 l3 ?_
        have z := kat_all (prog := prog) (w := w) (A := A) (s := { s with heap := h' }) (b := b) (g :: r) (g' :: r') vvs.toList uvs.toList _ _ 0 k4 l4 (by simpa only [ND.hom] using hh) (by omega) (fun z x _ => by
          obtain ⟨n, en⟩ := hb' (by simpa using z)
          exact ⟨n, r, by rw [en]⟩)
        have n1 := SeqAt.ReadsAll.length _ _ _ k4
        have n2 := SeqAt.ReadsAll.length _ _ _ l4
        have m1 : vvs.size = (g :: r).length := by rw [← Array.length_toList, n1, ND.pyL_map, List.length_map]
        have m2 : uvs.size = (g' :: r').length := by rw [← Array.length_toList, n2, ND.pyL_map, List.length_map]
        rw [m1, m2]
        have ev : ND.ltB (.t (g :: r)) (.t (g' :: r')) = (ND.cmpL (g :: r) (g' :: r') == .lt) := by simp only [ND.ltB, ND.cmp]
        rw [ev]
        exact z
  cases g0 with
  | i n0 =>
    refine ⟨tuples' true, fun Q E hq => ?_, cmpB true fun _ d hd => ?_⟩
    · refine PySem.W.kat_kind (T := .type "int") k1 (by omega) (fun f hm => ?_) (by rfl) ?_
      · obtain ⟨g, as, rd, hh⟩ := same f hm
        cases g with
        | t _ => simp [ND.hom] at hh
        | i n =>
          simp only [ND.py] at rd
          cases rd
          exact PySem.W.Looks.now
      · have e : (Value.type "int" != Value.type "tuple") = true := by first | decide +kernel | rfl | decide
        rw [e]
        exact hq
    · have hh := ok.hom d hd d0 hd0
      obtain ⟨g, r, rfl⟩ := ok.tup d hd
      rw [e0] at hh
      simp only [ND.hom, ND.homL, Bool.and_eq_true] at hh
      cases g with
      | t _ => simp [ND.hom] at hh
      | i n => exact ⟨n, r, rfl⟩
  | t x0 =>
    refine ⟨tuples' false, fun Q E hq => ?_, cmpB false fun z => by cases z⟩
    refine PySem.W.kat_kind (T := .type "tuple") k1 (by omega) (fun f hm => ?_) (by rfl) ?_
    · obtain ⟨g, as, rd, hh⟩ := same f hm
      cases g with
      | i _ => simp [ND.hom] at hh
      | t xs =>
        simp only [ND.py] at rd
        cases rd with
        | tuple q1 q2 q3 q4 =>
          rename_i ga go gvs gn
          have z : PySem.W.Looks (model prog w) h' (typeOf (.ref ga)) go.cls := (PySem.W.Looks.ld q1).andThen .now
          rw [q2] at z
          exact z
    · have e : (Value.type "tuple" != Value.type "tuple") = false := by first | decide +kernel | rfl | decide
      rw [e]
      exact hq
end
section
variable {X : Cx} {K : PySem.W.Frag}
def rSortN (K : PySem.W.Frag) : List V → Hp → VK → Prop := fun vs H Q => ∃ (a : Addr) (xs : List V) (ds : List ND), vs = [V.ref a] ∧ SqL K H a xs ∧ All2 (fun x d => Dp K H x (ND.py d)) xs ds ∧ (∀ x ∈ xs, ∃ t, x = .ref t) ∧ SrtOk ds ∧
  ∀ (zs : List (V × ND)) p, zs.Perm (xs.zip ds) → zs.map (·.2) = ND.sort ds → H p = none → Q (.ref p) (upd H p (.lst (zs.map (·.1))))
theorem zip_map2 {α β γ : Type} (f : α → β) (g : α → γ) : ∀ l : List α, (l.map f).zip (l.map g) = l.map fun x => (f x, g x)
  | [] => rfl
  | x :: l => by rw [List.map_cons, List.map_cons, List.zip_cons_cons, zip_map2 f g l]; rfl
theorem reads2 {pins : List (Addr × Obj)} {σ : L2.St} {H : Hp} {s : Shared} (I : Inv X pins σ H s) : ∀ {xs : List V} {us : List Value} {ds : List ND}, Vals xs us → All2 (fun x d => Dp X.K H x (ND.py d)) xs ds → All2 (fun v d => ∃ as, Reads s.heap v (ND.py d) as) us ds
  | [], [], [], _, _ => trivial
  | _ :: _, _ :: _, _ :: _, .cons r t, h => ⟨Dp.reads I _ _ _ h.1 r, reads2 I t h.2⟩
  | [], _ :: _, _, r, _ => by cases r
  | _ :: _, [], _, r, _ => by cases r
theorem cr_sortN (hu : X.A.units + 40 < cLine) (e : X.K = K := by rfl) : CallR X (.builtin "sorted") (rSortN K) := by
  subst e
  intro pins s σ H vs us Q I r h
  obtain ⟨a, xs, ds, rfl, hs, hx, hrf, ok, q⟩ := h
  obtain ⟨its, rv, hl, hz⟩ := I.list hs
  obtain ⟨u, rfl, ru⟩ := vals1 r
  obtain rfl : u = Value.ref a := ru
  obtain ⟨e1, e2⟩ := refs_back rv fun x m => hrf x m
  have hR := reads2 I rv hx
  have hf : ∀ v ∈ its, ∀ d as, Reads s.heap v (ND.py d) as → datOf s.heap v = d := fun v _ d as r => datOf_eq r
  have hd : ∀ v ∈ its, ∃ as, Reads s.heap v (ND.py (datOf s.heap v)) as := fun v hv => by
    obtain ⟨d, _, as, rd⟩ := hR.mem hv
    rw [hf v hv d as rd]
    exact ⟨as, rd⟩
  have em : its.map (datOf s.heap) = ds := hR.map_eq fun v d ⟨as, rd⟩ => datOf_eq rd
  refine SrtO.sorted_ord (swo_dat (datOf s.heap)) hl.isList (by rw [← rv.length]; exact hz) (fun h2 h₁ b hb kk => ?_) fun out hs1 hs2 => ?_
  · have kt : ∀ c o, s.heap.get? c = some o → o.cls = .type "tuple" → h₁.get? c = some o := fun c o e _ => (kk c o e).2
    refine nd_sortable (s := { s with heap := h₁ }) (ds := ds) (by omega) (hR.mono fun v d ⟨as, rd⟩ => ⟨as, reads_keep kt d v as rd⟩) ok (by show X.A.units + 1 + 1 + 16 < cLine; omega) (fun o e => ?_) (datOf s.heap) (fun v hv d as rd => ?_)
    · have e' : some o = some (seqObj "list" its.toArray 0) := e.symm.trans hb
      cases e'
      intro c
      exact absurd (Value.type.inj c) (by decide)
    · obtain ⟨d', _, as', rd'⟩ := hR.mem hv
      rw [hf v hv d' as' rd']
      have z1 := datOf_eq (reads_keep kt d' v as' rd')
      have z2 := datOf_eq rd
      exact z1.symm.trans z2
  · have h3 : ∀ u ∈ out, ∃ a, u = Value.ref a := fun u hu => e2 u (hs2.perm.mem_iff.mp hu)
    have pm : (out.map backV).Perm xs := by rw [e1]; exact hs2.perm.map _
    have so : out.map (datOf s.heap) = ND.sort ds := by
      refine (ND.sort_eq ?_ ?_).symm
      · refine List.pairwise_map.mpr (hs1.imp fun {x y} z => ?_)
        have z : ND.ltB (datOf s.heap y) (datOf s.heap x) = false := z
        unfold ND.leB
        rw [z]
        rfl
      · rw [← em]; exact hs2.perm.map _
    obtain ⟨n, hn⟩ := sortedAll_at s.heap its out.toArray
    have ez : (out.map fun v => (backV v, datOf s.heap v)).map (·.1) = out.map backV := by rw [List.map_map]; rfl
    have ez2 : (out.map fun v => (backV v, datOf s.heap v)).map (·.2) = out.map (datOf s.heap) := by rw [List.map_map]; rfl
    refine ⟨.ref (s.heap.objs.size + 1), upd H (s.heap.objs.size + 1) (.lst (out.map backV)), I.laid (t' := s.toks) (fun b o e => sortedAll_old e) (Nat.le_succ _) ⟨?_, out, n, vals_back h3, hn⟩, rfl, ?_⟩
    · rw [pm.length_eq]; exact hz
    · have z := q (out.map fun v => (backV v, datOf s.heap v)) (s.heap.objs.size + 1) ?_ (by rw [ez2]; exact so) (I.hok.fresh (Nat.le_succ _))
      · rw [ez] at z
        exact z
      · rw [← em, e1, zip_map2]
        exact hs2.perm.map _
end
section
variable {X : Cx} {K : PySem.W.Frag}
def rGeN (K : PySem.W.Frag) : R2 := fun x y H Q => ∃ d e : ND, Dp K H x d.py ∧ Dp K H y e.py ∧ ND.hom d e = true ∧ d.dep ≤ 8 ∧ Q (.bl (!ND.ltB d e)) H
def rLtN (K : PySem.W.Frag) : R2 := fun x y H Q => ∃ d e : ND, Dp K H x d.py ∧ Dp K H y e.py ∧ ND.hom d e = true ∧ d.dep ≤ 8 ∧ Q (.bl (ND.ltB d e)) H
theorem op_geN (hu : X.A.units + 40 < cLine) (e : X.K = K := by rfl) : OpR X (compareOp .GtE) (rGeN K) := by
  subst e
  intro pins s σ H x y v u Q I rx ry h
  obtain ⟨d, e, hd, he, hh, dd, q⟩ := h
  obtain ⟨as, r1⟩ := Dp.reads I _ x v hd rx
  obtain ⟨bs, r2⟩ := Dp.reads I _ y u he ry
  have R := rc_ge d e X.A s v u as bs r1 r2 hh (by omega)
  exact R X.prog X.w X.xe (EP X pins σ Q) ⟨.bl _, H, I, rfl, q⟩
theorem op_ltN (hu : X.A.units + 40 < cLine) (e : X.K = K := by rfl) : OpR X (compareOp .Lt) (rLtN K) := by
  subst e
  intro pins s σ H x y v u Q I rx ry h
  obtain ⟨d, e, hd, he, hh, dd, q⟩ := h
  obtain ⟨as, r1⟩ := Dp.reads I _ x v hd rx
  obtain ⟨bs, r2⟩ := Dp.reads I _ y u he ry
  have R := rc_lt d e X.A s v u as bs r1 r2 hh (by omega)
  exact R X.prog X.w X.xe (EP X pins σ Q) ⟨.bl _, H, I, rfl, q⟩
end
theorem all2_zip {α : Type} {R : V → α → Prop} {enc : α → ND} (inj : ∀ a b, enc a = enc b → a = b) : ∀ {zs : List (V × ND)} {qs : List α}, (∀ z ∈ zs, ∃ p, R z.1 p ∧ z.2 = enc p) → zs.map (·.2) = qs.map enc → All2 R (zs.map (·.1)) qs
  | [], [], _, _ => trivial
  | [], _ :: _, _, e => by cases e
  | _ :: _, [], _, e => by cases e
  | z :: zs, q :: qs, h, e => by
    rw [List.map_cons, List.map_cons] at e
    injection e with e1 e2
    obtain ⟨p, r, ep⟩ := h z List.mem_cons_self
    rw [ep] at e1
    have := inj _ _ e1
    subst this
    exact ⟨r, all2_zip inj (fun z hz => h z (List.mem_cons_of_mem _ hz)) e2⟩
theorem zip_mem {α : Type} {R : V → α → Prop} {enc : α → ND} : ∀ {xs : List V} {ps : List α}, All2 R xs ps → ∀ z ∈ xs.zip (ps.map enc), ∃ p, R z.1 p ∧ z.2 = enc p
  | [], [], _, z, hz => by simp at hz
  | x :: xs, p :: ps, h, z, hz => by
    rw [List.map_cons, List.zip_cons_cons] at hz
    rcases List.mem_cons.mp hz with e | e
    · subst e
      exact ⟨p, h.1, rfl⟩
    · exact zip_mem h.2 z e
/-- sorted of a list of things that are written by enc -/
theorem w_sortN {α : Type} {K : PySem.W.Frag} {H : Hp} {Q : VK} {a : Addr} {vs : List V} {ps qs : List α} {R : V → α → Prop} {enc : α → ND} (inj : ∀ a b, enc a = enc b → a = b) (hd : ∀ v p, R v p → Dp K H v (enc p).py ∧ ∃ t, v = .ref t)
    (h1 : SqL K H a vs) (p1 : All2 R vs ps) (ok : SrtOk (ps.map enc)) (hs : ND.sort (ps.map enc) = qs.map enc) (h : ∀ ys p, H p = none → All2 R ys qs → Q (.ref p) (upd H p (.lst ys))) : rSortN K [.ref a] H Q := by
  refine ⟨a, vs, ps.map enc, rfl, h1, ?_, fun x hx => ?_, ok, fun zs p pm hz hp => h _ p hp ?_⟩
  · clear h h1 ok hs
    induction vs generalizing ps with
    | nil => cases ps with
      | nil => trivial
      | cons _ _ => exact p1.elim
    | cons v vs ih => cases ps with
      | nil => exact p1.elim
      | cons q qs => exact ⟨(hd _ _ p1.1).1, ih p1.2⟩
  · obtain ⟨q, _, r⟩ := p1.mem hx
    exact (hd _ _ r).2
  · exact all2_zip inj (fun z hz' => zip_mem p1 z (pm.mem_iff.mp hz')) (hz.trans hs)
theorem _root_.L2.Room.u40 {A : Around} {k : Nat} (hr : Room k A) : A.units + 40 < cLine := by have := hr.un; omega
/-! #### a sorted list through a way to write it -/
theorem sort_enc {α : Type} {enc : α → ND} {le : α → α → Bool} (he : ∀ a b, ND.leB (enc a) (enc b) = le a b) (tr : ∀ a b c, le a b = true → le b c = true → le a c = true) (tot : ∀ a b, (le a b || le b a) = true) (xs : List α) : ND.sort (xs.map enc) = (xs.mergeSort le).map enc := by
  refine ND.sort_eq (List.pairwise_map.mpr ((List.pairwise_mergeSort tr tot xs).imp fun {a b} h => ?_)) ((List.mergeSort_perm xs le).map enc)
  rw [he]
  exact h
theorem leB_i (a b : Int) : ND.leB (.i a) (.i b) = decide (a ≤ b) := by
  unfold ND.leB ND.ltB
  simp only [ND.cmp]
  by_cases h : b < a
  · rw [ND.int_lt.mpr h, decide_eq_false (by omega)]; rfl
  · rw [decide_eq_true (by omega)]
    have : compare b a ≠ .lt := fun e => h (ND.int_lt.mp e)
    cases e : compare b a <;> simp_all
theorem leB_tcons (x y : ND) (xs ys : List ND) : ND.leB (.t (x :: xs)) (.t (y :: ys)) = (if ND.cmp x y = .eq then ND.leB (.t xs) (.t ys) else ND.leB x y) := by
  unfold ND.leB ND.ltB
  simp only [ND.cmp, ND.cmpL]
  rw [ND.cmp_swap x y]
  cases e : ND.cmp x y with
  | eq => rfl
  | lt => rfl
  | gt => rfl
theorem leB_tnil (ys : List ND) : ND.leB (.t []) (.t ys) = true := by
  unfold ND.leB ND.ltB
  cases ys <;> simp [ND.cmp, ND.cmpL]
theorem cmp_i_eq (a b : Int) : (ND.cmp (.i a) (.i b) = .eq) ↔ a = b := by
  simp only [ND.cmp]
  exact ⟨fun h => Std.LawfulEqCmp.eq_of_compare h, fun h => by subst h; exact Std.ReflCmp.compare_self⟩
end Pm
/-! ### cuttings as trees: a leaf is a tie of two neighbours, a node a tie with the post beside it -/
namespace Pm
inductive Tr where
  | leaf
  | node (l r : Tr)
namespace Tr
def w : Tr → Nat
  | leaf => 1
  | node l r => l.w + r.w
theorem w_pos : ∀ t : Tr, 1 ≤ t.w
  | leaf => Nat.le_refl _
  | node l r => by have := l.w_pos; show 1 ≤ l.w + r.w; omega
/-- all ties -/
def all : Nat → Tr → List (Nat × Nat)
  | lo, leaf => [(lo, lo + 1)]
  | lo, node l r => (lo, lo + (l.w + r.w)) :: (l.all lo ++ r.all (lo + l.w))
/-- the ties of nodes -/
def inn : Nat → Tr → List (Nat × Nat)
  | _, leaf => []
  | lo, node l r => (lo, lo + (l.w + r.w)) :: (l.inn lo ++ r.inn (lo + l.w))
/-- the ropes of the whole -/
def ropes : Nat → Tr → List (Nat × Nat)
  | _, leaf => []
  | lo, node l r => l.inn lo ++ r.inn (lo + l.w)
theorem inn_node {lo : Nat} {t : Tr} (h : 2 ≤ t.w) : t.inn lo = (lo, lo + t.w) :: t.ropes lo := by
  cases t with
  | leaf => exact absurd h (by show ¬ 2 ≤ 1; omega)
  | node l r => rfl
theorem bd : ∀ {t : Tr} {lo : Nat} {p : Nat × Nat}, p ∈ t.all lo → lo ≤ p.1 ∧ p.1 < p.2 ∧ p.2 ≤ lo + t.w
  | leaf, lo, p, h => by
    rw [List.mem_singleton.mp h]
    exact ⟨Nat.le_refl _, Nat.lt_succ_self _, Nat.le_refl _⟩
  | node l r, lo, p, h => by
    have wl := l.w_pos
    have wr := r.w_pos
    show lo ≤ p.1 ∧ p.1 < p.2 ∧ p.2 ≤ lo + (l.w + r.w)
    rcases List.mem_cons.mp h with h | h
    · rw [h]; simp only; omega
    · rcases List.mem_append.mp h with h | h
      · have := bd h; omega
      · have := bd h; omega
theorem mem_node {l r : Tr} {lo : Nat} {p : Nat × Nat} : p ∈ (node l r).all lo ↔ p = (lo, lo + (l.w + r.w)) ∨ p ∈ l.all lo ∨ p ∈ r.all (lo + l.w) := by
  show p ∈ _ :: (_ ++ _) ↔ _
  rw [List.mem_cons, List.mem_append]
theorem root_mem {t : Tr} {lo : Nat} : (lo, lo + t.w) ∈ t.all lo := by
  cases t with
  | leaf => exact List.mem_singleton.mpr rfl
  | node l r => exact List.mem_cons_self
theorem inn_all : ∀ {t : Tr} {lo : Nat} {p : Nat × Nat}, p ∈ t.inn lo → p ∈ t.all lo
  | leaf, _, _, h => by cases h
  | node l r, lo, p, h => by
    rw [mem_node]
    rcases List.mem_cons.mp h with h | h
    · exact .inl h
    · rcases List.mem_append.mp h with h | h
      · exact .inr (.inl (inn_all h))
      · exact .inr (.inr (inn_all h))
theorem inn_wide : ∀ {t : Tr} {lo : Nat} {p : Nat × Nat}, p ∈ t.inn lo → p.1 + 2 ≤ p.2
  | leaf, _, _, h => by cases h
  | node l r, lo, p, h => by
    have wl := l.w_pos
    have wr := r.w_pos
    rcases List.mem_cons.mp h with h | h
    · rw [h]; simp only; omega
    · rcases List.mem_append.mp h with h | h
      · exact inn_wide h
      · exact inn_wide h
/-- a tie is one of a node, or of two neighbours -/
theorem all_iff : ∀ {t : Tr} {lo : Nat} {p : Nat × Nat}, p ∈ t.all lo ↔ p ∈ t.inn lo ∨ (lo ≤ p.1 ∧ p.2 = p.1 + 1 ∧ p.2 ≤ lo + t.w)
  | leaf, lo, p => by
    show p ∈ [(lo, lo + 1)] ↔ p ∈ [] ∨ (lo ≤ p.1 ∧ p.2 = p.1 + 1 ∧ p.2 ≤ lo + 1)
    obtain ⟨a, b⟩ := p
    simp only [List.mem_singleton, Prod.mk.injEq, List.not_mem_nil, false_or]
    omega
  | node l r, lo, p => by
    have wl := l.w_pos
    have wr := r.w_pos
    rw [mem_node, all_iff (t := l), all_iff (t := r)]
    show _ ↔ p ∈ _ :: (_ ++ _) ∨ (lo ≤ p.1 ∧ p.2 = p.1 + 1 ∧ p.2 ≤ lo + (l.w + r.w))
    rw [List.mem_cons, List.mem_append]
    constructor
    · rintro (h | (h | h) | (h | h))
      · exact .inl (.inl h)
      · exact .inl (.inr (.inl h))
      · exact .inr (by omega)
      · exact .inl (.inr (.inr h))
      · exact .inr (by omega)
    · rintro ((h | h | h) | h)
      · exact .inl h
      · exact .inr (.inl (.inl h))
      · exact .inr (.inr (.inl h))
      · by_cases c : p.2 ≤ lo + l.w
        · exact .inr (.inl (.inr (by omega)))
        · exact .inr (.inr (.inr (by omega)))
/-- the one post between the ends of a node's tie -/
theorem apex_in : ∀ {t : Tr} {lo a b : Nat}, (a, b) ∈ t.inn lo → ∃ m, (a < m ∧ m < b) ∧ (a, m) ∈ t.all lo ∧ (m, b) ∈ t.all lo ∧ ∀ m', a < m' → m' < b → (a, m') ∈ t.all lo → (m', b) ∈ t.all lo → m' = m
  | leaf, _, _, _, h => by cases h
  | node l r, lo, a, b, h => by
    have wl := l.w_pos
    have wr := r.w_pos
    rcases List.mem_cons.mp h with h | h
    · obtain ⟨rfl, rfl⟩ := Prod.mk.inj h
      refine ⟨a + l.w, ⟨by omega, by omega⟩, mem_node.mpr (.inr (.inl root_mem)), mem_node.mpr (.inr (.inr (by rw [← Nat.add_assoc]; exact root_mem))), fun m' h1 h2 h3 h4 => ?_⟩
      rcases mem_node.mp h3 with e | e | e
      · have := (Prod.mk.inj e).2; omega
      · have q := (bd e).2.2
        simp only at q
        rcases mem_node.mp h4 with e | e | e
        · have := (Prod.mk.inj e).1; omega
        · have := (bd e).2.2; simp only at this; omega
        · have := (bd e).1; simp only at this; omega
      · have := (bd e).1; simp only at this; omega
    · rcases List.mem_append.mp h with h | h
      · have q := bd (inn_all h)
        simp only at q
        obtain ⟨m, hm, h1, h2, u⟩ := apex_in h
        refine ⟨m, hm, mem_node.mpr (.inr (.inl h1)), mem_node.mpr (.inr (.inl h2)), fun m' g1 g2 g3 g4 => u m' g1 g2 ?_ ?_⟩
        · rcases mem_node.mp g3 with e | e | e
          · have := (Prod.mk.inj e).2; omega
          · exact e
          · have := (bd e).1; simp only at this; omega
        · rcases mem_node.mp g4 with e | e | e
          · have := (Prod.mk.inj e).1; omega
          · exact e
          · have := (bd e).1; simp only at this; omega
      · have q := bd (inn_all h)
        simp only at q
        obtain ⟨m, hm, h1, h2, u⟩ := apex_in h
        refine ⟨m, hm, mem_node.mpr (.inr (.inr h1)), mem_node.mpr (.inr (.inr h2)), fun m' g1 g2 g3 g4 => u m' g1 g2 ?_ ?_⟩
        · rcases mem_node.mp g3 with e | e | e
          · have := (Prod.mk.inj e).1; omega
          · have := (bd e).2.2; simp only at this; omega
          · exact e
        · rcases mem_node.mp g4 with e | e | e
          · have := (Prod.mk.inj e).1; omega
          · have := (bd e).2.2; simp only at this; omega
          · exact e
/-- m makes a plot with (a, b) from outside -/
def Out (t : Tr) (lo a b m : Nat) : Prop := (m < a ∧ (m, a) ∈ t.all lo ∧ (m, b) ∈ t.all lo) ∨ (b < m ∧ (a, m) ∈ t.all lo ∧ (b, m) ∈ t.all lo)
theorem Out.up_l {l r : Tr} {lo a b m : Nat} (h : Out l lo a b m) : Out (node l r) lo a b m := by
  rcases h with ⟨h, h1, h2⟩ | ⟨h, h1, h2⟩
  · exact .inl ⟨h, mem_node.mpr (.inr (.inl h1)), mem_node.mpr (.inr (.inl h2))⟩
  · exact .inr ⟨h, mem_node.mpr (.inr (.inl h1)), mem_node.mpr (.inr (.inl h2))⟩
theorem Out.up_r {l r : Tr} {lo a b m : Nat} (h : Out r (lo + l.w) a b m) : Out (node l r) lo a b m := by
  rcases h with ⟨h, h1, h2⟩ | ⟨h, h1, h2⟩
  · exact .inl ⟨h, mem_node.mpr (.inr (.inr h1)), mem_node.mpr (.inr (.inr h2))⟩
  · exact .inr ⟨h, mem_node.mpr (.inr (.inr h1)), mem_node.mpr (.inr (.inr h2))⟩
theorem Out.down_l {l r : Tr} {lo a b m : Nat} (q : lo ≤ a ∧ a < b ∧ b ≤ lo + l.w) (n : ¬ (a = lo ∧ b = lo + l.w)) (h : Out (node l r) lo a b m) : Out l lo a b m := by
  have wr := r.w_pos
  rcases h with ⟨h, h1, h2⟩ | ⟨h, h1, h2⟩
  · refine .inl ⟨h, ?_, ?_⟩
    · rcases mem_node.mp h1 with e | e | e
      · have := (Prod.mk.inj e).2; omega
      · exact e
      · have := (bd e).1; simp only at this; omega
    · rcases mem_node.mp h2 with e | e | e
      · have := (Prod.mk.inj e).2; omega
      · exact e
      · have := (bd e).1; simp only at this; omega
  · have hb : (b, m) ∈ l.all lo ∨ b = lo + l.w := by
      rcases mem_node.mp h2 with e | e | e
      · have := (Prod.mk.inj e).1; omega
      · exact .inl e
      · have := (bd e).1; simp only at this; exact .inr (by omega)
    rcases hb with hb | hb
    · have z := (bd hb).2.2
      simp only at z
      refine .inr ⟨h, ?_, hb⟩
      rcases mem_node.mp h1 with e | e | e
      · have := (Prod.mk.inj e).2; omega
      · exact e
      · have := (bd e).1; simp only at this; omega
    · exfalso
      rcases mem_node.mp h1 with e | e | e
      · have := (Prod.mk.inj e).1; omega
      · have := (bd e).2.2; simp only at this; omega
      · have := (bd e).1; simp only at this; omega
theorem Out.down_r {l r : Tr} {lo a b m : Nat} (q : lo + l.w ≤ a ∧ a < b ∧ b ≤ lo + l.w + r.w) (n : ¬ (a = lo + l.w ∧ b = lo + l.w + r.w)) (h : Out (node l r) lo a b m) : Out r (lo + l.w) a b m := by
  have wl := l.w_pos
  rcases h with ⟨h, h1, h2⟩ | ⟨h, h1, h2⟩
  · have ha : (m, a) ∈ r.all (lo + l.w) ∨ a = lo + l.w := by
      rcases mem_node.mp h1 with e | e | e
      · have := (Prod.mk.inj e).2; omega
      · have := (bd e).2.2; simp only at this; exact .inr (by omega)
      · exact .inl e
    rcases ha with ha | ha
    · have z := (bd ha).1
      simp only at z
      refine .inl ⟨h, ha, ?_⟩
      rcases mem_node.mp h2 with e | e | e
      · have := (Prod.mk.inj e).1; omega
      · have := (bd e).2.2; simp only at this; omega
      · exact e
    · exfalso
      rcases mem_node.mp h2 with e | e | e
      · have := (Prod.mk.inj e).2; omega
      · have := (bd e).2.2; simp only at this; omega
      · have := (bd e).1; simp only at this; omega
  · refine .inr ⟨h, ?_, ?_⟩
    · rcases mem_node.mp h1 with e | e | e
      · have := (Prod.mk.inj e).1; omega
      · have := (bd e).2.2; simp only at this; omega
      · exact e
    · rcases mem_node.mp h2 with e | e | e
      · have := (Prod.mk.inj e).1; omega
      · have := (bd e).2.2; simp only at this; omega
      · exact e
theorem Out.bd {t : Tr} {lo a b m : Nat} (h : Out t lo a b m) : lo ≤ m ∧ m ≤ lo + t.w := by
  rcases h with ⟨h, h1, h2⟩ | ⟨h, h1, h2⟩
  · have := Tr.bd h1; simp only at this; omega
  · have := Tr.bd h1; simp only at this; omega
/-- the one post outside a tie that is not the whole's -/
theorem apex_out : ∀ {t : Tr} {lo a b : Nat}, (a, b) ∈ t.all lo → ¬ (a = lo ∧ b = lo + t.w) → ∃ m, Out t lo a b m ∧ ∀ m', Out t lo a b m' → m' = m
  | leaf, lo, a, b, h, n => by
    exfalso
    obtain ⟨e1, e2⟩ := Prod.mk.inj (List.mem_singleton.mp h)
    exact n ⟨e1, e2⟩
  | node l r, lo, a, b, h, n => by
    have wl := l.w_pos
    have wr := r.w_pos
    rcases mem_node.mp h with h | h | h
    · exact absurd (Prod.mk.inj h) n
    · have q := Tr.bd h
      simp only at q
      by_cases c : a = lo ∧ b = lo + l.w
      · obtain ⟨rfl, rfl⟩ := c
        refine ⟨a + (l.w + r.w), .inr ⟨by omega, mem_node.mpr (.inl rfl), mem_node.mpr (.inr (.inr (by rw [← Nat.add_assoc]; exact root_mem)))⟩, fun m' o => ?_⟩
        rcases o with ⟨h, h1, h2⟩ | ⟨h, h1, h2⟩
        · have := (Tr.bd h1).1; simp only at this; omega
        · rcases mem_node.mp h1 with e | e | e
          · exact (Prod.mk.inj e).2
          · have := (Tr.bd e).2.2; simp only at this; omega
          · have := (Tr.bd e).1; simp only at this; omega
      · obtain ⟨m, o, u⟩ := apex_out h c
        exact ⟨m, o.up_l, fun m' o' => u m' (o'.down_l q c)⟩
    · have q := Tr.bd h
      simp only at q
      by_cases c : a = lo + l.w ∧ b = lo + l.w + r.w
      · obtain ⟨rfl, rfl⟩ := c
        refine ⟨lo, .inl ⟨by omega, mem_node.mpr (.inr (.inl root_mem)), mem_node.mpr (.inl (by rw [Nat.add_assoc]))⟩, fun m' o => ?_⟩
        rcases o with ⟨h, h1, h2⟩ | ⟨h, h1, h2⟩
        · rcases mem_node.mp h2 with e | e | e
          · exact (Prod.mk.inj e).1
          · have := (Tr.bd e).2.2; simp only at this; omega
          · have := (Tr.bd e).1; simp only at this; omega
        · have := (Tr.bd h1).2.2; simp only at this; change m' ≤ lo + (l.w + r.w) at this; omega
      · obtain ⟨m, o, u⟩ := apex_out h c
        exact ⟨m, o.up_r, fun m' o' => u m' (o'.down_r q c)⟩
end Tr
end Pm
/-! ### a cutting drawn ear by ear is a tree -/
namespace Pm
namespace Tr
def graft : Tr → Nat → Tr
  | leaf, _ => node leaf leaf
  | node l r, j => if j < l.w then node (l.graft j) r else node l (r.graft (j - l.w))
theorem w_graft : ∀ {t : Tr} {j : Nat}, j < t.w → (t.graft j).w = t.w + 1
  | leaf, _, _ => rfl
  | node l r, j, h => by
    unfold graft
    split
    · rename_i c
      show (l.graft j).w + r.w = l.w + r.w + 1
      rw [w_graft c]; omega
    · rename_i c
      show l.w + (r.graft (j - l.w)).w = l.w + r.w + 1
      have : j < l.w + r.w := h
      rw [w_graft (by omega)]; omega
def sk (c i : Nat) : Nat := if i < c then i else i + 1
def skp (c : Nat) (p : Nat × Nat) : Nat × Nat := (sk c p.1, sk c p.2)
theorem inn_shift : ∀ (t : Tr) (lo : Nat), t.inn (lo + 1) = (t.inn lo).map fun p => (p.1 + 1, p.2 + 1)
  | leaf, _ => rfl
  | node l r, lo => by
    show (lo + 1, lo + 1 + (l.w + r.w)) :: (l.inn (lo + 1) ++ r.inn (lo + 1 + l.w)) = ((lo, lo + (l.w + r.w)) :: (l.inn lo ++ r.inn (lo + l.w))).map _
    rw [List.map_cons, List.map_append, inn_shift l lo, show lo + 1 + l.w = lo + l.w + 1 by omega, inn_shift r (lo + l.w)]
    congr 2
    omega
theorem ropes_shift (t : Tr) (lo : Nat) : t.ropes (lo + 1) = (t.ropes lo).map fun p => (p.1 + 1, p.2 + 1) := by
  cases t with
  | leaf => rfl
  | node l r =>
    show l.inn (lo + 1) ++ r.inn (lo + 1 + l.w) = (l.inn lo ++ r.inn (lo + l.w)).map _
    rw [List.map_append, inn_shift l lo, show lo + 1 + l.w = lo + l.w + 1 by omega, inn_shift r (lo + l.w)]
theorem skp_up {t : Tr} {lo c : Nat} (h : c ≤ lo) : (t.inn lo).map (skp c) = t.inn (lo + 1) := by
  rw [inn_shift]
  refine List.map_congr_left fun p hp => ?_
  have q := bd (inn_all hp)
  unfold skp sk
  rw [if_neg (by omega), if_neg (by omega)]
theorem skp_down {t : Tr} {lo c : Nat} (h : lo + t.w < c) : (t.inn lo).map (skp c) = t.inn lo := by
  conv => rhs; rw [← List.map_id (t.inn lo)]
  refine List.map_congr_left fun p hp => ?_
  have q := bd (inn_all hp)
  unfold skp sk
  rw [if_pos (by omega), if_pos (by omega)]
  rfl
theorem inn_graft : ∀ {t : Tr} {lo j : Nat}, j < t.w → ((t.graft j).inn lo).Perm ((lo + j, lo + j + 2) :: (t.inn lo).map (skp (lo + j + 1)))
  | leaf, lo, j, h => by
    have : j = 0 := by have h : j < 1 := h; omega
    subst this
    exact List.Perm.refl _
  | node l r, lo, j, h => by
    have h : j < l.w + r.w := h
    have wr := r.w_pos
    have wl := l.w_pos
    show ((graft (node l r) j).inn lo).Perm ((lo + j, lo + j + 2) :: ((lo, lo + (l.w + r.w)) :: (l.inn lo ++ r.inn (lo + l.w))).map _)
    rw [List.map_cons, List.map_append]
    have e0 : skp (lo + j + 1) (lo, lo + (l.w + r.w)) = (lo, lo + (l.w + r.w) + 1) := by
      unfold skp sk
      rw [if_pos (by omega), if_neg (by omega)]
    rw [e0]
    unfold graft
    split
    · rename_i c
      show ((lo, lo + ((l.graft j).w + r.w)) :: ((l.graft j).inn lo ++ r.inn (lo + (l.graft j).w))).Perm _
      rw [w_graft c, skp_up (t := r) (show lo + j + 1 ≤ lo + l.w by omega), show lo + (l.w + 1 + r.w) = lo + (l.w + r.w) + 1 by omega, show lo + (l.w + 1) = lo + l.w + 1 by omega]
      exact ((inn_graft c).append_right _).cons _ |>.trans (List.Perm.swap _ _ _)
    · rename_i c
      have c' : j - l.w < r.w := by omega
      show ((lo, lo + (l.w + (r.graft (j - l.w)).w)) :: (l.inn lo ++ (r.graft (j - l.w)).inn (lo + l.w))).Perm _
      have ih := inn_graft (t := r) (lo := lo + l.w) c'
      rw [show lo + l.w + (j - l.w) = lo + j by omega] at ih
      rw [w_graft c', skp_down (t := l) (show lo + l.w < lo + j + 1 by omega), show lo + (l.w + (r.w + 1)) = lo + (l.w + r.w) + 1 by omega]
      refine ((ih.append_left _).cons _).trans ?_
      refine (List.Perm.cons _ List.perm_middle).trans (List.Perm.swap _ _ _)
theorem ropes_graft {t : Tr} {j : Nat} (h : j < t.w) (h2 : 2 ≤ t.w) : ((t.graft j).ropes 0).Perm ((j, j + 2) :: (t.ropes 0).map (skp (j + 1))) := by
  have q := inn_graft (lo := 0) h
  rw [inn_node (t := t) h2, inn_node (t := t.graft j) (by rw [w_graft h]; omega), w_graft h, List.map_cons] at q
  have e0 : skp (0 + j + 1) (0, 0 + t.w) = (0, 0 + (t.w + 1)) := by
    unfold skp sk
    rw [if_pos (by omega), if_neg (by omega)]
    congr 1
  rw [e0] at q
  have q2 := q.trans (List.Perm.swap _ _ _)
  have q3 := q2.cons_inv
  rw [Nat.zero_add] at q3
  exact q3
end Tr
abbrev Ear := Int × Int × Int
/-- all ears of a ring, cut off one by one -/
inductive Ears : List Int → List Ear → Prop
  | done {L : List Int} (h : L.length ≤ 3) : Ears L []
  | step {L : List Int} {es : List Ear} (k : Nat) (h3 : 3 < L.length) (hk : k < L.length) (t : Ears (L.eraseIdx k) es) :
      Ears L ((L.getD k 0, L.getD ((k + L.length - 1) % L.length) 0, L.getD ((k + 1) % L.length) 0) :: es)
def tieOf (a b : Int) : IP := (min a b, max a b)
def ropeOf (e : Ear) : IP := tieOf e.2.1 e.2.2
theorem getD_erase (L : List Int) (k i : Nat) : (L.eraseIdx k).getD i 0 = L.getD (Tr.sk k i) 0 := by
  rw [List.getD_eq_getElem?_getD, List.getD_eq_getElem?_getD, List.getElem?_eraseIdx]
  unfold Tr.sk
  split <;> rfl
theorem rise_get {L : List Int} (h : L.Pairwise (· < ·)) {i j : Nat} (hij : i < j) (hj : j < L.length) : L.getD i 0 < L.getD j 0 := by
  have q := List.pairwise_iff_getElem.mp h i j (by omega) hj hij
  rw [List.getD_eq_getElem?_getD, List.getD_eq_getElem?_getD, List.getElem?_eq_getElem (by omega), List.getElem?_eq_getElem hj]
  exact q
def atP (L : List Int) (p : Nat × Nat) : IP := (L.getD p.1 0, L.getD p.2 0)
theorem atP_erase (L : List Int) (k : Nat) (p : Nat × Nat) : atP (L.eraseIdx k) p = atP L (Tr.skp k p) := by
  unfold atP Tr.skp
  rw [getD_erase, getD_erase]
theorem tie_lt {a b : Int} (h : a < b) : tieOf a b = (a, b) := by unfold tieOf; rw [Int.min_eq_left (by omega), Int.max_eq_right (by omega)]
theorem tie_gt {a b : Int} (h : a < b) : tieOf b a = (a, b) := by unfold tieOf; rw [Int.min_eq_right (by omega), Int.max_eq_left (by omega)]
theorem drawn_tree {L : List Int} {es : List Ear} (h : Ears L es) : L.Pairwise (· < ·) → 3 ≤ L.length → ∃ t : Tr, t.w + 1 = L.length ∧ (es.map ropeOf).Perm ((t.ropes 0).map (atP L)) := by
  induction h with
  | done h =>
    intro _ h3
    exact ⟨.node .leaf .leaf, by show 2 + 1 = _; omega, List.Perm.refl _⟩
  | @step L es k h3 hk _ ih =>
    intro rise _
    have le : (L.eraseIdx k).length = L.length - 1 := List.length_eraseIdx_of_lt hk
    obtain ⟨t, hw, hp⟩ := ih (rise.sublist (List.eraseIdx_sublist L k)) (by omega)
    have w2 : 2 ≤ t.w := by omega
    have hp : (es.map ropeOf).Perm ((t.ropes 0).map fun p => atP L (Tr.skp k p)) := by
      rw [show (fun p => atP L (Tr.skp k p)) = atP (L.eraseIdx k) from funext fun p => (atP_erase L k p).symm]
      exact hp
    by_cases k0 : k = 0
    · subst k0
      refine ⟨.node .leaf t, by show 1 + t.w + 1 = _; omega, ?_⟩
      have e1 : (Tr.node .leaf t).ropes 0 = (1, 1 + t.w) :: (t.ropes 0).map (Tr.skp 0) := by
        show [] ++ t.inn (0 + 1) = _
        rw [List.nil_append, Tr.inn_node w2, Tr.ropes_shift]
        rfl
      have e2 : (0 + L.length - 1) % L.length = L.length - 1 := by rw [Nat.zero_add]; exact Nat.mod_eq_of_lt (by omega)
      have e3 : (0 + 1) % L.length = 1 := Nat.mod_eq_of_lt (by omega)
      rw [List.map_cons, e1, List.map_cons, List.map_map]
      have e4 : ropeOf (L.getD 0 0, L.getD ((0 + L.length - 1) % L.length) 0, L.getD ((0 + 1) % L.length) 0) = atP L (1, 1 + t.w) := by
        unfold ropeOf atP
        rw [e2, e3]
        simp only
        rw [show 1 + t.w = L.length - 1 by omega]
        exact tie_gt (rise_get rise (by omega) (by omega))
      rw [e4]
      exact hp.cons _
    · by_cases km : k = L.length - 1
      · refine ⟨.node t .leaf, by show t.w + 1 + 1 = _; omega, ?_⟩
        have e1 : (Tr.node t .leaf).ropes 0 = (0, t.w) :: t.ropes 0 := by
          show t.inn 0 ++ [] = _
          rw [List.append_nil, Tr.inn_node w2, Nat.zero_add]
        have e2 : (k + L.length - 1) % L.length = k - 1 := by
          rw [show k + L.length - 1 = (k - 1) + L.length by omega, Nat.add_mod_right]
          exact Nat.mod_eq_of_lt (by omega)
        have e3 : (k + 1) % L.length = 0 := by
          rw [show k + 1 = L.length by omega]
          exact Nat.mod_self _
        have e5 : (t.ropes 0).map (fun p => atP L (Tr.skp k p)) = (t.ropes 0).map (atP L) := by
          refine List.map_congr_left fun p hp => ?_
          have hin : p ∈ t.inn 0 := by rw [Tr.inn_node w2]; exact List.mem_cons_of_mem _ hp
          have q := Tr.bd (Tr.inn_all hin)
          unfold Tr.skp Tr.sk
          rw [if_pos (by omega), if_pos (by omega)]
        rw [e5] at hp
        rw [List.map_cons, e1, List.map_cons]
        have e4 : ropeOf (L.getD k 0, L.getD ((k + L.length - 1) % L.length) 0, L.getD ((k + 1) % L.length) 0) = atP L (0, t.w) := by
          unfold ropeOf atP
          rw [e2, e3]
          simp only
          rw [show t.w = k - 1 by omega]
          exact tie_gt (rise_get rise (by omega) (by omega))
        rw [e4]
        exact hp.cons _
      · refine ⟨t.graft (k - 1), by rw [Tr.w_graft (by omega)]; omega, ?_⟩
        have e1 := Tr.ropes_graft (t := t) (j := k - 1) (by omega) w2
        rw [show k - 1 + 1 = k by omega, show k - 1 + 2 = k + 1 by omega] at e1
        have e2 : (k + L.length - 1) % L.length = k - 1 := by
          rw [show k + L.length - 1 = (k - 1) + L.length by omega, Nat.add_mod_right]
          exact Nat.mod_eq_of_lt (by omega)
        have e3 : (k + 1) % L.length = k + 1 := Nat.mod_eq_of_lt (by omega)
        have e4 : ropeOf (L.getD k 0, L.getD ((k + L.length - 1) % L.length) 0, L.getD ((k + 1) % L.length) 0) = atP L (k - 1, k + 1) := by
          unfold ropeOf atP
          rw [e2, e3]
          exact tie_lt (rise_get rise (by omega) (by omega))
        rw [List.map_cons, e4]
        refine (hp.cons _).trans ?_
        have q := (e1.map (atP L)).symm
        rw [List.map_cons, List.map_map] at q
        exact q
def castP (p : Nat × Nat) : IP := ((p.1 : Int), (p.2 : Int))
/-- the posts of a ring -/
def posts (n : Nat) : List Int := (List.range n).map fun i : Nat => (i : Int)
theorem posts_len (n : Nat) : (posts n).length = n := by rw [posts, List.length_map, List.length_range]
theorem posts_rise (n : Nat) : (posts n).Pairwise (· < ·) := by
  rw [posts, List.pairwise_map]
  exact List.pairwise_lt_range.imp fun h => by omega
theorem posts_get {n i : Nat} (h : i < n) : (posts n).getD i 0 = (i : Int) := by
  rw [posts, List.getD_eq_getElem?_getD, List.getElem?_map, List.getElem?_range h] <;> rfl
theorem ropes_bd {t : Tr} {p : Nat × Nat} (hp : p ∈ t.ropes 0) : p ∈ t.inn 0 ∧ ¬ (p.1 = 0 ∧ p.2 = t.w) := by
  cases t with
  | leaf => cases hp
  | node l r =>
    have wl := l.w_pos
    have wr := r.w_pos
    refine ⟨List.mem_cons_of_mem _ hp, ?_⟩
    show ¬ (p.1 = 0 ∧ p.2 = l.w + r.w)
    rcases List.mem_append.mp hp with h | h
    · have := Tr.bd (Tr.inn_all h); omega
    · have := Tr.bd (Tr.inn_all h); omega
theorem drawn_posts {n : Nat} {es : List Ear} (h : Ears (posts n) es) (hn : 3 ≤ n) : ∃ t : Tr, t.w + 1 = n ∧ (es.map ropeOf).Perm ((t.ropes 0).map castP) := by
  obtain ⟨t, hw, hp⟩ := drawn_tree h (posts_rise n) (by rw [posts_len]; exact hn)
  rw [posts_len] at hw
  refine ⟨t, hw, ?_⟩
  have e : (t.ropes 0).map (atP (posts n)) = (t.ropes 0).map castP := by
    refine List.map_congr_left fun p hp => ?_
    have q := Tr.bd (Tr.inn_all (ropes_bd hp).1)
    unfold atP castP
    rw [posts_get (by omega), posts_get (by omega)]
  rw [e] at hp
  exact hp
end Pm
namespace Pm
open PySem PySem.Spec PyProof.Rows L2
/-! ### sides, ties, the posts beside -/
def sides0 (n : Nat) : List IP := ((List.range (n - 1)).map fun k : Nat => ((k : Int), (k : Int) + 1)) ++ [(0, (n : Int) - 1)]
def sidesL (n : Nat) : List IP := sortP (sides0 n)
def tiesL (n : Nat) (cut : List IP) : List IP := sortP (sides0 n ++ cut)
theorem sides0_len {n : Nat} (h : 1 ≤ n) : (sides0 n).length = n := by
  rw [sides0, List.length_append, List.length_map, List.length_range, List.length_singleton]; omega
theorem tiesL_eq (n : Nat) (cut : List IP) : sortP (sidesL n ++ cut) = tiesL n cut := sortP_congr ((sortP_perm _).append_right _)
theorem mem_ties {n : Nat} {cut : List IP} {p : IP} : p ∈ tiesL n cut ↔ p ∈ sides0 n ∨ p ∈ cut := by rw [tiesL, mem_sortP, List.mem_append]
def isBeside (T : List IP) (a b : Int) (c : Nat) : Bool := decide (tieOf a c ∈ T) && decide (tieOf b c ∈ T)
def besideL (n : Nat) (T : List IP) (a b : Int) : List Int := ((List.range n).filter (isBeside T a b)).map fun c : Nat => (c : Int)
/-- a tracked list of pairs -/
def PLt (H : Hp) (a : Addr) (ps : List IP) : Prop := ∃ vs, H a = some (.lst vs) ∧ Prs H vs ps
theorem PLt.same {H H' : Hp} {a : Addr} {ps : List IP} (h : PLt H a ps) (s : Same H H') : PLt H' a ps := by
  obtain ⟨vs, h1, h2⟩ := h
  exact ⟨vs, s _ _ h1, prs_keep (keeps s) h2⟩
theorem PLt.upd {H : Hp} {a b : Addr} {ps : List IP} {xs ys : List V} (h : PLt H a ps) (n : a ≠ b) (hb : H b = some (.lst xs)) : PLt (upd H b (.lst ys)) a ps := by
  obtain ⟨vs, h1, h2⟩ := h
  exact ⟨vs, by rw [upd_ne n]; exact h1, prs_keep (keeps_lst hb) h2⟩
/-- an ear as a tuple -/
def Er (H : Hp) (v : V) (e : Ear) : Prop := ∃ t, v = .ref t ∧ H t = some (.tup [.int e.1, .int e.2.1, .int e.2.2])
theorem er_mono (H H' : Hp) (v : V) (e : Ear) (k : Keeps H H') (h : Er H v e) : Er H' v e := by
  obtain ⟨t, rfl, ht⟩ := h
  exact ⟨t, rfl, k _ _ ht⟩
theorem er_new {H : Hp} {t : Addr} {a b c : Int} (h : H t = some (.tup [.int a, .int b, .int c])) : Er H (.ref t) (a, b, c) := ⟨t, rfl, h⟩
end Pm
/-! ### cuttings and their ties -/
namespace Pm
open PySem PySem.Spec PyProof.Rows L2
/-- cut is the cutting of the tree t -/
structure Cutting (n : Nat) (cut : List IP) (t : Tr) : Prop where
  w : t.w + 1 = n
  n3 : 3 ≤ n
  perm : cut.Perm ((t.ropes 0).map castP)
  rise : Rising cut
theorem drawn_cutting {n : Nat} {es : List Ear} (h : Ears (posts n) es) (hn : 3 ≤ n) : ∃ t, Cutting n (sortP (es.map ropeOf)) t := by
  obtain ⟨t, hw, hp⟩ := drawn_posts h hn
  exact ⟨t, hw, hn, (sortP_perm _).trans hp, sortP_rising _⟩
theorem castP_inj {p q : Nat × Nat} (h : castP p = castP q) : p = q := by
  obtain ⟨a, b⟩ := p
  obtain ⟨c, d⟩ := q
  have e1 := congrArg Prod.fst h
  have e2 := congrArg Prod.snd h
  simp only [castP] at e1 e2
  rw [show a = c by omega, show b = d by omega]
theorem mem_sides0 {n : Nat} {p : IP} (hn : 2 ≤ n) : p ∈ sides0 n ↔ (∃ k : Nat, k + 1 < n ∧ p = castP (k, k + 1)) ∨ p = castP (0, n - 1) := by
  unfold sides0
  rw [List.mem_append, List.mem_map, List.mem_singleton]
  constructor
  · rintro (⟨k, hk, rfl⟩ | rfl)
    · exact .inl ⟨k, by have := List.mem_range.mp hk; omega, by simp [castP]⟩
    · exact .inr (by simp only [castP]; congr 1; omega)
  · rintro (⟨k, hk, rfl⟩ | rfl)
    · exact .inl ⟨k, List.mem_range.mpr (by omega), by simp [castP]⟩
    · exact .inr (by simp only [castP]; congr 1; omega)
section
variable {n : Nat} {cut : List IP} {t : Tr}
theorem Cutting.mem (C : Cutting n cut t) {p : IP} : p ∈ cut ↔ ∃ q, q ∈ t.ropes 0 ∧ p = castP q := by
  rw [C.perm.mem_iff, List.mem_map]
  exact ⟨fun ⟨q, h, e⟩ => ⟨q, h, e.symm⟩, fun ⟨q, h, e⟩ => ⟨q, h, e.symm⟩⟩
theorem Cutting.w2 (C : Cutting n cut t) : 2 ≤ t.w := by have := C.w; have := C.n3; omega
theorem inn_iff {q : Nat × Nat} (h : 2 ≤ t.w) : q ∈ t.inn 0 ↔ q = (0, t.w) ∨ q ∈ t.ropes 0 := by
  rw [Tr.inn_node h, List.mem_cons, Nat.zero_add]
theorem ropes_iff {q : Nat × Nat} (h : 2 ≤ t.w) : q ∈ t.ropes 0 ↔ q ∈ t.inn 0 ∧ q ≠ (0, t.w) := by
  constructor
  · intro hq
    have z := ropes_bd hq
    exact ⟨z.1, fun e => z.2 (by rw [e]; exact ⟨rfl, rfl⟩)⟩
  · rintro ⟨h1, h2⟩
    exact ((inn_iff h).mp h1).resolve_left h2
theorem Cutting.ties (C : Cutting n cut t) {p : IP} : p ∈ tiesL n cut ↔ ∃ q, q ∈ t.all 0 ∧ p = castP q := by
  have h2 := C.w2
  have hw := C.w
  rw [mem_ties, mem_sides0 (by omega), C.mem]
  constructor
  · rintro ((⟨k, hk, rfl⟩ | rfl) | ⟨q, hq, rfl⟩)
    · exact ⟨_, Tr.all_iff.mpr (.inr ⟨Nat.zero_le _, rfl, by simp only; omega⟩), rfl⟩
    · refine ⟨_, Tr.inn_all ((inn_iff h2).mpr (.inl rfl)), ?_⟩
      rw [← hw] <;> rfl
    · exact ⟨q, Tr.inn_all ((inn_iff h2).mpr (.inr hq)), rfl⟩
  · rintro ⟨q, hq, rfl⟩
    rcases Tr.all_iff.mp hq with h | ⟨_, h, h'⟩
    · rcases (inn_iff h2).mp h with rfl | h
      · refine .inl (.inr ?_)
        rw [← hw] <;> rfl
      · exact .inr ⟨q, h, rfl⟩
    · refine .inl (.inl ⟨q.1, by omega, ?_⟩)
      obtain ⟨a, b⟩ := q
      simp only at h
      rw [h]
theorem Cutting.tied (C : Cutting n cut t) {a b : Nat} : castP (a, b) ∈ tiesL n cut ↔ (a, b) ∈ t.all 0 := by
  rw [C.ties]
  exact ⟨fun ⟨q, h, e⟩ => by rw [castP_inj e]; exact h, fun h => ⟨_, h, rfl⟩⟩
theorem tie_cast (a c : Nat) : tieOf (a : Int) (c : Int) = castP (min a c, max a c) := by
  unfold tieOf castP
  simp only
  congr 1 <;> omega
theorem tie_comm (a b : Int) : tieOf a b = tieOf b a := by unfold tieOf; rw [Int.min_comm, Int.max_comm]
theorem beside_comm (T : List IP) (a b : Int) : besideL n T a b = besideL n T b a := by
  unfold besideL
  congr 2
  funext c
  unfold isBeside
  rw [Bool.and_comm]
/-- beside: between, or outside -/
theorem Cutting.beside_iff (C : Cutting n cut t) {a b c : Nat} (hab : a < b) : isBeside (tiesL n cut) a b c = true ↔ ((a < c ∧ c < b) ∧ (a, c) ∈ t.all 0 ∧ (c, b) ∈ t.all 0) ∨ Tr.Out t 0 a b c := by
  unfold isBeside
  rw [Bool.and_eq_true, decide_eq_true_iff, decide_eq_true_iff, tie_cast, tie_cast, C.tied, C.tied]
  rcases Nat.lt_trichotomy c a with h | h | h
  · rw [Nat.min_eq_right (by omega), Nat.max_eq_left (by omega), Nat.min_eq_right (by omega), Nat.max_eq_left (by omega)]
    unfold Tr.Out
    constructor
    · exact fun q => .inr (.inl ⟨h, q⟩)
    · rintro (⟨q, _⟩ | ⟨_, q⟩ | ⟨q, _⟩)
      · omega
      · exact q
      · omega
  · subst h
    rw [Nat.min_self, Nat.max_self]
    constructor
    · rintro ⟨q, _⟩
      have := (Tr.bd q).2.1
      simp only at this
      omega
    · unfold Tr.Out
      rintro (⟨q, _⟩ | ⟨q, _⟩ | ⟨q, _⟩) <;> omega
  · rw [Nat.min_eq_left (by omega), Nat.max_eq_right (by omega)]
    rcases Nat.lt_trichotomy c b with h' | h' | h'
    · rw [Nat.min_eq_right (by omega), Nat.max_eq_left (by omega)]
      unfold Tr.Out
      constructor
      · exact fun q => .inl ⟨⟨h, h'⟩, q⟩
      · rintro (⟨_, q⟩ | ⟨q, _⟩ | ⟨q, _⟩)
        · exact q
        · omega
        · omega
    · subst h'
      rw [Nat.min_self, Nat.max_self]
      constructor
      · rintro ⟨_, q⟩
        have := (Tr.bd q).2.1
        simp only at this
        omega
      · unfold Tr.Out
        rintro (⟨q, _⟩ | ⟨q, _⟩ | ⟨q, _⟩) <;> omega
    · rw [Nat.min_eq_left (by omega), Nat.max_eq_right (by omega)]
      unfold Tr.Out
      constructor
      · exact fun q => .inr (.inr ⟨h', q⟩)
      · rintro (⟨q, _⟩ | ⟨q, _⟩ | ⟨_, q⟩)
        · omega
        · omega
        · exact q
end
theorem filter_range_eq {n : Nat} {p : Nat → Bool} {l : List Nat} (hl : l.Pairwise (· < ·)) (h : ∀ c, c ∈ l ↔ c < n ∧ p c = true) : (List.range n).filter p = l := by
  have h1 : ((List.range n).filter p).Pairwise (· < ·) := List.pairwise_lt_range.sublist List.filter_sublist
  have nd : ∀ {l : List Nat}, l.Pairwise (· < ·) → l.Nodup := fun q => q.imp fun z => by omega
  refine List.Perm.eq_of_pairwise (le := (· < ·)) (fun a b _ _ h1 h2 => absurd h1 (by omega)) h1 hl ((List.perm_ext_iff_of_nodup (nd h1) (nd hl)).mpr fun c => ?_)
  rw [List.mem_filter, List.mem_range, h]
section
variable {n : Nat} {cut : List IP} {t : Tr}
/-- the posts beside a rope: the one between, the one outside -/
theorem Cutting.beside_rope (C : Cutting n cut t) {a b : Nat} (h : (a, b) ∈ t.ropes 0) : ∃ m o : Nat, (a < m ∧ m < b) ∧ (a, m) ∈ t.all 0 ∧ (m, b) ∈ t.all 0 ∧ Tr.Out t 0 a b o ∧ (o < a ∨ b < o) ∧ o < n ∧
    besideL n (tiesL n cut) a b = [((min m o : Nat) : Int), ((max m o : Nat) : Int)] := by
  have hw := C.w
  have hi := (ropes_bd h)
  have hb := Tr.bd (Tr.inn_all hi.1)
  simp only at hb
  obtain ⟨m, hm, h1, h2, u⟩ := Tr.apex_in hi.1
  obtain ⟨o, ho, uo⟩ := Tr.apex_out (Tr.inn_all hi.1) (by rw [Nat.zero_add]; exact hi.2)
  have bo := ho.bd
  have oo : o < a ∨ b < o := by
    rcases ho with ⟨q, _⟩ | ⟨q, _⟩
    · exact .inl q
    · exact .inr q
  refine ⟨m, o, hm, h1, h2, ho, oo, by omega, ?_⟩
  have e : (List.range n).filter (isBeside (tiesL n cut) a b) = [min m o, max m o] := by
    refine filter_range_eq ?_ fun c => ?_
    · refine List.pairwise_cons.mpr ⟨fun c hc => ?_, List.pairwise_singleton _ _⟩
      rw [List.mem_singleton.mp hc]
      omega
    · rw [C.beside_iff hb.2.1, List.mem_cons, List.mem_singleton]
      constructor
      · intro hc
        have : c = m ∨ c = o := by omega
        rcases this with rfl | rfl
        · exact ⟨by omega, .inl ⟨hm, h1, h2⟩⟩
        · exact ⟨by omega, .inr ho⟩
      · rintro ⟨_, ⟨hc, q1, q2⟩ | hc⟩
        · have := u c hc.1 hc.2 q1 q2; omega
        · have := uo c hc; omega
  unfold besideL
  rw [e]
  rfl
/-- one post beside a side -/
theorem Cutting.beside_side (C : Cutting n cut t) {a b : Nat} (h : (a, b) ∈ t.all 0) (h' : (a, b) ∉ t.ropes 0) : ∃ m : Nat, m < n ∧ besideL n (tiesL n cut) a b = [(m : Int)] := by
  have hw := C.w
  have w2 := C.w2
  have hb := Tr.bd h
  simp only at hb
  suffices hs : ∃ m : Nat, m < n ∧ ∀ c, (((a < c ∧ c < b) ∧ (a, c) ∈ t.all 0 ∧ (c, b) ∈ t.all 0) ∨ Tr.Out t 0 a b c) ↔ c = m by
    obtain ⟨m, hm, hc⟩ := hs
    refine ⟨m, hm, ?_⟩
    have e : (List.range n).filter (isBeside (tiesL n cut) a b) = [m] := by
      refine filter_range_eq (List.pairwise_singleton _ _) fun c => ?_
      rw [C.beside_iff hb.2.1, hc, List.mem_singleton]
      exact ⟨fun e => ⟨by omega, e⟩, fun e => e.2⟩
    unfold besideL
    rw [e]
    rfl
  rcases Tr.all_iff.mp h with hi | hi
  · have er : (a, b) = (0, t.w) := by
      rcases (inn_iff w2).mp hi with e | e
      · exact e
      · exact absurd e h'
    obtain ⟨rfl, rfl⟩ := Prod.mk.inj er
    obtain ⟨m, hm, h1, h2, u⟩ := Tr.apex_in hi
    refine ⟨m, by omega, fun c => ⟨?_, fun e => .inl (by rw [e]; exact ⟨hm, h1, h2⟩)⟩⟩
    rintro (⟨q, q1, q2⟩ | q)
    · exact u c q.1 q.2 q1 q2
    · have := q.bd
      rcases q with ⟨q, _⟩ | ⟨q, _⟩ <;> omega
  · simp only at hi
    have nr : ¬ (a = 0 ∧ b = 0 + t.w) := by omega
    obtain ⟨o, ho, uo⟩ := Tr.apex_out h nr
    have := ho.bd
    refine ⟨o, by omega, fun c => ⟨?_, fun e => .inr (by rw [e]; exact ho)⟩⟩
    rintro (⟨q, _⟩ | q)
    · omega
    · exact uo c q
/-- how many posts are beside a tie -/
theorem Cutting.beside_len (C : Cutting n cut t) {a b : Int} (h : tieOf a b ∈ tiesL n cut) : (besideL n (tiesL n cut) a b).length = 1 + (if tieOf a b ∈ cut then 1 else 0) := by
  obtain ⟨⟨x, y⟩, hq, e⟩ := C.ties.mp h
  have hb := Tr.bd hq
  simp only at hb
  have main : (besideL n (tiesL n cut) (x : Int) (y : Int)).length = 1 + (if castP (x, y) ∈ cut then 1 else 0) := by
    by_cases hr : (x, y) ∈ t.ropes 0
    · obtain ⟨m, o, _, _, _, _, _, _, z⟩ := C.beside_rope hr
      rw [z, if_pos (C.mem.mpr ⟨_, hr, rfl⟩)]
      rfl
    · obtain ⟨m, _, z⟩ := C.beside_side hq hr
      rw [z, if_neg (fun hc => by
        obtain ⟨q, h1, h2⟩ := C.mem.mp hc
        rw [← castP_inj h2] at h1
        exact hr h1)]
      rfl
  rw [e]
  have e1 := congrArg Prod.fst e
  have e2 := congrArg Prod.snd e
  simp only [tieOf, castP] at e1 e2
  by_cases hab : a ≤ b
  · rw [Int.min_eq_left hab] at e1
    rw [Int.max_eq_right hab] at e2
    rw [e1, e2]
    exact main
  · rw [Int.min_eq_right (by omega)] at e1
    rw [Int.max_eq_left (by omega)] at e2
    rw [beside_comm, e1, e2]
    exact main
end
end Pm
/-! ### a rope turned: the tree rotated -/
namespace Pm
namespace Tr
theorem noncross : ∀ {t : Tr} {lo : Nat} {p q : Nat × Nat}, p ∈ t.all lo → q ∈ t.all lo → ¬ (p.1 < q.1 ∧ q.1 < p.2 ∧ p.2 < q.2)
  | leaf, lo, p, q, hp, hq => by
    rw [List.mem_singleton.mp hp, List.mem_singleton.mp hq]
    simp only
    omega
  | node l r, lo, p, q, hp, hq => by
    have bp := bd hp
    have bq := bd hq
    have e : (node l r).w = l.w + r.w := rfl
    rw [e] at bp bq
    rcases mem_node.mp hp with h | h | h <;> rcases mem_node.mp hq with k | k | k
    · rw [h, k]; simp only; omega
    · rw [h]; simp only; omega
    · rw [h]; simp only; omega
    · rw [k]; simp only; omega
    · exact noncross h k
    · have := bd h; have := bd k; omega
    · rw [k]; simp only; omega
    · have := bd h; have := bd k; omega
    · exact noncross h k
theorem inn_nodup : ∀ (t : Tr) (lo : Nat), (t.inn lo).Nodup
  | leaf, _ => List.nodup_nil
  | node l r, lo => by
    have wl := l.w_pos
    have wr := r.w_pos
    show ((lo, lo + (l.w + r.w)) :: (l.inn lo ++ r.inn (lo + l.w))).Nodup
    refine List.nodup_cons.mpr ⟨fun h => ?_, List.nodup_append.mpr ⟨inn_nodup l lo, inn_nodup r _, fun a ha b hb e => ?_⟩⟩
    · rcases List.mem_append.mp h with h | h
      · have := bd (inn_all h); simp only at this; omega
      · have := bd (inn_all h); simp only at this; omega
    · subst e
      have := bd (inn_all ha)
      have := bd (inn_all hb)
      omega
theorem ropes_nodup (t : Tr) (lo : Nat) : (t.ropes lo).Nodup := by
  cases t with
  | leaf => exact List.nodup_nil
  | node l r => exact (List.nodup_cons.mp (inn_nodup (node l r) lo)).2
/-- the tree turned at the rope (x, y), its ropes by a common rest R; m between, o outside -/
structure Flip (t t' : Tr) (lo x y m o : Nat) (R : List (Nat × Nat)) : Prop where
  w : t'.w = t.w
  old : (t.ropes lo).Perm ((x, y) :: R)
  new : (t'.ropes lo).Perm ((min m o, max m o) :: R)
  btw : x < m ∧ m < y
  out : Out t lo x y o
  am : (x, m) ∈ t.all lo
  mb : (m, y) ∈ t.all lo
theorem flip_up_l {l l' r : Tr} {lo x y m o : Nat} {R : List (Nat × Nat)} (hl : 2 ≤ l.w) (F : Flip l l' lo x y m o R) : Flip (node l r) (node l' r) lo x y m o ((lo, lo + l.w) :: (R ++ r.inn (lo + l.w))) := by
  refine ⟨?_, ?_, ?_, F.btw, F.out.up_l, mem_node.mpr (.inr (.inl F.am)), mem_node.mpr (.inr (.inl F.mb))⟩
  · show l'.w + r.w = l.w + r.w
    rw [F.w]
  · show (l.inn lo ++ r.inn (lo + l.w)).Perm _
    rw [inn_node hl]
    exact ((F.old.append_right _).cons _).trans (List.Perm.swap _ _ _)
  · show (l'.inn lo ++ r.inn (lo + l'.w)).Perm _
    rw [inn_node (show 2 ≤ l'.w by rw [F.w]; exact hl), F.w]
    exact ((F.new.append_right _).cons _).trans (List.Perm.swap _ _ _)
theorem flip_up_r {l r r' : Tr} {lo x y m o : Nat} {R : List (Nat × Nat)} (hr : 2 ≤ r.w) (F : Flip r r' (lo + l.w) x y m o R) : Flip (node l r) (node l r') lo x y m o ((lo + l.w, lo + l.w + r.w) :: (R ++ l.inn lo)) := by
  refine ⟨?_, ?_, ?_, F.btw, F.out.up_r, mem_node.mpr (.inr (.inr F.am)), mem_node.mpr (.inr (.inr F.mb))⟩
  · show l.w + r'.w = l.w + r.w
    rw [F.w]
  · show (l.inn lo ++ r.inn (lo + l.w)).Perm _
    rw [inn_node hr]
    refine List.perm_append_comm.trans ?_
    exact ((F.old.append_right _).cons _).trans (List.Perm.swap _ _ _)
  · show (l.inn lo ++ r'.inn (lo + l.w)).Perm _
    rw [inn_node (show 2 ≤ r'.w by rw [F.w]; exact hr), F.w]
    refine List.perm_append_comm.trans ?_
    exact ((F.new.append_right _).cons _).trans (List.Perm.swap _ _ _)
theorem flip : ∀ {t : Tr} {lo x y : Nat}, (x, y) ∈ t.ropes lo → ∃ t' m o R, Flip t t' lo x y m o R
  | leaf, _, _, _, h => by cases h
  | node l r, lo, x, y, h => by
    have wl := l.w_pos
    have wr := r.w_pos
    rcases List.mem_append.mp h with h | h
    · have wl2 : 2 ≤ l.w := by
        cases l with
        | leaf => cases h
        | node a b => have := a.w_pos; have := b.w_pos; show 2 ≤ a.w + b.w; omega
      rw [inn_node wl2] at h
      rcases List.mem_cons.mp h with h | h
      · obtain ⟨rfl, rfl⟩ := Prod.mk.inj h
        cases l with
        | leaf => exact absurd wl2 (by show ¬ 2 ≤ 1; omega)
        | node a b =>
          have wa := a.w_pos
          have wb := b.w_pos
          refine ⟨node a (node b r), x + a.w, x + (a.w + b.w + r.w), a.inn x ++ (b.inn (x + a.w) ++ r.inn (x + (a.w + b.w))), ?_, ?_, ?_, ?_, ?_, ?_, ?_⟩
          · show a.w + (b.w + r.w) = a.w + b.w + r.w; omega
          · show (((x, x + (a.w + b.w)) :: (a.inn x ++ b.inn (x + a.w))) ++ r.inn (x + (a.w + b.w))).Perm _
            rw [List.cons_append, List.append_assoc]
            exact List.Perm.refl _
          · show (a.inn x ++ ((x + a.w, x + a.w + (b.w + r.w)) :: (b.inn (x + a.w) ++ r.inn (x + a.w + b.w)))).Perm _
            rw [Nat.min_eq_left (by omega), Nat.max_eq_right (by omega), show x + a.w + (b.w + r.w) = x + (a.w + b.w + r.w) by omega, show x + a.w + b.w = x + (a.w + b.w) by omega]
            exact List.perm_middle
          · show x < x + a.w ∧ x + a.w < x + (a.w + b.w); omega
          · refine .inr ⟨?_, mem_node.mpr (.inl rfl), mem_node.mpr (.inr (.inr ?_))⟩
            · show x + (a.w + b.w) < x + (a.w + b.w + r.w); omega
            · show (x + (a.w + b.w), x + (a.w + b.w + r.w)) ∈ r.all (x + (a.w + b.w))
              rw [show x + (a.w + b.w + r.w) = x + (a.w + b.w) + r.w by omega]; exact root_mem
          · exact mem_node.mpr (.inr (.inl (mem_node.mpr (.inr (.inl root_mem)))))
          · refine mem_node.mpr (.inr (.inl (mem_node.mpr (.inr (.inr ?_)))))
            show (x + a.w, x + (a.w + b.w)) ∈ b.all (x + a.w)
            rw [show x + (a.w + b.w) = x + a.w + b.w by omega]; exact root_mem
      · obtain ⟨l', m, o, R, F⟩ := flip h
        exact ⟨node l' r, m, o, _, flip_up_l wl2 F⟩
    · have wr2 : 2 ≤ r.w := by
        cases r with
        | leaf => cases h
        | node a b => have := a.w_pos; have := b.w_pos; show 2 ≤ a.w + b.w; omega
      rw [inn_node wr2] at h
      rcases List.mem_cons.mp h with h | h
      · obtain ⟨rfl, rfl⟩ := Prod.mk.inj h
        cases r with
        | leaf => exact absurd wr2 (by show ¬ 2 ≤ 1; omega)
        | node a b =>
          have wa := a.w_pos
          have wb := b.w_pos
          refine ⟨node (node l a) b, lo + l.w + a.w, lo, l.inn lo ++ (a.inn (lo + l.w) ++ b.inn (lo + l.w + a.w)), ?_, ?_, ?_, ?_, ?_, ?_, ?_⟩
          · show l.w + a.w + b.w = l.w + (a.w + b.w); omega
          · show (l.inn lo ++ ((lo + l.w, lo + l.w + (a.w + b.w)) :: (a.inn (lo + l.w) ++ b.inn (lo + l.w + a.w)))).Perm _
            exact List.perm_middle
          · show (((lo, lo + (l.w + a.w)) :: (l.inn lo ++ a.inn (lo + l.w))) ++ b.inn (lo + (l.w + a.w))).Perm _
            rw [Nat.min_eq_right (by omega), Nat.max_eq_left (by omega), List.cons_append, List.append_assoc, show lo + (l.w + a.w) = lo + l.w + a.w by omega]
          · show lo + l.w < lo + l.w + a.w ∧ lo + l.w + a.w < lo + l.w + (a.w + b.w); omega
          · refine .inl ⟨by omega, mem_node.mpr (.inr (.inl root_mem)), mem_node.mpr (.inl ?_)⟩
            show (lo, lo + l.w + (a.w + b.w)) = (lo, lo + (l.w + (a.w + b.w)))
            congr 1
            omega
          · exact mem_node.mpr (.inr (.inr (mem_node.mpr (.inr (.inl root_mem)))))
          · refine mem_node.mpr (.inr (.inr (mem_node.mpr (.inr (.inr ?_)))))
            show (lo + l.w + a.w, lo + l.w + (a.w + b.w)) ∈ b.all (lo + l.w + a.w)
            rw [show lo + l.w + (a.w + b.w) = lo + l.w + a.w + b.w by omega]; exact root_mem
      · obtain ⟨r', m, o, R, F⟩ := flip h
        exact ⟨node l r', m, o, _, flip_up_r wr2 F⟩
end Tr
open PySem PySem.Spec PyProof.Rows L2
/-- the cutting behind a turning -/
def turnedL (n : Nat) (cut : List IP) (a b : Int) : List IP :=
  let e := besideL n (tiesL n cut) a b
  sortP (cut.filter (fun p => !decide (p = tieOf a b)) ++ [(e.getD 0 0, e.getD 1 0)])
structure Turning (n : Nat) (cut : List IP) (t t' : Tr) (x y m o : Nat) (R : List (Nat × Nat)) : Prop where
  F : Tr.Flip t t' 0 x y m o R
  bes : besideL n (tiesL n cut) x y = [((min m o : Nat) : Int), ((max m o : Nat) : Int)]
  out : o < x ∨ y < o
  on : o < n
  rest : (cut.filter (fun p => !decide (p = castP (x, y)))).Perm (R.map castP)
  cut' : Cutting n (turnedL n cut x y) t'
theorem Cutting.turn {n : Nat} {cut : List IP} {t : Tr} (C : Cutting n cut t) {x y : Nat} (h : (x, y) ∈ t.ropes 0) : ∃ t' m o R, Turning n cut t t' x y m o R := by
  obtain ⟨t', m, o, R, F⟩ := Tr.flip h
  obtain ⟨m2, o2, hm2, h1, h2, ho2, oo, on, eb⟩ := C.beside_rope h
  have hi := (ropes_bd h).1
  obtain ⟨m3, _, _, _, u⟩ := Tr.apex_in hi
  have em : m = m2 := (u m F.btw.1 F.btw.2 F.am F.mb).trans (u m2 hm2.1 hm2.2 h1 h2).symm
  obtain ⟨o3, _, uo⟩ := Tr.apex_out (Tr.inn_all hi) (by rw [Nat.zero_add]; exact (ropes_bd h).2)
  have eo : o = o2 := (uo o F.out).trans (uo o2 ho2).symm
  subst em; subst eo
  have pc : cut.Perm (castP (x, y) :: R.map castP) := C.perm.trans (F.old.map castP)
  have hb := Tr.bd (Tr.inn_all hi)
  simp only at hb
  have nR : castP (x, y) ∉ R.map castP := fun q => by
    obtain ⟨z, hz, e⟩ := List.mem_map.mp q
    rw [castP_inj e] at hz
    have nd := (F.old.nodup_iff).mp (Tr.ropes_nodup t 0)
    exact (List.nodup_cons.mp nd).1 hz
  have rest : (cut.filter (fun p => !decide (p = castP (x, y)))).Perm (R.map castP) := by
    refine (pc.filter _).trans ?_
    rw [List.filter_cons_of_neg (by simp)]
    rw [List.filter_eq_self.mpr]
    intro p hp
    have : p ≠ castP (x, y) := fun e => nR (by rw [← e]; exact hp)
    simp [this]
  have tx : tieOf (x : Int) (y : Int) = castP (x, y) := by rw [tie_cast, Nat.min_eq_left (by omega), Nat.max_eq_right (by omega)]
  refine ⟨t', m, o, R, F, eb, oo, on, rest, ?_, C.n3, ?_, sortP_rising _⟩
  · rw [F.w]; exact C.w
  · unfold turnedL
    simp only
    rw [eb, tx]
    refine (sortP_perm _).trans ?_
    refine (rest.append_right _).trans ?_
    refine (List.perm_append_singleton _ _).trans ?_
    exact (F.new.map castP).symm
/-- the new rope of a turning -/
theorem turned_comm (n : Nat) (cut : List IP) (a b : Int) : turnedL n cut a b = turnedL n cut b a := by
  unfold turnedL
  rw [beside_comm, tie_comm]
section
variable {n : Nat} {cut : List IP} {t t' : Tr} {x y m o : Nat} {R : List (Nat × Nat)}
theorem Turning.all_iff (C : Cutting n cut t) (U : Turning n cut t t' x y m o R) {q : Nat × Nat} : q ∈ t'.all 0 ↔ (q ∈ t.all 0 ∧ q ≠ (x, y)) ∨ q = (min m o, max m o) := by
  have h : (x, y) ∈ t.ropes 0 := U.F.old.mem_iff.mpr List.mem_cons_self
  have w2 := C.w2
  have w2' : 2 ≤ t'.w := by rw [U.F.w]; exact w2
  have nd := (U.F.old.nodup_iff).mp (Tr.ropes_nodup t 0)
  have wide := Tr.inn_wide (ropes_bd h).1
  simp only at wide
  have hr := (ropes_iff w2).mp h
  rw [Tr.all_iff, Tr.all_iff, inn_iff w2, inn_iff w2', U.F.old.mem_iff, U.F.new.mem_iff, List.mem_cons, List.mem_cons, U.F.w]
  constructor
  · rintro ((e | e | e) | e)
    · refine .inl ⟨.inl (.inl e), fun z => hr.2 (by rw [← z]; exact e)⟩
    · exact .inr e
    · refine .inl ⟨.inl (.inr (.inr e)), fun z => (List.nodup_cons.mp nd).1 (by rw [← z]; exact e)⟩
    · refine .inl ⟨.inr e, fun z => ?_⟩
      rw [z] at e
      simp only at e
      omega
  · rintro (⟨(e | e | e) | e, ne⟩ | e)
    · exact .inl (.inl e)
    · exact absurd e ne
    · exact .inl (.inr (.inr e))
    · exact .inr e
    · exact .inl (.inr (.inl e))
/-- the new rope crosses the old one -/
theorem Turning.cross (C : Cutting n cut t) (U : Turning n cut t t' x y m o R) : (x < m ∧ m < y ∧ y < o ∧ min m o = m ∧ max m o = o) ∨ (o < x ∧ x < m ∧ m < y ∧ min m o = o ∧ max m o = m) := by
  have b := U.F.btw
  rcases U.out with h | h <;> omega
/-- turned again, the old cutting -/
theorem Turning.back (C : Cutting n cut t) (U : Turning n cut t t' x y m o R) : (min m o, max m o) ∈ t'.ropes 0 ∧ turnedL n (turnedL n cut x y) ((min m o : Nat) : Int) ((max m o : Nat) : Int) = cut := by
  have hnew : (min m o, max m o) ∈ t'.ropes 0 := U.F.new.mem_iff.mpr List.mem_cons_self
  refine ⟨hnew, ?_⟩
  obtain ⟨t2, m2, o2, R2, U2⟩ := U.cut'.turn hnew
  have hold : (x, y) ∈ t.ropes 0 := U.F.old.mem_iff.mpr List.mem_cons_self
  have b := U.F.btw
  have cr := U.cross C
  -- the four ties round the rope stay
  have keep : ∀ {q : Nat × Nat}, q ∈ t.all 0 → q ≠ (x, y) → q ∈ t'.all 0 := fun h1 h2 => (U.all_iff C).mpr (.inl ⟨h1, h2⟩)
  have hi2 := (ropes_bd hnew).1
  obtain ⟨m3, hm3, _, _, u⟩ := Tr.apex_in hi2
  obtain ⟨o3, ho3, uo⟩ := Tr.apex_out (Tr.inn_all hi2) (by rw [Nat.zero_add]; exact (ropes_bd hnew).2)
  have em2 : m2 = m3 := u m2 U2.F.btw.1 U2.F.btw.2 U2.F.am U2.F.mb
  have eo2 : o2 = o3 := uo o2 U2.F.out
  have kam : (x, m) ∈ t'.all 0 := keep U.F.am (fun e => by have := (Prod.mk.inj e).2; omega)
  have kmb : (m, y) ∈ t'.all 0 := keep U.F.mb (fun e => by have := (Prod.mk.inj e).1; omega)
  have both : min m2 o2 = x ∧ max m2 o2 = y := by
    rcases U.F.out with ⟨ho, h1, h2⟩ | ⟨ho, h1, h2⟩
    · have k1 := keep h1 (fun e => by have := (Prod.mk.inj e).2; omega)
      have k2 := keep h2 (fun e => by have := (Prod.mk.inj e).1; omega)
      have e1 : min m o = o := by omega
      have e2 : max m o = m := by omega
      rw [e1, e2] at u uo
      have ex : x = m3 := u x ho b.1 k1 kam
      have ey : y = o3 := uo y (.inr ⟨b.2, k2, kmb⟩)
      omega
    · have k1 := keep h1 (fun e => by have := (Prod.mk.inj e).2; omega)
      have k2 := keep h2 (fun e => by have := (Prod.mk.inj e).1; omega)
      have e1 : min m o = m := by omega
      have e2 : max m o = o := by omega
      rw [e1, e2] at u uo
      have ey : y = m3 := u y b.2 ho kmb k2
      have ex : x = o3 := uo x (.inl ⟨b.1, kam, k1⟩)
      omega
  refine rising_eq (sortP_rising _) C.rise ?_
  have p2 := U2.cut'.perm
  refine p2.trans ?_
  have q1 : (t2.ropes 0).Perm ((x, y) :: R2) := by have := U2.F.new; rw [both.1, both.2] at this; exact this
  have q2 : R2.Perm R := by
    have z := (U2.F.old.symm.trans U.F.new).cons_inv
    exact z
  refine (q1.map castP).trans ?_
  refine ((q2.cons _).map castP).trans ?_
  exact ((C.perm.trans (U.F.old.map castP))).symm
end
end Pm
namespace Pm
open PySem PySem.Spec PyProof.Rows L2
/-! ### two pairs that cross -/
def crossP (a b c d : Int) : Prop := (c ≠ min a b ∧ c ≠ max a b ∧ d ≠ min a b ∧ d ≠ max a b) ∧ ¬ ((min a b < c ∧ c < max a b) ↔ (min a b < d ∧ d < max a b))
instance (a b c d : Int) : Decidable (crossP a b c d) := by unfold crossP; exact inferInstance

theorem cross_no {a b c d : Int} (h : c = min a b ∨ c = max a b ∨ d = min a b ∨ d = max a b) : decide (crossP a b c d) = false := by
  refine decide_eq_false fun q => ?_
  obtain ⟨⟨h1, h2, h3, h4⟩, _⟩ := q
  rcases h with h | h | h | h
  · exact h1 h
  · exact h2 h
  · exact h3 h
  · exact h4 h
theorem cross_is {a b c d : Int} {x y : Bool} (h : c ≠ min a b ∧ c ≠ max a b ∧ d ≠ min a b ∧ d ≠ max a b) (hx : x = decide (min a b < c ∧ c < max a b)) (hy : y = decide (min a b < d ∧ d < max a b)) : (!(x == y)) = decide (crossP a b c d) := by
  subst hx; subst hy
  by_cases h1 : (min a b < c ∧ c < max a b) <;> by_cases h2 : (min a b < d ∧ d < max a b)
  · rw [decide_eq_true h1, decide_eq_true h2, decide_eq_false (show ¬ crossP a b c d from fun q => q.2 ⟨fun _ => h2, fun _ => h1⟩)]; rfl
  · rw [decide_eq_true h1, decide_eq_false h2, decide_eq_true (show crossP a b c d from ⟨h, fun q => h2 (q.mp h1)⟩)]; rfl
  · rw [decide_eq_false h1, decide_eq_true h2, decide_eq_true (show crossP a b c d from ⟨h, fun q => h1 (q.mpr h2)⟩)]; rfl
  · rw [decide_eq_false h1, decide_eq_false h2, decide_eq_false (show ¬ crossP a b c d from fun q => q.2 ⟨fun z => absurd z h1, fun z => absurd z h2⟩)]; rfl
def spCross (K : PySem.W.Frag) : Sp := fun vs H Q _ => ∃ (t u : Addr) (a b c d : Int), vs = [.ref t, .ref u] ∧ SqT K H t [.int a, .int b] ∧ SqT K H u [.int c, .int d] ∧ Q (.bl (decide (crossP a b c d))) H
theorem mem2 {a b c : Int} : c ∈ [a, b] ↔ c = min a b ∨ c = max a b := by
  rw [List.mem_cons, List.mem_singleton]
  omega
theorem cross_iff {a b c d : Int} (h1 : a < b) (h2 : c < d) : crossP a b c d ↔ (a < c ∧ c < b ∧ b < d) ∨ (c < a ∧ a < d ∧ d < b) := by
  unfold crossP
  rw [Int.min_eq_left (by omega), Int.max_eq_right (by omega)]
  omega
/-- ties of a cutting do not cross -/
theorem Cutting.nocross {n : Nat} {cut : List IP} {t : Tr} (C : Cutting n cut t) {p q : IP} (hp : p ∈ tiesL n cut) (hq : q ∈ tiesL n cut) : ¬ crossP p.1 p.2 q.1 q.2 := by
  obtain ⟨⟨a, b⟩, ha, rfl⟩ := C.ties.mp hp
  obtain ⟨⟨c, d⟩, hc, rfl⟩ := C.ties.mp hq
  have h1 := Tr.bd ha
  have h2 := Tr.bd hc
  simp only at h1 h2
  have n1 := Tr.noncross ha hc
  have n2 := Tr.noncross hc ha
  simp only at n1 n2
  simp only [castP]
  rw [cross_iff (by omega) (by omega)]
  omega
section
variable {n : Nat} {cut : List IP} {t t' : Tr} {x y m o : Nat} {R : List (Nat × Nat)}
theorem Turning.rope_mem (U : Turning n cut t t' x y m o R) : (x, y) ∈ t.ropes 0 := U.F.old.mem_iff.mpr List.mem_cons_self
theorem Turning.new_mem (U : Turning n cut t t' x y m o R) : (min m o, max m o) ∈ t'.ropes 0 := U.F.new.mem_iff.mpr List.mem_cons_self
theorem Turning.cutP (C : Cutting n cut t) (U : Turning n cut t t' x y m o R) : cut.Perm (castP (x, y) :: R.map castP) := C.perm.trans (U.F.old.map castP)
theorem Turning.newP (U : Turning n cut t t' x y m o R) : (turnedL n cut x y).Perm (castP (min m o, max m o) :: R.map castP) := U.cut'.perm.trans (U.F.new.map castP)
theorem Turning.len (C : Cutting n cut t) (U : Turning n cut t t' x y m o R) : (turnedL n cut x y).length = cut.length := by
  rw [U.newP.length_eq, (U.cutP C).length_eq] <;> rfl
theorem Turning.new_cross (C : Cutting n cut t) (U : Turning n cut t t' x y m o R) : crossP (castP (min m o, max m o)).1 (castP (min m o, max m o)).2 (castP (x, y)).1 (castP (x, y)).2 := by
  have c := U.cross C
  have b := U.F.btw
  simp only [castP]
  rw [cross_iff (by omega) (by omega)]
  omega
theorem Turning.new_notin (C : Cutting n cut t) (U : Turning n cut t t' x y m o R) : castP (min m o, max m o) ∉ tiesL n cut := fun h => by
  exact C.nocross h (mem_ties.mpr (.inr (C.mem.mpr ⟨_, U.rope_mem, rfl⟩))) (U.new_cross C)
theorem Turning.old_notin (C : Cutting n cut t) (U : Turning n cut t t' x y m o R) : castP (x, y) ∉ turnedL n cut x y := fun h => by
  have h2 : castP (x, y) ∈ tiesL n (turnedL n cut x y) := mem_ties.mpr (.inr h)
  have h3 : castP (min m o, max m o) ∈ tiesL n (turnedL n cut x y) := mem_ties.mpr (.inr (U.cut'.mem.mpr ⟨_, U.new_mem, rfl⟩))
  exact U.cut'.nocross h3 h2 (U.new_cross C)
theorem Turning.fresh (C : Cutting n cut t) (U : Turning n cut t t' x y m o R) : (turnedL n cut x y).filter (fun p => !decide (p ∈ cut)) = [castP (min m o, max m o)] := by
  have pp := U.newP.filter (fun p => !decide (p ∈ cut))
  rw [List.filter_cons_of_pos (by
    have : castP (min m o, max m o) ∉ cut := fun h => U.new_notin C (mem_ties.mpr (.inr h))
    simp [this])] at pp
  have e2 : (R.map castP).filter (fun p => !decide (p ∈ cut)) = [] := List.filter_eq_nil_iff.mpr (fun p hp => by
    have : p ∈ cut := (U.cutP C).mem_iff.mpr (List.mem_cons_of_mem _ hp)
    simp [this])
  rw [e2] at pp
  exact List.perm_singleton.mp pp
theorem Turning.keeps (C : Cutting n cut t) (U : Turning n cut t t' x y m o R) {p : IP} (hp : p ∈ cut) (hne : p ≠ castP (x, y)) : p ∈ turnedL n cut x y ∧ ¬ crossP p.1 p.2 (castP (min m o, max m o)).1 (castP (min m o, max m o)).2 := by
  have h1 : p ∈ turnedL n cut x y := by
    rcases List.mem_cons.mp ((U.cutP C).mem_iff.mp hp) with e | e
    · exact absurd e hne
    · exact U.newP.mem_iff.mpr (List.mem_cons_of_mem _ e)
  exact ⟨h1, U.cut'.nocross (mem_ties.mpr (.inr h1)) (mem_ties.mpr (.inr (U.cut'.mem.mpr ⟨_, U.new_mem, rfl⟩)))⟩
theorem Turning.new_bd (C : Cutting n cut t) (U : Turning n cut t t' x y m o R) : min m o < max m o ∧ max m o < n := by
  have h := Tr.bd (Tr.inn_all (ropes_bd U.new_mem).1)
  have := U.cut'.w
  simp only at h
  omega
end
/-- any two numbers that are a rope -/
theorem Cutting.rope_of {n : Nat} {cut : List IP} {t : Tr} (C : Cutting n cut t) {a b : Int} (h : tieOf a b ∈ cut) : ∃ x y : Nat, (x, y) ∈ t.ropes 0 ∧ tieOf a b = castP (x, y) ∧ x < y ∧ y < n ∧ ((a = x ∧ b = y) ∨ (a = y ∧ b = x)) := by
  obtain ⟨⟨x, y⟩, hq, e⟩ := C.mem.mp h
  have hb := Tr.bd (Tr.inn_all (ropes_bd hq).1)
  have hw := C.w
  simp only at hb
  refine ⟨x, y, hq, e, hb.2.1, by omega, ?_⟩
  have e1 := congrArg Prod.fst e
  have e2 := congrArg Prod.snd e
  simp only [tieOf, castP] at e1 e2
  omega
theorem Cutting.beside2 {n : Nat} {cut : List IP} {t : Tr} (C : Cutting n cut t) {a b : Int} (h : tieOf a b ∈ cut) : 2 ≤ (besideL n (tiesL n cut) a b).length := by
  rw [C.beside_len (mem_ties.mpr (.inr h)), if_pos h]
  decide
theorem Cutting.turned_any {n : Nat} {cut : List IP} {t : Tr} (C : Cutting n cut t) {a b : Int} (h : tieOf a b ∈ cut) : ∃ t' x y m o R, Turning n cut t t' x y m o R ∧ tieOf a b = castP (x, y) ∧ turnedL n cut a b = turnedL n cut x y := by
  obtain ⟨x, y, hq, e, _, _, c⟩ := C.rope_of h
  obtain ⟨t', m, o, R, U⟩ := C.turn hq
  refine ⟨t', x, y, m, o, R, U, e, ?_⟩
  rcases c with ⟨rfl, rfl⟩ | ⟨rfl, rfl⟩
  · rfl
  · exact turned_comm _ _ _ _
end Pm
/-! ### plots -/
namespace Pm
abbrev I3 := Int × Int × Int
namespace Tr
def plots : Nat → Tr → List (Nat × Nat × Nat)
  | _, leaf => []
  | lo, node l r => (lo, lo + l.w, lo + (l.w + r.w)) :: (l.plots lo ++ r.plots (lo + l.w))
theorem plots_len : ∀ (t : Tr) (lo : Nat), (t.plots lo).length + 1 = t.w
  | leaf, _ => rfl
  | node l r, lo => by
    show ((lo, lo + l.w, lo + (l.w + r.w)) :: (l.plots lo ++ r.plots (lo + l.w))).length + 1 = l.w + r.w
    rw [List.length_cons, List.length_append]
    have h1 := plots_len l lo
    have h2 := plots_len r (lo + l.w)
    omega
theorem plots_bd : ∀ {t : Tr} {lo : Nat} {p : Nat × Nat × Nat}, p ∈ t.plots lo → lo ≤ p.1 ∧ p.1 < p.2.1 ∧ p.2.1 < p.2.2 ∧ p.2.2 ≤ lo + t.w
  | leaf, _, _, h => by cases h
  | node l r, lo, p, h => by
    have wl := l.w_pos
    have wr := r.w_pos
    show lo ≤ p.1 ∧ p.1 < p.2.1 ∧ p.2.1 < p.2.2 ∧ p.2.2 ≤ lo + (l.w + r.w)
    rcases List.mem_cons.mp h with h | h
    · rw [h]; simp only; omega
    · rcases List.mem_append.mp h with h | h
      · have := plots_bd h; omega
      · have := plots_bd h; omega
theorem plots_nodup : ∀ (t : Tr) (lo : Nat), (t.plots lo).Nodup
  | leaf, _ => List.nodup_nil
  | node l r, lo => by
    have wl := l.w_pos
    have wr := r.w_pos
    refine List.nodup_cons.mpr ⟨fun h => ?_, List.nodup_append.mpr ⟨plots_nodup l lo, plots_nodup r _, fun a ha b hb e => ?_⟩⟩
    · rcases List.mem_append.mp h with h | h
      · have := plots_bd h; simp only at this; omega
      · have := plots_bd h; simp only at this; omega
    · subst e
      have := plots_bd ha
      have := plots_bd hb
      omega
/-- three posts each two of which are tied -/
theorem plots_iff : ∀ {t : Tr} {lo a b c : Nat}, (a, b, c) ∈ t.plots lo ↔ (a < b ∧ b < c) ∧ (a, b) ∈ t.all lo ∧ (b, c) ∈ t.all lo ∧ (a, c) ∈ t.all lo
  | leaf, lo, a, b, c => by
    constructor
    · intro h; cases h
    · rintro ⟨h, h1, h2, h3⟩
      have := Prod.mk.inj (List.mem_singleton.mp h1)
      have := Prod.mk.inj (List.mem_singleton.mp h3)
      omega
  | node l r, lo, a, b, c => by
    have wl := l.w_pos
    have wr := r.w_pos
    constructor
    · intro h
      rcases List.mem_cons.mp h with h | h
      · obtain ⟨rfl, h⟩ := Prod.mk.inj h
        obtain ⟨rfl, rfl⟩ := Prod.mk.inj h
        exact ⟨⟨by omega, by omega⟩, mem_node.mpr (.inr (.inl root_mem)), mem_node.mpr (.inr (.inr (by rw [← Nat.add_assoc]; exact root_mem))), mem_node.mpr (.inl rfl)⟩
      · rcases List.mem_append.mp h with h | h
        · obtain ⟨q, h1, h2, h3⟩ := plots_iff.mp h
          exact ⟨q, mem_node.mpr (.inr (.inl h1)), mem_node.mpr (.inr (.inl h2)), mem_node.mpr (.inr (.inl h3))⟩
        · obtain ⟨q, h1, h2, h3⟩ := plots_iff.mp h
          exact ⟨q, mem_node.mpr (.inr (.inr h1)), mem_node.mpr (.inr (.inr h2)), mem_node.mpr (.inr (.inr h3))⟩
    · rintro ⟨q, h1, h2, h3⟩
      show (a, b, c) ∈ _ :: (_ ++ _)
      rw [List.mem_cons, List.mem_append]
      rcases mem_node.mp h3 with e | e | e
      · obtain ⟨rfl, rfl⟩ := Prod.mk.inj e
        have eb : b = a + l.w := by
          rcases mem_node.mp h1 with e | e | e
          · have := (Prod.mk.inj e).2; omega
          · have x1 := (bd e).2.2
            simp only at x1
            rcases mem_node.mp h2 with e | e | e
            · have := (Prod.mk.inj e).1; omega
            · have := (bd e).2.2; simp only at this; omega
            · have := (bd e).1; simp only at this; omega
          · have := (bd e).1; simp only at this; omega
        rw [eb]
        exact .inl rfl
      · have b3 := bd e
        simp only at b3
        refine .inr (.inl (plots_iff.mpr ⟨q, ?_, ?_, e⟩))
        · rcases mem_node.mp h1 with e | e | e
          · have := (Prod.mk.inj e).2; omega
          · exact e
          · have := (bd e).1; simp only at this; omega
        · rcases mem_node.mp h2 with e | e | e
          · have := (Prod.mk.inj e).1; omega
          · exact e
          · have := (bd e).1; simp only at this; omega
      · have b3 := bd e
        simp only at b3
        refine .inr (.inr (plots_iff.mpr ⟨q, ?_, ?_, e⟩))
        · rcases mem_node.mp h1 with e | e | e
          · have := (Prod.mk.inj e).1; omega
          · have := (bd e).2.2; simp only at this; omega
          · exact e
        · rcases mem_node.mp h2 with e | e | e
          · have := (Prod.mk.inj e).1; omega
          · have := (bd e).2.2; simp only at this; omega
          · exact e
end Tr
/-! #### triples in order -/
def lex3 (p q : I3) : Bool := decide (p.1 < q.1 ∨ (p.1 = q.1 ∧ (p.2.1 < q.2.1 ∨ (p.2.1 = q.2.1 ∧ p.2.2 ≤ q.2.2))))
theorem lex3_iff {p q : I3} : lex3 p q = true ↔ (p.1 < q.1 ∨ (p.1 = q.1 ∧ (p.2.1 < q.2.1 ∨ (p.2.1 = q.2.1 ∧ p.2.2 ≤ q.2.2)))) := decide_eq_true_iff
theorem lex3_trans (p q r : I3) (h : lex3 p q = true) (k : lex3 q r = true) : lex3 p r = true := by
  have h := lex3_iff.mp h
  have k := lex3_iff.mp k
  exact lex3_iff.mpr (by omega)
theorem lex3_total (p q : I3) : (lex3 p q || lex3 q p) = true := by
  rw [Bool.or_eq_true, lex3_iff, lex3_iff]
  omega
theorem lex3_anti {p q : I3} (h : lex3 p q = true) (k : lex3 q p = true) : p = q := by
  have h := lex3_iff.mp h
  have k := lex3_iff.mp k
  obtain ⟨a, b, e⟩ := p
  obtain ⟨c, d, f⟩ := q
  simp only at h k
  have e1 : a = c := by omega
  have e2 : b = d := by omega
  have e3 : e = f := by omega
  rw [e1, e2, e3]
abbrev Rising3 (ps : List I3) : Prop := ps.Pairwise fun p q => lex3 p q = true
def sort3 (ps : List I3) : List I3 := ps.mergeSort lex3
theorem sort3_perm (ps : List I3) : (sort3 ps).Perm ps := List.mergeSort_perm ps lex3
theorem sort3_rising (ps : List I3) : Rising3 (sort3 ps) := List.pairwise_mergeSort lex3_trans lex3_total ps
theorem rising3_eq {ps qs : List I3} (h : Rising3 ps) (k : Rising3 qs) (e : ps.Perm qs) : ps = qs := List.Perm.eq_of_pairwise (fun _ _ _ _ a b => lex3_anti a b) h k e
theorem sort3_eq {ps qs : List I3} (h : Rising3 ps) (e : ps.Perm qs) : sort3 qs = ps := rising3_eq (sort3_rising qs) h ((sort3_perm qs).trans e.symm)
/-! #### the plots of a list of ties -/
def cast3 (p : Nat × Nat × Nat) : I3 := ((p.1 : Int), (p.2.1 : Int), (p.2.2 : Int))
theorem cast3_inj {p q : Nat × Nat × Nat} (h : cast3 p = cast3 q) : p = q := by
  obtain ⟨a, b, e⟩ := p
  obtain ⟨c, d, f⟩ := q
  have e1 := congrArg Prod.fst h
  have e2 := congrArg (fun z => z.2.1) h
  have e3 := congrArg (fun z => z.2.2) h
  simp only [cast3] at e1 e2 e3
  rw [show a = c by omega, show b = d by omega, show e = f by omega]
/-- the third posts above a tie -/
def above (n : Nat) (T : List IP) (p : IP) : List Nat := (List.range (((n : Int) - (p.2 + 1)).toNat)).filter fun i => decide ((p.1, p.2 + 1 + (i : Int)) ∈ T) && decide ((p.2, p.2 + 1 + (i : Int)) ∈ T)
def plots0 (n : Nat) (T S : List IP) : List I3 := S.flatMap fun p => (above n T p).map fun i : Nat => (p.1, p.2, p.2 + 1 + (i : Int))
def plotsL (n : Nat) (cut : List IP) : List I3 := sort3 (plots0 n (tiesL n cut) (tiesL n cut))
theorem mem_plots0 {n : Nat} {T S : List IP} {q : I3} : q ∈ plots0 n T S ↔ (q.1, q.2.1) ∈ S ∧ q.2.1 < q.2.2 ∧ q.2.2 < n ∧ (q.1, q.2.2) ∈ T ∧ (q.2.1, q.2.2) ∈ T := by
  unfold plots0
  rw [List.mem_flatMap]
  constructor
  · rintro ⟨p, hp, hq⟩
    obtain ⟨i, hi, rfl⟩ := List.mem_map.mp hq
    unfold above at hi
    rw [List.mem_filter, List.mem_range, Bool.and_eq_true, decide_eq_true_iff, decide_eq_true_iff] at hi
    exact ⟨hp, by simp only; omega, by simp only; omega, hi.2.1, hi.2.2⟩
  · rintro ⟨h1, h2, h3, h4, h5⟩
    refine ⟨_, h1, List.mem_map.mpr ⟨(q.2.2 - (q.2.1 + 1)).toNat, ?_, ?_⟩⟩
    · unfold above
      rw [List.mem_filter, List.mem_range, Bool.and_eq_true, decide_eq_true_iff, decide_eq_true_iff]
      have e : q.2.1 + 1 + ((q.2.2 - (q.2.1 + 1)).toNat : Int) = q.2.2 := by omega
      simp only
      rw [e]
      exact ⟨by omega, h4, h5⟩
    · obtain ⟨a, b, c⟩ := q
      simp only at h2 ⊢
      have e : b + 1 + ((c - (b + 1)).toNat : Int) = c := by omega
      rw [e]
section
variable {n : Nat} {cut : List IP} {t : Tr}
theorem plots0_nodup {T S : List IP} (h : S.Nodup) : (plots0 n T S).Nodup := by
  unfold plots0
  induction S with
  | nil => exact List.nodup_nil
  | cons p S ih =>
    obtain ⟨h1, h2⟩ := List.nodup_cons.mp h
    rw [List.flatMap_cons]
    refine List.nodup_append.mpr ⟨?_, ih h2, fun a ha b hb e => ?_⟩
    · have nd : (above n T p).Nodup := (List.nodup_range (n := ((n : Int) - (p.2 + 1)).toNat)).sublist List.filter_sublist
      refine List.Pairwise.map _ ?_ nd
      intro i j hij e
      have := congrArg (fun z => z.2.2) e
      simp only at this
      exact hij (by omega)
    · subst e
      obtain ⟨i, _, rfl⟩ := List.mem_map.mp ha
      have := mem_plots0.mp hb
      exact h1 this.1
theorem Cutting.ties_nodup (C : Cutting n cut t) : (tiesL n cut).Nodup := by
  have w2 := C.w2
  have hw := C.w
  refine ((sortP_perm _).nodup_iff).mpr (List.nodup_append.mpr ⟨?_, ?_, fun a ha b hb e => ?_⟩)
  · unfold sides0
    refine List.nodup_append.mpr ⟨?_, by simp, fun a ha b hb e => ?_⟩
    · refine List.Pairwise.map _ ?_ (List.nodup_range (n := n - 1))
      intro i j hij e
      have := congrArg Prod.fst e
      simp only at this
      exact hij (by omega)
    · subst e
      obtain ⟨k, hk, rfl⟩ := List.mem_map.mp ha
      have := List.mem_singleton.mp hb
      have e1 := congrArg Prod.fst this
      have e2 := congrArg Prod.snd this
      simp only at e1 e2
      omega
  · refine (C.perm.nodup_iff).mpr (List.Pairwise.map _ ?_ (Tr.ropes_nodup t 0))
    intro p q hpq e
    exact hpq (castP_inj e)
  · subst e
    obtain ⟨q, hq, rfl⟩ := C.mem.mp hb
    have hr := (ropes_iff w2).mp hq
    have hwid := Tr.inn_wide hr.1
    rcases (mem_sides0 (by omega)).mp ha with ⟨k, hk, e⟩ | e
    · rw [castP_inj e] at hwid
      simp only at hwid
      omega
    · refine hr.2 ?_
      rw [castP_inj e, ← hw] <;> rfl
theorem Cutting.plots_perm (C : Cutting n cut t) : (plots0 n (tiesL n cut) (tiesL n cut)).Perm ((t.plots 0).map cast3) := by
  have hw := C.w
  refine (List.perm_ext_iff_of_nodup (plots0_nodup C.ties_nodup) (List.Pairwise.map _ (fun p q hpq e => hpq (cast3_inj e)) (Tr.plots_nodup t 0))).mpr fun q => ?_
  rw [mem_plots0, List.mem_map]
  obtain ⟨a, b, c⟩ := q
  simp only
  constructor
  · rintro ⟨h1, h2, h3, h4, h5⟩
    obtain ⟨⟨x, y⟩, hx, ex⟩ := C.ties.mp h1
    obtain ⟨⟨x2, z⟩, hz, ez⟩ := C.ties.mp h4
    obtain ⟨⟨y2, z2⟩, hy, ey⟩ := C.ties.mp h5
    simp only [castP, Prod.mk.injEq] at ex ez ey
    obtain ⟨rfl, rfl⟩ := ex
    obtain ⟨e1, rfl⟩ := ez
    obtain ⟨e2, e3⟩ := ey
    have f1 : x2 = x := by omega
    have f2 : y2 = y := by omega
    have f3 : z2 = z := by omega
    subst f1 f2 f3
    have b1 := Tr.bd hx
    have b2 := Tr.bd hy
    simp only at b1 b2
    exact ⟨(x2, y2, z2), Tr.plots_iff.mpr ⟨⟨by omega, by omega⟩, hx, hy, hz⟩, rfl⟩
  · rintro ⟨⟨x, y, z⟩, hp, e⟩
    obtain ⟨q, h1, h2, h3⟩ := Tr.plots_iff.mp hp
    have b1 := Tr.plots_bd hp
    simp only at b1
    have e1 := congrArg Prod.fst e
    have e2 := congrArg (fun z => z.2.1) e
    have e3 := congrArg (fun z => z.2.2) e
    simp only [cast3] at e1 e2 e3
    subst e1 e2 e3
    exact ⟨C.tied.mpr h1, by omega, by omega, C.tied.mpr h3, C.tied.mpr h2⟩
theorem Cutting.plots_len (C : Cutting n cut t) : (plotsL n cut).length + 2 = n := by
  have hw := C.w
  have h := Tr.plots_len t 0
  rw [plotsL, (sort3_perm _).length_eq, C.plots_perm.length_eq, List.length_map]
  omega
theorem Cutting.mem_plots (C : Cutting n cut t) {q : I3} : q ∈ plotsL n cut ↔ ∃ p, p ∈ t.plots 0 ∧ q = cast3 p := by
  rw [plotsL, (sort3_perm _).mem_iff, C.plots_perm.mem_iff, List.mem_map]
  exact ⟨fun ⟨q, h, e⟩ => ⟨q, h, e.symm⟩, fun ⟨q, h, e⟩ => ⟨q, h, e.symm⟩⟩
theorem Cutting.plots_nodup (C : Cutting n cut t) : (plotsL n cut).Nodup := ((sort3_perm _).nodup_iff).mpr (plots0_nodup C.ties_nodup)
end
/-! #### triples as data -/
section
open PySem PySem.Spec PyProof.Rows L2
def nd3 (q : I3) : ND := .t [.i q.1, .i q.2.1, .i q.2.2]
theorem leB_nd3 (p q : I3) : ND.leB (nd3 p) (nd3 q) = lex3 p q := by
  unfold nd3
  rw [leB_tcons, leB_tcons, leB_tcons, leB_tnil, leB_i, leB_i, leB_i]
  simp only [cmp_i_eq]
  unfold lex3
  by_cases h1 : p.1 = q.1 <;> by_cases h2 : p.2.1 = q.2.1 <;> by_cases h3 : p.2.2 = q.2.2 <;> simp [h1, h2, h3] <;> omega
theorem sort_nd3 (ps : List I3) : ND.sort (ps.map nd3) = (sort3 ps).map nd3 := sort_enc leB_nd3 lex3_trans lex3_total ps
theorem nd3_inj {p q : I3} (h : nd3 p = nd3 q) : p = q := by
  obtain ⟨a, b, c⟩ := p
  obtain ⟨d, e, f⟩ := q
  unfold nd3 at h
  injection h with h
  injection h with h1 h
  injection h with h2 h
  injection h with h3 _
  injection h1 with h1
  injection h2 with h2
  injection h3 with h3
  simp only at h1 h2 h3
  rw [h1, h2, h3]
theorem dp_er {K : PySem.W.Frag} {H : Hp} {v : V} {q : I3} (h : Er H v q) : Dp K H v (nd3 q).py := by
  obtain ⟨t, rfl, ht⟩ := h
  simp only [nd3, ND.py, ND.pyL]
  exact .tup (SqT.of ht) (.cons (.int _) (.cons (.int _) (.cons (.int _) .nil)))
theorem srt3 (ps : List I3) : SrtOk (ps.map nd3) := by
  refine ⟨fun d hd => ?_, fun d hd e he => ?_, fun d hd => ?_⟩
  · obtain ⟨p, _, rfl⟩ := List.mem_map.mp hd
    exact ⟨_, _, rfl⟩
  · obtain ⟨p, _, rfl⟩ := List.mem_map.mp hd
    obtain ⟨q, _, rfl⟩ := List.mem_map.mp he
    simp [nd3, ND.hom, ND.homL]
  · obtain ⟨p, _, rfl⟩ := List.mem_map.mp hd
    simp [nd3, ND.dep, ND.py, ND.pyL, PyData.depth, PyData.depthAll]
/-- sorted of a list of triples -/
theorem w_sort3 {K : PySem.W.Frag} {H : Hp} {Q : VK} {a : Addr} {vs : List V} {ps : List I3} (h1 : SqL K H a vs) (p1 : All2 (Er H) vs ps) (h : ∀ ys p, H p = none → All2 (Er H) ys (sort3 ps) → Q (.ref p) (upd H p (.lst ys))) : rSortN K [.ref a] H Q :=
  w_sortN (fun _ _ => nd3_inj) (fun v p r => ⟨dp_er r, by obtain ⟨t, e, _⟩ := r; exact ⟨t, e⟩⟩) h1 p1 (srt3 ps) (sort_nd3 ps) h
end
/-! #### how many plots hold a tie -/
theorem nodup_map_on {α β : Type} {f : α → β} : ∀ {l : List α}, (∀ x ∈ l, ∀ y ∈ l, f x = f y → x = y) → l.Nodup → (l.map f).Nodup
  | [], _, _ => List.nodup_nil
  | a :: l, h, nd => by
    obtain ⟨h1, h2⟩ := List.nodup_cons.mp nd
    refine List.nodup_cons.mpr ⟨fun hm => ?_, nodup_map_on (fun x hx y hy => h x (List.mem_cons_of_mem _ hx) y (List.mem_cons_of_mem _ hy)) h2⟩
    obtain ⟨b, hb, e⟩ := List.mem_map.mp hm
    exact h1 (by rw [← h b (List.mem_cons_of_mem _ hb) a List.mem_cons_self e]; exact hb)
def holds3 (q : I3) (p : IP) : Bool := decide (p.1 = q.1 ∨ p.1 = q.2.1 ∨ p.1 = q.2.2) && decide (p.2 = q.1 ∨ p.2 = q.2.1 ∨ p.2 = q.2.2)
theorem holds3_iff {q : I3} {p : IP} : holds3 q p = true ↔ (p.1 = q.1 ∨ p.1 = q.2.1 ∨ p.1 = q.2.2) ∧ (p.2 = q.1 ∨ p.2 = q.2.1 ∨ p.2 = q.2.2) := by
  unfold holds3
  rw [Bool.and_eq_true, decide_eq_true_iff, decide_eq_true_iff]
def third (q : I3) (p : IP) : Int := q.1 + q.2.1 + q.2.2 - p.1 - p.2
section
variable {n : Nat} {cut : List IP} {t : Tr}
theorem Cutting.holds_len (C : Cutting n cut t) {p : IP} (hp : p ∈ tiesL n cut) : ((plotsL n cut).filter fun q => holds3 q p).length = 1 + (if p ∈ cut then 1 else 0) := by
  have hw := C.w
  obtain ⟨⟨x, y⟩, hxy, rfl⟩ := C.ties.mp hp
  have bx := Tr.bd hxy
  simp only at bx
  have et : tieOf (x : Int) (y : Int) = castP (x, y) := by rw [tie_cast, Nat.min_eq_left (by omega), Nat.max_eq_right (by omega)]
  have hl := C.beside_len (a := x) (b := y) (by rw [et]; exact hp)
  rw [et] at hl
  rw [← hl]
  have pm : (((plotsL n cut).filter fun q => holds3 q (castP (x, y))).map fun q => third q (castP (x, y))).Perm (besideL n (tiesL n cut) x y) := by
    refine (List.perm_ext_iff_of_nodup ?_ ?_).mpr fun c => ?_
    · refine nodup_map_on (fun q hq q' hq' e => ?_) (C.plots_nodup.sublist List.filter_sublist)
      obtain ⟨hq, h1⟩ := List.mem_filter.mp hq
      obtain ⟨hq', h2⟩ := List.mem_filter.mp hq'
      obtain ⟨⟨a, b, c⟩, ha, rfl⟩ := C.mem_plots.mp hq
      obtain ⟨⟨a', b', c'⟩, ha', rfl⟩ := C.mem_plots.mp hq'
      have b1 := Tr.plots_bd ha
      have b2 := Tr.plots_bd ha'
      have h1 := holds3_iff.mp h1
      have h2 := holds3_iff.mp h2
      simp only [third, castP, cast3] at h1 h2 e b1 b2
      have : a = a' ∧ b = b' ∧ c = c' := by omega
      rw [this.1, this.2.1, this.2.2]
    · unfold besideL
      refine List.Pairwise.map _ ?_ ((List.nodup_range (n := n)).sublist List.filter_sublist)
      intro i j hij e
      exact hij (by omega)
    · rw [List.mem_map]
      unfold besideL
      rw [List.mem_map]
      constructor
      · rintro ⟨q, hq, rfl⟩
        obtain ⟨hq, h1⟩ := List.mem_filter.mp hq
        obtain ⟨⟨a, b, c⟩, ha, rfl⟩ := C.mem_plots.mp hq
        obtain ⟨o, k1, k2, k3⟩ := Tr.plots_iff.mp ha
        have b1 := Tr.plots_bd ha
        have h1 := holds3_iff.mp h1
        simp only [third, castP, cast3] at h1 b1 ⊢
        have cs : (x = a ∧ y = b) ∨ (x = b ∧ y = c) ∨ (x = a ∧ y = c) := by omega
        rcases cs with ⟨rfl, rfl⟩ | ⟨rfl, rfl⟩ | ⟨rfl, rfl⟩
        · exact ⟨c, List.mem_filter.mpr ⟨List.mem_range.mpr (by omega), (C.beside_iff bx.2.1).mpr (.inr (.inr ⟨by omega, k3, k2⟩))⟩, by omega⟩
        · exact ⟨a, List.mem_filter.mpr ⟨List.mem_range.mpr (by omega), (C.beside_iff bx.2.1).mpr (.inr (.inl ⟨by omega, k1, k3⟩))⟩, by omega⟩
        · exact ⟨b, List.mem_filter.mpr ⟨List.mem_range.mpr (by omega), (C.beside_iff bx.2.1).mpr (.inl ⟨o, k1, k2⟩)⟩, by omega⟩
      · rintro ⟨m, hm, rfl⟩
        obtain ⟨_, hb⟩ := List.mem_filter.mp hm
        rcases (C.beside_iff bx.2.1).mp hb with ⟨o, k1, k2⟩ | ⟨o, k1, k2⟩ | ⟨o, k1, k2⟩
        · refine ⟨cast3 (x, m, y), List.mem_filter.mpr ⟨C.mem_plots.mpr ⟨_, Tr.plots_iff.mpr ⟨o, k1, k2, hxy⟩, rfl⟩, ?_⟩, ?_⟩
          · simp [holds3, castP, cast3]
          · simp only [third, castP, cast3]; omega
        · refine ⟨cast3 (m, x, y), List.mem_filter.mpr ⟨C.mem_plots.mpr ⟨_, Tr.plots_iff.mpr ⟨⟨o, bx.2.1⟩, k1, hxy, k2⟩, rfl⟩, ?_⟩, ?_⟩
          · simp [holds3, castP, cast3]
          · simp only [third, castP, cast3]; omega
        · refine ⟨cast3 (x, y, m), List.mem_filter.mpr ⟨C.mem_plots.mpr ⟨_, Tr.plots_iff.mpr ⟨⟨bx.2.1, o⟩, hxy, k2, k1⟩, rfl⟩, ?_⟩, ?_⟩
          · simp [holds3, castP, cast3]
          · simp only [third, castP, cast3]; omega
  have l := pm.length_eq
  rw [List.length_map] at l
  exact l
end
end Pm
local macro_rules | `(tactic| walk_at "s1") => `(tactic| first
  | with_reducible refine Pm.w_seq ?_ | with_reducible refine Pm.w_asg ?_ | with_reducible refine Pm.w_drop ?_ | with_reducible refine Pm.w_ret ?_ | with_reducible refine Pm.w_retN ?_
  | with_reducible refine Pm.w_next ?_ | with_reducible refine Pm.w_brk ?_ | with_reducible refine Pm.w_cont ?_ | with_reducible refine Pm.w_if ?_ | with_reducible refine Pm.w_gname ?_ | with_reducible refine Pm.w_gcons ?_ | with_reducible refine Pm.w_gnil ?_
  | ((with_reducible show L2.tVar _ _ _ _); refine Pm.w_var rfl ?_) | with_reducible refine Pm.w_c ?_ | with_reducible refine Pm.w_op ?_ | with_reducible refine Pm.w_un ?_
  | with_reducible refine Pm.w_i0 ?_ | ((with_reducible refine Pm.w_i ?_ ?_); (walk_at "side")) | with_reducible refine Pm.w_u ?_ | with_reducible refine Pm.w_eqi ?_ | with_reducible refine Pm.w_nei ?_
  | with_reducible refine Pm.w_eqb ?_ | with_reducible refine Pm.w_neb ?_ | with_reducible refine Pm.w_eqs ?_
  | with_reducible refine Pm.w_cb ?_ | with_reducible refine Pm.w_nil ?_ | with_reducible refine Pm.w_cons ?_ | with_reducible refine Pm.w_call ?_ | with_reducible refine Pm.w_callS ?_ | with_reducible refine Pm.w_tup ?_ | with_reducible refine Pm.w_lst ?_
  | with_reducible refine Pm.w_test ?_ | with_reducible refine Pm.w_b ?_ | with_reducible refine Pm.w_bl ?_ | with_reducible refine Pm.w_and ?_ | with_reducible refine Pm.w_or ?_ | with_reducible refine Pm.w_not ?_
  | with_reducible refine Pm.w_andV ?_ | with_reducible refine Pm.w_orV ?_ | with_reducible refine Pm.w_notV ?_ | with_reducible refine Pm.w_ifE ?_ | with_reducible refine Pm.w_chain ?_ | with_reducible refine Pm.w_chain3 ?_ | with_reducible refine Pm.w_blx ?_
  | with_reducible refine Pm.w_par ?_ | with_reducible refine Pm.w_par2 ?_ | with_reducible refine Pm.w_max ?_ | with_reducible refine Pm.w_min ?_ | with_reducible refine Pm.w_abs ?_
  | with_reducible refine Pm.w_bm ?_ | with_reducible refine Pm.w_bm0 ?_ | with_reducible refine Pm.w_for ?_ | with_reducible refine Pm.w_iList ?_ | with_reducible refine Pm.w_iTup ?_ | with_reducible refine Pm.w_iRng1 ?_ | with_reducible refine Pm.w_iRng2 ?_
  | ((with_reducible refine Pm.w_rg1 ?_ ?_); (constructor <;> omega)) | ((with_reducible refine Pm.w_rg2 ?_ ?_); (refine ⟨⟨?_, ?_⟩, ?_, ?_⟩ <;> omega))
  | with_reducible refine Pm.w_dput ?_ | with_reducible refine Pm.w_din ?_ | with_reducible refine Pm.w_dnotin ?_ | with_reducible refine Pm.w_dget ?_
  | with_reducible refine Pm.w_int1 ?_ | with_reducible refine Pm.w_sl ?_ | with_reducible refine Pm.w_noPart ?_ | with_reducible refine Pm.w_part ?_ | with_reducible refine Pm.w_partK ?_
  | with_reducible refine Pm.w_lc ?_ | with_reducible refine Pm.w_yes ?_ | ((with_reducible show Pm.LcTurn _ _ _ _ _ _ _ _); refine Pm.w_turn rfl ?_)
  | with_reducible refine Pm.w_iteT ?_ | with_reducible refine Pm.w_iteF ?_ | with_reducible refine Pm.w_iteN1 ?_ | with_reducible refine Pm.w_iteN0 ?_)
local macro_rules | `(tactic| walk_at "side") => `(tactic| first | (refine Pm.w_mul1 ?_; constructor <;> omega) | (refine Pm.w_mul2 ?_; constructor <;> omega) | ((with_reducible show L2.CDiv _ _); refine ⟨?_, ?_⟩ <;> omega) | ((with_reducible show L2.CPow _ _); exact ⟨by decide, by decide, by decide⟩) | (show (0:Int) < _; omega))
local macro_rules | `(tactic| walk_at "st") => `(tactic| repeat (walk_at "s1"))
namespace Pm
open PySem PySem.Spec PyProof.Rows L2
/-! ### the text by places -/
def top (i : Nat) : Stmt := PySem.Challenge.pw_postmead_k10_plots_and_ties.main.body.getD i (.Pass ⟨0, 0, 0, 0⟩)
abbrev s_sides : Stmt := top 1
abbrev N_sides : List Str := ["n", "k"]
theorem sc_sides : FnScope N_sides ["n"] (defScope s_sides) := ⟨rfl, rfl, rfl, by decide +kernel, rfl, by decide +kernel, by decide +kernel⟩
abbrev s_ties : Stmt := top 2
abbrev N_ties : List Str := ["n", "cut"]
theorem sc_ties : FnScope N_ties ["n", "cut"] (defScope s_ties) := ⟨rfl, rfl, rfl, by decide +kernel, rfl, by decide +kernel, by decide +kernel⟩
abbrev s_plots : Stmt := top 3
abbrev N_plots : List Str := ["n", "cut", "tied", "tie", "found", "a", "b", "c"]
theorem sc_plots : FnScope N_plots ["n", "cut"] (defScope s_plots) := ⟨rfl, rfl, rfl, by decide +kernel, rfl, by decide +kernel, by decide +kernel⟩
abbrev s_law_flow : Stmt := top 5
abbrev N_law_flow : List Str := ["_law_script", "_law_many_here", "_law_great", "_law_row", "_law_k", "_law_cell", "_law_mixed"]
theorem sc_law_flow : FnScope N_law_flow ["_law_script", "_law_many_here"] (defScope s_law_flow) := ⟨rfl, rfl, rfl, by decide +kernel, rfl, by decide +kernel, by decide +kernel⟩
abbrev s_law_whole : Stmt := top 6
abbrev N_law_whole : List Str := ["_law_found"]
theorem sc_law_whole : FnScope N_law_whole ["_law_found"] (defScope s_law_whole) := ⟨rfl, rfl, rfl, by decide +kernel, rfl, by decide +kernel, by decide +kernel⟩
abbrev s_law_many : Stmt := top 7
abbrev N_law_many : List Str := ["_law_row"]
theorem sc_law_many : FnScope N_law_many ["_law_row"] (defScope s_law_many) := ⟨rfl, rfl, rfl, by decide +kernel, rfl, by decide +kernel, by decide +kernel⟩
abbrev s_law_pair : Stmt := top 8
abbrev N_law_pair : List Str := ["_law_a", "_law_b"]
theorem sc_law_pair : FnScope N_law_pair ["_law_a", "_law_b"] (defScope s_law_pair) := ⟨rfl, rfl, rfl, by decide +kernel, rfl, by decide +kernel, by decide +kernel⟩
abbrev s_law_ears : Stmt := top 9
abbrev N_law_ears : List Str := ["_law_n", "_law_row", "_law_left", "_law_k", "_law_ears_here"]
theorem sc_law_ears : FnScope N_law_ears ["_law_n", "_law_row"] (defScope s_law_ears) := ⟨rfl, rfl, rfl, by decide +kernel, rfl, by decide +kernel, by decide +kernel⟩
abbrev s_law_ropes : Stmt := top 10
abbrev N_law_ropes : List Str := ["_law_ears_here", "_law_ear"]
theorem sc_law_ropes : FnScope N_law_ropes ["_law_ears_here"] (defScope s_law_ropes) := ⟨rfl, rfl, rfl, by decide +kernel, rfl, by decide +kernel, by decide +kernel⟩
abbrev s_law_sides : Stmt := top 11
abbrev N_law_sides : List Str := ["_law_n", "_law_k"]
theorem sc_law_sides : FnScope N_law_sides ["_law_n"] (defScope s_law_sides) := ⟨rfl, rfl, rfl, by decide +kernel, rfl, by decide +kernel, by decide +kernel⟩
abbrev s_law_ties : Stmt := top 12
abbrev N_law_ties : List Str := ["_law_n", "_law_cut"]
theorem sc_law_ties : FnScope N_law_ties ["_law_n", "_law_cut"] (defScope s_law_ties) := ⟨rfl, rfl, rfl, by decide +kernel, rfl, by decide +kernel, by decide +kernel⟩
abbrev s_law_tuple : Stmt := top 13
abbrev N_law_tuple : List Str := ["_law_found", "_law_many_here", "_law_one"]
theorem sc_law_tuple : FnScope N_law_tuple ["_law_found", "_law_many_here"] (defScope s_law_tuple) := ⟨rfl, rfl, rfl, by decide +kernel, rfl, by decide +kernel, by decide +kernel⟩
abbrev s_law_list : Stmt := top 14
abbrev N_law_list : List Str := ["_law_found", "_law_many_here", "_law_one"]
theorem sc_law_list : FnScope N_law_list ["_law_found", "_law_many_here"] (defScope s_law_list) := ⟨rfl, rfl, rfl, by decide +kernel, rfl, by decide +kernel, by decide +kernel⟩
abbrev s_law_holds : Stmt := top 15
abbrev N_law_holds : List Str := ["_law_plot", "_law_tie"]
theorem sc_law_holds : FnScope N_law_holds ["_law_plot", "_law_tie"] (defScope s_law_holds) := ⟨rfl, rfl, rfl, by decide +kernel, rfl, by decide +kernel, by decide +kernel⟩
abbrev s_law : Stmt := top 16
abbrev N_law : List Str := ["_law_script", "_law_row", "_law_n", "_law_cut", "_law_handed", "_law_all_ties", "_law_found", "_law_fields", "_law_k", "_law_a", "_law_b", "_law_c", "_law_tie", "_law_many_here", "_law_plot"]
theorem sc_law : FnScope N_law ["_law_script"] (defScope s_law) := ⟨rfl, rfl, rfl, by decide +kernel, rfl, by decide +kernel, by decide +kernel⟩
/-- what the top has written -/
structure Tx (K : PySem.W.Frag) (mg : Str → Option Value) : Type where
  a_sides : Addr
  fd_sides : FuncData
  F_sides : Fun K "sides" "sides" s_sides a_sides fd_sides
  g_sides : mg "sides" = some (.ref a_sides)
  b_sides : Binds K fd_sides ["n"] []
  a_ties : Addr
  fd_ties : FuncData
  F_ties : Fun K "ties" "ties" s_ties a_ties fd_ties
  g_ties : mg "ties" = some (.ref a_ties)
  b_ties : Binds K fd_ties ["n", "cut"] []
  a_plots : Addr
  fd_plots : FuncData
  F_plots : Fun K "plots" "plots" s_plots a_plots fd_plots
  g_plots : mg "plots" = some (.ref a_plots)
  b_plots : Binds K fd_plots ["n", "cut"] []
  a_law_flow : Addr
  fd_law_flow : FuncData
  F_law_flow : Fun K "_law_flow" "_law_flow" s_law_flow a_law_flow fd_law_flow
  g_law_flow : mg "_law_flow" = some (.ref a_law_flow)
  b_law_flow : Binds K fd_law_flow ["_law_script", "_law_many_here"] []
  a_law_whole : Addr
  fd_law_whole : FuncData
  F_law_whole : Fun K "_law_whole" "_law_whole" s_law_whole a_law_whole fd_law_whole
  g_law_whole : mg "_law_whole" = some (.ref a_law_whole)
  b_law_whole : Binds K fd_law_whole ["_law_found"] []
  a_law_many : Addr
  fd_law_many : FuncData
  F_law_many : Fun K "_law_many" "_law_many" s_law_many a_law_many fd_law_many
  g_law_many : mg "_law_many" = some (.ref a_law_many)
  b_law_many : Binds K fd_law_many ["_law_row"] []
  a_law_pair : Addr
  fd_law_pair : FuncData
  F_law_pair : Fun K "_law_pair" "_law_pair" s_law_pair a_law_pair fd_law_pair
  g_law_pair : mg "_law_pair" = some (.ref a_law_pair)
  b_law_pair : Binds K fd_law_pair ["_law_a", "_law_b"] []
  a_law_ears : Addr
  fd_law_ears : FuncData
  F_law_ears : Fun K "_law_ears" "_law_ears" s_law_ears a_law_ears fd_law_ears
  g_law_ears : mg "_law_ears" = some (.ref a_law_ears)
  b_law_ears : Binds K fd_law_ears ["_law_n", "_law_row"] []
  a_law_ropes : Addr
  fd_law_ropes : FuncData
  F_law_ropes : Fun K "_law_ropes" "_law_ropes" s_law_ropes a_law_ropes fd_law_ropes
  g_law_ropes : mg "_law_ropes" = some (.ref a_law_ropes)
  b_law_ropes : Binds K fd_law_ropes ["_law_ears_here"] []
  a_law_sides : Addr
  fd_law_sides : FuncData
  F_law_sides : Fun K "_law_sides" "_law_sides" s_law_sides a_law_sides fd_law_sides
  g_law_sides : mg "_law_sides" = some (.ref a_law_sides)
  b_law_sides : Binds K fd_law_sides ["_law_n"] []
  a_law_ties : Addr
  fd_law_ties : FuncData
  F_law_ties : Fun K "_law_ties" "_law_ties" s_law_ties a_law_ties fd_law_ties
  g_law_ties : mg "_law_ties" = some (.ref a_law_ties)
  b_law_ties : Binds K fd_law_ties ["_law_n", "_law_cut"] []
  a_law_tuple : Addr
  fd_law_tuple : FuncData
  F_law_tuple : Fun K "_law_tuple" "_law_tuple" s_law_tuple a_law_tuple fd_law_tuple
  g_law_tuple : mg "_law_tuple" = some (.ref a_law_tuple)
  b_law_tuple : Binds K fd_law_tuple ["_law_found", "_law_many_here"] []
  a_law_list : Addr
  fd_law_list : FuncData
  F_law_list : Fun K "_law_list" "_law_list" s_law_list a_law_list fd_law_list
  g_law_list : mg "_law_list" = some (.ref a_law_list)
  b_law_list : Binds K fd_law_list ["_law_found", "_law_many_here"] []
  a_law_holds : Addr
  fd_law_holds : FuncData
  F_law_holds : Fun K "_law_holds" "_law_holds" s_law_holds a_law_holds fd_law_holds
  g_law_holds : mg "_law_holds" = some (.ref a_law_holds)
  b_law_holds : Binds K fd_law_holds ["_law_plot", "_law_tie"] []
  a_law : Addr
  fd_law : FuncData
  F_law : Fun K "law" "law" s_law a_law fd_law
  g_law : mg "law" = some (.ref a_law)
  b_law : Binds K fd_law ["_law_script"] []
  m_sorted : mg "sorted" = none
  m_range : mg "range" = none
  m_len : mg "len" = none
  m_abs : mg "abs" = none
  m_isinstance : mg "isinstance" = none
  m_int : mg "int" = none
  m_bool : mg "bool" = none
  m_min : mg "min" = none
  m_max : mg "max" = none
  m_tuple : mg "tuple" = none
  m_list : mg "list" = none
/-! ### the draws: a new list of so many numbers below a million -/
def spFlow (K : PySem.W.Frag) : Sp := fun vs H Q _ => ∃ (a : Addr) (ns : List Int) (m : Nat), vs = [.ref a, .int m] ∧ SqL K H a (ns.map V.int) ∧ m ≤ 100000 ∧
  ∀ (row : List Int) (H' : Hp) (p : Addr), row.length = m → (∀ x ∈ row, 0 ≤ x ∧ x < 1000000) → Same H H' → H p = none → H' p = some (.lst (row.map V.int)) → Q (.ref p) H'
theorem flow_more {row : List Int} {x : Int} (h : ∀ x ∈ row, 0 ≤ x ∧ x < 1000000) (h0 : 0 ≤ x) (h1 : x < 1000000) : ∀ y ∈ row ++ [x], 0 ≤ y ∧ y < 1000000 := fun y hy => by
  rcases List.mem_append.mp hy with q | q
  · exact h y q
  · rw [List.mem_singleton.mp q]; exact ⟨h0, h1⟩
theorem flow_get {row : List Int} (h : ∀ x ∈ row, 0 ≤ x ∧ x < 1000000) (i : Nat) : 0 ≤ row.getD i 0 ∧ row.getD i 0 < 1000000 := by
  rw [List.getD_eq_getElem?_getD]
  cases e : row[i]? with
  | none => exact ⟨by decide, by decide⟩
  | some x => exact h x (List.mem_of_getElem? e)
section
variable {P : Program} {w : World} {K : PySem.W.Frag} {mg : Str → Option Value} {base : Heap}
theorem ok_law_flow (T : Tx K mg) : FnOk P w K mg base CX0 1 T.a_law_flow T.fd_law_flow ["_law_script", "_law_many_here"] (spFlow K) := by
  refine T.F_law_flow.ok sc_law_flow (fun vs H Q E h => ?_) (fun cdv A outer s H vs Q E hr h => ?_)
  · obtain ⟨a, ns, m, rfl, _⟩ := h
    rfl
  obtain ⟨a, ns, m, rfl, hS, hm, q⟩ := h
  refine ⟨_, (pss_cons (ps_set (i := 2) sc_law_flow.nd rfl (.inl rfl) (pe_int))
      (C8.pss_cut (ps_if (PW.pt (pw_and (pt_cmpR op_gt (pe_callB (c_len (K := K)) (by rfl) T.m_len PySem.boot_len (pa_cons (pv 0) pa_nil)) (pe_int) (nomark _)) (pw_and1 (pt_cmpR op_ge (pe_callB c_abs (by rfl) T.m_abs (by decide +kernel) (pa_cons (pe_ix (ix_listK (K := K)) (pv 0) (pe_int) (fun _ _ => rfl)) pa_nil)) (pe_op op_pow (pe_int) (pe_int)) (nomark _))))) (pss_one (ps_set (i := 2) sc_law_flow.nd rfl (.inl rfl) (pe_op op_sub (pe_callB c_abs (by rfl) T.m_abs (by decide +kernel) (pa_cons (pe_ix (ix_listK (K := K)) (pv 0) (pe_int) (fun _ _ => rfl)) pa_nil)) (pe_op op_pow (pe_int) (pe_int))))) pss_nil)
      (pss_cons (ps_set (i := 3) sc_law_flow.nd rfl (.inl rfl) (pe_lst pa_nil))
      (pss_cons (ps_for PassesOwn.never rfl (pi_range1 (by rfl) T.m_range (pa_cons (pv 1) pa_nil)) (pg_name (i := 4) sc_law_flow.nd rfl (.inl rfl)) (pss_one (ps_if (pt_cmpR op_gt (pv 2) (pe_int) (nomark _)) (pss_cons (ps_expr (k_bm (K := K) (pe_bm PySem.F.plainAttrs_list PySem.F.slot_list_append PySem.F.type_list_append mt_append (pv 3) (pa_cons (pe_op op_mod (pv 2) (pe_int)) pa_nil))))
      (pss_one (ps_set (i := 2) sc_law_flow.nd rfl (.inl rfl) (pe_op op_fdiv (pv 2) (pe_int))))) (pss_cons (ps_set (i := 5) sc_law_flow.nd rfl (.inl rfl) (pe_op op_add (pv 4) (pe_int)))
      (C8.pss_cut (ps_if (pt_cmpR op_gt (pe_callB (c_len (K := K)) (by rfl) T.m_len PySem.boot_len (pa_cons (pv 0) pa_nil)) (pe_int) (nomark _)) (pss_one (ps_set (i := 5) sc_law_flow.nd rfl (.inl rfl) (pe_ix (ix_listK (K := K)) (pv 0) (pe_op op_mod (pv 4) (pe_callB (c_len (K := K)) (by rfl) T.m_len PySem.boot_len (pa_cons (pv 0) pa_nil))) (fun _ _ => rfl)))) pss_nil)
      (pss_cons (ps_set (i := 6) sc_law_flow.nd rfl (.inl rfl) (pe_op op_mod (pe_op op_add (pe_op op_add (pe_op op_mul (pv 5) (pe_int)) (pe_op op_mul (pv 4) (pe_int))) (pe_int)) (pe_int)))
      (pss_cons (ps_set (i := 6) sc_law_flow.nd rfl (.inl rfl) (pe_op op_mod (pe_op op_add (pe_op op_add (pe_op op_mul (pv 6) (pe_int)) (pe_op op_mul (pv 4) (pe_int))) (pe_callB (c_len (K := K)) (by rfl) T.m_len PySem.boot_len (pa_cons (pv 0) pa_nil))) (pe_int)))
      (pss_one (ps_expr (k_bm (K := K) (pe_bm PySem.F.plainAttrs_list PySem.F.slot_list_append PySem.F.type_list_append mt_append (pv 3) (pa_cons (pe_op op_mod (pe_op op_fdiv (pv 6) (pe_int)) (pe_int)) pa_nil))))))))))))
      (pss_one (ps_ret (pv 3))))))), ?_⟩
  walk_at "st"
  have hl : (ns.map V.int).length = ns.length := List.length_map _
  refine Pm.w_cut (fun σ' H' => ∃ g : Int, σ' = [some (.ref a), some (.int m), some (.int g), none, none, none, none] ∧ H' = H) ?_ ?_
  · walk_at "st"
    refine Pm.w_len (.inl hS) ?_
    walk_at "st"
    refine Pm.w_ite (fun c => ?_) (fun c => ?_)
    · rw [hl] at c
      walk_at "st"
      refine Pm.w_ixL hS (atI_int (by omega) (by omega)) ?_
      walk_at "st"
      refine Pm.w_ite (fun c => ?_) (fun c => ?_)
      · walk_at "st"
        refine Pm.w_ixL hS (atI_int (by omega) (by omega)) ?_
        walk_at "st"
        exact ⟨_, rfl, rfl⟩
      · walk_at "st"
        exact ⟨_, rfl, rfl⟩
    · walk_at "st"
      exact ⟨_, rfl, rfl⟩
  rintro σ H' ⟨g, rfl, rfl⟩
  walk_at "st"
  refine Pm.w_newL (fun p hp => ?_)
  walk_at "st"
  rw [Int.toNat_natCast]
  refine Pm.w_forR (fun i σ H2 => ∃ (g : Int) (row : List Int) (x4 x5 x6 : Option V), σ = [some (.ref a), some (.int m), some (.int g), some (.ref p), x4, x5, x6] ∧
    row.length = i ∧ (∀ x ∈ row, 0 ≤ x ∧ x < 1000000) ∧ H2 = upd H' p (.lst (row.map V.int))) ?_ ?_ ?_
  · exact ⟨g, [], none, none, none, rfl, rfl, fun x hx => absurd hx (List.not_mem_nil), rfl⟩
  · rintro i σ H2 hi ⟨g, row, x4, x5, x6, rfl, hrow, hb, rfl⟩
    have hS2 : SqL K (upd H' p (.lst (row.map V.int))) a (ns.map V.int) := (same_new hp _).seq hS
    have hz : (row.map V.int).length < sizeLine := by rw [List.length_map]; exact size_lt (by omega)
    have fin : ∀ x : Int, upd (upd H' p (.lst (row.map V.int))) p (.lst (row.map V.int ++ [.int x])) = upd H' p (.lst ((row ++ [x]).map V.int)) := fun x => by rw [upd_upd, List.map_append] <;> rfl
    walk_at "st"
    refine Pm.w_ite (fun c => ?_) (fun c => ?_)
    · walk_at "st"
      refine ⟨.inl ⟨rfl, _, SqL.of upd_same⟩, ?_⟩
      walk_at "st"
      refine Pm.w_append upd_same hz ?_
      walk_at "st"
      refine ⟨_, row ++ [g % 1000000], _, _, _, rfl, by rw [List.length_append, hrow] <;> rfl, flow_more hb (by omega) (by omega), fin _⟩
    · walk_at "st"
      refine Pm.w_cut (fun σ' H3 => ∃ cell : Int, σ' = [some (.ref a), some (.int m), some (.int g), some (.ref p), some (.int (0 + (i : Nat))), some (.int cell), x6] ∧ H3 = upd H' p (.lst (row.map V.int))) ?_ ?_
      · walk_at "st"
        refine Pm.w_len (.inl hS2) ?_
        walk_at "st"
        refine Pm.w_ite (fun c => ?_) (fun c => ?_)
        · rw [hl] at c
          walk_at "st"
          refine Pm.w_len (.inl hS2) ?_
          rw [hl]
          walk_at "st"
          refine Pm.w_ixL hS2 (atI_int (Int.emod_nonneg _ (by omega)) (Int.emod_lt_of_pos _ (by omega))) ?_
          walk_at "st"
          exact ⟨_, rfl, rfl⟩
        · walk_at "st"
          exact ⟨_, rfl, rfl⟩
      · rintro σ H3 ⟨cell, rfl, rfl⟩
        walk_at "st"
        refine Pm.w_len (.inl hS2) ?_
        walk_at "st"
        refine ⟨.inl ⟨rfl, _, SqL.of upd_same⟩, ?_⟩
        walk_at "st"
        refine Pm.w_append upd_same hz ?_
        walk_at "st"
        refine ⟨_, row ++ [_], _, _, _, rfl, by rw [List.length_append, hrow] <;> rfl, flow_more hb (Int.emod_nonneg _ (by decide)) (Int.emod_lt_of_pos _ (by decide)), fin _⟩
  · rintro σ H2 ⟨g, row, x4, x5, x6, rfl, hrow, hb, rfl⟩
    walk_at "st"
    exact q row _ p hrow hb (same_new hp _) hp upd_same
end
/-! ### is it an int -/
section
variable {P : Program} {w : World} {K : PySem.W.Frag} {mg : Str → Option Value} {base : Heap}
def spWhole : Sp := fun vs H Q _ => ∃ i : Int, vs = [.int i] ∧ Q (.bl true) H
theorem ok_law_whole (T : Tx K mg) : FnOk P w K mg base CX0 1 T.a_law_whole T.fd_law_whole ["_law_found"] spWhole := by
  refine T.F_law_whole.ok sc_law_whole (fun vs H Q E h => ?_) (fun cdv A outer s H vs Q E hr h => ?_)
  · obtain ⟨i, rfl, _⟩ := h
    rfl
  obtain ⟨i, rfl, q⟩ := h
  refine ⟨_, (pss_one (ps_ret ((pe_and (pe_callB (call_isK (K := K)) (by rfl) T.m_isinstance (by decide +kernel) (pa_cons (pv 0) (pa_cons (pe_bltn (v := .ty "int") (by rfl) T.m_int (by decide +kernel) rfl) pa_nil))) (pe_one (pe_not (pe_callB (call_isK (K := K)) (by rfl) T.m_isinstance (by decide +kernel) (pa_cons (pv 0) (pa_cons (pe_bltn (v := .ty "bool") (by rfl) T.m_bool (by decide +kernel) rfl) pa_nil))))))))), ?_⟩
  walk_at "st"
  refine Pm.w_isiInt (b := true) (by decide +kernel) ?_
  walk_at "st"
  refine Pm.w_isiInt (b := false) (by decide +kernel) ?_
  walk_at "st"
  exact q
end
/-! ### the drawn cutting -/
/-- a new pair -/
def PrNew (H : Hp) (p : IP) (Q : VK) : Prop := ∀ (t : Addr) (H' : Hp), Same H H' → H t = none → Pr H' (.ref t) p → Q (.ref t) H'
def spPair : Sp := fun vs H Q _ => ∃ a b : Int, vs = [.int a, .int b] ∧ PrNew H (tieOf a b) Q
theorem atI_prev {ns : List Int} {k : Int} (h0 : 0 ≤ k) (h : k < (ns.length : Int)) : atI (ns.map V.int) (k - 1) = some (.int (ns.getD ((k.toNat + ns.length - 1) % ns.length) 0)) := by
  by_cases c : k = 0
  · subst c
    have e : ((0 : Int).toNat + ns.length - 1) % ns.length = ns.length - 1 := by
      rw [show (0 : Int).toNat + ns.length - 1 = ns.length - 1 by omega]
      exact Nat.mod_eq_of_lt (by omega)
    rw [e]
    unfold atI ixN
    rw [if_neg (by omega), if_pos (by rw [List.length_map]; omega)]
    show (ns.map V.int)[(0 - 1 + ((ns.map V.int).length : Int)).toNat]? = _
    rw [show (0 - 1 + ((ns.map V.int).length : Int)).toNat = ns.length - 1 by rw [List.length_map]; omega, List.getElem?_map, List.getElem?_eq_getElem (by omega), List.getD_eq_getElem?_getD, List.getElem?_eq_getElem (by omega)] <;> rfl
  · have e : (k.toNat + ns.length - 1) % ns.length = (k - 1).toNat := by
      rw [show k.toNat + ns.length - 1 = (k - 1).toNat + ns.length by omega, Nat.add_mod_right]
      exact Nat.mod_eq_of_lt (by omega)
    rw [e]
    exact atI_int (by omega) (by omega)
section
variable {P : Program} {w : World} {K : PySem.W.Frag} {mg : Str → Option Value} {base : Heap}
theorem ok_law_pair (T : Tx K mg) : FnOk P w K mg base CX0 1 T.a_law_pair T.fd_law_pair ["_law_a", "_law_b"] spPair := by
  refine T.F_law_pair.ok sc_law_pair (fun vs H Q E h => ?_) (fun cdv A outer s H vs Q E hr h => ?_)
  · obtain ⟨a, b, rfl, _⟩ := h
    rfl
  obtain ⟨a, b, rfl, q⟩ := h
  refine ⟨_, (pss_one (ps_ret (pe_tup (pa_cons (pe_callB (c_min rfl) (by rfl) T.m_min (by decide +kernel) (pa_cons (pv 0) (pa_cons (pv 1) pa_nil))) (pa_cons (pe_callB (c_max rfl) (by rfl) T.m_max (by decide +kernel) (pa_cons (pv 0) (pa_cons (pv 1) pa_nil))) pa_nil))))), ?_⟩
  walk_at "st"
  refine Pm.w_newT (fun t ht => ?_)
  exact q t _ (same_new ht _) ht (pr_new upd_same)
def spEars (K : PySem.W.Frag) : Sp := fun vs H Q _ => ∃ (n : Nat) (r : Addr) (row : List Int), vs = [.int n, .ref r] ∧ SqL K H r (row.map V.int) ∧ 3 ≤ n ∧ n ≤ 12 ∧ n ≤ row.length + 3 ∧
  ∀ (p : Addr) (H' : Hp) (evs : List V) (es : List Ear), Same H H' → H p = none → H' p = some (.lst evs) → All2 (Er H') evs es → Ears (posts n) es → es.length + 3 = n → Q (.ref p) H'
theorem ok_law_ears (T : Tx K mg) : FnOk P w K mg base CX0 1 T.a_law_ears T.fd_law_ears ["_law_n", "_law_row"] (spEars K) := by
  refine T.F_law_ears.ok sc_law_ears (fun vs H Q E h => ?_) (fun cdv A outer s H vs Q E hr h => ?_)
  · obtain ⟨n, r, row, rfl, _⟩ := h
    rfl
  obtain ⟨n, r, row, rfl, hR, n3, n12, hrow, q⟩ := h
  refine ⟨_, (pss_cons (ps_setLc (i := 2) (own := [("_law_k", 3)]) (g := gName 3) (tt := tYes) rfl sc_law_ears.nd rfl rfl (sw_true rfl rfl rfl (by decide +kernel)) (pi_range1 (by rfl) T.m_range (pa_cons (pv 0) pa_nil)) (blkOk_by (N := N_law_ears) (sc := defScope s_law_ears) (by decide +kernel)) (fun _ _ _ _ _ => (pg_name (i := 3) sc_law_ears.nd rfl (.inl rfl))) (fun _ _ _ _ _ => pts_nil) (fun _ _ _ _ _ => (pv 3)))
      (pss_cons (ps_set (i := 4) sc_law_ears.nd rfl (.inl rfl) (pe_lst pa_nil))
      (pss_cons (ps_while PassesOwn.never (pt_cmpR op_gt (pe_callB (c_len (K := K)) (by rfl) T.m_len PySem.boot_len (pa_cons (pv 2) pa_nil)) (pe_int) (nomark _)) (pss_cons (ps_set (i := 3) sc_law_ears.nd rfl (.inl rfl) (pe_op op_mod (pe_ix (ix_listK (K := K)) (pv 1) (pe_callB (c_len (K := K)) (by rfl) T.m_len PySem.boot_len (pa_cons (pv 4) pa_nil)) (fun _ _ => rfl)) (pe_callB (c_len (K := K)) (by rfl) T.m_len PySem.boot_len (pa_cons (pv 2) pa_nil))))
      (pss_cons (ps_expr (k_bm (K := K) (pe_bm PySem.F.plainAttrs_list PySem.F.slot_list_append PySem.F.type_list_append mt_append (pv 4) (pa_cons (pe_tup (pa_cons (pe_ix (ix_listK (K := K)) (pv 2) (pv 3) (fun _ _ => rfl)) (pa_cons (pe_ix (ix_listK (K := K)) (pv 2) (pe_op op_sub (pv 3) (pe_int)) (fun _ _ => rfl)) (pa_cons (pe_ix (ix_listK (K := K)) (pv 2) (pe_op op_mod (pe_op op_add (pv 3) (pe_int)) (pe_callB (c_len (K := K)) (by rfl) T.m_len PySem.boot_len (pa_cons (pv 2) pa_nil))) (fun _ _ => rfl)) pa_nil)))) pa_nil))))
      (pss_one (ps_set (i := 2) sc_law_ears.nd rfl (.inl rfl) (pe_op op_cat (pe_slice (sl_listK (K := K)) (pv 2) po_none (po_some (pv 3))) (pe_slice (sl_listK (K := K)) (pv 2) (po_some (pe_op op_add (pv 3) (pe_int))) po_none)))))))
      (pss_one (ps_ret (pv 4)))))), ?_⟩
  walk_at "st"
  rw [Int.toNat_natCast]
  refine Pm.w_lcRm (R := In) in_mono (fun i : Nat => (i : Int)) (by omega) (fun D i H1 Nx hD hi s1 put => ?_) (fun D H1 ws hD s1 hd ha => ?_)
  · walk_at "st"
    exact put _ _ (Same.refl _) (by show V.int (0 + (i : Int)) = _; rw [Int.zero_add])
  have ew := ins_map ha
  subst ew
  walk_at "st"
  refine Pm.w_newL (fun e he => ?_)
  walk_at "st"
  have nD : e ≠ D := fun z => by subst z; rw [hd] at he; cases he
  have hD2 : (upd H1 e (.lst [])) D = some (.lst ((posts n).map V.int)) := by rw [upd_ne nD.symm]; exact hd
  have sE : Same H (upd H1 e (.lst [])) := s1.trans (same_new he _)
  have hHe : H e = none := s1.free he
  refine Pm.w_while (fun m σ H2 => ∃ (l : Addr) (L : List Int) (x : Option V) (evs : List V) (es : List Ear), σ = [some (.int n), some (.ref r), some (.ref l), x, some (.ref e)] ∧ H2 l = some (.lst (L.map V.int)) ∧ H2 e = some (.lst evs) ∧ All2 (Er H2) evs es ∧
    L.length + es.length = n ∧ 3 ≤ L.length ∧ (∀ es', Ears L es' → Ears (posts n) (es ++ es')) ∧ Same H H2 ∧ l ≠ e ∧ m = L.length) n ⟨D, posts n, _, [], [], rfl, hD2, upd_same, trivial, by rw [posts_len] <;> rfl, by rw [posts_len]; exact n3, fun _ h => h, sE, nD.symm, (posts_len n).symm⟩ ?_
  rintro m σ H2 ⟨l, L, x, evs, es, rfl, hl, hE, hA, hlen, hL3, hears, s2, nle, rfl⟩
  have hlL : (L.map V.int).length = L.length := List.length_map _
  have hR2 : SqL K H2 r (row.map V.int) := s2.seq hR
  have ale := hA.length
  walk_at "st"
  refine Pm.w_lenL (SqL.of hl) ?_
  walk_at "st"
  refine Pm.w_wh (fun c => ?_) (fun c => ?_)
  · rw [hlL] at c
    walk_at "st"
    refine Pm.w_lenL (SqL.of hE) ?_
    walk_at "st"
    refine Pm.w_ixL hR2 (atI_int (by omega) (by omega)) ?_
    walk_at "st"
    refine Pm.w_lenL (SqL.of hl) ?_
    rw [hlL]
    walk_at "st"
    generalize hk : row.getD (evs.length : Int).toNat 0 % (L.length : Int) = k
    have k0 : 0 ≤ k := by rw [← hk]; exact Int.emod_nonneg _ (by omega)
    have k1 : k < (L.length : Int) := by rw [← hk]; exact Int.emod_lt_of_pos _ (by omega)
    refine ⟨.inl ⟨rfl, _, SqL.of hE⟩, ?_⟩
    walk_at "st"
    refine Pm.w_ixL (SqL.of hl) (atI_int k0 k1) ?_
    walk_at "st"
    refine Pm.w_ixL (SqL.of hl) (atI_prev k0 k1) ?_
    walk_at "st"
    refine Pm.w_lenL (SqL.of hl) ?_
    rw [hlL]
    walk_at "st"
    refine Pm.w_ixL (SqL.of hl) (atI_int (Int.emod_nonneg _ (by omega)) (Int.emod_lt_of_pos _ (by omega))) ?_
    walk_at "st"
    refine Pm.w_newT (fun t ht => ?_)
    walk_at "st"
    have ek : ((k + 1) % (L.length : Int)).toNat = (k.toNat + 1) % L.length := by
      have e1 : k + 1 = ((k.toNat + 1 : Nat) : Int) := by omega
      rw [e1, ← Int.natCast_emod, Int.toNat_natCast]
    rw [ek]
    have nte : e ≠ t := ne_of_none hE ht
    have ntl : l ≠ t := ne_of_none hl ht
    refine Pm.w_append (by rw [upd_ne nte]; exact hE) (size_lt (by omega)) ?_
    walk_at "st"
    generalize hT : (V.ref t) = tv
    have hl3 : (upd (upd H2 t (.tup [.int (L.getD k.toNat 0), .int (L.getD ((k.toNat + L.length - 1) % L.length) 0), .int (L.getD ((k.toNat + 1) % L.length) 0)])) e (.lst (evs ++ [tv]))) l = some (.lst (L.map V.int)) := by
      rw [upd_ne nle, upd_ne ntl]; exact hl
    refine Pm.w_slL (SqL.of hl3) (fun p1 hp1 => ?_)
    rw [cut_take k0 (by rw [hlL]; omega)]
    walk_at "st"
    have np1 : l ≠ p1 := ne_of_none hl3 hp1
    refine Pm.w_slL (SqL.of (by rw [upd_ne np1]; exact hl3)) (fun p2 hp2 => ?_)
    have np12 : p1 ≠ p2 := ne_of_none upd_same hp2
    rw [cut_drop (by omega) (by rw [hlL]; omega)]
    refine Pm.w_cat (by rw [upd_ne np12]; exact upd_same) upd_same (size_ok (by rw [List.length_take, List.length_drop, hlL]; omega)) (fun p3 hp3 => ?_)
    walk_at "st"
    have eL : (L.map V.int).take k.toNat ++ (L.map V.int).drop (k + 1).toNat = (L.eraseIdx k.toNat).map V.int := by
      rw [List.eraseIdx_eq_take_drop_succ, List.map_append, List.map_take, List.map_drop, show (k + 1).toNat = k.toNat + 1 by omega]
    have hkL : k.toNat < L.length := by omega
    have leL : (L.eraseIdx k.toNat).length = L.length - 1 := List.length_eraseIdx_of_lt hkL
    have kk : Keeps H2 (upd (upd H2 t (.tup [.int (L.getD k.toNat 0), .int (L.getD ((k.toNat + L.length - 1) % L.length) 0), .int (L.getD ((k.toNat + 1) % L.length) 0)])) e (.lst (evs ++ [tv]))) := (keeps (same_new ht _)).trans (keeps_lst (xs := evs) (by rw [upd_ne nte]; exact hE))
    have sF : Same (upd (upd H2 t (.tup [.int (L.getD k.toNat 0), .int (L.getD ((k.toNat + L.length - 1) % L.length) 0), .int (L.getD ((k.toNat + 1) % L.length) 0)])) e (.lst (evs ++ [tv]))) (upd (upd (upd (upd (upd H2 t (.tup [.int (L.getD k.toNat 0), .int (L.getD ((k.toNat + L.length - 1) % L.length) 0), .int (L.getD ((k.toNat + 1) % L.length) 0)])) e (.lst (evs ++ [tv]))) p1 (.lst (List.take k.toNat (List.map V.int L)))) p2 (.lst (List.drop (k + 1).toNat (List.map V.int L)))) p3 (.lst (List.take k.toNat (List.map V.int L) ++ List.drop (k + 1).toNat (List.map V.int L)))) :=
      (same_new hp1 _).trans ((same_new hp2 _).trans (same_new hp3 _))
    refine ⟨L.length - 1, by omega, p3, L.eraseIdx k.toNat, _, evs ++ [tv], es ++ [(L.getD k.toNat 0, L.getD ((k.toNat + L.length - 1) % L.length) 0, L.getD ((k.toNat + 1) % L.length) 0)], rfl, by rw [upd_same, eL], sF _ _ upd_same, ?_, ?_, by omega, fun es' h' => ?_, ?_, ?_, leL.symm⟩
    · refine (hA.mono fun _ _ r => er_mono _ _ _ _ (kk.trans (keeps sF)) r).snoc (er_mono _ _ _ _ (keeps sF) ⟨t, hT.symm, ?_⟩)
      rw [upd_ne nte.symm, upd_same]
    · rw [leL, List.length_append, List.length_singleton]; omega
    · rw [List.append_assoc]
      exact hears _ (Ears.step k.toNat (by omega) hkL h')
    · exact (same_but hHe (s2.trans (same_new ht _))).trans sF
    · exact fun z => by
        have : e ≠ p3 := ne_of_none (o := .lst (evs ++ [tv])) (((same_new hp1 _).trans (same_new hp2 _)) _ _ upd_same) hp3
        exact this z.symm
  · rw [hlL] at c
    walk_at "st"
    have h0 : Ears L [] := .done (by omega)
    have h1 := hears _ h0
    rw [List.append_nil] at h1
    exact q e H2 evs es s2 hHe hE hA h1 (by omega)
def spRopes (K : PySem.W.Frag) : Sp := fun vs H Q _ => ∃ (r : Addr) (evs : List V) (es : List Ear), vs = [.ref r] ∧ SqL K H r evs ∧ All2 (Er H) evs es ∧ es.length ≤ 1000 ∧ PLNew H (sortP (es.map ropeOf)) Q
theorem ok_law_ropes (T : Tx K mg) : FnOk P w K mg base CX0 2 T.a_law_ropes T.fd_law_ropes ["_law_ears_here"] (spRopes K) := by
  refine T.F_law_ropes.ok sc_law_ropes (fun vs H Q E h => ?_) (fun cdv A outer s H vs Q E hr h => ?_)
  · obtain ⟨r, evs, es, rfl, _⟩ := h
    rfl
  obtain ⟨r, evs, es, rfl, hR, hA, hn, q⟩ := h
  refine ⟨_, (pss_one (ps_ret (pe_callB (cr_sortK (K := K)) (by rfl) T.m_sorted (by decide +kernel) (pa_cons (pe_lc (own := [("_law_ear", 1)]) (g := gName 1) (tt := tYes) rfl sc_law_ropes.nd (k_il (K := K) (pi_list (pv 0))) (blkOk_by (N := N_law_ropes) (sc := defScope s_law_ropes) (by decide +kernel)) (fun _ _ _ _ _ => (pg_name (i := 1) sc_law_ropes.nd rfl (.inl rfl))) (fun _ _ _ _ _ => pts_nil) (fun _ _ _ _ _ => (pe_call (ok_law_pair T) (hr.mono (by decide)) (by rfl) T.g_law_pair T.F_law_pair.kp T.b_law_pair .nil pass0 (pa_cons (pe_ix (ix_tupK (K := K)) (pv 1) (pe_int) (fun _ _ => rfl)) (pa_cons (pe_ix (ix_tupK (K := K)) (pv 1) (pe_int) (fun _ _ => rfl)) pa_nil))))) pa_nil)))), ?_⟩
  walk_at "st"
  refine Pm.w_rdL hR ?_
  refine Pm.w_lcLf (R := Pr) pr_mono (S := Er) er_mono hR hA ropeOf (fun _ => true) (by omega) (fun D x c H1 Nx hD hc hs s1 put skip => ?_) (fun D H1 ws hD s1 hd ha => ?_)
  · obtain ⟨t, rfl, ht⟩ := hs
    walk_at "st"
    refine Pm.w_ixT (SqT.of ht) (show atI [V.int c.1, V.int c.2.1, V.int c.2.2] 1 = some (V.int c.2.1) from rfl) ?_
    walk_at "st"
    refine Pm.w_ixT (SqT.of ht) (show atI [V.int c.1, V.int c.2.1, V.int c.2.2] 2 = some (V.int c.2.2) from rfl) ?_
    walk_at "st"
    exact ⟨_, _, rfl, fun u H2 s2 nu hu => put _ _ rfl s2 hu⟩
  · rw [List.filter_eq_self.mpr (fun _ _ => rfl)] at ha
    walk_at "st"
    refine Pm.w_sortP (SqL.of hd) ha (fun ys p hp hy => ?_)
    exact q p _ ys (s1.trans (same_new hp _)) (s1.free hp) upd_same (prs_keep (keeps (same_new hp _)) hy)
end
section
variable {P : Program} {w : World} {K : PySem.W.Frag} {mg : Str → Option Value} {base : Heap}
def spMany (K : PySem.W.Frag) : Sp := fun vs H Q _ => ∃ (r : Addr) (row : List Int), vs = [.ref r] ∧ SqL K H r (row.map V.int) ∧ 2 ≤ row.length ∧ ∀ n : Nat, 3 ≤ n → n ≤ 12 → Q (.int n) H
theorem ok_law_many (T : Tx K mg) : FnOk P w K mg base CX0 1 T.a_law_many T.fd_law_many ["_law_row"] (spMany K) := by
  refine T.F_law_many.ok sc_law_many (fun vs H Q E h => ?_) (fun cdv A outer s H vs Q E hr h => ?_)
  · obtain ⟨r, row, rfl, _⟩ := h
    rfl
  obtain ⟨r, row, rfl, hR, hn, q⟩ := h
  have q' : ∀ n : Int, 3 ≤ n → n ≤ 12 → Q (.int n) H := fun n h1 h2 => by
    have e : n = (n.toNat : Int) := by omega
    rw [e]
    exact q _ (by omega) (by omega)
  refine ⟨_, (pss_cons (ps_if (pt_cmpR op_eq (pe_op op_mod (pe_ix (ix_listK (K := K)) (pv 0) (pe_int) (fun _ _ => rfl)) (pe_int)) (pe_int) (nomark _)) (pss_one (ps_ret (pe_op op_add (pe_int) (pe_op op_mod (pe_ix (ix_listK (K := K)) (pv 0) (pe_int) (fun _ _ => rfl)) (pe_int))))) pss_nil)
      (pss_one (ps_ret (pe_op op_add (pe_int) (pe_op op_mod (pe_ix (ix_listK (K := K)) (pv 0) (pe_int) (fun _ _ => rfl)) (pe_int)))))), ?_⟩
  walk_at "st"
  refine Pm.w_ixL hR (atI_int (by omega) (by omega)) ?_
  walk_at "st"
  refine Pm.w_ite (fun e => ?_) (fun e => ?_)
  · walk_at "st"
    refine Pm.w_ixL hR (atI_int (by omega) (by omega)) ?_
    walk_at "st"
    exact q' _ (by omega) (by omega)
  · walk_at "st"
    refine Pm.w_ixL hR (atI_int (by omega) (by omega)) ?_
    walk_at "st"
    exact q' _ (by omega) (by omega)
end
section
variable {P : Program} {w : World} {K : PySem.W.Frag} {mg : Str → Option Value} {base : Heap}
def spSides : Sp := fun vs H Q _ => ∃ n : Nat, vs = [.int n] ∧ 1 ≤ n ∧ n ≤ 1000 ∧ PLNew H (sidesL n) Q
theorem ok_sides (T : Tx K mg) : FnOk P w K mg base CX0 1 T.a_sides T.fd_sides ["n"] spSides := by
  refine T.F_sides.ok sc_sides (fun vs H Q E h => ?_) (fun cdv A outer s H vs Q E hr h => ?_)
  · obtain ⟨n, rfl, _⟩ := h
    rfl
  obtain ⟨n, rfl, n1, n2, q⟩ := h
  refine ⟨_, (pss_one (ps_ret (pe_callB (cr_sortK (K := K)) (by rfl) T.m_sorted (by decide +kernel) (pa_cons (pe_op op_cat (pe_lc (own := [("k", 1)]) (g := gName 1) (tt := tYes) rfl sc_sides.nd (pi_range1 (by rfl) T.m_range (pa_cons (pe_op op_sub (pv 0) (pe_int)) pa_nil)) (blkOk_by (N := N_sides) (sc := defScope s_sides) (by decide +kernel)) (fun _ _ _ _ _ => (pg_name (i := 1) sc_sides.nd rfl (.inl rfl))) (fun _ _ _ _ _ => pts_nil) (fun _ _ _ _ _ => (pe_tup (pa_cons (pv 1) (pa_cons (pe_op op_add (pv 1) (pe_int)) pa_nil))))) (pe_lst (pa_cons (pe_tup (pa_cons (pe_int) (pa_cons (pe_op op_sub (pv 0) (pe_int)) pa_nil))) pa_nil))) pa_nil)))), ?_⟩
  walk_at "st"
  have en : ((n : Int) - 1).toNat = n - 1 := by omega
  rw [en]
  refine Pm.w_lcRm (R := Pr) pr_mono (fun k : Nat => ((k : Int), (k : Int) + 1)) (by omega) (fun D i H1 Nx hD hi s1 put => ?_) (fun D H1 ws hD s1 hd ha => ?_)
  · walk_at "st"
    refine Pm.w_newT (fun t ht => ?_)
    refine put _ _ (same_new ht _) ⟨t, rfl, ?_⟩
    rw [upd_same, Int.zero_add]
  · walk_at "st"
    refine Pm.w_newT (fun t ht => ?_)
    walk_at "st"
    refine Pm.w_newL (fun l hl => ?_)
    have nD : D ≠ l := ne_of_none (o := .lst ws) ((same_new ht _) _ _ hd) hl
    have hlen := ha.length
    rw [List.length_map, List.length_range] at hlen
    refine Pm.w_cat (by rw [upd_ne nD, upd_ne (ne_of_none hd ht)]; exact hd) upd_same (size_ok (by rw [hlen, List.length_singleton]; omega)) (fun p hp => ?_)
    have k1 : Keeps H1 (upd (upd (upd H1 t (.tup [.int 0, .int ((n : Int) - 1)])) l (.lst [.ref t])) p (.lst (ws ++ [.ref t]))) := keeps ((same_new ht _).trans ((same_new hl _).trans (same_new hp _)))
    refine Pm.w_sortP (ps := sides0 n) (SqL.of upd_same) ((prs_keep k1 ha).append ⟨⟨t, rfl, ?_⟩, trivial⟩) (fun ys p2 hp2 hy => ?_)
    · exact ((same_new hl _).trans (same_new hp _)) _ _ upd_same
    · have s2 := s1.trans ((same_new ht _).trans ((same_new hl _).trans (same_new hp (.lst (ws ++ [.ref t])))))
      exact q p2 _ ys (s2.trans (same_new hp2 _)) (s2.free hp2) upd_same (prs_keep (keeps (same_new hp2 _)) hy)
end
section
variable {P : Program} {w : World} {K : PySem.W.Frag} {mg : Str → Option Value} {base : Heap}
def spTies : Sp := fun vs H Q _ => ∃ (n : Nat) (c : Addr) (cut : List IP), vs = [.int n, .ref c] ∧ 1 ≤ n ∧ n ≤ 1000 ∧ PLt H c cut ∧ cut.length ≤ 1000 ∧ PLNew H (tiesL n cut) Q
theorem ok_ties (T : Tx K mg) : FnOk P w K mg base CX0 2 T.a_ties T.fd_ties ["n", "cut"] spTies := by
  refine T.F_ties.ok sc_ties (fun vs H Q E h => ?_) (fun cdv A outer s H vs Q E hr h => ?_)
  · obtain ⟨n, c, cut, rfl, _⟩ := h
    rfl
  obtain ⟨n, c, cut, rfl, n1, n2, ⟨cvs, hc, pc⟩, cl, q⟩ := h
  refine ⟨_, (pss_one (ps_ret (pe_callB (cr_sortK (K := K)) (by rfl) T.m_sorted (by decide +kernel) (pa_cons (pe_op op_cat (pe_call (ok_sides T) (hr.mono (by decide)) (by rfl) T.g_sides T.F_sides.kp T.b_sides .nil pass0 (pa_cons (pv 0) pa_nil)) (pv 1)) pa_nil)))), ?_⟩
  walk_at "st"
  refine ⟨n, rfl, n1, n2, fun p H1 ws s1 np hp ha => ?_⟩
  walk_at "st"
  have l1 := ha.length
  rw [sidesL, sortP_len, sides0_len n1] at l1
  have l2 := pc.length
  refine Pm.w_cat hp (s1 _ _ hc) (size_ok (by omega)) (fun l hl => ?_)
  have k1 := keeps (same_new hl (.lst (ws ++ cvs)))
  refine Pm.w_sortP (SqL.of upd_same) ((prs_keep k1 ha).append (prs_keep ((keeps s1).trans k1) pc)) (fun ys p2 hp2 hy => ?_)
  rw [tiesL_eq] at hy
  have s2 := s1.trans (same_new hl (.lst (ws ++ cvs)))
  exact q p2 _ ys (s2.trans (same_new hp2 _)) (s2.free hp2) upd_same (prs_keep (keeps (same_new hp2 _)) hy)
end
section
variable {P : Program} {w : World} {K : PySem.W.Frag} {mg : Str → Option Value} {base : Heap}
def spLSides : Sp := fun vs H Q _ => ∃ n : Nat, vs = [.int n] ∧ 1 ≤ n ∧ n ≤ 1000 ∧ PLNew H (sides0 n) Q
theorem ok_law_sides (T : Tx K mg) : FnOk P w K mg base CX0 1 T.a_law_sides T.fd_law_sides ["_law_n"] spLSides := by
  refine T.F_law_sides.ok sc_law_sides (fun vs H Q E h => ?_) (fun cdv A outer s H vs Q E hr h => ?_)
  · obtain ⟨n, rfl, _⟩ := h
    rfl
  obtain ⟨n, rfl, n1, n2, q⟩ := h
  refine ⟨_, (pss_one (ps_ret (pe_op op_cat (pe_lc (own := [("_law_k", 1)]) (g := gName 1) (tt := tYes) rfl sc_law_sides.nd (pi_range1 (by rfl) T.m_range (pa_cons (pe_op op_sub (pv 0) (pe_int)) pa_nil)) (blkOk_by (N := N_law_sides) (sc := defScope s_law_sides) (by decide +kernel)) (fun _ _ _ _ _ => (pg_name (i := 1) sc_law_sides.nd rfl (.inl rfl))) (fun _ _ _ _ _ => pts_nil) (fun _ _ _ _ _ => (pe_tup (pa_cons (pv 1) (pa_cons (pe_op op_add (pv 1) (pe_int)) pa_nil))))) (pe_lst (pa_cons (pe_tup (pa_cons (pe_int) (pa_cons (pe_op op_sub (pv 0) (pe_int)) pa_nil))) pa_nil))))), ?_⟩
  walk_at "st"
  have en : ((n : Int) - 1).toNat = n - 1 := by omega
  rw [en]
  refine Pm.w_lcRm (R := Pr) pr_mono (fun k : Nat => ((k : Int), (k : Int) + 1)) (by omega) (fun D i H1 Nx hD hi s1 put => ?_) (fun D H1 ws hD s1 hd ha => ?_)
  · walk_at "st"
    refine Pm.w_newT (fun t ht => ?_)
    refine put _ _ (same_new ht _) ⟨t, rfl, ?_⟩
    rw [upd_same, Int.zero_add]
  · walk_at "st"
    refine Pm.w_newT (fun t ht => ?_)
    walk_at "st"
    refine Pm.w_newL (fun l hl => ?_)
    have nD : D ≠ l := ne_of_none (o := .lst ws) ((same_new ht _) _ _ hd) hl
    have hlen := ha.length
    rw [List.length_map, List.length_range] at hlen
    refine Pm.w_cat (by rw [upd_ne nD, upd_ne (ne_of_none hd ht)]; exact hd) upd_same (size_ok (by rw [hlen, List.length_singleton]; omega)) (fun p hp => ?_)
    have k1 : Keeps H1 (upd (upd (upd H1 t (.tup [.int 0, .int ((n : Int) - 1)])) l (.lst [.ref t])) p (.lst (ws ++ [.ref t]))) := keeps ((same_new ht _).trans ((same_new hl _).trans (same_new hp _)))
    have s2 := s1.trans ((same_new ht _).trans ((same_new hl _).trans (same_new hp (.lst (ws ++ [.ref t])))))
    refine q p _ _ s2 (by have := (s1.trans ((same_new ht _).trans (same_new hl (.lst [.ref t])))).free hp; exact this) upd_same ((prs_keep k1 ha).append ⟨⟨t, rfl, ?_⟩, trivial⟩)
    exact ((same_new hl _).trans (same_new hp _)) _ _ upd_same
end
section
variable {P : Program} {w : World} {K : PySem.W.Frag} {mg : Str → Option Value} {base : Heap}
def spLTies : Sp := fun vs H Q _ => ∃ (n : Nat) (c : Addr) (cut : List IP), vs = [.int n, .ref c] ∧ 1 ≤ n ∧ n ≤ 1000 ∧ PLt H c cut ∧ cut.length ≤ 1000 ∧ PLNew H (tiesL n cut) Q
theorem ok_law_ties (T : Tx K mg) : FnOk P w K mg base CX0 2 T.a_law_ties T.fd_law_ties ["_law_n", "_law_cut"] spLTies := by
  refine T.F_law_ties.ok sc_law_ties (fun vs H Q E h => ?_) (fun cdv A outer s H vs Q E hr h => ?_)
  · obtain ⟨n, c, cut, rfl, _⟩ := h
    rfl
  obtain ⟨n, c, cut, rfl, n1, n2, ⟨cvs, hc, pc⟩, cl, q⟩ := h
  refine ⟨_, (pss_one (ps_ret (pe_callB (cr_sortK (K := K)) (by rfl) T.m_sorted (by decide +kernel) (pa_cons (pe_op op_cat (pe_call (ok_law_sides T) (hr.mono (by decide)) (by rfl) T.g_law_sides T.F_law_sides.kp T.b_law_sides .nil pass0 (pa_cons (pv 0) pa_nil)) (pv 1)) pa_nil)))), ?_⟩
  walk_at "st"
  refine ⟨n, rfl, n1, n2, fun p H1 ws s1 np hp ha => ?_⟩
  walk_at "st"
  have l1 := ha.length
  rw [sides0_len n1] at l1
  have l2 := pc.length
  refine Pm.w_cat hp (s1 _ _ hc) (size_ok (by omega)) (fun l hl => ?_)
  have k1 := keeps (same_new hl (.lst (ws ++ cvs)))
  refine Pm.w_sortP (SqL.of upd_same) ((prs_keep k1 ha).append (prs_keep ((keeps s1).trans k1) pc)) (fun ys p2 hp2 hy => ?_)
  have s2 := s1.trans (same_new hl (.lst (ws ++ cvs)))
  exact q p2 _ ys (s2.trans (same_new hp2 _)) (s2.free hp2) upd_same (prs_keep (keeps (same_new hp2 _)) hy)
end
section
variable {P : Program} {w : World} {K : PySem.W.Frag} {mg : Str → Option Value} {base : Heap}
def spTup (K : PySem.W.Frag) : Sp := fun vs H Q _ => ∃ (t : Addr) (ns : List Int), vs = [.ref t, .int ns.length] ∧ SqT K H t (ns.map V.int) ∧ Q (.bl true) H
theorem ok_law_tuple (T : Tx K mg) : FnOk P w K mg base CX0 2 T.a_law_tuple T.fd_law_tuple (["_law_found", "_law_many_here"]) (spTup K) := by
  refine T.F_law_tuple.ok sc_law_tuple (fun vs H Q E h => ?_) (fun cdv A outer s H vs Q E hr h => ?_)
  · obtain ⟨t, ns, rfl, _⟩ := h
    rfl
  obtain ⟨t, ns, rfl, ht, q⟩ := h
  refine ⟨_, (pss_cons (ps_if (PW.pt (pw_or (pt_not (pt_val (pe_callB (call_isK (K := K)) (by rfl) T.m_isinstance (by decide +kernel) (pa_cons (pv 0) (pa_cons (pe_bltn (v := .ty "tuple") (by rfl) T.m_tuple (by decide +kernel) rfl) pa_nil))))) (pw_or1 (pt_cmpR op_ne (pe_callB (c_len (K := K)) (by rfl) T.m_len PySem.boot_len (pa_cons (pv 0) pa_nil)) (pv 1) (nomark _))))) (pss_one (ps_ret (pe_bl))) pss_nil)
      (pss_cons (ps_for PassesOwn.never rfl (k_it (K := K) (pi_tup (pv 0))) (pg_name (i := 2) sc_law_tuple.nd rfl (.inl rfl)) (pss_one (ps_if (pt_not (pt_val (pe_call (ok_law_whole T) (hr.mono (by decide)) (by rfl) T.g_law_whole T.F_law_whole.kp T.b_law_whole .nil pass0 (pa_cons (pv 2) pa_nil)))) (pss_one (ps_ret (pe_bl))) pss_nil)))
      (pss_one (ps_ret (pe_bl))))), ?_⟩
  walk_at "st"
  refine Pm.w_isiTup ht (b := true) (by decide +kernel) ?_
  walk_at "st"
  refine Pm.w_lenT ht ?_
  walk_at "st"
  refine Pm.w_iteN (fun z => absurd (by rw [List.length_map]) z) (fun _ => ?_)
  walk_at "st"
  refine Pm.w_rdT ht ?_
  refine Pm.w_forT (xs := ns.map V.int) (fun i σ H' => ∃ x, σ = [some (.ref t), some (.int ns.length), x] ∧ H' = H) ⟨_, rfl, rfl⟩ (fun i σ H' _ ⟨x, _, e⟩ => by rw [e]; exact ht) ?_ ?_
  · rintro i x σ H' hx ⟨y, rfl, rfl⟩
    rw [List.getElem?_map] at hx
    cases ex : ns[i]? with
    | none => rw [ex] at hx; cases hx
    | some z =>
      rw [ex] at hx
      cases hx
      walk_at "st"
      refine ⟨z, rfl, ?_⟩
      walk_at "st"
      exact ⟨_, rfl, rfl⟩
  · rintro σ H' ⟨x, rfl, rfl⟩
    walk_at "st"
    exact q
def spList (K : PySem.W.Frag) : Sp := fun vs H Q _ => ∃ (a : Addr) (xs : List V) (m : Nat), vs = [.ref a, .int m] ∧ SqL K H a xs ∧ (∀ x ∈ xs, ∃ (t : Addr) (ns : List Int), x = .ref t ∧ SqT K H t (ns.map V.int) ∧ ns.length = m) ∧ Q (.bl true) H
theorem ok_law_list (T : Tx K mg) : FnOk P w K mg base CX0 3 T.a_law_list T.fd_law_list (["_law_found", "_law_many_here"]) (spList K) := by
  refine T.F_law_list.ok sc_law_list (fun vs H Q E h => ?_) (fun cdv A outer s H vs Q E hr h => ?_)
  · obtain ⟨a, xs, m, rfl, _⟩ := h
    rfl
  obtain ⟨a, xs, m, rfl, ha, hx, q⟩ := h
  refine ⟨_, (pss_cons (ps_if (pt_not (pt_val (pe_callB (call_isK (K := K)) (by rfl) T.m_isinstance (by decide +kernel) (pa_cons (pv 0) (pa_cons (pe_bltn (v := .ty "list") (by rfl) T.m_list (by decide +kernel) rfl) pa_nil))))) (pss_one (ps_ret (pe_bl))) pss_nil)
      (pss_cons (ps_for PassesOwn.never rfl (k_il (K := K) (pi_list (pv 0))) (pg_name (i := 2) sc_law_list.nd rfl (.inl rfl)) (pss_one (ps_if (pt_not (pt_val (pe_call (ok_law_tuple T) (hr.mono (by decide)) (by rfl) T.g_law_tuple T.F_law_tuple.kp T.b_law_tuple .nil pass0 (pa_cons (pv 2) (pa_cons (pv 1) pa_nil))))) (pss_one (ps_ret (pe_bl))) pss_nil)))
      (pss_one (ps_ret (pe_bl))))), ?_⟩
  walk_at "st"
  refine Pm.w_isiLst ha (b := true) (by decide +kernel) ?_
  walk_at "st"
  refine Pm.w_rdL ha ?_
  refine Pm.w_forL (xs := xs) (fun i σ H' => ∃ x, σ = [some (.ref a), some (.int m), x] ∧ H' = H) ⟨_, rfl, rfl⟩ (fun i σ H' _ ⟨x, _, e⟩ => by rw [e]; exact ha) ?_ ?_
  · rintro i x σ H' hi ⟨y, rfl, rfl⟩
    obtain ⟨t, ns, rfl, ht, rfl⟩ := hx x (List.mem_of_getElem? hi)
    walk_at "st"
    refine ⟨t, ns, rfl, ht, ?_⟩
    walk_at "st"
    exact ⟨_, rfl, rfl⟩
  · rintro σ H' ⟨x, rfl, rfl⟩
    walk_at "st"
    exact q
theorem list_of_prs {K : PySem.W.Frag} {H : Hp} {vs : List V} {ps : List IP} (h : Prs H vs ps) : ∀ x ∈ vs, ∃ (t : Addr) (ns : List Int), x = .ref t ∧ SqT K H t (ns.map V.int) ∧ ns.length = 2 := fun x hx => by
  obtain ⟨p, _, t, rfl, ht⟩ := h.mem hx
  exact ⟨t, [p.1, p.2], rfl, SqT.of ht, rfl⟩
end
/-- a pair as a key -/
def pk (p : IP) : List L2.Key := [Sum.inl p.1, Sum.inl p.2]
theorem pk_inj {p q : IP} (h : pk p = pk q) : p = q := by
  obtain ⟨a, b⟩ := p
  obtain ⟨c, d⟩ := q
  unfold pk at h
  injection h with h1 h2
  injection h2 with h2 _
  simp only at h1 h2
  rw [Sum.inl.inj h1, Sum.inl.inj h2]
theorem Pr.key {H : Hp} {t : Addr} {p : IP} (h : Pr H (.ref t) p) : H t = some (.tup ((pk p).map kV)) := by
  obtain ⟨u, e, hu⟩ := h
  cases e
  exact hu
section
variable {P : Program} {w : World} {K : PySem.W.Frag} {mg : Str → Option Value} {base : Heap}
def spPlots : Sp := fun vs H Q _ => ∃ (n : Nat) (c : Addr) (cut : List IP), vs = [.int n, .ref c] ∧ 1 ≤ n ∧ n ≤ 1000 ∧ PLt H c cut ∧ cut.length ≤ 1000 ∧ (∀ p ∈ tiesL n cut, -1000 ≤ p.2 ∧ p.2 ≤ 1000) ∧ (plots0 n (tiesL n cut) (tiesL n cut)).length ≤ 1000 ∧
  ∀ (p : Addr) (H' : Hp) (ws : List V), Same H H' → H p = none → H' p = some (.lst ws) → All2 (Er H') ws (plotsL n cut) → Q (.ref p) H'
theorem take_snoc {α : Type} {l : List α} {i : Nat} {x : α} (h : l[i]? = some x) : l.take (i + 1) = l.take i ++ [x] := by rw [List.take_add_one, h] <;> rfl
theorem above_more (n : Nat) (T : List IP) (p : IP) (i : Nat) : ((List.range (i + 1)).filter fun i : Nat => decide ((p.1, p.2 + 1 + (i : Int)) ∈ T) && decide ((p.2, p.2 + 1 + (i : Int)) ∈ T)) = ((List.range i).filter fun i : Nat => decide ((p.1, p.2 + 1 + (i : Int)) ∈ T) && decide ((p.2, p.2 + 1 + (i : Int)) ∈ T)) ++ (if (p.1, p.2 + 1 + (i : Int)) ∈ T ∧ (p.2, p.2 + 1 + (i : Int)) ∈ T then [i] else []) := by
  rw [List.range_succ, List.filter_append]
  congr 1
  by_cases h1 : (p.1, p.2 + 1 + (i : Int)) ∈ T <;> by_cases h2 : (p.2, p.2 + 1 + (i : Int)) ∈ T <;> simp [h1, h2]
theorem plots0_app (n : Nat) (T S R : List IP) : plots0 n T (S ++ R) = plots0 n T S ++ plots0 n T R := by unfold plots0; rw [List.flatMap_append]
theorem plots0_one (n : Nat) (T : List IP) (p : IP) : plots0 n T [p] = (above n T p).map fun i : Nat => (p.1, p.2, p.2 + 1 + (i : Int)) := by unfold plots0; rw [List.flatMap_singleton]
theorem plots0_le (n : Nat) (T S R : List IP) : (plots0 n T S).length ≤ (plots0 n T (S ++ R)).length := by rw [plots0_app, List.length_append]; omega
theorem ok_plots (T : Tx K mg) : FnOk P w K mg base CX0 3 T.a_plots T.fd_plots ["n", "cut"] spPlots := by
  refine T.F_plots.ok sc_plots (fun vs H Q E h => ?_) (fun cdv A outer s H vs Q E hr h => ?_)
  · obtain ⟨n, c, cut, rfl, _⟩ := h
    rfl
  obtain ⟨n, c, cut, rfl, n1, n2, hc, cl, hbd, hpl, q⟩ := h
  refine ⟨_, (pss_cons (ps_set (i := 2) sc_plots.nd rfl (.inl rfl) (pe_dnewT))
      (pss_cons (ps_for PassesOwn.never rfl (k_il (K := K) (pi_list (pe_call (ok_ties T) (hr.mono (by decide)) (by rfl) T.g_ties T.F_ties.kp T.b_ties .nil pass0 (pa_cons (pv 0) (pa_cons (pv 1) pa_nil))))) (pg_name (i := 3) sc_plots.nd rfl (.inl rfl)) (pss_one (ps_dput (hu_of hr) (pv 2) (pv 3) (pe_bl) rfl)))
      (pss_cons (ps_set (i := 4) sc_plots.nd rfl (.inl rfl) (pe_lst pa_nil))
      (pss_cons (ps_for PassesOwn.never rfl (k_il (K := K) (pi_list (pe_call (ok_ties T) (hr.mono (by decide)) (by rfl) T.g_ties T.F_ties.kp T.b_ties .nil pass0 (pa_cons (pv 0) (pa_cons (pv 1) pa_nil))))) (k_gt (K := K) (pg_tup (by rfl) (pgs_cons (pg_name (i := 5) sc_plots.nd rfl (.inl rfl)) (pgs_cons (pg_name (i := 6) sc_plots.nd rfl (.inl rfl)) pgs_nil)))) (pss_one (ps_for PassesOwn.never rfl (pi_range2 (by rfl) T.m_range (pa_cons (pe_op op_add (pv 6) (pe_int)) (pa_cons (pv 0) pa_nil))) (pg_name (i := 7) sc_plots.nd rfl (.inl rfl)) (pss_one (ps_if (PW.pt (pw_and (pt_cmp (pc_din (hu_of hr) (pe_tup (pa_cons (pv 5) (pa_cons (pv 7) pa_nil))) (pv 2))) (pw_and1 (pt_cmp (pc_din (hu_of hr) (pe_tup (pa_cons (pv 6) (pa_cons (pv 7) pa_nil))) (pv 2)))))) (pss_one (ps_expr (k_bm (K := K) (pe_bm PySem.F.plainAttrs_list PySem.F.slot_list_append PySem.F.type_list_append mt_append (pv 4) (pa_cons (pe_tup (pa_cons (pv 5) (pa_cons (pv 6) (pa_cons (pv 7) pa_nil)))) pa_nil))))) pss_nil)))))
      (pss_one (ps_ret (pe_callB (cr_sortN (K := K) hr.u40) (by rfl) T.m_sorted (by decide +kernel) (pa_cons (pv 4) pa_nil)))))))), ?_⟩
  walk_at "st"
  refine Pm.w_dnewT (fun d hd => ?_)
  walk_at "st"
  have s1 := same_new hd (.dT [])
  have tlen : (tiesL n cut).length ≤ 3000 := by rw [tiesL, sortP_len, List.length_append, sides0_len n1]; omega
  refine ⟨n, c, cut, rfl, n1, n2, hc.same s1, cl, fun l H1 tvs s2 nl hl ha => ?_⟩
  walk_at "st"
  refine Pm.w_rdL (SqL.of hl) ?_
  have hd1 : H1 d = some (.dT []) := s2 _ _ upd_same
  refine Pm.w_forL (xs := tvs) (fun i σ H2 => ∃ x kvs, σ = [some (.int n), some (.ref c), some (.ref d), x, none, none, none, none] ∧ Same H H2 ∧ H2 l = some (.lst tvs) ∧ Prs H2 tvs (tiesL n cut) ∧ H2 d = some (.dT kvs) ∧ kvs.length ≤ i ∧ ∀ p : IP, (valV kvs (pk p)).isSome = decide (p ∈ (tiesL n cut).take i)) ?_ (fun i σ H2 _ ⟨x, kvs, _, _, h2, _⟩ => SqL.of h2) ?_ ?_
  · exact ⟨_, [], rfl, s1.trans s2, hl, ha, hd1, Nat.le_refl _, fun p => by rw [List.take_zero]; rfl⟩
  · rintro i x σ H2 hx ⟨y, kvs, rfl, sm, hl2, ha2, hd2, hk, hv⟩
    obtain ⟨p, hp, t, rfl, ht⟩ := ha2.get hx
    have hi : i < (tiesL n cut).length := (List.getElem?_eq_some_iff.mp hp).1
    walk_at "st"
    refine Pm.w_dpT hd2 (Pr.key ⟨t, rfl, ht⟩) (size_lt (by omega)) ?_
    have kd := keeps_dT (ys := putK kvs (pk p) (.bl true)) hd2
    have nld : l ≠ d := fun z => by subst z; rw [hl2] at hd2; cases hd2
    refine ⟨_, _, rfl, same_but hd sm, by rw [upd_ne nld]; exact hl2, prs_keep kd ha2, upd_same, Nat.le_trans (putK_len _ _ _) (by omega), fun p' => ?_⟩
    rw [valV_put, take_snoc hp]
    by_cases e : pk p' = pk p
    · rw [if_pos e, pk_inj e]
      simp
    · rw [if_neg e, hv]
      have : p' ≠ p := fun z => e (by rw [z])
      simp [this]
  · rintro σ H2 ⟨y, kvs, rfl, sm, hl2, ha2, hd2, hk, hv⟩
    rw [ha2.length, List.take_length] at hv
    clear hk
    walk_at "st"
    refine Pm.w_newL (fun f hf => ?_)
    walk_at "st"
    have s3 := same_new hf (.lst [])
    have hHf : H f = none := sm.free hf
    have hHd : H d = none := hd
    refine ⟨n, c, cut, rfl, n1, n2, hc.same (sm.trans s3), cl, fun l' H3 tvs' s4 nl' hl' ha' => ?_⟩
    walk_at "st"
    refine Pm.w_rdL (SqL.of hl') ?_
    have nlf : l' ≠ f := fun z => by subst z; rw [upd_same] at nl'; cases nl'
    have ndf : d ≠ f := ne_of_none hd2 hf
    have hlen' := ha'.length
    refine Pm.w_forL (xs := tvs') (fun i σ H4 => ∃ x a b c', σ = [some (.int n), some (.ref c), some (.ref d), x, some (.ref f), a, b, c'] ∧ Same H H4 ∧ H4 l' = some (.lst tvs') ∧ Prs H4 tvs' (tiesL n cut) ∧ H4 d = some (.dT kvs) ∧ ∃ fvs, H4 f = some (.lst fvs) ∧ All2 (Er H4) fvs (plots0 n (tiesL n cut) ((tiesL n cut).take i))) ?_ (fun i σ H4 _ ⟨x, a, b, c', _, _, h2, _⟩ => SqL.of h2) ?_ ?_
    · exact ⟨_, _, _, _, rfl, sm.trans (s3.trans s4), hl', ha', s4 _ _ (s3 _ _ hd2), [], s4 _ _ upd_same, trivial⟩
    · rintro i x σ H4 hx ⟨y1, y2, y3, y4, rfl, sm4, hl4, ha4, hd4, fvs, hf4, hA4⟩
      obtain ⟨p, hp, t, rfl, ht⟩ := ha4.get hx
      have hpm : p ∈ tiesL n cut := List.mem_of_getElem? hp
      have pb := hbd p hpm
      walk_at "st"
      refine Pm.w_gtup (SqT.of ht) rfl ?_
      walk_at "st"
      refine Pm.w_forR (fun j σ H5 => ∃ z, σ = [some (.int n), some (.ref c), some (.ref d), y1, some (.ref f), some (.int p.1), some (.int p.2), z] ∧ Same H H5 ∧ H5 l' = some (.lst tvs') ∧ Prs H5 tvs' (tiesL n cut) ∧ H5 d = some (.dT kvs) ∧ ∃ fvs, H5 f = some (.lst fvs) ∧ All2 (Er H5) fvs (plots0 n (tiesL n cut) ((tiesL n cut).take i) ++
        ((List.range j).filter fun i : Nat => decide ((p.1, p.2 + 1 + (i : Int)) ∈ tiesL n cut) && decide ((p.2, p.2 + 1 + (i : Int)) ∈ tiesL n cut)).map fun i : Nat => (p.1, p.2, p.2 + 1 + (i : Int)))) ?_ ?_ ?_
      · exact ⟨_, rfl, sm4, hl4, ha4, hd4, fvs, hf4, by rw [List.range_zero, List.filter_nil, List.map_nil, List.append_nil]; exact hA4⟩
      · rintro j σ H5 hj ⟨z, rfl, sm5, hl5, ha5, hd5, fvs5, hf5, hA5⟩
        have fin : ∀ H6, Same H5 H6 → ¬ ((p.1, p.2 + 1 + (j : Int)) ∈ tiesL n cut ∧ (p.2, p.2 + 1 + (j : Int)) ∈ tiesL n cut) → ∃ z, ([some (.int n), some (.ref c), some (.ref d), y1, some (.ref f), some (.int p.1), some (.int p.2), some (.int (p.2 + 1 + (j : Int)))] : L2.St) = [some (.int n), some (.ref c), some (.ref d), y1, some (.ref f), some (.int p.1), some (.int p.2), z] ∧ Same H H6 ∧ H6 l' = some (.lst tvs') ∧ Prs H6 tvs' (tiesL n cut) ∧ H6 d = some (.dT kvs) ∧ ∃ fvs, H6 f = some (.lst fvs) ∧ All2 (Er H6) fvs (plots0 n (tiesL n cut) ((tiesL n cut).take i) ++
        ((List.range (j + 1)).filter fun i : Nat => decide ((p.1, p.2 + 1 + (i : Int)) ∈ tiesL n cut) && decide ((p.2, p.2 + 1 + (i : Int)) ∈ tiesL n cut)).map fun i : Nat => (p.1, p.2, p.2 + 1 + (i : Int))) := fun H6 s6 hno => by
          refine ⟨_, rfl, sm5.trans s6, s6 _ _ hl5, prs_keep (keeps s6) ha5, s6 _ _ hd5, fvs5, s6 _ _ hf5, ?_⟩
          rw [above_more n, if_neg hno, List.append_nil]
          exact hA5.mono fun _ _ r => er_mono _ _ _ _ (keeps s6) r
        walk_at "st"
        refine Pm.w_newT (fun u hu => ?_)
        walk_at "st"
        have s6 := same_new hu (.tup [.int p.1, .int (p.2 + 1 + (j : Int))])
        refine Pm.w_diT (k := pk (p.1, p.2 + 1 + (j : Int))) (s6 _ _ hd5) upd_same ?_
        rw [hv]
        walk_at "st"
        refine Pm.w_ite (fun e1 => ?_) (fun e1 => ?_)
        · walk_at "st"
          refine Pm.w_newT (fun u2 hu2 => ?_)
          walk_at "st"
          have s7 := same_new hu2 (.tup [.int p.2, .int (p.2 + 1 + (j : Int))])
          have s67 := s6.trans s7
          refine Pm.w_diT (k := pk (p.2, p.2 + 1 + (j : Int))) (s67 _ _ hd5) upd_same ?_
          rw [hv]
          walk_at "st"
          refine Pm.w_ite (fun e2 => ?_) (fun e2 => ?_)
          · walk_at "st"
            refine ⟨.inl ⟨rfl, _, SqL.of (s67 _ _ hf5)⟩, ?_⟩
            walk_at "st"
            refine Pm.w_newT (fun u3 hu3 => ?_)
            have s8 := same_new hu3 (.tup [.int p.1, .int p.2, .int (p.2 + 1 + (j : Int))])
            have s58 := s67.trans s8
            have lA := hA5.length
            have lz : fvs5.length < 16777216 := by
              rw [lA, List.length_append, List.length_map]
              have l1 := plots0_le n (tiesL n cut) ((tiesL n cut).take i) ((tiesL n cut).drop i)
              rw [List.take_append_drop] at l1
              have l2 := List.length_filter_le (fun i : Nat => decide ((p.1, p.2 + 1 + (i : Int)) ∈ tiesL n cut) && decide ((p.2, p.2 + 1 + (i : Int)) ∈ tiesL n cut)) (List.range j)
              rw [List.length_range] at l2
              omega
            walk_at "st"
            refine Pm.w_append (s58 _ _ hf5) (size_lt lz) ?_
            have k9 := (keeps s58).trans (keeps_lst (ys := fvs5 ++ [.ref u3]) (s58 _ _ hf5))
            have nuf : u3 ≠ f := fun z => by subst z; rw [s67 _ _ hf5] at hu3; cases hu3
            walk_at "st"
            refine ⟨_, rfl, same_but hHf (sm5.trans s58), by rw [upd_ne nlf]; exact s58 _ _ hl5, prs_keep k9 ha5, by rw [upd_ne ndf]; exact s58 _ _ hd5, _, upd_same, ?_⟩
            rw [above_more n, if_pos ⟨e1, e2⟩, List.map_append, ← List.append_assoc]
            refine (hA5.mono fun _ _ r => er_mono _ _ _ _ k9 r).snoc ⟨u3, rfl, ?_⟩
            rw [upd_ne nuf, upd_same]
          · walk_at "st"
            exact fin _ s67 (fun z => e2 z.2)
        · walk_at "st"
          exact fin _ s6 (fun z => e1 z.1)
      · rintro σ H5 ⟨z, rfl, sm5, hl5, ha5, hd5, fvs5, hf5, hA5⟩
        refine ⟨_, _, _, _, rfl, sm5, hl5, ha5, hd5, fvs5, hf5, ?_⟩
        rw [take_snoc hp, plots0_app, plots0_one]
        exact hA5
    · rintro σ H4 ⟨y1, y2, y3, y4, rfl, sm4, hl4, ha4, hd4, fvs, hf4, hA4⟩
      rw [hlen', List.take_length] at hA4
      walk_at "st"
      refine Pm.w_sort3 (SqL.of hf4) hA4 (fun ys p hp hy => ?_)
      exact q p _ ys (sm4.trans (same_new hp _)) (sm4.free hp) upd_same (hy.mono fun _ _ r => er_mono _ _ _ _ (keeps (same_new hp _)) r)
end
section
variable {P : Program} {w : World} {K : PySem.W.Frag} {mg : Str → Option Value} {base : Heap}
def spHolds : Sp := fun vs H Q _ => ∃ (t u : Addr) (q : I3) (p : IP), vs = [.ref t, .ref u] ∧ Er H (.ref t) q ∧ Pr H (.ref u) p ∧ Q (.bl (holds3 q p)) H
theorem mem3 {a b c d : Int} : d ∈ [a, b, c] ↔ (d = a ∨ d = b ∨ d = c) := by simp
theorem ok_law_holds (T : Tx K mg) : FnOk P w K mg base CX0 1 T.a_law_holds T.fd_law_holds ["_law_plot", "_law_tie"] spHolds := by
  refine T.F_law_holds.ok sc_law_holds (fun vs H Q E h => ?_) (fun cdv A outer s H vs Q E hr h => ?_)
  · obtain ⟨t, u, q, p, rfl, _⟩ := h
    rfl
  obtain ⟨t, u, r, p, rfl, ⟨t', et, ht⟩, hu, q⟩ := h
  cases et
  refine ⟨_, (pss_one (ps_ret ((pe_and (pe_cmpR (op_in_seqK (K := K)) (pe_ix (ix_tupK (K := K)) (pv 1) (pe_int) (fun _ _ => rfl)) (pv 0) (by rfl)) (pe_one (pe_cmpR (op_in_seqK (K := K)) (pe_ix (ix_tupK (K := K)) (pv 1) (pe_int) (fun _ _ => rfl)) (pv 0) (by rfl))))))), ?_⟩
  have hT : SqT K H t (([r.1, r.2.1, r.2.2] : List Int).map V.int) := SqT.of ht
  walk_at "st"
  refine Pm.w_ixT hu.tup (atI2 _ _).1 ?_
  walk_at "st"
  refine Pm.w_inInts (.inr hT) ?_
  walk_at "st"
  refine Pm.w_ite (fun e => ?_) (fun e => ?_)
  · walk_at "st"
    refine Pm.w_ixT hu.tup (atI2 _ _).2 ?_
    walk_at "st"
    refine Pm.w_inInts (.inr hT) ?_
    walk_at "st"
    have ev : holds3 r p = decide (p.2 ∈ [r.1, r.2.1, r.2.2]) := by
      unfold holds3
      rw [decide_eq_true (mem3.mp e), Bool.true_and]
      exact decide_eq_decide.mpr mem3.symm
    rw [ev] at q
    exact q
  · have ev : holds3 r p = false := by
      unfold holds3
      rw [decide_eq_false (fun z => e (mem3.mpr z)), Bool.false_and]
    rw [ev] at q
    exact q
theorem list_of_ers {K : PySem.W.Frag} {H : Hp} {vs : List V} {ps : List I3} (h : All2 (Er H) vs ps) : ∀ x ∈ vs, ∃ (t : Addr) (ns : List Int), x = .ref t ∧ SqT K H t (ns.map V.int) ∧ ns.length = 3 := fun x hx => by
  obtain ⟨p, _, t, rfl, ht⟩ := h.mem hx
  exact ⟨t, [p.1, p.2.1, p.2.2], rfl, SqT.of ht, rfl⟩
theorem strict3 {ps : List I3} (h : Rising3 ps) (nd : ps.Nodup) {i j : Nat} {p q : I3} (hij : i < j) (hi : ps[i]? = some p) (hj : ps[j]? = some q) : ND.ltB (nd3 p) (nd3 q) = true := by
  obtain ⟨hi1, rfl⟩ := List.getElem?_eq_some_iff.mp hi
  obtain ⟨hj1, rfl⟩ := List.getElem?_eq_some_iff.mp hj
  have h1 := List.pairwise_iff_getElem.mp h i j hi1 hj1 hij
  have h2 := List.pairwise_iff_getElem.mp nd i j hi1 hj1 hij
  cases e : ND.ltB (nd3 ps[i]) (nd3 ps[j]) with
  | true => rfl
  | false =>
    have l2 : ND.leB (nd3 ps[j]) (nd3 ps[i]) = true := by unfold ND.leB; rw [e]; rfl
    rw [← leB_nd3] at h1
    exact absurd (nd3_inj (ND.leB_anti h1 l2)) h2
def spLaw (K : PySem.W.Frag) : Sp := fun vs H Q _ => ∃ (a : Addr) (ns : List Int), vs = [.ref a] ∧ SqL K H a (ns.map V.int) ∧ ns.length ≤ 63 ∧ ∀ H', Q (.bl true) H'
theorem ok_law (T : Tx K mg) : FnOk P w K mg base CX0 5 T.a_law T.fd_law ["_law_script"] (spLaw K) := by
  refine T.F_law.ok sc_law (fun vs H Q E h => ?_) (fun cdv A outer s H vs Q E hr h => ?_)
  · obtain ⟨a, ns, rfl, _⟩ := h
    rfl
  obtain ⟨sc, ns, rfl, hS, hl, q⟩ := h
  refine ⟨_, (pss_cons (ps_set (i := 1) sc_law.nd rfl (.inl rfl) (pe_call (ok_law_flow T) (hr.mono (by decide)) (by rfl) T.g_law_flow T.F_law_flow.kp T.b_law_flow .nil pass0 (pa_cons (pv 0) (pa_cons (pe_int) pa_nil))))
      (pss_cons (ps_set (i := 2) sc_law.nd rfl (.inl rfl) (pe_call (ok_law_many T) (hr.mono (by decide)) (by rfl) T.g_law_many T.F_law_many.kp T.b_law_many .nil pass0 (pa_cons (pv 1) pa_nil)))
      (pss_cons (ps_set (i := 3) sc_law.nd rfl (.inl rfl) (pe_call (ok_law_ropes T) (hr.mono (by decide)) (by rfl) T.g_law_ropes T.F_law_ropes.kp T.b_law_ropes .nil pass0 (pa_cons (pe_call (ok_law_ears T) (hr.mono (by decide)) (by rfl) T.g_law_ears T.F_law_ears.kp T.b_law_ears .nil pass0 (pa_cons (pv 2) (pa_cons (pe_slice (sl_listK (K := K)) (pv 1) (po_some (pe_int)) po_none) pa_nil))) pa_nil)))
      (pss_cons (ps_set (i := 4) sc_law.nd rfl (.inl rfl) (pe_callTy (c_listOf (K := K)) (by rfl) T.m_list (by decide +kernel) (pa_cons (pv 3) pa_nil)))
      (pss_cons (ps_set (i := 5) sc_law.nd rfl (.inl rfl) (pe_call (ok_law_ties T) (hr.mono (by decide)) (by rfl) T.g_law_ties T.F_law_ties.kp T.b_law_ties .nil pass0 (pa_cons (pv 2) (pa_cons (pv 3) pa_nil))))
      (pss_cons (ps_set (i := 6) sc_law.nd rfl (.inl rfl) (pe_call (ok_ties T) (hr.mono (by decide)) (by rfl) T.g_ties T.F_ties.kp T.b_ties .nil pass0 (pa_cons (pv 2) (pa_cons (pv 4) pa_nil))))
      (pss_cons (ps_if (PW.pt (pw_or (pt_not (pt_val (pe_call (ok_law_list T) (hr.mono (by decide)) (by rfl) T.g_law_list T.F_law_list.kp T.b_law_list .nil pass0 (pa_cons (pv 6) (pa_cons (pe_int) pa_nil))))) (pw_or (pt_cmpR (op_neDK (K := K) hr.units) (pv 6) (pv 5) (nomark _)) (pw_or1 (pt_cmpR (op_neDK (K := K) hr.units) (pv 4) (pv 3) (nomark _)))))) (pss_one (ps_ret (pe_bl))) pss_nil)
      (pss_cons (ps_set (i := 7) sc_law.nd rfl (.inl rfl) (pe_call (ok_plots T) (hr.mono (by decide)) (by rfl) T.g_plots T.F_plots.kp T.b_plots .nil pass0 (pa_cons (pv 2) (pa_cons (pv 4) pa_nil))))
      (pss_cons (ps_if (PW.pt (pw_or (pt_not (pt_val (pe_call (ok_law_list T) (hr.mono (by decide)) (by rfl) T.g_law_list T.F_law_list.kp T.b_law_list .nil pass0 (pa_cons (pv 7) (pa_cons (pe_int) pa_nil))))) (pw_or (pt_cmpR op_ne (pe_callB (c_len (K := K)) (by rfl) T.m_len PySem.boot_len (pa_cons (pv 7) pa_nil)) (pe_op op_sub (pv 2) (pe_int)) (nomark _)) (pw_or1 (pt_cmpR (op_neDK (K := K) hr.units) (pv 4) (pv 3) (nomark _)))))) (pss_one (ps_ret (pe_bl))) pss_nil)
      (pss_cons (ps_for PassesOwn.never rfl (pi_range1 (by rfl) T.m_range (pa_cons (pe_callB (c_len (K := K)) (by rfl) T.m_len PySem.boot_len (pa_cons (pv 7) pa_nil)) pa_nil)) (pg_name (i := 8) sc_law.nd rfl (.inl rfl)) (pss_cons (ps_asg (pe_ix (ix_listK (K := K)) (pv 7) (pv 8) (fun _ _ => rfl)) (k_gt (K := K) (pg_tup (by rfl) (pgs_cons (pg_name (i := 9) sc_law.nd rfl (.inl rfl)) (pgs_cons (pg_name (i := 10) sc_law.nd rfl (.inl rfl)) (pgs_cons (pg_name (i := 11) sc_law.nd rfl (.inl rfl)) pgs_nil))))))
      (pss_cons (ps_if (PW.pt (pw_or (pt_not (pt_chain op_lt op_lt (pv 9) (pv 10) (pv 11))) (pw_or (pt_cmpR (op_notInDK (K := K) hr.u65) (pe_tup (pa_cons (pv 9) (pa_cons (pv 10) pa_nil))) (pv 5) (by rfl)) (pw_or (pt_cmpR (op_notInDK (K := K) hr.u65) (pe_tup (pa_cons (pv 10) (pa_cons (pv 11) pa_nil))) (pv 5) (by rfl)) (pw_or1 (pt_cmpR (op_notInDK (K := K) hr.u65) (pe_tup (pa_cons (pv 9) (pa_cons (pv 11) pa_nil))) (pv 5) (by rfl))))))) (pss_one (ps_ret (pe_bl))) pss_nil)
      (pss_one (ps_if (PW.pt (pw_and (pt_cmpR op_gt (pv 8) (pe_int) (nomark _)) (pw_and1 (pt_cmpR (op_geN (K := K) hr.u40) (pe_ix (ix_listK (K := K)) (pv 7) (pe_op op_sub (pv 8) (pe_int)) (fun _ _ => rfl)) (pe_ix (ix_listK (K := K)) (pv 7) (pv 8) (fun _ _ => rfl)) (nomark _))))) (pss_one (ps_ret (pe_bl))) pss_nil)))))
      (pss_cons (ps_expr (k_bm (K := K) (pe_bm PySem.F.plainAttrs_list PySem.F.slot_list_append PySem.F.type_list_append mt_append (pv 6) (pa_cons (pe_tup (pa_cons (pe_int) (pa_cons (pe_int) pa_nil))) pa_nil))))
      (pss_cons (ps_expr (k_bm (K := K) (pe_bm PySem.F.plainAttrs_list PySem.F.slot_list_append PySem.F.type_list_append mt_append (pv 7) (pa_cons (pe_tup (pa_cons (pe_int) (pa_cons (pe_int) (pa_cons (pe_int) pa_nil)))) pa_nil))))
      (pss_cons (ps_if (PW.pt (pw_or (pt_cmpR (op_neDK (K := K) hr.units) (pv 4) (pv 3) (nomark _)) (pw_or (pt_cmpR (op_neDK (K := K) hr.units) (pe_call (ok_ties T) (hr.mono (by decide)) (by rfl) T.g_ties T.F_ties.kp T.b_ties .nil pass0 (pa_cons (pv 2) (pa_cons (pv 4) pa_nil))) (pv 5) (nomark _)) (pw_or1 (pt_cmpR op_ne (pe_callB (c_len (K := K)) (by rfl) T.m_len PySem.boot_len (pa_cons (pe_call (ok_plots T) (hr.mono (by decide)) (by rfl) T.g_plots T.F_plots.kp T.b_plots .nil pass0 (pa_cons (pv 2) (pa_cons (pv 4) pa_nil))) pa_nil)) (pe_op op_sub (pv 2) (pe_int)) (nomark _)))))) (pss_one (ps_ret (pe_bl))) pss_nil)
      (pss_cons (ps_expr (k_bm0 (K := K) (pe_bm0 PySem.F.plainAttrs_list PySem.F.slot_list_pop PySem.F.type_list_pop mt_pop (pv 7))))
      (pss_cons (ps_for PassesOwn.never rfl (k_il (K := K) (pi_list (pv 5))) (pg_name (i := 12) sc_law.nd rfl (.inr rfl)) (pss_cons (ps_set (i := 13) sc_law.nd rfl (.inl rfl) (pe_callB (c_len (K := K)) (by rfl) T.m_len PySem.boot_len (pa_cons (pe_lc (own := [("_law_plot", 14)]) (g := gName 14) rfl sc_law.nd (k_il (K := K) (pi_list (pv 7))) (blkOk_by (N := N_law) (sc := defScope s_law) (by decide +kernel)) (fun _ _ _ _ _ => (pg_name (i := 14) sc_law.nd rfl (.inl rfl))) (fun _ _ _ _ _ => (pts_one (pt_val (pe_call (ok_law_holds T) (hr.mono (by decide)) (by rfl) T.g_law_holds T.F_law_holds.kp T.b_law_holds .nil pass0 (pa_cons (pv 14) (pa_cons (pv 12) pa_nil)))))) (fun _ _ _ _ _ => (pv 14))) pa_nil)))
      (pss_one (ps_if (pt_cmpR op_ne (pv 13) (pe_op op_add (pe_int) (pe_callTy c_int1 (by rfl) T.m_int (by decide +kernel) (pa_cons (pe_cmpR (op_inDK (K := K) hr.u65) (pv 12) (pv 3) (by rfl)) pa_nil))) (nomark _)) (pss_one (ps_ret (pe_bl))) pss_nil))))
      (pss_one (ps_ret (pe_bl)))))))))))))))))), ?_⟩
  walk_at "st"
  refine ⟨sc, ns, 14, rfl, hS, by decide, fun row H1 r hrow hb s1 nr hr1 => ?_⟩
  have hR : SqL K H1 r (row.map V.int) := SqL.of hr1
  walk_at "st"
  refine ⟨r, row, rfl, hR, by omega, fun n n3 n12 => ?_⟩
  walk_at "st"
  refine Pm.w_slL hR (fun p1 hp1 => ?_)
  rw [cut_drop (by decide) (by rw [List.length_map, hrow]; decide), ← List.map_drop]
  walk_at "st"
  refine ⟨n, p1, row.drop (3 : Int).toNat, rfl, SqL.of upd_same, n3, n12, by rw [List.length_drop, hrow]; show n ≤ 14 - 3 + 3; omega, fun e H2 evs es s2 ne he hA hears hes => ?_⟩
  walk_at "st"
  refine ⟨e, evs, es, rfl, SqL.of he, hA, by omega, fun c H3 cvs s3 nc hc hpc => ?_⟩
  obtain ⟨t, C⟩ := drawn_cutting hears n3
  generalize hcut : sortP (es.map ropeOf) = cut at C hpc
  have lcut : cut.length + 3 = n := by rw [← hcut, sortP_len, List.length_map]; exact hes
  have hw := C.w
  walk_at "st"
  refine Pm.w_listOf (SqL.of hc) (fun hd hhd => ?_)
  have s4 := same_new hhd (.lst cvs)
  have hc4 : PLt (upd H3 hd (.lst cvs)) c cut := PLt.same ⟨cvs, hc, hpc⟩ s4
  have hh4 : PLt (upd H3 hd (.lst cvs)) hd cut := ⟨cvs, upd_same, prs_keep (keeps s4) hpc⟩
  walk_at "st"
  refine ⟨n, c, cut, rfl, by omega, by omega, hc4, by omega, fun l H5 lvs s5 nl hl5 hpl5 => ?_⟩
  have hc5 := hc4.same s5
  have hh5 := hh4.same s5
  walk_at "st"
  refine ⟨n, hd, cut, rfl, by omega, by omega, hh5, by omega, fun f H6 fvs s6 nf hf6 hpf6 => ?_⟩
  obtain ⟨cv6, hc6, hpc6⟩ := hc5.same s6
  obtain ⟨hv6, hh6, hph6⟩ := hh5.same s6
  have hl6 := s6 _ _ hl5
  have hpl6 := prs_keep (keeps s6) hpl5
  walk_at "st"
  refine ⟨f, fvs, 2, rfl, SqL.of hf6, list_of_prs hpf6, ?_⟩
  walk_at "st"
  refine Pm.w_nePL (SqL.of hf6) hpf6 (SqL.of hl6) hpl6 ?_
  rw [decide_eq_true rfl]
  walk_at "st"
  refine Pm.w_nePL (SqL.of hh6) hph6 (SqL.of hc6) hpc6 ?_
  rw [decide_eq_true rfl]
  walk_at "st"
  have tbd : ∀ p ∈ tiesL n cut, -1000 ≤ p.2 ∧ p.2 ≤ 1000 := fun p hp => by
    obtain ⟨⟨x, y⟩, hq, rfl⟩ := C.ties.mp hp
    have := Tr.bd hq
    simp only [castP] at this ⊢
    omega
  have plen := C.plots_len
  have p0len : (plots0 n (tiesL n cut) (tiesL n cut)).length ≤ 1000 := by
    have := (sort3_perm (plots0 n (tiesL n cut) (tiesL n cut))).length_eq
    unfold plotsL at plen
    omega
  refine ⟨n, hd, cut, rfl, by omega, by omega, ⟨hv6, hh6, hph6⟩, by omega, tbd, p0len, fun g H7 gvs s7 ng hg7 hpg7 => ?_⟩
  have hc7 := s7 _ _ hc6
  have hpc7 := prs_keep (keeps s7) hpc6
  have hh7 := s7 _ _ hh6
  have hph7 := prs_keep (keeps s7) hph6
  have hl7 := s7 _ _ hl6
  have hpl7 := prs_keep (keeps s7) hpl6
  have hf7 := s7 _ _ hf6
  have hpf7 := prs_keep (keeps s7) hpf6
  have glen := hpg7.length
  walk_at "st"
  refine ⟨g, gvs, 3, rfl, SqL.of hg7, list_of_ers hpg7, ?_⟩
  walk_at "st"
  refine Pm.w_lenL (SqL.of hg7) ?_
  walk_at "st"
  refine Pm.w_iteN (fun z => absurd (by omega) z) (fun _ => ?_)
  walk_at "st"
  refine Pm.w_nePL (SqL.of hh7) hph7 (SqL.of hc7) hpc7 ?_
  rw [decide_eq_true rfl]
  walk_at "st"
  refine Pm.w_lenL (SqL.of hg7) ?_
  walk_at "st"
  rw [Int.toNat_natCast]
  refine Pm.w_forR (fun i σ H8 => ∃ x y z u, σ = [some (.ref sc), some (.ref r), some (.int n), some (.ref c), some (.ref hd), some (.ref l), some (.ref f), some (.ref g), x, y, z, u, none, none, none] ∧ Same H7 H8) ⟨_, _, _, _, rfl, Same.refl _⟩ ?_ ?_
  · rintro i σ H8 hi ⟨x, y, z, u, rfl, s8⟩
    obtain ⟨qi, hqi, ti, eti, hti⟩ := hpg7.get (List.getElem?_eq_getElem hi)
    obtain ⟨⟨pa, pb, pc⟩, hpp, eqi⟩ := C.mem_plots.mp (List.mem_of_getElem? hqi)
    have bp := Tr.plots_bd hpp
    obtain ⟨_, k1, k2, k3⟩ := Tr.plots_iff.mp hpp
    simp only at bp
    have hg8 := s8 _ _ hg7
    have hl8 := s8 _ _ hl7
    have hpl8 := prs_keep (keeps s8) hpl7
    subst eqi
    walk_at "st"
    refine Pm.w_ixL (v := .ref ti) (SqL.of hg8) (by rw [Int.zero_add]; exact atI_nat (by rw [List.getElem?_eq_getElem hi, eti])) ?_
    walk_at "st"
    refine Pm.w_gtup (SqT.of (s8 _ _ hti)) rfl ?_
    walk_at "st"
    simp only [cast3]
    refine Pm.w_ite (fun _ => ?_) (fun z => absurd (by omega) z)
    walk_at "st"
    rw [decide_eq_true (show ((pb : Nat) : Int) < (pc : Int) by omega)]
    walk_at "st"
    refine Pm.w_newT (fun u1 hu1 => ?_)
    walk_at "st"
    have s9 := same_new hu1 (.tup [.int (pa : Int), .int (pb : Int)])
    refine Pm.w_ninPL (pr_new upd_same) (SqL.of (s9 _ _ hl8)) (prs_keep (keeps s9) hpl8) ?_
    rw [decide_eq_true (show ((pa : Int), (pb : Int)) ∈ tiesL n cut from C.tied.mpr k1)]
    walk_at "st"
    refine Pm.w_newT (fun u2 hu2 => ?_)
    walk_at "st"
    have s10 := s9.trans (same_new hu2 (.tup [.int (pb : Int), .int (pc : Int)]))
    refine Pm.w_ninPL (pr_new upd_same) (SqL.of (s10 _ _ hl8)) (prs_keep (keeps s10) hpl8) ?_
    rw [decide_eq_true (show ((pb : Int), (pc : Int)) ∈ tiesL n cut from C.tied.mpr k2)]
    walk_at "st"
    refine Pm.w_newT (fun u3 hu3 => ?_)
    walk_at "st"
    have s11 := s10.trans (same_new hu3 (.tup [.int (pa : Int), .int (pc : Int)]))
    refine Pm.w_ninPL (pr_new upd_same) (SqL.of (s11 _ _ hl8)) (prs_keep (keeps s11) hpl8) ?_
    rw [decide_eq_true (show ((pa : Int), (pc : Int)) ∈ tiesL n cut from C.tied.mpr k3)]
    walk_at "st"
    refine Pm.w_ite (fun e0 => ?_) (fun e0 => ?_)
    · have i1 : i - 1 < gvs.length := by omega
      obtain ⟨qj, hqj, tj, etj, htj⟩ := hpg7.get (List.getElem?_eq_getElem i1)
      have s81 := s8.trans s11
      walk_at "st"
      refine Pm.w_ixL (SqL.of (s81 _ _ hg7)) (by rw [show (0 : Int) + (i : Int) - 1 = ((i - 1 : Nat) : Int) by omega]; exact atI_nat (by rw [List.getElem?_eq_getElem i1, etj])) ?_
      walk_at "st"
      refine Pm.w_ixL (v := .ref ti) (SqL.of (s81 _ _ hg7)) (by rw [Int.zero_add]; exact atI_nat (by rw [List.getElem?_eq_getElem hi, eti])) ?_
      refine ⟨nd3 qj, nd3 (cast3 (pa, pb, pc)), dp_er ⟨tj, rfl, s81 _ _ htj⟩, dp_er ⟨ti, rfl, s81 _ _ hti⟩, by simp [nd3, ND.hom, ND.homL], by simp [nd3, ND.dep, ND.py, ND.pyL, PyData.depth, PyData.depthAll], ?_⟩
      rw [strict3 (sort3_rising _) C.plots_nodup (by omega) hqj hqi]
      walk_at "st"
      exact ⟨_, _, _, _, rfl, s81⟩
    · walk_at "st"
      exact ⟨_, _, _, _, rfl, s8.trans s11⟩
  · rintro σ H8 ⟨x, y, z, u, rfl, s8⟩
    have hpg8 := hpg7.mono fun _ _ r => er_mono _ _ _ _ (keeps s8) r
    have nfl : l ≠ f := fun z => by subst z; rw [hl5] at nf; cases nf
    have nfc : c ≠ f := fun z => by
      subst z
      obtain ⟨_, h1, _⟩ := hc5
      rw [h1] at nf; cases nf
    have nfh : hd ≠ f := fun z => by
      subst z
      obtain ⟨_, h1, _⟩ := hh5
      rw [h1] at nf; cases nf
    have ngl : l ≠ g := fun z => by subst z; rw [hl6] at ng; cases ng
    have ngc : c ≠ g := fun z => by subst z; rw [hc6] at ng; cases ng
    have ngh : hd ≠ g := fun z => by subst z; rw [hh6] at ng; cases ng
    have ngf : f ≠ g := fun z => by subst z; rw [hf6] at ng; cases ng
    walk_at "st"
    refine ⟨.inl ⟨rfl, _, SqL.of (s8 _ _ hf7)⟩, ?_⟩
    walk_at "st"
    refine Pm.w_newT (fun u1 hu1 => ?_)
    have s9 := s8.trans (same_new hu1 (.tup [.int 0, .int 99]))
    have flen : fvs.length < 16777216 := by
      rw [hpf6.length, tiesL, sortP_len, List.length_append, sides0_len (by omega)]
      omega
    walk_at "st"
    refine Pm.w_append (s9 _ _ hf7) (size_lt flen) ?_
    have k10 := (keeps s9).trans (keeps_lst (ys := fvs ++ [.ref u1]) (s9 _ _ hf7))
    generalize hH10 : upd (upd H8 u1 (.tup [.int 0, .int 99])) f (.lst (fvs ++ [.ref u1])) = H10 at k10
    have a10 : ∀ {p : Addr} {o : HO}, p ≠ f → H7 p = some o → H10 p = some o := fun hp ho => by rw [← hH10, upd_ne hp]; exact s9 _ _ ho
    walk_at "st"
    refine ⟨.inl ⟨rfl, _, SqL.of (a10 ngf.symm hg7)⟩, ?_⟩
    walk_at "st"
    refine Pm.w_newT (fun u2 hu2 => ?_)
    have s11 := same_new hu2 (.tup [.int 0, .int 1, .int 99])
    walk_at "st"
    refine Pm.w_append (s11 _ _ (a10 ngf.symm hg7)) (size_lt (by omega)) ?_
    have k12 := k10.trans ((keeps s11).trans (keeps_lst (ys := gvs ++ [.ref u2]) (s11 _ _ (a10 ngf.symm hg7))))
    generalize hH12 : upd (upd H10 u2 (.tup [.int 0, .int 1, .int 99])) g (.lst (gvs ++ [.ref u2])) = H12 at k12
    have a12 : ∀ {p : Addr} {o : HO}, p ≠ f → p ≠ g → H7 p = some o → H12 p = some o := fun hp hq ho => by rw [← hH12, upd_ne hq]; exact s11 _ _ (a10 hp ho)
    have g12 : H12 g = some (.lst (gvs ++ [.ref u2])) := by rw [← hH12]; exact upd_same
    have hc12 : PLt H12 c cut := ⟨cv6, a12 nfc ngc hc7, prs_keep k12 hpc7⟩
    have hh12 : PLt H12 hd cut := ⟨hv6, a12 nfh ngh hh7, prs_keep k12 hph7⟩
    have hl12 : PLt H12 l (tiesL n cut) := ⟨lvs, a12 nfl ngl hl7, prs_keep k12 hpl7⟩
    have hg12 := hpg7.mono fun _ _ r => er_mono _ _ _ _ k12 r
    walk_at "st"
    refine Pm.w_nePL (SqL.of (a12 nfh ngh hh7)) (prs_keep k12 hph7) (SqL.of (a12 nfc ngc hc7)) (prs_keep k12 hpc7) ?_
    rw [decide_eq_true rfl]
    walk_at "st"
    refine ⟨n, hd, cut, rfl, by omega, by omega, hh12, by omega, fun f2 H13 f2vs s13 nf2 hf13 hpf13 => ?_⟩
    obtain ⟨lv13, hl13, hpl13⟩ := hl12.same s13
    walk_at "st"
    refine Pm.w_nePL (SqL.of hf13) hpf13 (SqL.of hl13) hpl13 ?_
    rw [decide_eq_true rfl]
    walk_at "st"
    refine ⟨n, hd, cut, rfl, by omega, by omega, hh12.same s13, by omega, tbd, p0len, fun g2 H14 g2vs s14 ng2 hg14 hpg14 => ?_⟩
    walk_at "st"
    refine Pm.w_lenL (SqL.of hg14) ?_
    walk_at "st"
    have l14 := hpg14.length
    refine Pm.w_iteN (fun z => absurd (by omega) z) (fun _ => ?_)
    walk_at "st"
    have s1214 := s13.trans s14
    have g14 := s1214 _ _ g12
    refine ⟨.inl ⟨rfl, _, SqL.of g14⟩, ?_⟩
    refine ⟨g, _, .ref u2, rfl, rfl, g14, by simp, ?_⟩
    rw [List.dropLast_concat]
    walk_at "st"
    have k15 := k12.trans ((keeps s1214).trans (keeps_lst (ys := gvs) g14))
    have hg15 := hpg7.mono fun _ _ r => er_mono _ _ _ _ k15 r
    obtain ⟨cv14, hc14, hpc14⟩ := hc12.same s1214
    obtain ⟨lv14, hl14, hpl14⟩ := hl12.same s1214
    have k16 := keeps_lst (ys := gvs) g14
    generalize hH15 : upd H14 g (.lst gvs) = H15 at hg15 k16
    have hl15 : H15 l = some (.lst lv14) := by rw [← hH15, upd_ne ngl]; exact hl14
    have hc15 : H15 c = some (.lst cv14) := by rw [← hH15, upd_ne ngc]; exact hc14
    have g15 : H15 g = some (.lst gvs) := by rw [← hH15]; exact upd_same
    have pl15 := prs_keep k16 hpl14
    have pc15 := prs_keep k16 hpc14
    refine Pm.w_rdL (SqL.of hl15) ?_
    refine Pm.w_forL (xs := lv14) (fun i σ H16 => ∃ x1 x2 x3 x4 x5 x6, σ = [some (.ref sc), some (.ref r), some (.int n), some (.ref c), some (.ref hd), some (.ref l), some (.ref f), some (.ref g), x1, x2, x3, x4, x5, x6, none] ∧ Same H15 H16) ⟨_, _, _, _, _, _, rfl, Same.refl _⟩ (fun i σ H16 _ ⟨_, _, _, _, _, _, _, s16⟩ => SqL.of (s16 _ _ hl15)) ?_ ?_
    · rintro i x σ H16 hi ⟨x1, x2, x3, x4, x5, x6, rfl, s16⟩
      obtain ⟨p, hp, tp, rfl, htp⟩ := pl15.get hi
      have hpm := List.mem_of_getElem? hp
      walk_at "st"
      refine Pm.w_rdL (SqL.of (s16 _ _ g15)) ?_
      refine Pm.w_lcLf (R := Er) er_mono (S := Er) er_mono (SqL.of (s16 _ _ g15)) (hg15.mono fun _ _ r => er_mono _ _ _ _ (keeps s16) r) id (fun q => holds3 q p) (by omega) (fun D x q2 H17 Nx hD hm hs s17 put skip => ?_) (fun D H17 ws hD s17 hd17 ha17 => ?_)
      · obtain ⟨tq, rfl, htq⟩ := hs
        walk_at "st"
        refine ⟨tq, tp, q2, p, rfl, ⟨tq, rfl, htq⟩, ⟨tp, rfl, (s16.trans s17) _ _ htp⟩, ?_⟩
        walk_at "st"
        cases e : holds3 q2 p with
        | true =>
          walk_at "st"
          exact put _ _ e (Same.refl _) ⟨tq, rfl, htq⟩
        | false =>
          walk_at "st"
          exact skip _ e (Same.refl _)
      · rw [List.map_id] at ha17
        walk_at "st"
        refine Pm.w_lenL (SqL.of hd17) ?_
        walk_at "st"
        refine Pm.w_inPL ⟨tp, rfl, (s16.trans s17) _ _ htp⟩ (SqL.of ((s16.trans s17) _ _ hc15)) (prs_keep (keeps (s16.trans s17)) pc15) ?_
        walk_at "st"
        have el : (ws.length : Int) = 1 + (if (decide (p ∈ cut)) = true then 1 else 0) := by
          rw [ha17.length, C.holds_len hpm]
          by_cases hm : p ∈ cut
          · rw [if_pos hm, if_pos (decide_eq_true hm)]; rfl
          · rw [if_neg hm, if_neg (by rw [decide_eq_false hm]; exact Bool.false_ne_true)]; rfl
        refine Pm.w_iteN (fun z => absurd el z) (fun _ => ?_)
        walk_at "st"
        exact ⟨_, _, _, _, _, _, rfl, s16.trans s17⟩
    · rintro σ H16 ⟨x1, x2, x3, x4, x5, x6, rfl, s16⟩
      walk_at "st"
      exact q _
end
/-! ### what the top has written; the end -/
def tx_mk {K : PySem.W.Frag} {h : Heap} {mg : Str → Option Value} (X : K.In h) (G : h.Ns mainGlobals mg)
    {f_0 : Addr} {od_0 an_0 : Option Addr} {sl_0 : Array (Option Value)} {oc_0 kV_0 dc_0 pm_0 cd_0 ct_0 : Value}
    {f_1 : Addr} {od_1 an_1 : Option Addr} {sl_1 : Array (Option Value)} {oc_1 kV_1 dc_1 pm_1 cd_1 ct_1 : Value}
    {f_2 : Addr} {od_2 an_2 : Option Addr} {sl_2 : Array (Option Value)} {oc_2 kV_2 dc_2 pm_2 cd_2 ct_2 : Value}
    {f_3 : Addr} {od_3 an_3 : Option Addr} {sl_3 : Array (Option Value)} {oc_3 kV_3 dc_3 pm_3 cd_3 ct_3 : Value}
    {f_4 : Addr} {od_4 an_4 : Option Addr} {sl_4 : Array (Option Value)} {oc_4 kV_4 dc_4 pm_4 cd_4 ct_4 : Value}
    {f_5 : Addr} {od_5 an_5 : Option Addr} {sl_5 : Array (Option Value)} {oc_5 kV_5 dc_5 pm_5 cd_5 ct_5 : Value}
    {f_6 : Addr} {od_6 an_6 : Option Addr} {sl_6 : Array (Option Value)} {oc_6 kV_6 dc_6 pm_6 cd_6 ct_6 : Value}
    {f_7 : Addr} {od_7 an_7 : Option Addr} {sl_7 : Array (Option Value)} {oc_7 kV_7 dc_7 pm_7 cd_7 ct_7 : Value}
    {f_8 : Addr} {od_8 an_8 : Option Addr} {sl_8 : Array (Option Value)} {oc_8 kV_8 dc_8 pm_8 cd_8 ct_8 : Value}
    {f_9 : Addr} {od_9 an_9 : Option Addr} {sl_9 : Array (Option Value)} {oc_9 kV_9 dc_9 pm_9 cd_9 ct_9 : Value}
    {f_10 : Addr} {od_10 an_10 : Option Addr} {sl_10 : Array (Option Value)} {oc_10 kV_10 dc_10 pm_10 cd_10 ct_10 : Value}
    {f_11 : Addr} {od_11 an_11 : Option Addr} {sl_11 : Array (Option Value)} {oc_11 kV_11 dc_11 pm_11 cd_11 ct_11 : Value}
    {f_12 : Addr} {od_12 an_12 : Option Addr} {sl_12 : Array (Option Value)} {oc_12 kV_12 dc_12 pm_12 cd_12 ct_12 : Value}
    {f_13 : Addr} {od_13 an_13 : Option Addr} {sl_13 : Array (Option Value)} {oc_13 kV_13 dc_13 pm_13 cd_13 ct_13 : Value}
    {f_14 : Addr} {od_14 an_14 : Option Addr} {sl_14 : Array (Option Value)} {oc_14 kV_14 dc_14 pm_14 cd_14 ct_14 : Value}
    (a0 : PySem.W.nsIn K mainGlobals "sides" = some (some (.ref f_0)))
    (l0 : K.lookup f_0 = some ⟨oc_0, od_0, .func (PySem.W.fnOf "sides" "sides" (defArgs s_sides) (defBody s_sides) (defScope s_sides) .none kV_0 dc_0 pm_0 an_0 cd_0 ct_0), sl_0⟩)
    (c0 : PySem.W.codeIn K cd_0 "sides" = true)
    (k0 : PySem.W.keepIn K (.ref f_0) = true)
    (a1 : PySem.W.nsIn K mainGlobals "ties" = some (some (.ref f_1)))
    (l1 : K.lookup f_1 = some ⟨oc_1, od_1, .func (PySem.W.fnOf "ties" "ties" (defArgs s_ties) (defBody s_ties) (defScope s_ties) .none kV_1 dc_1 pm_1 an_1 cd_1 ct_1), sl_1⟩)
    (c1 : PySem.W.codeIn K cd_1 "ties" = true)
    (k1 : PySem.W.keepIn K (.ref f_1) = true)
    (a2 : PySem.W.nsIn K mainGlobals "plots" = some (some (.ref f_2)))
    (l2 : K.lookup f_2 = some ⟨oc_2, od_2, .func (PySem.W.fnOf "plots" "plots" (defArgs s_plots) (defBody s_plots) (defScope s_plots) .none kV_2 dc_2 pm_2 an_2 cd_2 ct_2), sl_2⟩)
    (c2 : PySem.W.codeIn K cd_2 "plots" = true)
    (k2 : PySem.W.keepIn K (.ref f_2) = true)
    (a3 : PySem.W.nsIn K mainGlobals "_law_flow" = some (some (.ref f_3)))
    (l3 : K.lookup f_3 = some ⟨oc_3, od_3, .func (PySem.W.fnOf "_law_flow" "_law_flow" (defArgs s_law_flow) (defBody s_law_flow) (defScope s_law_flow) .none kV_3 dc_3 pm_3 an_3 cd_3 ct_3), sl_3⟩)
    (c3 : PySem.W.codeIn K cd_3 "_law_flow" = true)
    (k3 : PySem.W.keepIn K (.ref f_3) = true)
    (a4 : PySem.W.nsIn K mainGlobals "_law_whole" = some (some (.ref f_4)))
    (l4 : K.lookup f_4 = some ⟨oc_4, od_4, .func (PySem.W.fnOf "_law_whole" "_law_whole" (defArgs s_law_whole) (defBody s_law_whole) (defScope s_law_whole) .none kV_4 dc_4 pm_4 an_4 cd_4 ct_4), sl_4⟩)
    (c4 : PySem.W.codeIn K cd_4 "_law_whole" = true)
    (k4 : PySem.W.keepIn K (.ref f_4) = true)
    (a5 : PySem.W.nsIn K mainGlobals "_law_many" = some (some (.ref f_5)))
    (l5 : K.lookup f_5 = some ⟨oc_5, od_5, .func (PySem.W.fnOf "_law_many" "_law_many" (defArgs s_law_many) (defBody s_law_many) (defScope s_law_many) .none kV_5 dc_5 pm_5 an_5 cd_5 ct_5), sl_5⟩)
    (c5 : PySem.W.codeIn K cd_5 "_law_many" = true)
    (k5 : PySem.W.keepIn K (.ref f_5) = true)
    (a6 : PySem.W.nsIn K mainGlobals "_law_pair" = some (some (.ref f_6)))
    (l6 : K.lookup f_6 = some ⟨oc_6, od_6, .func (PySem.W.fnOf "_law_pair" "_law_pair" (defArgs s_law_pair) (defBody s_law_pair) (defScope s_law_pair) .none kV_6 dc_6 pm_6 an_6 cd_6 ct_6), sl_6⟩)
    (c6 : PySem.W.codeIn K cd_6 "_law_pair" = true)
    (k6 : PySem.W.keepIn K (.ref f_6) = true)
    (a7 : PySem.W.nsIn K mainGlobals "_law_ears" = some (some (.ref f_7)))
    (l7 : K.lookup f_7 = some ⟨oc_7, od_7, .func (PySem.W.fnOf "_law_ears" "_law_ears" (defArgs s_law_ears) (defBody s_law_ears) (defScope s_law_ears) .none kV_7 dc_7 pm_7 an_7 cd_7 ct_7), sl_7⟩)
    (c7 : PySem.W.codeIn K cd_7 "_law_ears" = true)
    (k7 : PySem.W.keepIn K (.ref f_7) = true)
    (a8 : PySem.W.nsIn K mainGlobals "_law_ropes" = some (some (.ref f_8)))
    (l8 : K.lookup f_8 = some ⟨oc_8, od_8, .func (PySem.W.fnOf "_law_ropes" "_law_ropes" (defArgs s_law_ropes) (defBody s_law_ropes) (defScope s_law_ropes) .none kV_8 dc_8 pm_8 an_8 cd_8 ct_8), sl_8⟩)
    (c8 : PySem.W.codeIn K cd_8 "_law_ropes" = true)
    (k8 : PySem.W.keepIn K (.ref f_8) = true)
    (a9 : PySem.W.nsIn K mainGlobals "_law_sides" = some (some (.ref f_9)))
    (l9 : K.lookup f_9 = some ⟨oc_9, od_9, .func (PySem.W.fnOf "_law_sides" "_law_sides" (defArgs s_law_sides) (defBody s_law_sides) (defScope s_law_sides) .none kV_9 dc_9 pm_9 an_9 cd_9 ct_9), sl_9⟩)
    (c9 : PySem.W.codeIn K cd_9 "_law_sides" = true)
    (k9 : PySem.W.keepIn K (.ref f_9) = true)
    (a10 : PySem.W.nsIn K mainGlobals "_law_ties" = some (some (.ref f_10)))
    (l10 : K.lookup f_10 = some ⟨oc_10, od_10, .func (PySem.W.fnOf "_law_ties" "_law_ties" (defArgs s_law_ties) (defBody s_law_ties) (defScope s_law_ties) .none kV_10 dc_10 pm_10 an_10 cd_10 ct_10), sl_10⟩)
    (c10 : PySem.W.codeIn K cd_10 "_law_ties" = true)
    (k10 : PySem.W.keepIn K (.ref f_10) = true)
    (a11 : PySem.W.nsIn K mainGlobals "_law_tuple" = some (some (.ref f_11)))
    (l11 : K.lookup f_11 = some ⟨oc_11, od_11, .func (PySem.W.fnOf "_law_tuple" "_law_tuple" (defArgs s_law_tuple) (defBody s_law_tuple) (defScope s_law_tuple) .none kV_11 dc_11 pm_11 an_11 cd_11 ct_11), sl_11⟩)
    (c11 : PySem.W.codeIn K cd_11 "_law_tuple" = true)
    (k11 : PySem.W.keepIn K (.ref f_11) = true)
    (a12 : PySem.W.nsIn K mainGlobals "_law_list" = some (some (.ref f_12)))
    (l12 : K.lookup f_12 = some ⟨oc_12, od_12, .func (PySem.W.fnOf "_law_list" "_law_list" (defArgs s_law_list) (defBody s_law_list) (defScope s_law_list) .none kV_12 dc_12 pm_12 an_12 cd_12 ct_12), sl_12⟩)
    (c12 : PySem.W.codeIn K cd_12 "_law_list" = true)
    (k12 : PySem.W.keepIn K (.ref f_12) = true)
    (a13 : PySem.W.nsIn K mainGlobals "_law_holds" = some (some (.ref f_13)))
    (l13 : K.lookup f_13 = some ⟨oc_13, od_13, .func (PySem.W.fnOf "_law_holds" "_law_holds" (defArgs s_law_holds) (defBody s_law_holds) (defScope s_law_holds) .none kV_13 dc_13 pm_13 an_13 cd_13 ct_13), sl_13⟩)
    (c13 : PySem.W.codeIn K cd_13 "_law_holds" = true)
    (k13 : PySem.W.keepIn K (.ref f_13) = true)
    (a14 : PySem.W.nsIn K mainGlobals "law" = some (some (.ref f_14)))
    (l14 : K.lookup f_14 = some ⟨oc_14, od_14, .func (PySem.W.fnOf "law" "law" (defArgs s_law) (defBody s_law) (defScope s_law) .none kV_14 dc_14 pm_14 an_14 cd_14 ct_14), sl_14⟩)
    (c14 : PySem.W.codeIn K cd_14 "law" = true)
    (k14 : PySem.W.keepIn K (.ref f_14) = true)
    (z_sorted : PySem.W.nsIn K mainGlobals "sorted" = some none)
    (z_range : PySem.W.nsIn K mainGlobals "range" = some none)
    (z_len : PySem.W.nsIn K mainGlobals "len" = some none)
    (z_abs : PySem.W.nsIn K mainGlobals "abs" = some none)
    (z_isinstance : PySem.W.nsIn K mainGlobals "isinstance" = some none)
    (z_int : PySem.W.nsIn K mainGlobals "int" = some none)
    (z_bool : PySem.W.nsIn K mainGlobals "bool" = some none)
    (z_min : PySem.W.nsIn K mainGlobals "min" = some none)
    (z_max : PySem.W.nsIn K mainGlobals "max" = some none)
    (z_tuple : PySem.W.nsIn K mainGlobals "tuple" = some none)
    (z_list : PySem.W.nsIn K mainGlobals "list" = some none) : Tx K mg :=
  { a_sides := f_0, fd_sides := _, F_sides := fun_mk (st := s_sides) l0 c0 k0, g_sides := PySem.W.mg_of X G a0, b_sides := (fun_mk (st := s_sides) l0 c0 k0).binds (ps := ["n"]) fun _ _ _ _ _ _ us hl => match us, hl with | [_], _ => rfl,
    a_ties := f_1, fd_ties := _, F_ties := fun_mk (st := s_ties) l1 c1 k1, g_ties := PySem.W.mg_of X G a1, b_ties := (fun_mk (st := s_ties) l1 c1 k1).binds (ps := ["n", "cut"]) fun _ _ _ _ _ _ us hl => match us, hl with | [_, _], _ => rfl,
    a_plots := f_2, fd_plots := _, F_plots := fun_mk (st := s_plots) l2 c2 k2, g_plots := PySem.W.mg_of X G a2, b_plots := (fun_mk (st := s_plots) l2 c2 k2).binds (ps := ["n", "cut"]) fun _ _ _ _ _ _ us hl => match us, hl with | [_, _], _ => rfl,
    a_law_flow := f_3, fd_law_flow := _, F_law_flow := fun_mk (st := s_law_flow) l3 c3 k3, g_law_flow := PySem.W.mg_of X G a3, b_law_flow := (fun_mk (st := s_law_flow) l3 c3 k3).binds (ps := ["_law_script", "_law_many_here"]) fun _ _ _ _ _ _ us hl => match us, hl with | [_, _], _ => rfl,
    a_law_whole := f_4, fd_law_whole := _, F_law_whole := fun_mk (st := s_law_whole) l4 c4 k4, g_law_whole := PySem.W.mg_of X G a4, b_law_whole := (fun_mk (st := s_law_whole) l4 c4 k4).binds (ps := ["_law_found"]) fun _ _ _ _ _ _ us hl => match us, hl with | [_], _ => rfl,
    a_law_many := f_5, fd_law_many := _, F_law_many := fun_mk (st := s_law_many) l5 c5 k5, g_law_many := PySem.W.mg_of X G a5, b_law_many := (fun_mk (st := s_law_many) l5 c5 k5).binds (ps := ["_law_row"]) fun _ _ _ _ _ _ us hl => match us, hl with | [_], _ => rfl,
    a_law_pair := f_6, fd_law_pair := _, F_law_pair := fun_mk (st := s_law_pair) l6 c6 k6, g_law_pair := PySem.W.mg_of X G a6, b_law_pair := (fun_mk (st := s_law_pair) l6 c6 k6).binds (ps := ["_law_a", "_law_b"]) fun _ _ _ _ _ _ us hl => match us, hl with | [_, _], _ => rfl,
    a_law_ears := f_7, fd_law_ears := _, F_law_ears := fun_mk (st := s_law_ears) l7 c7 k7, g_law_ears := PySem.W.mg_of X G a7, b_law_ears := (fun_mk (st := s_law_ears) l7 c7 k7).binds (ps := ["_law_n", "_law_row"]) fun _ _ _ _ _ _ us hl => match us, hl with | [_, _], _ => rfl,
    a_law_ropes := f_8, fd_law_ropes := _, F_law_ropes := fun_mk (st := s_law_ropes) l8 c8 k8, g_law_ropes := PySem.W.mg_of X G a8, b_law_ropes := (fun_mk (st := s_law_ropes) l8 c8 k8).binds (ps := ["_law_ears_here"]) fun _ _ _ _ _ _ us hl => match us, hl with | [_], _ => rfl,
    a_law_sides := f_9, fd_law_sides := _, F_law_sides := fun_mk (st := s_law_sides) l9 c9 k9, g_law_sides := PySem.W.mg_of X G a9, b_law_sides := (fun_mk (st := s_law_sides) l9 c9 k9).binds (ps := ["_law_n"]) fun _ _ _ _ _ _ us hl => match us, hl with | [_], _ => rfl,
    a_law_ties := f_10, fd_law_ties := _, F_law_ties := fun_mk (st := s_law_ties) l10 c10 k10, g_law_ties := PySem.W.mg_of X G a10, b_law_ties := (fun_mk (st := s_law_ties) l10 c10 k10).binds (ps := ["_law_n", "_law_cut"]) fun _ _ _ _ _ _ us hl => match us, hl with | [_, _], _ => rfl,
    a_law_tuple := f_11, fd_law_tuple := _, F_law_tuple := fun_mk (st := s_law_tuple) l11 c11 k11, g_law_tuple := PySem.W.mg_of X G a11, b_law_tuple := (fun_mk (st := s_law_tuple) l11 c11 k11).binds (ps := ["_law_found", "_law_many_here"]) fun _ _ _ _ _ _ us hl => match us, hl with | [_, _], _ => rfl,
    a_law_list := f_12, fd_law_list := _, F_law_list := fun_mk (st := s_law_list) l12 c12 k12, g_law_list := PySem.W.mg_of X G a12, b_law_list := (fun_mk (st := s_law_list) l12 c12 k12).binds (ps := ["_law_found", "_law_many_here"]) fun _ _ _ _ _ _ us hl => match us, hl with | [_, _], _ => rfl,
    a_law_holds := f_13, fd_law_holds := _, F_law_holds := fun_mk (st := s_law_holds) l13 c13 k13, g_law_holds := PySem.W.mg_of X G a13, b_law_holds := (fun_mk (st := s_law_holds) l13 c13 k13).binds (ps := ["_law_plot", "_law_tie"]) fun _ _ _ _ _ _ us hl => match us, hl with | [_, _], _ => rfl,
    a_law := f_14, fd_law := _, F_law := fun_mk (st := s_law) l14 c14 k14, g_law := PySem.W.mg_of X G a14, b_law := (fun_mk (st := s_law) l14 c14 k14).binds (ps := ["_law_script"]) fun _ _ _ _ _ _ us hl => match us, hl with | [_], _ => rfl,
    m_sorted := PySem.W.mg_none_of X G z_sorted,
    m_range := PySem.W.mg_none_of X G z_range,
    m_len := PySem.W.mg_none_of X G z_len,
    m_abs := PySem.W.mg_none_of X G z_abs,
    m_isinstance := PySem.W.mg_none_of X G z_isinstance,
    m_int := PySem.W.mg_none_of X G z_int,
    m_bool := PySem.W.mg_none_of X G z_bool,
    m_min := PySem.W.mg_none_of X G z_min,
    m_max := PySem.W.mg_none_of X G z_max,
    m_tuple := PySem.W.mg_none_of X G z_tuple,
    m_list := PySem.W.mg_none_of X G z_list }
theorem all_mk {l : PySem.W.OpenLaw} {w : World} {K : PySem.W.Frag} {mg : Str → Option Value} {fa : Addr} (hfa : mg "law" = some (.ref fa)) (T : Tx K mg) :
    ∃ fd : FuncData, (∀ (s : Shared) (v : Value), BindsTo s fd ⟨[v], []⟩ [("_law_script", v)]) ∧ ∀ base : Heap, K.In base → base.Ns mainGlobals mg → FnOk l.prog w K mg base CX0 5 fa fd ["_law_script"] (spLaw K) := by
  have e := hfa.symm.trans T.g_law
  cases e
  refine ⟨T.fd_law, fun s v => ?_, fun base _ _ => ok_law T⟩
  obtain ⟨oc, od, kV, doc, pm, an, cdv, ct, osl, e, lk, hcd⟩ := T.F_law.ex
  rw [e]
  exact .of_eq rfl
end Pm
open PySem PySem.W PyProof.Rows
set_option maxHeartbeats 0 in
theorem PySem.Challenge.cw_postmead_k10_plots_and_ties_holds : PySem.Challenge.rw_postmead_k10_plots_and_ties.Holds := by
  w_on; o_law; k_head; (case hw => w_witness2)
  k_fill
  refine L2.walk_of (l := PySem.Challenge.rw_postmead_k10_plots_and_ties) (n := 63) (k := 5) (x := "_law_script") (CX := fun _ => L2.CX0) (sp := fun w => Pm.spLaw _) rfl (by decide) rfl ⟨rfl, by decide, by decide⟩ (fun w h Y => PySem.W.kIn_of Y) ?F (fun _ _ a ns hl _ hS => ⟨a, ns, rfl, hS, hl, fun _ => rfl⟩) (fun _ _ _ _ _ h => h)
  case F =>
    intro w mg fa h KX G hmg
    refine' Pm.all_mk hmg (Pm.tx_mk KX G ?a0 ?l0 ?c0 ?k0 ?a1 ?l1 ?c1 ?k1 ?a2 ?l2 ?c2 ?k2 ?a3 ?l3 ?c3 ?k3 ?a4 ?l4 ?c4 ?k4 ?a5 ?l5 ?c5 ?k5 ?a6 ?l6 ?c6 ?k6 ?a7 ?l7 ?c7 ?k7 ?a8 ?l8 ?c8 ?k8 ?a9 ?l9 ?c9 ?k9 ?a10 ?l10 ?c10 ?k10 ?a11 ?l11 ?c11 ?k11 ?a12 ?l12 ?c12 ?k12 ?a13 ?l13 ?c13 ?k13 ?a14 ?l14 ?c14 ?k14 ?z_sorted ?z_range ?z_len ?z_abs ?z_isinstance ?z_int ?z_bool ?z_min ?z_max ?z_tuple ?z_list)
    (case a0 => k_is)
    (case l0 => k_is)
    (case c0 => k_is)
    (case k0 => k_is)
    (case a1 => k_is)
    (case l1 => k_is)
    (case c1 => k_is)
    (case k1 => k_is)
    (case a2 => k_is)
    (case l2 => k_is)
    (case c2 => k_is)
    (case k2 => k_is)
    (case a3 => k_is)
    (case l3 => k_is)
    (case c3 => k_is)
    (case k3 => k_is)
    (case a4 => k_is)
    (case l4 => k_is)
    (case c4 => k_is)
    (case k4 => k_is)
    (case a5 => k_is)
    (case l5 => k_is)
    (case c5 => k_is)
    (case k5 => k_is)
    (case a6 => k_is)
    (case l6 => k_is)
    (case c6 => k_is)
    (case k6 => k_is)
    (case a7 => k_is)
    (case l7 => k_is)
    (case c7 => k_is)
    (case k7 => k_is)
    (case a8 => k_is)
    (case l8 => k_is)
    (case c8 => k_is)
    (case k8 => k_is)
    (case a9 => k_is)
    (case l9 => k_is)
    (case c9 => k_is)
    (case k9 => k_is)
    (case a10 => k_is)
    (case l10 => k_is)
    (case c10 => k_is)
    (case k10 => k_is)
    (case a11 => k_is)
    (case l11 => k_is)
    (case c11 => k_is)
    (case k11 => k_is)
    (case a12 => k_is)
    (case l12 => k_is)
    (case c12 => k_is)
    (case k12 => k_is)
    (case a13 => k_is)
    (case l13 => k_is)
    (case c13 => k_is)
    (case k13 => k_is)
    (case a14 => k_is)
    (case l14 => k_is)
    (case c14 => k_is)
    (case k14 => k_is)
    (case z_sorted => k_is)
    (case z_range => k_is)
    (case z_len => k_is)
    (case z_abs => k_is)
    (case z_isinstance => k_is)
    (case z_int => k_is)
    (case z_bool => k_is)
    (case z_min => k_is)
    (case z_max => k_is)
    (case z_tuple => k_is)
    (case z_list => k_is)
#print axioms PySem.Challenge.cw_postmead_k10_plots_and_ties_holds
