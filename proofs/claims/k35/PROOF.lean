import PyProof.Rows.All
import HandS.DictTup
import HandS.TupLen
import KE.KDictWalk
import KE.KDictCopyH
import KE.KDictOf
import HandS.Style
import HandS.SortInts
import KE.KEqDict
import PyProof.DictFindH
import KE.KDictSum
import Wide.All
import OpenK.AllK
import Wide.FinOn
import PySem.Challenge.RW_postmead_k35_likeness_turned
import HandS.ForMost
import HandS.ForExc
import HandS.IsInst
import HandS.Deep
import HandS.Codes
import HandS.SortRule
import HandS.Wide
import HandS.ExcIs
import HandS.TryOnly
import HandS.TupLe
set_option exponentiation.threshold 2000
set_option exponentiation.threshold 4000
set_option Elab.async false
set_option linter.all false
set_option maxRecDepth 100000
set_option maxHeartbeats 4000000
/-! ### readings, step by step: one lemma a construct, for the first row of a goal -/
namespace Pm
open PySem PySem.Spec PyProof.Rows L2
theorem size_ok {n : Nat} (h : n ≤ 16777216) : n ≤ sizeLine := by rw [sizeLine_eq]; exact h
theorem size_lt {n : Nat} (h : n < 16777216) : n < sizeLine := by rw [sizeLine_eq]; exact h
/-! the rules over the written part K, by its name -/
section
variable {X : Cx} {K : PySem.W.Frag}
theorem ix_listK (e : X.K = K := by rfl) : IxR X (rIxL K) := e ▸ ix_list
theorem ix_tupK (e : X.K = K := by rfl) : IxR X (rIxT K) := e ▸ ix_tup
theorem sl_listK (e : X.K = K := by rfl) : SlR X (rSlL K) := e ▸ sl_list
theorem op_eqDK (hu : X.A.units + 64 < cLine) (e : X.K = K := by rfl) : OpR X (compareOp .Eq) (rEqD K) := e ▸ op_eqD hu
theorem op_neDK (hu : X.A.units + 64 < cLine) (e : X.K = K := by rfl) : OpR X (compareOp .NotEq) (rNeD K) := e ▸ op_neD hu
theorem op_inDK (hu : X.A.units + 65 < cLine) (e : X.K = K := by rfl) : OpR X (compareOp .In) (rInD K) := e ▸ op_inD hu
theorem op_notInDK (hu : X.A.units + 65 < cLine) (e : X.K = K := by rfl) : OpR X (compareOp .NotIn) (rNotInD K) := e ▸ op_notInD hu
theorem op_in_seqK (e : X.K = K := by rfl) : OpR X (compareOp .In) (rIn K false) := e ▸ op_in_seq
theorem op_notIn_seqK (e : X.K = K := by rfl) : OpR X (compareOp .NotIn) (rIn K true) := e ▸ op_notIn_seq
theorem cr_sumK (hc : X.calm = true) (e : X.K = K := by rfl) : CallR X (.builtin "sum") (rSum K) := e ▸ cr_sum hc
theorem cr_sortK (e : X.K = K := by rfl) : CallR X (.builtin "sorted") (rSortedPO K) := e ▸ cr_sortedPO
theorem call_isK (e : X.K = K := by rfl) : CallR X (.builtin "isinstance") (rIsi K) := e ▸ call_isi
theorem k_bm {ex : Expr} {T : String} {r : V → List V → Hp → VK → Prop} {to : TE} {t : TA} (h : PE X ex (tBM X.K T r to t)) (e : X.K = K := by rfl) : PE X ex (tBM K T r to t) := e ▸ h
theorem k_bm0 {ex : Expr} {T : String} {r : V → List V → Hp → VK → Prop} {to : TE} (h : PE X ex (tBM0 X.K T r to)) (e : X.K = K := by rfl) : PE X ex (tBM0 K T r to) := e ▸ h
theorem k_il {tg ex : Expr} {te : TE} (h : PI X tg ex (iList X.K te)) (e : X.K = K := by rfl) : PI X tg ex (iList K te) := e ▸ h
theorem k_it {tg ex : Expr} {te : TE} (h : PI X tg ex (iTup X.K te)) (e : X.K = K := by rfl) : PI X tg ex (iTup K te) := e ▸ h
theorem k_gt {tg : Expr} {n : Nat} {t : TGs} (h : PG X tg (gTup X.K n t)) (e : X.K = K := by rfl) : PG X tg (gTup K n t) := e ▸ h
end
/-- a op1 b op2 c op3 d -/
def tChain3 (r r' r'' : R2) (ta tb tc td : TE) : TE := fun σ H Q => ta σ H fun x H1 => tb σ H1 fun y H2 => r x y H2 fun z H3 => ∃ k, z = .bl k ∧
  (if k = true then tc σ H3 fun w' H4 => r' y w' H4 fun z' H5 => ∃ k', z' = .bl k' ∧ (if k' = true then td σ H5 fun v' H6 => r'' w' v' H6 Q else Q (.bl false) H5) else Q (.bl false) H3)
section
variable {X : Cx} {a b c d : Expr} {ta tb tc td : TE} {pos : Pos}
theorem pt_chain3 {op op' op'' : CmpOp} {r r' r'' : R2} (ho : OpR X (compareOp op) r) (ho' : OpR X (compareOp op') r') (ho'' : OpR X (compareOp op'') r'') (ha : PE X a ta) (hb : PE X b tb) (hc : PE X c tc) (hd : PE X d td)
    (hm : lastMarks [op, op', op''] [b, c, d] = false := by with_unfolding_all rfl) : PT X (.Compare a [op, op', op''] [b, c, d] pos) (tTest (tChain3 r r' r'' ta tb tc td)) := by
  refine ⟨fun pins s σ H Q I h => ?_⟩
  refine isTrue_chain (thn (ha.run pins s σ H _ I h) fun v s1 ⟨x, H1, I1, r1, q1⟩ => test_link (thn (hb.run pins s1 σ H1 _ I1 q1) fun u s2 ⟨y, H2, I2, r2, q2⟩ =>
    thn (ho pins s2 σ H2 x y v u _ I2 r1 r2 q2) fun e s3 ⟨z, H3, I3, r3, k, e', q3⟩ => ?_)) hm
  subst e'
  cases r3
  refine wpAny_truthy_bool ?_
  cases k with
  | false =>
    obtain ⟨k', e', q'⟩ := q3
    cases e'
    exact ite_ff ⟨H3, I3, q'⟩
  | true =>
    refine ite_tt (test_link (thn (hc.run pins s3 σ H3 _ I3 q3) fun w' s4 ⟨z', H4, I4, r4, q4⟩ => thn (ho' pins s4 σ H4 y z' u w' _ I4 r2 r4 q4) fun d' s5 ⟨z2, H5, I5, r5, k2, e2, q5⟩ => ?_))
    subst e2
    cases r5
    refine wpAny_truthy_bool ?_
    cases k2 with
    | false =>
      obtain ⟨k', e', q'⟩ := q5
      cases e'
      exact ite_ff ⟨H5, I5, q'⟩
    | true =>
      refine ite_tt (test_last (thn (hd.run pins s5 σ H5 _ I5 q5) fun v' s6 ⟨z6, H6, I6, r6, q6⟩ => thn (ho'' pins s6 σ H6 z' z6 w' v' _ I6 r4 r6 q6) fun d7 s7 ⟨z7, H7, I7, r7, k7, e7, q7⟩ => ?_))
      subst e7
      cases r7
      exact wpAny_truthy_bool ⟨H7, I7, q7⟩
end
/-! the rules of some calls, by a name -/
def rAbs : List V → Hp → VK → Prop := fun xs H Q => ∃ i, xs = [.int i] ∧ Q (.int (if i < 0 then -i else i)) H
theorem c_abs {X : Cx} : CallR X (.builtin "abs") rAbs := call_abs
def rMax2 : List V → Hp → VK → Prop := fun xs H Q => ∃ i j, xs = [.int i, .int j] ∧ Q (.int (if j > i then j else i)) H
theorem c_max {X : Cx} (hc : X.calm = true) : CallR X (.builtin "max") rMax2 := call_max2 hc
def rMin2 : List V → Hp → VK → Prop := fun xs H Q => ∃ i j, xs = [.int i, .int j] ∧ Q (.int (if j < i then j else i)) H
theorem c_min {X : Cx} (hc : X.calm = true) : CallR X (.builtin "min") rMin2 := call_min2 hc
def rLen (K : PySem.W.Frag) : List V → Hp → VK → Prop := fun xs H Q => ∃ p ys, xs = [.ref p] ∧ (SqL K H p ys ∨ SqT K H p ys) ∧ Q (.int ys.length) H
theorem c_len {X : Cx} {K : PySem.W.Frag} (e : X.K = K := by rfl) : CallR X (.builtin "len") (rLen K) := e ▸ call_len_seq
def rLenS : List V → Hp → VK → Prop := fun xs H Q => ∃ z : Str, xs = [.str z] ∧ z.length ≤ sizeLine ∧ Q (.int z.length) H
theorem c_lenS {X : Cx} : CallR X (.builtin "len") rLenS := call_len_str
def rInt1 : List V → Hp → VK → Prop := fun xs H Q => (∃ i, xs = [.int i] ∧ Q (.int i) H) ∨ ∃ k, xs = [.bl k] ∧ Q (.int (if k then 1 else 0)) H
theorem c_int1 {X : Cx} : CallR X (.type "int") rInt1 := call_int1
def rListOf (K : PySem.W.Frag) : List V → Hp → VK → Prop := fun xs H Q => ∃ p ys, xs = [.ref p] ∧ (SqL K H p ys ∨ SqT K H p ys) ∧ ∀ l, H l = none → Q (.ref l) (upd H l (.lst ys))
theorem c_listOf {X : Cx} {K : PySem.W.Frag} (e : X.K = K := by rfl) : CallR X (.type "list") (rListOf K) := e ▸ call_list_of
def rTupOf (K : PySem.W.Frag) : List V → Hp → VK → Prop := fun xs H Q => ∃ p ys, xs = [.ref p] ∧ ((SqL K H p ys ∧ ∀ l, H l = none → Q (.ref l) (upd H l (.tup ys))) ∨ (SqT K H p ys ∧ Q (.ref p) H))
theorem c_tupOf {X : Cx} {K : PySem.W.Frag} (e : X.K = K := by rfl) : CallR X (.type "tuple") (rTupOf K) := e ▸ call_tuple_of
def rCatS : R2 := fun x y H Q => ∃ i j, x = .str i ∧ y = .str j ∧ i.length + j.length ≤ sizeLine ∧ Q (.str (i ++ j)) H
theorem o_catS {X : Cx} : OpR X (binaryOp .Add) rCatS := op_add_str
def TupK (Q : VK) : List V → Hp → Prop := fun xs H1 => xs.length ≤ sizeLine ∧ ∀ p, H1 p = none → Q (.ref p) (upd H1 p (.tup xs))
def LstK (Q : VK) : List V → Hp → Prop := fun xs H1 => xs.length ≤ sizeLine ∧ ∀ p, H1 p = none → Q (.ref p) (upd H1 p (.lst xs))
/-- isinstance(e, c) of the exception at a that an except suite holds (its class cls, its dict d) -/
def rIsX (K : PySem.W.Frag) (cls : Value) (d : Option Addr) (a : Addr) : List V → Hp → VK → Prop := fun xs H Q => ∃ (D : Addr) (c : V) (cv : Value) (b : Bool), cls = .ref D ∧ d = none ∧ ExcC K D ∧ xs = [.ref a, c] ∧ (∀ u, RelV c u → u = cv) ∧ PySem.W.kitOne K (.ref D) cv = some b ∧ Q (.bl b) H
theorem c_isX {X : Cx} {K : PySem.W.Frag} {a : Addr} {oe : Obj} {cls : Value} {d : Option Addr} {pn : List (Addr × Obj)} (hz : Zc cls d oe) (hf : ∃ vs, oe.data = .fields vs) (e : X.K = K := by rfl) : CallR (X.suite a ((a, oe) :: pn)) (.builtin "isinstance") (rIsX K cls d a) := by
  subst e
  intro pins s σ H xs us Q I r h
  obtain ⟨D, c, cv, b, rfl, rfl, C, ex, hc, k, q⟩ := h
  exact call_isE C hz hf pins s σ H xs us Q I r ⟨c, cv, b, ex, hc, k, q⟩
/-- what is asked of a for's body, once what is walked is there -/
def ForB (g : TG) (t : TS) (nx : L2.St → Hp → Prop) (rt : VK) (σ : L2.St) : It → Hp → Prop := fun J H1 => ∃ W : Nat → Nat → L2.St → Hp → Prop, (∃ m, W 0 m σ H1) ∧ ∀ i m σ H, W i m σ H →
  (J.stop i H ∧ nx σ H) ∨ (J.go i H ∧ ∃ N : L2.St → Hp → Prop, (∀ σ' H', N σ' H' → ∃ m', m' < m ∧ W (i + 1) m' σ' H') ∧ ∀ x H', J.yld i H x H' → g x σ H' fun σ2 H2 => t ⟨N, rt, nx, N⟩ σ2 H2)
def WhB (t : TS) (nx : L2.St → Hp → Prop) (rt : VK) (Pv : Nat → L2.St → Hp → Prop) (m : Nat) (σ : L2.St) : Bool → Hp → Prop := fun b H1 => if b = true then ∃ N : L2.St → Hp → Prop, (∀ σ' H', N σ' H' → ∃ m', m' < m ∧ Pv m' σ' H') ∧ t ⟨N, rt, nx, N⟩ σ H1 else nx σ H1
def ParK (i j : Nat) (nx : L2.St → Hp → Prop) (σ : L2.St) : List V → Hp → Prop := fun vs H1 => ∃ v w, vs = [v, w] ∧ nx ((σ.set i (some v)).set j (some w)) H1
def PartK (O : Option Int → Hp → Prop) : VK := fun x H1 => ∃ i, x = .int i ∧ O (some i) H1
/-! dicts with keys that are tuples -/
def DPK (nx : L2.St → Hp → Prop) (σ : L2.St) (v x : V) : VK := fun y H3 => ∃ a H4, x = .ref a ∧ DPut H3 a y v H4 ∧ nx σ H4
def DInK (y : V) (Q : VK) : VK := fun x H2 => ∃ a o, x = .ref a ∧ DGet H2 a y o ∧ Q (.bl o.isSome) H2
def DNotInK (y : V) (Q : VK) : VK := fun x H2 => ∃ a o, x = .ref a ∧ DGet H2 a y o ∧ Q (.bl (!o.isSome)) H2
def DGK (x : V) (Q : VK) : VK := fun y H2 => ∃ a v, x = .ref a ∧ DGet H2 a y (some v) ∧ Q v H2
def RdL (K : PySem.W.Frag) (R : It → Hp → Prop) : VK := fun x H1 => ∃ a, x = .ref a ∧ (∃ xs, SqL K H1 a xs) ∧ R (Itl K a) H1
def RdT (K : PySem.W.Frag) (R : It → Hp → Prop) : VK := fun x H1 => ∃ a, x = .ref a ∧ (∃ xs, SqT K H1 a xs) ∧ R (Itt K a) H1
def Rg1 (R : It → Hp → Prop) : List V → Hp → Prop := fun vs H1 => ∃ j : Int, vs = [.int j] ∧ -(2 ^ 62) ≤ j ∧ j < 2 ^ 62 ∧ R (Itr 0 j.toNat) H1
def Rg2 (R : It → Hp → Prop) : List V → Hp → Prop := fun vs H1 => ∃ i j : Int, vs = [.int i, .int j] ∧ (-(2 ^ 62) ≤ i ∧ i < 2 ^ 62 ∧ -(2 ^ 62) ≤ j ∧ j < 2 ^ 62) ∧ R (Itr i (j - i).toNat) H1
/-- what is asked of a list comprehension, once what is walked is there -/
def LcB (g : TG) (tt : TT) (te : TE) (vs : List Nat) (σ : L2.St) (Q : VK) : It → Hp → Prop := fun J H1 => ∀ D, H1 D = none → ∃ W : Nat → Nat → Hp → Prop, (∃ m, W 0 m (upd H1 D (.lst []))) ∧ ∀ i m H, W i m H →
  (J.stop i H ∧ Q (.ref D) H) ∨ (J.go i H ∧ ∃ Nx : Hp → Prop, (∀ H', Nx H' → ∃ m', m' < m ∧ W (i + 1) m' H') ∧ ∀ x H', J.yld i H x H' → g x (wipe σ vs) H' fun σ2 H2 => wipe σ2 vs = wipe σ vs ∧ tt σ2 H2 fun b H3 =>
    if b = true then te σ2 H3 fun y H4 => ∃ acc, H4 D = some (.lst acc) ∧ acc.length < sizeLine ∧ Nx (upd H4 D (.lst (acc ++ [y]))) else Nx H3)
/-- a turn of a comprehension: the item put behind the list at D -/
def LcPut (D : Addr) (Nx : Hp → Prop) : VK := fun y H4 => ∃ acc, H4 D = some (.lst acc) ∧ acc.length < sizeLine ∧ Nx (upd H4 D (.lst (acc ++ [y])))
def LcTurn (tt : TT) (te : TE) (vs : List Nat) (σ : L2.St) (D : Addr) (Nx : Hp → Prop) : L2.St → Hp → Prop := fun σ2 H2 => wipe σ2 vs = wipe σ vs ∧ tt σ2 H2 fun b H3 => if b = true then te σ2 H3 (LcPut D Nx) else Nx H3
section
variable {nx bk ct : L2.St → Hp → Prop} {rt : VK} {σ : L2.St} {H : Hp} {t u : TS} {te ta tb tc : TE} {g : TG} {Q : VK} {B : Bool → Hp → Prop} {c c' : TT} {L : List V → Hp → Prop}
theorem w_seq (h : t ⟨u ⟨nx, rt, bk, ct⟩, rt, bk, ct⟩ σ H) : tSeq t u ⟨nx, rt, bk, ct⟩ σ H := h
theorem w_cut (Mid : L2.St → Hp → Prop) (h : t ⟨Mid, rt, bk, ct⟩ σ H) (h2 : ∀ σ' H', Mid σ' H' → u ⟨nx, rt, bk, ct⟩ σ' H') : C8.tCut t u ⟨nx, rt, bk, ct⟩ σ H := ⟨Mid, h, h2⟩
theorem w_asg (h : te σ H fun x H1 => g x σ H1 nx) : tAsg te g ⟨nx, rt, bk, ct⟩ σ H := h
theorem w_drop (h : te σ H fun _ H1 => nx σ H1) : tDrop te ⟨nx, rt, bk, ct⟩ σ H := h
theorem w_ret (h : te σ H rt) : tRet te ⟨nx, rt, bk, ct⟩ σ H := h
theorem w_retN (h : rt .non H) : tRetN ⟨nx, rt, bk, ct⟩ σ H := h
theorem w_next (h : nx σ H) : tNext ⟨nx, rt, bk, ct⟩ σ H := h
theorem w_brk (h : bk σ H) : tBreak ⟨nx, rt, bk, ct⟩ σ H := h
theorem w_cont (h : ct σ H) : tCont ⟨nx, rt, bk, ct⟩ σ H := h
theorem w_if (h : c σ H fun b H1 => if b = true then t ⟨nx, rt, bk, ct⟩ σ H1 else u ⟨nx, rt, bk, ct⟩ σ H1) : tIfS c t u ⟨nx, rt, bk, ct⟩ σ H := h
theorem w_par {i j : Nat} {t : TA} (h : t σ H (ParK i j nx σ)) : tPar i j t ⟨nx, rt, bk, ct⟩ σ H := h
theorem w_par2 {v w : V} {i j : Nat} (h : nx ((σ.set i (some v)).set j (some w)) H) : ParK i j nx σ [v, w] H := ⟨v, w, rfl, h⟩
theorem w_gname {v : V} {i : Nat} {R : L2.St → Hp → Prop} (h : R (σ.set i (some v)) H) : gName i v σ H R := h
theorem w_gtup {K : PySem.W.Frag} {n : Nat} {t : TGs} {a : Addr} {xs : List V} {R : L2.St → Hp → Prop} (hl : SqT K H a xs) (e : xs.length = n) (h : t xs σ H R) : gTup K n t (.ref a) σ H R := ⟨a, xs, rfl, hl, e, h⟩
theorem w_gcons {t : TG} {u : TGs} {v : V} {r : List V} {R : L2.St → Hp → Prop} (h : t v σ H fun σ' H' => u r σ' H' R) : gCons t u (v :: r) σ H R := ⟨v, r, rfl, h⟩
theorem w_gnil {R : L2.St → Hp → Prop} (h : R σ H) : gNil [] σ H R := ⟨rfl, h⟩
theorem w_gsub {to ti : TE} {t : TSet} {v : V} {R : L2.St → Hp → Prop} (h : to σ H fun o H1 => ti σ H1 fun i H2 => t o i v H2 fun H3 => R σ H3) : gSub to ti t v σ H R := h
theorem w_setL {p : Addr} {xs : List V} {k : Int} {v : V} {R : Hp → Prop} (hl : H p = some (.lst xs)) (h0 : 0 ≤ k) (h1 : k < (xs.length : Int)) (h : R (upd H p (.lst (xs.set k.toNat v)))) : rSetL (.ref p) (.int k) v H R := ⟨p, xs, k, k.toNat, rfl, rfl, hl, by unfold ixN; rw [if_pos h0, if_pos h1], h⟩
theorem w_var {i : Nat} {v : V} (e : σ[i]? = some (some v)) (h : Q v H) : tVar i σ H Q := ⟨v, e, h⟩
theorem w_c {v : V} (h : Q v H) : tC v σ H Q := h
theorem w_op {r : R2} (h : ta σ H fun x H1 => tb σ H1 fun y H2 => r x y H2 Q) : tOp r ta tb σ H Q := h
theorem w_un {r : V → Hp → VK → Prop} (h : ta σ H fun x H1 => r x H1 Q) : tUn r ta σ H Q := h
theorem w_i0 {k : Int → Int → V} {i j : Int} (h : Q (k i j) H) : rI0 k (.int i) (.int j) H Q := ⟨i, j, rfl, rfl, h⟩
theorem w_i {C : Int → Int → Prop} {k : Int → Int → V} {i j : Int} (hc : C i j) (h : Q (k i j) H) : rI C k (.int i) (.int j) H Q := ⟨i, j, rfl, rfl, hc, h⟩
theorem w_u {k : Int → V} {i : Int} (h : Q (k i) H) : rU k (.int i) H Q := ⟨i, rfl, h⟩
theorem w_eqi {i j : Int} (h : Q (.bl (decide (i = j))) H) : rEq (.int i) (.int j) H Q := by
  refine ⟨rfl, ?_⟩
  have e : decide (V.int i = V.int j) = decide (i = j) := by simp
  rw [e]; exact h
theorem w_nei {i j : Int} (h : Q (.bl (!decide (i = j))) H) : rNe (.int i) (.int j) H Q := by
  refine ⟨rfl, ?_⟩
  have e : decide (V.int i = V.int j) = decide (i = j) := by simp
  rw [e]; exact h
theorem w_eqb {i j : Bool} (h : Q (.bl (i == j)) H) : rEq (.bl i) (.bl j) H Q := by
  refine ⟨rfl, ?_⟩
  have e : decide (V.bl i = V.bl j) = (i == j) := by cases i <;> cases j <;> rfl
  rw [e]; exact h
theorem w_neb {i j : Bool} (h : Q (.bl (!(i == j))) H) : rNe (.bl i) (.bl j) H Q := by
  refine ⟨rfl, ?_⟩
  have e : decide (V.bl i = V.bl j) = (i == j) := by cases i <;> cases j <;> rfl
  rw [e]; exact h
theorem w_eqs {i j : Str} (h : Q (.bl (decide (i = j))) H) : rEq (.str i) (.str j) H Q := by
  refine ⟨rfl, ?_⟩
  have e : decide (V.str i = V.str j) = decide (i = j) := by simp
  rw [e]; exact h
theorem w_cb {r : List V → Hp → VK → Prop} {t : TA} (h : t σ H fun vs H1 => r vs H1 Q) : tCB r t σ H Q := h
theorem w_nil (h : L [] H) : tNil σ H L := h
theorem w_cons {t : TA} (h : ta σ H fun x H1 => t σ H1 fun xs H2 => L (x :: xs) H2) : tCons ta t σ H L := h
theorem w_call {sp : Sp} {E : XK} {t : TA} (h : t σ H fun vs H1 => sp (vs ++ []) H1 Q E) : tCall sp [] E t σ H Q := h
theorem w_tup {t : TA} (h : t σ H (TupK Q)) : tTup t σ H Q := h
theorem w_lst {t : TA} (h : t σ H (LstK Q)) : tLst t σ H Q := h
theorem w_newT {xs : List V} (h : ∀ p, H p = none → Q (.ref p) (upd H p (.tup xs))) (hz : xs.length ≤ sizeLine := by exact Pm.size_ok (Nat.le_of_ble_eq_true rfl)) : TupK Q xs H := ⟨hz, h⟩
theorem w_newL {xs : List V} (h : ∀ p, H p = none → Q (.ref p) (upd H p (.lst xs))) (hz : xs.length ≤ sizeLine := by exact Pm.size_ok (Nat.le_of_ble_eq_true rfl)) : LstK Q xs H := ⟨hz, h⟩
theorem w_test (h : te σ H fun x H' => ∃ k, x = .bl k ∧ B k H') : tTest te σ H B := h
theorem w_b (h : te σ H fun x H' => ∃ k, x = .bl k ∧ B k H') : tB te σ H B := h
theorem w_bl {k : Bool} (h : B k H) : ∃ k', V.bl k = .bl k' ∧ B k' H := ⟨k, rfl, h⟩
theorem w_and (h : c σ H fun b H1 => if b = true then c' σ H1 B else B false H1) : tAnd c c' σ H B := h
theorem w_or (h : c σ H fun b H1 => if b = true then B true H1 else c' σ H1 B) : tOr c c' σ H B := h
theorem w_not (h : c σ H fun b H1 => B (!b) H1) : tNot c σ H B := h
theorem w_andV (h : ta σ H fun x H1 => ∃ k, x = .bl k ∧ if k = true then tb σ H1 Q else Q (.bl false) H1) : tAndV ta tb σ H Q := h
theorem w_orV (h : ta σ H fun x H1 => ∃ k, x = .bl k ∧ if k = true then Q (.bl true) H1 else tb σ H1 Q) : tOrV ta tb σ H Q := h
theorem w_notV (h : ta σ H fun x H1 => ∃ k, x = .bl k ∧ Q (.bl (!k)) H1) : tNotV ta σ H Q := h
theorem w_ifE (h : c σ H fun b H1 => if b = true then ta σ H1 Q else tb σ H1 Q) : tIf c ta tb σ H Q := h
theorem w_chain {r r' : R2} (h : ta σ H fun x H1 => tb σ H1 fun y H2 => r x y H2 fun z H3 => ∃ k, z = .bl k ∧ (if k = true then tc σ H3 fun w H4 => r' y w H4 Q else Q (.bl false) H3)) : tChain r r' ta tb tc σ H Q := h
theorem w_chain3 {r r' r'' : R2} {td : TE} (h : ta σ H fun x H1 => tb σ H1 fun y H2 => r x y H2 fun z H3 => ∃ k, z = .bl k ∧
  (if k = true then tc σ H3 fun w' H4 => r' y w' H4 fun z' H5 => ∃ k', z' = .bl k' ∧ (if k' = true then td σ H5 fun v' H6 => r'' w' v' H6 Q else Q (.bl false) H5) else Q (.bl false) H3)) : tChain3 r r' r'' ta tb tc td σ H Q := h
theorem w_blx {k : Bool} {R : Bool → Prop} (h : R k) : ∃ k', V.bl k = .bl k' ∧ R k' := ⟨k, rfl, h⟩
theorem w_iteT {A C : Prop} (h : A) : if true = true then A else C := by rw [if_pos rfl]; exact h
theorem w_iteF {A C : Prop} (h : C) : if false = true then A else C := by rw [if_neg Bool.false_ne_true]; exact h
theorem w_iteN1 {A C : Prop} (h : C) : if (!true) = true then A else C := w_iteF h
theorem w_iteN0 {A C : Prop} (h : A) : if (!false) = true then A else C := w_iteT h
theorem w_ite {p A C : Prop} [Decidable p] (h1 : p → A) (h2 : ¬ p → C) : if decide p = true then A else C := by
  by_cases h : p
  · rw [decide_eq_true h, if_pos rfl]; exact h1 h
  · rw [decide_eq_false h, if_neg Bool.false_ne_true]; exact h2 h
theorem w_iteN {p A C : Prop} [Decidable p] (h1 : ¬ p → A) (h2 : p → C) : if (!decide p) = true then A else C := by
  by_cases h : p
  · rw [decide_eq_true h]; exact w_iteF (h2 h)
  · rw [decide_eq_false h]; exact w_iteT (h1 h)
theorem w_abs {i : Int} (h : Q (.int (if i < 0 then -i else i)) H) : rAbs [.int i] H Q := ⟨i, rfl, h⟩
theorem w_max {i j : Int} (h : Q (.int (max i j)) H) : rMax2 [V.int i, V.int j] H Q := by
  refine ⟨i, j, rfl, ?_⟩
  have e : (if j > i then j else i) = max i j := by rw [Int.max_def]; split <;> split <;> omega
  rw [e]; exact h
theorem w_min {i j : Int} (h : Q (.int (min i j)) H) : rMin2 [V.int i, V.int j] H Q := by
  refine ⟨i, j, rfl, ?_⟩
  have e : (if j < i then j else i) = min i j := by rw [Int.min_def]; split <;> split <;> omega
  rw [e]; exact h
theorem w_mul1 {i j : Int} (h : -(2 ^ 64) < i ∧ i < 2 ^ 64) : CMul i j := .inl h
theorem w_mul2 {i j : Int} (h : -(2 ^ 64) < j ∧ j < 2 ^ 64) : CMul i j := .inr h
theorem w_ixL {K : PySem.W.Frag} {p : Addr} {xs : List V} {i : Int} {v : V} (hl : SqL K H p xs) (e : atI xs i = some v) (h : Q v H) : rIxL K (.ref p) (.int i) H Q := ⟨p, xs, i, v, rfl, rfl, hl, e, h⟩
theorem w_ixT {K : PySem.W.Frag} {p : Addr} {xs : List V} {i : Int} {v : V} (hl : SqT K H p xs) (e : atI xs i = some v) (h : Q v H) : rIxT K (.ref p) (.int i) H Q := ⟨p, xs, i, v, rfl, rfl, hl, e, h⟩
theorem w_bm {K : PySem.W.Frag} {T : String} {r : V → List V → Hp → VK → Prop} {t : TA} (h : ta σ H fun x H1 => tyV K T x H1 ∧ t σ H1 fun xs H2 => r x xs H2 Q) : tBM K T r ta t σ H Q := h
theorem w_bm0 {K : PySem.W.Frag} {T : String} {r : V → List V → Hp → VK → Prop} (h : ta σ H fun x H1 => tyV K T x H1 ∧ r x [] H1 Q) : tBM0 K T r ta σ H Q := h
theorem w_append {l : Addr} {xs : List V} {y : V} (hl : H l = some (.lst xs)) (hz : xs.length < sizeLine) (h : Q .non (upd H l (.lst (xs ++ [y])))) : rAppend (.ref l) [y] H Q := ⟨l, xs, y, rfl, rfl, hl, hz, h⟩
theorem w_len {K : PySem.W.Frag} {p : Addr} {ys : List V} (hl : SqL K H p ys ∨ SqT K H p ys) (h : Q (.int ys.length) H) : rLen K [V.ref p] H Q := ⟨p, ys, rfl, hl, h⟩
theorem w_lenL {K : PySem.W.Frag} {p : Addr} {ys : List V} (hl : SqL K H p ys) (h : Q (.int ys.length) H) : rLen K [V.ref p] H Q := ⟨p, ys, rfl, .inl hl, h⟩
theorem w_lenT {K : PySem.W.Frag} {p : Addr} {ys : List V} (hl : SqT K H p ys) (h : Q (.int ys.length) H) : rLen K [V.ref p] H Q := ⟨p, ys, rfl, .inr hl, h⟩
theorem w_lenS {z : Str} (hl : z.length ≤ sizeLine) (h : Q (.int z.length) H) : rLenS [V.str z] H Q := ⟨z, rfl, hl, h⟩
theorem w_int1 {b : Bool} (h : Q (.int (if b then 1 else 0)) H) : rInt1 [.bl b] H Q := .inr ⟨b, rfl, h⟩
theorem w_listOf {K : PySem.W.Frag} {p : Addr} {ys : List V} (hl : SqL K H p ys) (h : ∀ l, H l = none → Q (.ref l) (upd H l (.lst ys))) : rListOf K [.ref p] H Q := ⟨p, ys, rfl, .inl hl, h⟩
theorem w_tupOf {K : PySem.W.Frag} {p : Addr} {ys : List V} (hl : SqL K H p ys) (h : ∀ l, H l = none → Q (.ref l) (upd H l (.tup ys))) : rTupOf K [.ref p] H Q := ⟨p, ys, rfl, .inl ⟨hl, h⟩⟩
theorem w_sl {r : V → Option Int → Option Int → Hp → VK → Prop} {tl th : TO} (h : te σ H fun x H1 => tl σ H1 fun l H2 => th σ H2 fun u H3 => r x l u H3 Q) : tSl r te tl th σ H Q := h
theorem w_noPart {O : Option Int → Hp → Prop} (h : O none H) : tNoPart σ H O := h
theorem w_part {O : Option Int → Hp → Prop} (h : te σ H (PartK O)) : tPart te σ H O := h
theorem w_partK {O : Option Int → Hp → Prop} {i : Int} (h : O (some i) H) : PartK O (.int i) H := ⟨i, rfl, h⟩
theorem w_slL {K : PySem.W.Frag} {a : Addr} {xs : List V} {lo hi : Option Int} (hl : SqL K H a xs) (h : ∀ p, H p = none → Q (.ref p) (upd H p (.lst (cutV xs lo hi)))) : rSlL K (.ref a) lo hi H Q := ⟨a, xs, rfl, hl, h⟩
theorem w_cat {l b : Addr} {xs zs : List V} (h1 : H l = some (.lst xs)) (h2 : H b = some (.lst zs)) (hz : xs.length + zs.length ≤ sizeLine) (h : ∀ p, H p = none → Q (.ref p) (upd H p (.lst (xs ++ zs)))) : rCat (.ref l) (.ref b) H Q := ⟨l, b, xs, zs, rfl, rfl, h1, h2, hz, h⟩
theorem w_dput {td ty tv : TE} (h : tv σ H fun v H1 => td σ H1 fun x H2 => ty σ H2 (DPK nx σ v x)) : sDPut td ty tv ⟨nx, rt, bk, ct⟩ σ H := h
theorem w_dpT {a b : Addr} {kvs : List (List L2.Key × V)} {k : List L2.Key} {v : V} (h1 : H a = some (.dT kvs)) (h2 : H b = some (.tup (k.map kV))) (hl : kvs.length < sizeLine) (h : nx σ (upd H a (.dT (putK kvs k v)))) : DPK nx σ v (.ref a) (.ref b) H := ⟨a, _, rfl, DPut.t h1 h2 hl, h⟩
theorem w_dpK {a : Addr} {kvs : List (L2.Key × V)} {k : L2.Key} {v : V} (h1 : H a = some (.dK kvs)) (hl : kvs.length < sizeLine) (h : nx σ (upd H a (.dK (putK kvs k v)))) : DPK nx σ v (.ref a) (kV k) H := ⟨a, _, rfl, DPut.k h1 hl, h⟩
theorem w_din {ty td : TE} (h : ty σ H fun y H1 => td σ H1 (DInK y Q)) : tDIn ty td σ H Q := h
theorem w_dnotin {ty td : TE} (h : ty σ H fun y H1 => td σ H1 (DNotInK y Q)) : tDNotIn ty td σ H Q := h
theorem w_diT {a b : Addr} {kvs : List (List L2.Key × V)} {k : List L2.Key} (h1 : H a = some (.dT kvs)) (h2 : H b = some (.tup (k.map kV))) (h : Q (.bl (valV kvs k).isSome) H) : DInK (.ref b) Q (.ref a) H := ⟨a, _, rfl, DGet.t h1 h2, h⟩
theorem w_dniT {a b : Addr} {kvs : List (List L2.Key × V)} {k : List L2.Key} (h1 : H a = some (.dT kvs)) (h2 : H b = some (.tup (k.map kV))) (h : Q (.bl (!(valV kvs k).isSome)) H) : DNotInK (.ref b) Q (.ref a) H := ⟨a, _, rfl, DGet.t h1 h2, h⟩
theorem w_diK {a : Addr} {kvs : List (L2.Key × V)} {k : L2.Key} (h1 : H a = some (.dK kvs)) (h : Q (.bl (valV kvs k).isSome) H) : DInK (kV k) Q (.ref a) H := ⟨a, _, rfl, DGet.k h1, h⟩
theorem w_dniK {a : Addr} {kvs : List (L2.Key × V)} {k : L2.Key} (h1 : H a = some (.dK kvs)) (h : Q (.bl (!(valV kvs k).isSome)) H) : DNotInK (kV k) Q (.ref a) H := ⟨a, _, rfl, DGet.k h1, h⟩
theorem w_dget {td ty : TE} (h : td σ H fun x H1 => ty σ H1 (DGK x Q)) : tDGet td ty σ H Q := h
theorem w_dgT {a b : Addr} {kvs : List (List L2.Key × V)} {k : List L2.Key} {v : V} (h1 : H a = some (.dT kvs)) (h2 : H b = some (.tup (k.map kV))) (e : valV kvs k = some v) (h : Q v H) : DGK (.ref a) Q (.ref b) H := ⟨a, v, rfl, by rw [← e]; exact DGet.t h1 h2, h⟩
theorem w_dgK {a : Addr} {kvs : List (L2.Key × V)} {k : L2.Key} {v : V} (h1 : H a = some (.dK kvs)) (e : valV kvs k = some v) (h : Q v H) : DGK (.ref a) Q (kV k) H := ⟨a, v, rfl, by rw [← e]; exact DGet.k h1, h⟩
theorem w_dnewT (h : ∀ p, H p = none → Q (.ref p) (upd H p (.dT []))) : tDNewT σ H Q := h
theorem w_dnewK (h : ∀ p, H p = none → Q (.ref p) (upd H p (.dK []))) : tDNewK σ H Q := h
theorem w_for {wi : TI} (h : wi σ H (ForB g t nx rt σ)) : tFor wi g t ⟨nx, rt, bk, ct⟩ σ H := h
theorem w_iList {K : PySem.W.Frag} {R : It → Hp → Prop} (h : te σ H (RdL K R)) : iList K te σ H R := h
theorem w_iTup {K : PySem.W.Frag} {R : It → Hp → Prop} (h : te σ H (RdT K R)) : iTup K te σ H R := h
theorem w_rdL {K : PySem.W.Frag} {R : It → Hp → Prop} {a : Addr} {xs : List V} (hl : SqL K H a xs) (h : R (Itl K a) H) : RdL K R (.ref a) H := ⟨a, rfl, ⟨xs, hl⟩, h⟩
theorem w_rdT {K : PySem.W.Frag} {R : It → Hp → Prop} {a : Addr} {xs : List V} (hl : SqT K H a xs) (h : R (Itt K a) H) : RdT K R (.ref a) H := ⟨a, rfl, ⟨xs, hl⟩, h⟩
theorem w_iRng1 {t : TA} {R : It → Hp → Prop} (h : t σ H (Rg1 R)) : iRng1 t σ H R := h
theorem w_iRng2 {t : TA} {R : It → Hp → Prop} (h : t σ H (Rg2 R)) : iRng2 t σ H R := h
theorem w_rg1 {j : Int} {R : It → Hp → Prop} (h1 : -(2 ^ 62) ≤ j ∧ j < 2 ^ 62) (h : R (Itr 0 j.toNat) H) : Rg1 R [.int j] H := ⟨j, rfl, h1.1, h1.2, h⟩
theorem w_rg2 {i j : Int} {R : It → Hp → Prop} (h1 : (-(2 ^ 62) ≤ i ∧ i < 2 ^ 62) ∧ (-(2 ^ 62) ≤ j ∧ j < 2 ^ 62)) (h : R (Itr i (j - i).toNat) H) : Rg2 R [.int i, .int j] H := ⟨i, j, rfl, ⟨h1.1.1, h1.1.2, h1.2.1, h1.2.2⟩, h⟩
/-- for over a range, by what holds ahead of turn i -/
theorem w_forR {lo : Int} {n : Nat} (Pv : Nat → L2.St → Hp → Prop) (h0 : Pv 0 σ H) (hs : ∀ i σ H, i < n → Pv i σ H → g (.int (lo + i)) σ H fun σ2 H2 => t ⟨Pv (i + 1), rt, nx, Pv (i + 1)⟩ σ2 H2) (hd : ∀ σ H, Pv n σ H → nx σ H) : ForB g t nx rt σ (Itr lo n) H :=
  for_range (D := ⟨nx, rt, fun _ _ => False, fun _ _ => False⟩) Pv h0 hs hd
theorem w_forL {K : PySem.W.Frag} {a : Addr} {xs : List V} (Pv : Nat → L2.St → Hp → Prop) (h0 : Pv 0 σ H) (hl : ∀ i σ H, i ≤ xs.length → Pv i σ H → SqL K H a xs) (hs : ∀ i x σ H, xs[i]? = some x → Pv i σ H → g x σ H fun σ2 H2 => t ⟨Pv (i + 1), rt, nx, Pv (i + 1)⟩ σ2 H2) (hd : ∀ σ H, Pv xs.length σ H → nx σ H) : ForB g t nx rt σ (Itl K a) H :=
  for_list (D := ⟨nx, rt, fun _ _ => False, fun _ _ => False⟩) Pv h0 hl hs hd
theorem w_forT {K : PySem.W.Frag} {a : Addr} {xs : List V} (Pv : Nat → L2.St → Hp → Prop) (h0 : Pv 0 σ H) (hl : ∀ i σ H, i ≤ xs.length → Pv i σ H → SqT K H a xs) (hs : ∀ i x σ H, xs[i]? = some x → Pv i σ H → g x σ H fun σ2 H2 => t ⟨Pv (i + 1), rt, nx, Pv (i + 1)⟩ σ2 H2) (hd : ∀ σ H, Pv xs.length σ H → nx σ H) : ForB g t nx rt σ (Itt K a) H :=
  for_tup (D := ⟨nx, rt, fun _ _ => False, fun _ _ => False⟩) Pv h0 hl hs hd
/-- while, by an invariant with a measure -/
theorem w_while {c : TT} (Pv : Nat → L2.St → Hp → Prop) (m : Nat) (h0 : Pv m σ H) (hs : ∀ m σ H, Pv m σ H → c σ H (WhB t nx rt Pv m σ)) : tWhile c t ⟨nx, rt, bk, ct⟩ σ H := ⟨Pv, ⟨m, h0⟩, hs⟩
theorem w_whT {Pv : Nat → L2.St → Hp → Prop} {m : Nat} (h : t ⟨fun σ' H' => ∃ m', m' < m ∧ Pv m' σ' H', rt, nx, fun σ' H' => ∃ m', m' < m ∧ Pv m' σ' H'⟩ σ H) : WhB t nx rt Pv m σ true H := w_iteT ⟨_, fun _ _ h => h, h⟩
theorem w_whF {Pv : Nat → L2.St → Hp → Prop} {m : Nat} (h : nx σ H) : WhB t nx rt Pv m σ false H := w_iteF h
theorem w_wh {Pv : Nat → L2.St → Hp → Prop} {m : Nat} {p : Prop} [Decidable p] (h1 : p → t ⟨fun σ' H' => ∃ m', m' < m ∧ Pv m' σ' H', rt, nx, fun σ' H' => ∃ m', m' < m ∧ Pv m' σ' H'⟩ σ H) (h2 : ¬ p → nx σ H) : WhB t nx rt Pv m σ (decide p) H := by
  by_cases h : p
  · rw [decide_eq_true h]; exact w_whT (h1 h)
  · rw [decide_eq_false h]; exact w_whF (h2 h)
theorem w_lc {wi : TI} {tt : TT} {vs : List Nat} (h : wi σ H (LcB g tt te vs σ Q)) : tLc wi g tt te vs σ H Q := h
theorem w_yes (h : B true H) : tYes σ H B := h
theorem w_lcR {lo : Int} {n : Nat} {tt : TT} {vs : List Nat} (h : ∀ D, H D = none → ∃ Pv : Nat → Hp → Prop, Pv 0 (upd H D (.lst [])) ∧
    (∀ i H1, i < n → Pv i H1 → g (.int (lo + i)) (wipe σ vs) H1 (LcTurn tt te vs σ D (Pv (i + 1)))) ∧ ∀ H1, Pv n H1 → Q (.ref D) H1) : LcB g tt te vs σ Q (Itr lo n) H := fun D hD => by
  obtain ⟨Pv, h0, hs, hd⟩ := h D hD
  exact lc_range (Qd := Q (.ref D)) Pv h0 hs hd
theorem w_lcL {K : PySem.W.Frag} {a : Addr} {xs : List V} {tt : TT} {vs : List Nat} (h : ∀ D, H D = none → ∃ Pv : Nat → Hp → Prop, Pv 0 (upd H D (.lst [])) ∧ (∀ i H1, i ≤ xs.length → Pv i H1 → SqL K H1 a xs) ∧
    (∀ i x H1, xs[i]? = some x → Pv i H1 → g x (wipe σ vs) H1 (LcTurn tt te vs σ D (Pv (i + 1)))) ∧ ∀ H1, Pv xs.length H1 → Q (.ref D) H1) : LcB g tt te vs σ Q (Itl K a) H := fun D hD => by
  obtain ⟨Pv, h0, hl, hs, hd⟩ := h D hD
  exact lc_list (Qd := Q (.ref D)) Pv h0 hl hs hd
theorem w_turn {tt : TT} {vs : List Nat} {σ2 : L2.St} {D : Addr} {Nx : Hp → Prop} (e : wipe σ2 vs = wipe σ vs) (h : tt σ2 H fun b H3 => if b = true then te σ2 H3 (LcPut D Nx) else Nx H3) : LcTurn tt te vs σ D Nx σ2 H := ⟨e, h⟩
theorem w_put {D : Addr} {Nx : Hp → Prop} {acc : List V} {y : V} (hl : H D = some (.lst acc)) (hz : acc.length < sizeLine) (h : Nx (upd H D (.lst (acc ++ [y])))) : LcPut D Nx y H := ⟨acc, hl, hz, h⟩
theorem w_isiInt {K : PySem.W.Frag} {i : Int} {n : String} {b : Bool} (e : kitB "int" n = some b) (h : Q (.bl b) H) : rIsi K [.int i, .ty n] H Q := ⟨_, _, _, _, b, rfl, .ty n, .base (.int i), kit_ty e, h⟩
theorem w_isiBl {K : PySem.W.Frag} {i : Bool} {n : String} {b : Bool} (e : kitB "bool" n = some b) (h : Q (.bl b) H) : rIsi K [.bl i, .ty n] H Q := ⟨_, _, _, _, b, rfl, .ty n, .base (.bl i), kit_ty e, h⟩
theorem w_isiTup {K : PySem.W.Frag} {a : Addr} {xs : List V} {n : String} {b : Bool} (hl : SqT K H a xs) (e : kitB "tuple" n = some b) (h : Q (.bl b) H) : rIsi K [.ref a, .ty n] H Q := by
  rcases hl with (h1 | ⟨o, h1⟩) | ⟨o, its, m, h1, h2, h3⟩
  · exact ⟨_, _, _, _, b, rfl, .ty n, .base (.tup h1), kit_ty e, h⟩
  · exact ⟨_, _, _, _, b, rfl, .ty n, .fTuple h1, kit_ty e, h⟩
  · exact ⟨_, _, _, _, b, rfl, .ty n, .kTuple h1 h2, kit_ty e, h⟩
theorem w_isiLst {K : PySem.W.Frag} {a : Addr} {xs : List V} {n : String} {b : Bool} (hl : SqL K H a xs) (e : kitB "list" n = some b) (h : Q (.bl b) H) : rIsi K [.ref a, .ty n] H Q := by
  rcases hl with (h1 | ⟨o, h1⟩) | ⟨o, its, m, h1, h2, h3⟩
  · exact ⟨_, _, _, _, b, rfl, .ty n, .base (.lst h1), kit_ty e, h⟩
  · exact ⟨_, _, _, _, b, rfl, .ty n, .base (.frz h1), kit_ty e, h⟩
  · exact ⟨_, _, _, _, b, rfl, .ty n, .kList h1 h2, kit_ty e, h⟩
theorem inV_ints (i : Int) : ∀ ns : List Int, inV (.int i) (ns.map V.int) = decide (i ∈ ns)
  | [] => rfl
  | x :: r => by
    have ih := inV_ints i r
    show (eqV (.int x) (.int i) || inV (.int i) (r.map V.int)) = _
    rw [ih]
    show ((x == i) || decide (i ∈ r)) = _
    by_cases h : x = i
    · subst h; simp
    · have h2 : ¬ i = x := fun e => h e.symm
      simp [h, h2]
theorem w_inInts {K : PySem.W.Frag} {a : Addr} {i : Int} {ns : List Int} (hl : SqL K H a (ns.map V.int) ∨ SqT K H a (ns.map V.int)) (h : Q (.bl (decide (i ∈ ns))) H) : rIn K false (.int i) (.ref a) H Q := by
  refine ⟨a, _, rfl, hl, rfl, ?_, ?_⟩
  · rw [List.all_map]; exact List.all_eq_true.mpr fun _ _ => rfl
  · rw [if_neg Bool.false_ne_true, inV_ints]
    exact h
theorem w_ninInts {K : PySem.W.Frag} {a : Addr} {i : Int} {ns : List Int} (hl : SqL K H a (ns.map V.int) ∨ SqT K H a (ns.map V.int)) (h : Q (.bl (!decide (i ∈ ns))) H) : rIn K true (.int i) (.ref a) H Q := by
  refine ⟨a, _, rfl, hl, rfl, ?_, ?_⟩
  · rw [List.all_map]; exact List.all_eq_true.mpr fun _ _ => rfl
  · rw [if_pos rfl, inV_ints]
    exact h
theorem w_isX {K : PySem.W.Frag} {D a : Addr} {c : V} {cv : Value} {b : Bool} (C : ExcC K D) (hc : ∀ u, RelV c u → u = cv) (k : PySem.W.kitOne K (.ref D) cv = some b) (h : Q (.bl b) H) : rIsX K (.ref D) none a [.ref a, c] H Q := ⟨D, c, cv, b, rfl, rfl, C, rfl, hc, k, h⟩
theorem w_callS {sp : Sp} {E : L2.St → XK} {t : TA} (h : t σ H fun vs H1 => sp vs H1 Q (E σ)) : tCallS sp E t σ H Q := h
theorem eqv_ints2 (a b c d : Int) : PyData.eqv (.tuple [.int a, .int b]) (.tuple [.int c, .int d]) = decide (a = c ∧ b = d) := by
  simp only [PyData.eqv, PyData.eqvAll, Bool.and_true]
  by_cases h : a = c <;> by_cases h2 : b = d <;> simp [h, h2]
theorem dp_ints2 {K : PySem.W.Frag} {t : Addr} {a b : Int} (h : SqT K H t [.int a, .int b]) : Dp K H (.ref t) (.tuple [.int a, .int b]) := .tup h (.cons (.int a) (.cons (.int b) .nil))
theorem w_eqPair {K : PySem.W.Frag} {t u : Addr} {a b c d : Int} (h1 : SqT K H t [.int a, .int b]) (h2 : SqT K H u [.int c, .int d]) (h : Q (.bl (decide (a = c ∧ b = d))) H) : rEqD K (.ref t) (.ref u) H Q :=
  ⟨_, _, dp_ints2 h1, dp_ints2 h2, rfl, rfl, by rw [eqv_ints2]; exact h⟩
theorem w_nePair {K : PySem.W.Frag} {t u : Addr} {a b c d : Int} (h1 : SqT K H t [.int a, .int b]) (h2 : SqT K H u [.int c, .int d]) (h : Q (.bl (!decide (a = c ∧ b = d))) H) : rNeD K (.ref t) (.ref u) H Q :=
  ⟨_, _, dp_ints2 h1, dp_ints2 h2, rfl, rfl, by rw [eqv_ints2]; exact h⟩
theorem Same.tup {K : PySem.W.Frag} {H H' : Hp} {a : Addr} {xs : List V} (e : Same H H') (h : SqT K H a xs) : SqT K H' a xs := by
  rcases h with (h | ⟨o, h⟩) | h
  · exact .inl (.inl (e _ _ h))
  · exact .inl (.inr ⟨o, e _ _ h⟩)
  · exact .inr h
theorem w_sum {K : PySem.W.Frag} {a : Addr} {ns : List Int} (hl : SqL K H a (ns.map V.int)) (h : Q (.int ns.sum) H) : rSum K [V.ref a] H Q := ⟨a, ns, rfl, hl, h⟩
theorem w_isi {K : PySem.W.Frag} {x c : V} {t u : Value} {b : Bool} (k : ClsV c u) (ty : TyX K H x t) (e : PySem.W.kitOne K t u = some b) (h : Q (.bl b) H) : rIsi K [x, c] H Q := ⟨x, c, t, u, b, rfl, k, ty, e, h⟩
end
theorem same_new {H : Hp} {p : Addr} (h : H p = none) (o : HO) : Same H (upd H p o) := fun b u q => by rw [upd_ne (ne_of_none q h)]; exact q
theorem cut_take {xs : List V} {k : Int} (h0 : 0 ≤ k) (h : k ≤ (xs.length : Int)) : cutV xs none (some k) = xs.take k.toNat := by
  unfold cutV HT.sIx
  simp only
  rw [if_neg (by omega), List.drop_zero, Nat.sub_zero, Nat.min_eq_left (by omega)]
theorem cut_drop {xs : List V} {k : Int} (h0 : 0 ≤ k) (h : k ≤ (xs.length : Int)) : cutV xs (some k) none = xs.drop k.toNat := by
  unfold cutV HT.sIx
  simp only
  rw [if_neg (by omega), Nat.min_eq_left (by omega)]
  exact List.take_of_length_le (by rw [List.length_drop]; omega)
theorem cut_mid {xs : List V} {i k : Int} (h0 : 0 ≤ i) (h1 : 0 ≤ k) : cutV xs (some i) (some k) = (xs.drop i.toNat).take (k.toNat - i.toNat) := by
  unfold cutV HT.sIx
  simp only
  rw [if_neg (by omega), if_neg (by omega)]
  by_cases h : i.toNat ≤ xs.length
  · rw [Nat.min_eq_left h]
    by_cases h2 : k.toNat ≤ xs.length
    · rw [Nat.min_eq_left h2]
    · rw [Nat.min_eq_right (by omega), List.take_of_length_le (i := k.toNat - i.toNat) (by rw [List.length_drop]; omega)]
      exact List.take_of_length_le (by rw [List.length_drop]; omega)
  · rw [List.drop_of_length_le (i := min i.toNat xs.length) (by omega), List.drop_of_length_le (i := i.toNat) (by omega), List.take_nil, List.take_nil]
theorem putK_len {κ : Type} [DecidableEq κ] (kvs : List (κ × V)) (k : κ) (v : V) : (putK kvs k v).length ≤ kvs.length + 1 := by
  unfold putK
  split
  · rw [List.length_map]; omega
  · rw [List.length_append, List.length_singleton]; exact Nat.le_refl _
theorem _root_.L2.Room.u65 {A : Around} {k : Nat} (hr : Room k A) : A.units + 65 < cLine := by have := hr.un; omega
theorem hu65 {A : Around} {k : Nat} (hr : Room k A) : A.units + 65 < cLine := by have := hr.un; omega
theorem atI2 (a b : V) : atI [a, b] 0 = some a ∧ atI [a, b] 1 = some b := ⟨rfl, rfl⟩
theorem atI_int {ns : List Int} {i : Int} (h0 : 0 ≤ i) (h : i < (ns.length : Int)) : atI (ns.map V.int) i = some (.int (ns.getD i.toNat 0)) := by
  have hk : i.toNat < ns.length := by omega
  have ek : i = ((i.toNat : Nat) : Int) := by omega
  have q : atI (ns.map V.int) ((i.toNat : Nat) : Int) = some (.int ns[i.toNat]) := atI_nat (by rw [List.getElem?_map, List.getElem?_eq_getElem hk] <;> rfl)
  rw [← ek] at q
  rw [q, List.getD_eq_getElem?_getD, List.getElem?_eq_getElem hk] <;> rfl
theorem atI_getD {ns : List Int} {i : Nat} (h : i < ns.length) : atI (ns.map V.int) (i : Int) = some (.int (ns.getD i 0)) := by
  have := atI_int (ns := ns) (i := (i : Int)) (by omega) (by omega)
  rw [Int.toNat_natCast] at this
  exact this
end Pm
/-! ### lists of pairs of numbers -/
namespace Pm
open PySem PySem.Spec PyProof.Rows L2
/-- item by item -/
def All2 {α β : Type} (R : α → β → Prop) : List α → List β → Prop
  | [], [] => True
  | x :: xs, y :: ys => R x y ∧ All2 R xs ys
  | _, _ => False
section
variable {α β : Type} {R S : α → β → Prop}
theorem All2.nil : All2 R [] [] := trivial
theorem All2.cons {x : α} {y : β} {xs : List α} {ys : List β} (h : R x y) (t : All2 R xs ys) : All2 R (x :: xs) (y :: ys) := ⟨h, t⟩
theorem All2.length : ∀ {xs : List α} {ys : List β}, All2 R xs ys → xs.length = ys.length
  | [], [], _ => rfl
  | _ :: _, _ :: _, h => by rw [List.length_cons, List.length_cons, h.2.length]
theorem All2.mono (f : ∀ x y, R x y → S x y) : ∀ {xs : List α} {ys : List β}, All2 R xs ys → All2 S xs ys
  | [], [], _ => trivial
  | _ :: _, _ :: _, h => ⟨f _ _ h.1, h.2.mono f⟩
theorem All2.get : ∀ {xs : List α} {ys : List β} {i : Nat} {x : α}, All2 R xs ys → xs[i]? = some x → ∃ y, ys[i]? = some y ∧ R x y
  | [], [], _, _, _, e => by simp at e
  | _ :: _, _ :: _, 0, _, h, e => by simp at e; subst e; exact ⟨_, rfl, h.1⟩
  | _ :: _, _ :: _, i + 1, x, h, e => by
    obtain ⟨y, e1, r⟩ := All2.get (i := i) (x := x) h.2 (by simpa using e)
    exact ⟨y, by simpa using e1, r⟩
theorem All2.get' : ∀ {xs : List α} {ys : List β} {i : Nat} {y : β}, All2 R xs ys → ys[i]? = some y → ∃ x, xs[i]? = some x ∧ R x y
  | [], [], _, _, _, e => by simp at e
  | _ :: _, _ :: _, 0, _, h, e => by simp at e; subst e; exact ⟨_, rfl, h.1⟩
  | _ :: _, _ :: _, i + 1, y, h, e => by
    obtain ⟨x, e1, r⟩ := All2.get' (i := i) (y := y) h.2 (by simpa using e)
    exact ⟨x, by simpa using e1, r⟩
theorem All2.append : ∀ {xs : List α} {ys : List β} {xs' : List α} {ys' : List β}, All2 R xs ys → All2 R xs' ys' → All2 R (xs ++ xs') (ys ++ ys')
  | [], [], _, _, _, h => h
  | _ :: _, _ :: _, _, _, h, h' => ⟨h.1, h.2.append h'⟩
theorem All2.snoc {xs : List α} {ys : List β} {x : α} {y : β} (h : All2 R xs ys) (r : R x y) : All2 R (xs ++ [x]) (ys ++ [y]) := h.append ⟨r, trivial⟩
theorem All2.take : ∀ {xs : List α} {ys : List β} (n : Nat), All2 R xs ys → All2 R (xs.take n) (ys.take n)
  | [], [], n, _ => by rw [List.take_nil, List.take_nil]; trivial
  | _ :: _, _ :: _, 0, _ => trivial
  | _ :: _, _ :: _, n + 1, h => ⟨h.1, h.2.take n⟩
theorem All2.drop : ∀ {xs : List α} {ys : List β} (n : Nat), All2 R xs ys → All2 R (xs.drop n) (ys.drop n)
  | [], [], n, _ => by rw [List.drop_nil, List.drop_nil]; trivial
  | _ :: _, _ :: _, 0, h => h
  | _ :: _, _ :: _, n + 1, h => h.2.drop n
theorem All2.set : ∀ {xs : List α} {ys : List β} (i : Nat) {x : α} {y : β}, All2 R xs ys → R x y → All2 R (xs.set i x) (ys.set i y)
  | [], [], _, _, _, _, _ => trivial
  | _ :: _, _ :: _, 0, _, _, h, r => ⟨r, h.2⟩
  | _ :: _, _ :: _, i + 1, _, _, h, r => ⟨h.1, h.2.set i r⟩
theorem All2.mem : ∀ {xs : List α} {ys : List β} {x : α}, All2 R xs ys → x ∈ xs → ∃ y, y ∈ ys ∧ R x y
  | [], [], _, _, e => by simp at e
  | a :: _, b :: _, x, h, e => by
    rcases List.mem_cons.mp e with e | e
    · subst e; exact ⟨b, List.mem_cons_self, h.1⟩
    · obtain ⟨y, e1, r⟩ := h.2.mem e
      exact ⟨y, List.mem_cons_of_mem _ e1, r⟩
theorem All2.map_eq {f : α → β} : ∀ {xs : List α} {ys : List β}, All2 R xs ys → (∀ x y, R x y → f x = y) → xs.map f = ys
  | [], [], _, _ => rfl
  | _ :: _, _ :: _, h, q => by rw [List.map_cons, q _ _ h.1, h.2.map_eq q]
theorem All2.of_map {f : α → β} : ∀ {xs : List α}, (∀ x ∈ xs, R x (f x)) → All2 R xs (xs.map f)
  | [], _ => trivial
  | _ :: _, h => ⟨h _ List.mem_cons_self, All2.of_map fun x hx => h x (List.mem_cons_of_mem _ hx)⟩
end
/-- tuples stay -/
def Keeps (H H' : Hp) : Prop := ∀ t xs, H t = some (.tup xs) → H' t = some (.tup xs)
theorem Keeps.refl (H : Hp) : Keeps H H := fun _ _ h => h
theorem Keeps.trans {H H1 H2 : Hp} (a : Keeps H H1) (b : Keeps H1 H2) : Keeps H H2 := fun t xs h => b t xs (a t xs h)
theorem keeps {H H' : Hp} (s : Same H H') : Keeps H H' := fun _ _ h => s _ _ h
theorem keeps_lst {H : Hp} {a : Addr} {xs ys : List V} (h : H a = some (.lst xs)) : Keeps H (upd H a (.lst ys)) := fun t zs e => by
  rw [upd_ne (fun z => by subst z; rw [e] at h; cases h)]
  exact e
theorem keeps_dT {H : Hp} {a : Addr} {xs ys : List (List L2.Key × V)} (h : H a = some (.dT xs)) : Keeps H (upd H a (.dT ys)) := fun t zs e => by
  rw [upd_ne (fun z => by subst z; rw [e] at h; cases h)]
  exact e
theorem keeps_dK {H : Hp} {a : Addr} {xs ys : List (L2.Key × V)} (h : H a = some (.dK xs)) : Keeps H (upd H a (.dK ys)) := fun t zs e => by
  rw [upd_ne (fun z => by subst z; rw [e] at h; cases h)]
  exact e
/-- all but the object at a stays -/
theorem same_but {H H' : Hp} {a : Addr} {o : HO} (h0 : H a = none) (s : Same H H') : Same H (upd H' a o) := fun b u e => by
  rw [upd_ne (fun z => by subst z; rw [h0] at e; cases e)]
  exact s b u e
/-! #### pairs -/
abbrev IP := Int × Int
def Pr (H : Hp) (v : V) (p : IP) : Prop := ∃ t, v = .ref t ∧ H t = some (.tup [.int p.1, .int p.2])
abbrev Prs (H : Hp) : List V → List IP → Prop := All2 (Pr H)
theorem Pr.keep {H H' : Hp} (k : Keeps H H') {v : V} {p : IP} (h : Pr H v p) : Pr H' v p := by
  obtain ⟨t, e, ht⟩ := h
  exact ⟨t, e, k _ _ ht⟩
theorem prs_keep {H H' : Hp} (k : Keeps H H') {vs : List V} {ps : List IP} (h : Prs H vs ps) : Prs H' vs ps := h.mono fun _ _ r => r.keep k
theorem Pr.inj {H : Hp} {v : V} {p q : IP} (h : Pr H v p) (k : Pr H v q) : p = q := by
  obtain ⟨t, rfl, ht⟩ := h
  obtain ⟨u, e, hu⟩ := k
  cases e
  rw [ht] at hu
  have e := HO.tup.inj (Option.some.inj hu)
  injection e with e1 e2
  injection e2 with e2 _
  obtain ⟨a, b⟩ := p
  obtain ⟨c, d⟩ := q
  rw [show a = c from V.int.inj e1, show b = d from V.int.inj e2]
/-- the pair at a value -/
def kOf (H : Hp) : V → IP
  | .ref t => match H t with
    | some (.tup [.int a, .int b]) => (a, b)
    | _ => (0, 0)
  | _ => (0, 0)
theorem Pr.k {H : Hp} {v : V} {p : IP} (h : Pr H v p) : kOf H v = p := by
  obtain ⟨t, rfl, ht⟩ := h
  show (match H t with | some (.tup [.int a, .int b]) => (a, b) | _ => (0, 0)) = p
  rw [ht]
theorem Pr.tup {K : PySem.W.Frag} {H : Hp} {t : Addr} {p : IP} (h : Pr H (.ref t) p) : SqT K H t [.int p.1, .int p.2] := by
  obtain ⟨u, e, hu⟩ := h
  cases e
  exact SqT.of hu
theorem pr_new {H : Hp} {t : Addr} {a b : Int} (h : H t = some (.tup [.int a, .int b])) : Pr H (.ref t) (a, b) := ⟨t, rfl, h⟩
def pD (p : IP) : PyData := .tuple [.int p.1, .int p.2]
theorem dp_pr {K : PySem.W.Frag} {H : Hp} {v : V} {p : IP} (h : Pr H v p) : Dp K H v (pD p) := by
  obtain ⟨t, rfl, ht⟩ := h
  exact dp_ints2 (SqT.of ht)
theorem dp_prs {K : PySem.W.Frag} {H : Hp} : ∀ {vs : List V} {ps : List IP}, Prs H vs ps → DpAll K H vs (ps.map pD)
  | [], [], _ => .nil
  | _ :: _, _ :: _, h => .cons (dp_pr h.1) (dp_prs h.2)
theorem eqv_pD (p q : IP) : PyData.eqv (pD p) (pD q) = decide (p = q) := by
  obtain ⟨a, b⟩ := p
  obtain ⟨c, d⟩ := q
  rw [show PyData.eqv (pD (a, b)) (pD (c, d)) = decide (a = c ∧ b = d) from eqv_ints2 a b c d]
  exact decide_eq_decide.mpr ⟨fun h => by rw [h.1, h.2], fun h => ⟨congrArg Prod.fst h, congrArg Prod.snd h⟩⟩
theorem eqvAll_pD : ∀ ps qs : List IP, PyData.eqvAll (ps.map pD) (qs.map pD) = decide (ps = qs)
  | [], [] => by simp [PyData.eqvAll]
  | [], q :: qs => by simp [PyData.eqvAll]
  | p :: ps, [] => by simp [PyData.eqvAll]
  | p :: ps, q :: qs => by
    rw [List.map_cons, List.map_cons, PyData.eqvAll, eqv_pD, eqvAll_pD ps qs]
    by_cases h : p = q <;> by_cases h2 : ps = qs <;> simp [h, h2]
theorem eqv_list (ps qs : List IP) : PyData.eqv (.list (ps.map pD)) (.list (qs.map pD)) = decide (ps = qs) := by
  rw [PyData.eqv, eqvAll_pD]
theorem any_pD (q : IP) : ∀ ps : List IP, ((ps.map pD).any fun z => PyData.eqv z (pD q)) = decide (q ∈ ps)
  | [] => by simp
  | p :: ps => by
    rw [List.map_cons, List.any_cons, eqv_pD, any_pD q ps]
    by_cases h : p = q
    · subst h; simp
    · have h2 : ¬ q = p := fun e => h e.symm
      simp [h, h2]
theorem lay_pD (p : IP) : (pD p).canLay0 = true := by simp [pD, PyData.canLay0, PyData.canLayAll0]
theorem lays_pD : ∀ ps : List IP, PyData.canLayAll0 (ps.map pD) = true
  | [] => by simp [PyData.canLayAll0]
  | p :: ps => by simp [PyData.canLayAll0, lay_pD p, lays_pD ps]
theorem depth_pD (p : IP) : (pD p).depth = 1 := by simp [pD, PyData.depth, PyData.depthAll]
theorem depths_pD : ∀ ps : List IP, PyData.depthAll (ps.map pD) ≤ 1
  | [] => by simp [PyData.depthAll]
  | p :: ps => by
    have h1 := depths_pD ps
    have h2 := depth_pD p
    simp only [List.map_cons, PyData.depthAll]
    omega
theorem shaped_pD (p : IP) : SeqAt.shaped (pD p) = true := by
  show ((pD p).canLay0 && decide ((pD p).depth ≤ 64)) = true
  rw [lay_pD, depth_pD]
  rfl
theorem shaped_pDs (ps : List IP) : SeqAt.shaped (.list (ps.map pD)) = true := by
  have h1 := depths_pD ps
  have h2 : PyData.depth (.list (ps.map pD)) ≤ 64 := by
    simp only [PyData.depth]
    omega
  show (PyData.canLay0 (.list (ps.map pD)) && decide (PyData.depth (.list (ps.map pD)) ≤ 64)) = true
  rw [Bool.and_eq_true]
  exact ⟨by simp only [PyData.canLay0]; exact lays_pD ps, decide_eq_true h2⟩
section
variable {K : PySem.W.Frag} {H : Hp} {Q : VK} {a b t u : Addr} {v : V} {vs ws : List V} {p q : IP} {ps qs : List IP}
theorem w_eqPL (h1 : SqL K H a vs) (p1 : Prs H vs ps) (h2 : SqL K H b ws) (p2 : Prs H ws qs) (h : Q (.bl (decide (ps = qs))) H) : rEqD K (.ref a) (.ref b) H Q :=
  ⟨_, _, .lst h1 (dp_prs p1), .lst h2 (dp_prs p2), shaped_pDs _, shaped_pDs _, by rw [eqv_list]; exact h⟩
theorem w_nePL (h1 : SqL K H a vs) (p1 : Prs H vs ps) (h2 : SqL K H b ws) (p2 : Prs H ws qs) (h : Q (.bl (!decide (ps = qs))) H) : rNeD K (.ref a) (.ref b) H Q :=
  ⟨_, _, .lst h1 (dp_prs p1), .lst h2 (dp_prs p2), shaped_pDs _, shaped_pDs _, by rw [eqv_list]; exact h⟩
theorem w_eqP (h1 : Pr H (.ref t) p) (h2 : Pr H (.ref u) q) (h : Q (.bl (decide (p = q))) H) : rEqD K (.ref t) (.ref u) H Q :=
  ⟨_, _, dp_pr h1, dp_pr h2, shaped_pD _, shaped_pD _, by rw [eqv_pD]; exact h⟩
theorem w_neP (h1 : Pr H (.ref t) p) (h2 : Pr H (.ref u) q) (h : Q (.bl (!decide (p = q))) H) : rNeD K (.ref t) (.ref u) H Q :=
  ⟨_, _, dp_pr h1, dp_pr h2, shaped_pD _, shaped_pD _, by rw [eqv_pD]; exact h⟩
theorem w_inPL (h1 : Pr H v p) (h2 : SqL K H a vs) (p2 : Prs H vs ps) (h : Q (.bl (decide (p ∈ ps))) H) : rInD K v (.ref a) H Q :=
  ⟨_, _, dp_pr h1, .lst h2 (dp_prs p2), shaped_pD _, shaped_pDs _, by rw [any_pD]; exact h⟩
theorem w_ninPL (h1 : Pr H v p) (h2 : SqL K H a vs) (p2 : Prs H vs ps) (h : Q (.bl (!decide (p ∈ ps))) H) : rNotInD K v (.ref a) H Q :=
  ⟨_, _, dp_pr h1, .lst h2 (dp_prs p2), shaped_pD _, shaped_pDs _, by rw [any_pD]; exact h⟩
end
/-! #### lists of numbers -/
theorem dp_ints {K : PySem.W.Frag} {H : Hp} : ∀ ns : List Int, DpAll K H (ns.map V.int) (ns.map PyData.int)
  | [] => .nil
  | i :: r => .cons (.int i) (dp_ints r)
theorem eqvAll_ints : ∀ ns ms : List Int, PyData.eqvAll (ns.map PyData.int) (ms.map PyData.int) = decide (ns = ms)
  | [], [] => by simp [PyData.eqvAll]
  | [], q :: qs => by simp [PyData.eqvAll]
  | p :: ps, [] => by simp [PyData.eqvAll]
  | p :: ps, q :: qs => by
    rw [List.map_cons, List.map_cons, PyData.eqvAll, eqvAll_ints ps qs, PyData.eqv]
    by_cases h : p = q <;> by_cases h2 : ps = qs <;> simp [h, h2]
theorem lays_ints : ∀ ns : List Int, PyData.canLayAll0 (ns.map PyData.int) = true
  | [] => by simp [PyData.canLayAll0]
  | p :: ps => by simp [PyData.canLayAll0, PyData.canLay0, lays_ints ps]
theorem depths_ints : ∀ ns : List Int, PyData.depthAll (ns.map PyData.int) = 0
  | [] => by simp [PyData.depthAll]
  | p :: ps => by simp [PyData.depthAll, PyData.depth, depths_ints ps]
theorem shaped_ints (ns : List Int) : SeqAt.shaped (.list (ns.map PyData.int)) = true := by
  show (PyData.canLay0 (.list (ns.map PyData.int)) && decide (PyData.depth (.list (ns.map PyData.int)) ≤ 64)) = true
  rw [Bool.and_eq_true]
  exact ⟨by simp only [PyData.canLay0]; exact lays_ints ns, decide_eq_true (by simp only [PyData.depth]; rw [depths_ints]; decide)⟩
theorem w_eqIL {K : PySem.W.Frag} {H : Hp} {Q : VK} {a b : Addr} {ns ms : List Int} (h1 : SqL K H a (ns.map V.int)) (h2 : SqL K H b (ms.map V.int)) (h : Q (.bl (decide (ns = ms))) H) : rEqD K (.ref a) (.ref b) H Q :=
  ⟨_, _, .lst h1 (dp_ints ns), .lst h2 (dp_ints ms), shaped_ints _, shaped_ints _, by rw [PyData.eqv, eqvAll_ints]; exact h⟩
theorem w_neIL {K : PySem.W.Frag} {H : Hp} {Q : VK} {a b : Addr} {ns ms : List Int} (h1 : SqL K H a (ns.map V.int)) (h2 : SqL K H b (ms.map V.int)) (h : Q (.bl (!decide (ns = ms))) H) : rNeD K (.ref a) (.ref b) H Q :=
  ⟨_, _, .lst h1 (dp_ints ns), .lst h2 (dp_ints ms), shaped_ints _, shaped_ints _, by rw [PyData.eqv, eqvAll_ints]; exact h⟩
/-! #### in order -/
def lexLe (p q : IP) : Bool := decide (p.1 < q.1 ∨ (p.1 = q.1 ∧ p.2 ≤ q.2))
theorem lexLe_iff {p q : IP} : lexLe p q = true ↔ (p.1 < q.1 ∨ (p.1 = q.1 ∧ p.2 ≤ q.2)) := decide_eq_true_iff
theorem lexLe_trans (p q r : IP) (h : lexLe p q = true) (k : lexLe q r = true) : lexLe p r = true := by
  have h := lexLe_iff.mp h
  have k := lexLe_iff.mp k
  exact lexLe_iff.mpr (by omega)
theorem lexLe_total (p q : IP) : (lexLe p q || lexLe q p) = true := by
  rw [Bool.or_eq_true, lexLe_iff, lexLe_iff]
  omega
theorem lexLe_anti {p q : IP} (h : lexLe p q = true) (k : lexLe q p = true) : p = q := by
  have h := lexLe_iff.mp h
  have k := lexLe_iff.mp k
  obtain ⟨a, b⟩ := p
  obtain ⟨c, d⟩ := q
  simp only at h k
  have e1 : a = c := by omega
  have e2 : b = d := by omega
  rw [e1, e2]
abbrev Rising (ps : List IP) : Prop := ps.Pairwise fun p q => lexLe p q = true
def sortP (ps : List IP) : List IP := ps.mergeSort lexLe
theorem sortP_perm (ps : List IP) : (sortP ps).Perm ps := List.mergeSort_perm ps lexLe
theorem sortP_rising (ps : List IP) : Rising (sortP ps) := List.pairwise_mergeSort lexLe_trans lexLe_total ps
theorem rising_eq {ps qs : List IP} (h : Rising ps) (k : Rising qs) (e : ps.Perm qs) : ps = qs := List.Perm.eq_of_pairwise (fun _ _ _ _ a b => lexLe_anti a b) h k e
theorem sortP_eq {ps qs : List IP} (h : Rising ps) (e : ps.Perm qs) : sortP qs = ps := rising_eq (sortP_rising qs) h ((sortP_perm qs).trans e.symm)
theorem sortP_self {ps : List IP} (h : Rising ps) : sortP ps = ps := sortP_eq h (List.Perm.refl _)
theorem sortP_congr {ps qs : List IP} (e : ps.Perm qs) : sortP ps = sortP qs := sortP_eq (sortP_rising qs) ((sortP_perm qs).trans e.symm)
theorem sortP_len (ps : List IP) : (sortP ps).length = ps.length := (sortP_perm ps).length_eq
theorem mem_sortP {p : IP} {ps : List IP} : p ∈ sortP ps ↔ p ∈ ps := (sortP_perm ps).mem_iff
theorem lexB_le {p q : IP} (h : SrtO.lexB q p = false) : lexLe p q = true := by
  have h := SrtO.lexB_no.mp h
  exact lexLe_iff.mpr (by omega)
theorem w_sortP {K : PySem.W.Frag} {H : Hp} {Q : VK} {a : Addr} {vs : List V} {ps : List IP} (h1 : SqL K H a vs) (p1 : Prs H vs ps) (h : ∀ ys p, H p = none → Prs H ys (sortP ps) → Q (.ref p) (upd H p (.lst ys))) : rSortedPO K [.ref a] H Q := by
  refine ⟨a, vs, kOf H, rfl, h1, fun x hx => ?_, fun ys p hs hb hp => h ys p hp ?_⟩
  · obtain ⟨q, _, r⟩ := p1.mem hx
    rw [r.k]
    obtain ⟨t, rfl, ht⟩ := r
    exact ⟨t, rfl, ht⟩
  · have e1 : vs.map (kOf H) = ps := p1.map_eq fun _ _ r => r.k
    have pm : (ys.map (kOf H)).Perm ps := by rw [← e1]; exact hb.perm.map _
    have rs : Rising (ys.map (kOf H)) := List.pairwise_map.mpr (hs.imp fun {x y} q => lexB_le q)
    rw [sortP_eq rs pm]
    refine All2.of_map fun y hy => ?_
    obtain ⟨q, _, r⟩ := p1.mem (hb.perm.mem_iff.mp hy)
    rw [r.k]
    exact r
/-- a new list of pairs -/
def PLNew (H : Hp) (ps : List IP) (Q : VK) : Prop := ∀ (p : Addr) (H' : Hp) (ws : List V), Same H H' → H p = none → H' p = some (.lst ws) → Prs H' ws ps → Q (.ref p) H'
/-- a list of pairs that is handed in -/
def PL (K : PySem.W.Frag) (H : Hp) (a : Addr) (ps : List IP) : Prop := ∃ vs, SqL K H a vs ∧ Prs H vs ps
theorem PL.same {K : PySem.W.Frag} {H H' : Hp} {a : Addr} {ps : List IP} (h : PL K H a ps) (s : Same H H') : PL K H' a ps := by
  obtain ⟨vs, h1, h2⟩ := h
  exact ⟨vs, s.seq h1, prs_keep (keeps s) h2⟩
/-! #### comprehensions, item by item -/
section
variable {H : Hp} {Q : VK} {σ : L2.St} {g : TG} {tt : TT} {te : TE} {vs : List Nat} {β : Type} {R : Hp → V → β → Prop}
theorem put_next (mono : ∀ H H' v b, Keeps H H' → R H v b → R H' v b) {H0 H1 H4 : Hp} {D : Addr} {acc : List V} {bs : List β} {y : V} {b : β} {Pv : Hp → Prop} (hD : H0 D = none) (s1 : Same H0 H1) (hd : H1 D = some (.lst acc)) (ha : All2 (R H1) acc bs) (hz : bs.length < 1000000)
    (s4 : Same H1 H4) (hy : R H4 y b) (hp : ∀ H5 acc', Same H0 H5 → H5 D = some (.lst acc') → All2 (R H5) acc' (bs ++ [b]) → Pv H5) : LcPut D Pv y H4 := by
  refine w_put (s4 _ _ hd) (size_lt (by rw [ha.length]; omega)) (hp _ _ (same_but hD (s1.trans s4)) upd_same ?_)
  have k := keeps_lst (ys := acc ++ [y]) (s4 _ _ hd)
  exact (ha.mono fun _ _ r => mono _ _ _ _ k (mono _ _ _ _ (keeps s4) r)).snoc (mono _ _ _ _ k hy)
/-- [f(k) for k in range(n)] -/
theorem w_lcRm (mono : ∀ H H' v b, Keeps H H' → R H v b → R H' v b) {lo : Int} {n : Nat} (f : Nat → β) (hn : n < 1000000)
    (body : ∀ D i H1 (Nx : Hp → Prop), H D = none → i < n → Same H H1 → (∀ y H4, Same H1 H4 → R H4 y (f i) → LcPut D Nx y H4) → g (.int (lo + i)) (wipe σ vs) H1 (LcTurn tt te vs σ D Nx))
    (done : ∀ D H1 ws, H D = none → Same H H1 → H1 D = some (.lst ws) → All2 (R H1) ws ((List.range n).map f) → Q (.ref D) H1) : LcB g tt te vs σ Q (Itr lo n) H := by
  refine w_lcR fun D hD => ⟨fun i H1 => Same H H1 ∧ ∃ acc, H1 D = some (.lst acc) ∧ All2 (R H1) acc ((List.range i).map f), ⟨same_new hD _, [], upd_same, trivial⟩, ?_, ?_⟩
  · rintro i H1 hi ⟨s1, acc, hd, ha⟩
    refine body D i H1 _ hD hi s1 fun y H4 s4 hy => ?_
    refine put_next mono hD s1 hd ha (by rw [List.length_map, List.length_range]; omega) s4 hy fun H5 acc' s5 h5 a5 => ⟨s5, acc', h5, ?_⟩
    rw [List.range_succ, List.map_append]
    exact a5
  · rintro H1 ⟨s1, acc, hd, ha⟩
    exact done D H1 acc hD s1 hd ha
/-- [f(x) for x in xs if p(x)]: the items taken by a relation of their own -/
theorem w_lcLf (mono : ∀ H H' v b, Keeps H H' → R H v b → R H' v b) {K : PySem.W.Frag} {a : Addr} {xs : List V} {γ : Type} {S : Hp → V → γ → Prop} (monoS : ∀ H H' v b, Keeps H H' → S H v b → S H' v b) {cs : List γ} (hl : SqL K H a xs) (hx : All2 (S H) xs cs) (f : γ → β) (pr : γ → Bool) (hn : cs.length < 1000000)
    (body : ∀ D (x : V) (c : γ) H1 (Nx : Hp → Prop), H D = none → c ∈ cs → S H1 x c → Same H H1 → (∀ y H4, pr c = true → Same H1 H4 → R H4 y (f c) → LcPut D Nx y H4) → (∀ H4, pr c = false → Same H1 H4 → Nx H4) → g x (wipe σ vs) H1 (LcTurn tt te vs σ D Nx))
    (done : ∀ D H1 ws, H D = none → Same H H1 → H1 D = some (.lst ws) → All2 (R H1) ws ((cs.filter pr).map f) → Q (.ref D) H1) : LcB g tt te vs σ Q (Itl K a) H := by
  have hlen := hx.length
  refine w_lcL (xs := xs) fun D hD => ⟨fun i H1 => Same H H1 ∧ ∃ acc, H1 D = some (.lst acc) ∧ All2 (R H1) acc (((cs.take i).filter pr).map f), ⟨same_new hD _, [], upd_same, trivial⟩, ?_, ?_, ?_⟩
  · rintro i H1 _ ⟨s1, _⟩
    exact s1.seq hl
  · rintro i x H1 hi ⟨s1, acc, hd, ha⟩
    obtain ⟨c, hc, hs⟩ := hx.get hi
    have hlt : i < cs.length := (List.getElem?_eq_some_iff.mp hc).1
    have hle : (((cs.take i).filter pr).map f).length < 1000000 := by
      rw [List.length_map]
      have := List.length_filter_le pr (cs.take i)
      rw [List.length_take] at this
      omega
    have et : cs.take (i + 1) = cs.take i ++ [c] := by rw [List.take_add_one, hc] <;> rfl
    refine body D x c H1 _ hD (List.mem_of_getElem? hc) (monoS _ _ _ _ (keeps s1) hs) s1 (fun y H4 hp s4 hy => ?_) (fun H4 hp s4 => ?_)
    · refine put_next mono hD s1 hd ha hle s4 hy fun H5 acc' s5 h5 a5 => ⟨s5, acc', h5, ?_⟩
      rw [et, List.filter_append, List.map_append]
      have e1 : List.filter pr [c] = [c] := by simp [hp]
      rw [e1]
      exact a5
    · refine ⟨s1.trans s4, acc, s4 _ _ hd, ?_⟩
      have e1 : List.filter pr [c] = [] := by simp [hp]
      rw [et, List.filter_append, e1, List.append_nil]
      exact ha.mono fun _ _ r => mono _ _ _ _ (keeps s4) r
  · rintro H1 ⟨s1, acc, hd, ha⟩
    rw [hlen, List.take_length] at ha
    exact done D H1 acc hD s1 hd ha
end
theorem pr_mono (H H' : Hp) (v : V) (b : IP) (k : Keeps H H') (h : Pr H v b) : Pr H' v b := h.keep k
/-- an int as an item -/
def In (_ : Hp) (v : V) (i : Int) : Prop := v = .int i
theorem in_mono (H H' : Hp) (v : V) (b : Int) (_ : Keeps H H') (h : In H v b) : In H' v b := h
theorem ins_map {H : Hp} : ∀ {vs : List V} {ns : List Int}, All2 (In H) vs ns → vs = ns.map V.int
  | [], [], _ => rfl
  | _ :: _, _ :: _, h => by rw [List.map_cons, ← ins_map h.2, h.1]
theorem ins_of {H : Hp} : ∀ ns : List Int, All2 (In H) (ns.map V.int) ns
  | [] => trivial
  | _ :: r => ⟨rfl, ins_of r⟩
theorem take_snoc {α : Type} {l : List α} {i : Nat} {x : α} (h : l[i]? = some x) : l.take (i + 1) = l.take i ++ [x] := by rw [List.take_add_one, h] <;> rfl
end Pm
/-! ### cuttings as trees: a leaf is a tie of two neighbours, a node a tie with the post beside it -/
namespace Pm
inductive Tr where
  | leaf
  | node (l r : Tr)
namespace Tr
def w : Tr → Nat
  | leaf => 1
  | node l r => l.w + r.w
theorem w_pos : ∀ t : Tr, 1 ≤ t.w
  | leaf => Nat.le_refl _
  | node l r => by have := l.w_pos; show 1 ≤ l.w + r.w; omega
/-- all ties -/
def all : Nat → Tr → List (Nat × Nat)
  | lo, leaf => [(lo, lo + 1)]
  | lo, node l r => (lo, lo + (l.w + r.w)) :: (l.all lo ++ r.all (lo + l.w))
/-- the ties of nodes -/
def inn : Nat → Tr → List (Nat × Nat)
  | _, leaf => []
  | lo, node l r => (lo, lo + (l.w + r.w)) :: (l.inn lo ++ r.inn (lo + l.w))
/-- the ropes of the whole -/
def ropes : Nat → Tr → List (Nat × Nat)
  | _, leaf => []
  | lo, node l r => l.inn lo ++ r.inn (lo + l.w)
theorem inn_node {lo : Nat} {t : Tr} (h : 2 ≤ t.w) : t.inn lo = (lo, lo + t.w) :: t.ropes lo := by
  cases t with
  | leaf => exact absurd h (by show ¬ 2 ≤ 1; omega)
  | node l r => rfl
theorem bd : ∀ {t : Tr} {lo : Nat} {p : Nat × Nat}, p ∈ t.all lo → lo ≤ p.1 ∧ p.1 < p.2 ∧ p.2 ≤ lo + t.w
  | leaf, lo, p, h => by
    rw [List.mem_singleton.mp h]
    exact ⟨Nat.le_refl _, Nat.lt_succ_self _, Nat.le_refl _⟩
  | node l r, lo, p, h => by
    have wl := l.w_pos
    have wr := r.w_pos
    show lo ≤ p.1 ∧ p.1 < p.2 ∧ p.2 ≤ lo + (l.w + r.w)
    rcases List.mem_cons.mp h with h | h
    · rw [h]; simp only; omega
    · rcases List.mem_append.mp h with h | h
      · have := bd h; omega
      · have := bd h; omega
theorem mem_node {l r : Tr} {lo : Nat} {p : Nat × Nat} : p ∈ (node l r).all lo ↔ p = (lo, lo + (l.w + r.w)) ∨ p ∈ l.all lo ∨ p ∈ r.all (lo + l.w) := by
  show p ∈ _ :: (_ ++ _) ↔ _
  rw [List.mem_cons, List.mem_append]
theorem root_mem {t : Tr} {lo : Nat} : (lo, lo + t.w) ∈ t.all lo := by
  cases t with
  | leaf => exact List.mem_singleton.mpr rfl
  | node l r => exact List.mem_cons_self
theorem inn_all : ∀ {t : Tr} {lo : Nat} {p : Nat × Nat}, p ∈ t.inn lo → p ∈ t.all lo
  | leaf, _, _, h => by cases h
  | node l r, lo, p, h => by
    rw [mem_node]
    rcases List.mem_cons.mp h with h | h
    · exact .inl h
    · rcases List.mem_append.mp h with h | h
      · exact .inr (.inl (inn_all h))
      · exact .inr (.inr (inn_all h))
theorem inn_wide : ∀ {t : Tr} {lo : Nat} {p : Nat × Nat}, p ∈ t.inn lo → p.1 + 2 ≤ p.2
  | leaf, _, _, h => by cases h
  | node l r, lo, p, h => by
    have wl := l.w_pos
    have wr := r.w_pos
    rcases List.mem_cons.mp h with h | h
    · rw [h]; simp only; omega
    · rcases List.mem_append.mp h with h | h
      · exact inn_wide h
      · exact inn_wide h
/-- a tie is one of a node, or of two neighbours -/
theorem all_iff : ∀ {t : Tr} {lo : Nat} {p : Nat × Nat}, p ∈ t.all lo ↔ p ∈ t.inn lo ∨ (lo ≤ p.1 ∧ p.2 = p.1 + 1 ∧ p.2 ≤ lo + t.w)
  | leaf, lo, p => by
    show p ∈ [(lo, lo + 1)] ↔ p ∈ [] ∨ (lo ≤ p.1 ∧ p.2 = p.1 + 1 ∧ p.2 ≤ lo + 1)
    obtain ⟨a, b⟩ := p
    simp only [List.mem_singleton, Prod.mk.injEq, List.not_mem_nil, false_or]
    omega
  | node l r, lo, p => by
    have wl := l.w_pos
    have wr := r.w_pos
    rw [mem_node, all_iff (t := l), all_iff (t := r)]
    show _ ↔ p ∈ _ :: (_ ++ _) ∨ (lo ≤ p.1 ∧ p.2 = p.1 + 1 ∧ p.2 ≤ lo + (l.w + r.w))
    rw [List.mem_cons, List.mem_append]
    constructor
    · rintro (h | (h | h) | (h | h))
      · exact .inl (.inl h)
      · exact .inl (.inr (.inl h))
      · exact .inr (by omega)
      · exact .inl (.inr (.inr h))
      · exact .inr (by omega)
    · rintro ((h | h | h) | h)
      · exact .inl h
      · exact .inr (.inl (.inl h))
      · exact .inr (.inr (.inl h))
      · by_cases c : p.2 ≤ lo + l.w
        · exact .inr (.inl (.inr (by omega)))
        · exact .inr (.inr (.inr (by omega)))
/-- the one post between the ends of a node's tie -/
theorem apex_in : ∀ {t : Tr} {lo a b : Nat}, (a, b) ∈ t.inn lo → ∃ m, (a < m ∧ m < b) ∧ (a, m) ∈ t.all lo ∧ (m, b) ∈ t.all lo ∧ ∀ m', a < m' → m' < b → (a, m') ∈ t.all lo → (m', b) ∈ t.all lo → m' = m
  | leaf, _, _, _, h => by cases h
  | node l r, lo, a, b, h => by
    have wl := l.w_pos
    have wr := r.w_pos
    rcases List.mem_cons.mp h with h | h
    · obtain ⟨rfl, rfl⟩ := Prod.mk.inj h
      refine ⟨a + l.w, ⟨by omega, by omega⟩, mem_node.mpr (.inr (.inl root_mem)), mem_node.mpr (.inr (.inr (by rw [← Nat.add_assoc]; exact root_mem))), fun m' h1 h2 h3 h4 => ?_⟩
      rcases mem_node.mp h3 with e | e | e
      · have := (Prod.mk.inj e).2; omega
      · have q := (bd e).2.2
        simp only at q
        rcases mem_node.mp h4 with e | e | e
        · have := (Prod.mk.inj e).1; omega
        · have := (bd e).2.2; simp only at this; omega
        · have := (bd e).1; simp only at this; omega
      · have := (bd e).1; simp only at this; omega
    · rcases List.mem_append.mp h with h | h
      · have q := bd (inn_all h)
        simp only at q
        obtain ⟨m, hm, h1, h2, u⟩ := apex_in h
        refine ⟨m, hm, mem_node.mpr (.inr (.inl h1)), mem_node.mpr (.inr (.inl h2)), fun m' g1 g2 g3 g4 => u m' g1 g2 ?_ ?_⟩
        · rcases mem_node.mp g3 with e | e | e
          · have := (Prod.mk.inj e).2; omega
          · exact e
          · have := (bd e).1; simp only at this; omega
        · rcases mem_node.mp g4 with e | e | e
          · have := (Prod.mk.inj e).1; omega
          · exact e
          · have := (bd e).1; simp only at this; omega
      · have q := bd (inn_all h)
        simp only at q
        obtain ⟨m, hm, h1, h2, u⟩ := apex_in h
        refine ⟨m, hm, mem_node.mpr (.inr (.inr h1)), mem_node.mpr (.inr (.inr h2)), fun m' g1 g2 g3 g4 => u m' g1 g2 ?_ ?_⟩
        · rcases mem_node.mp g3 with e | e | e
          · have := (Prod.mk.inj e).1; omega
          · have := (bd e).2.2; simp only at this; omega
          · exact e
        · rcases mem_node.mp g4 with e | e | e
          · have := (Prod.mk.inj e).1; omega
          · have := (bd e).2.2; simp only at this; omega
          · exact e
/-- m makes a plot with (a, b) from outside -/
def Out (t : Tr) (lo a b m : Nat) : Prop := (m < a ∧ (m, a) ∈ t.all lo ∧ (m, b) ∈ t.all lo) ∨ (b < m ∧ (a, m) ∈ t.all lo ∧ (b, m) ∈ t.all lo)
theorem Out.up_l {l r : Tr} {lo a b m : Nat} (h : Out l lo a b m) : Out (node l r) lo a b m := by
  rcases h with ⟨h, h1, h2⟩ | ⟨h, h1, h2⟩
  · exact .inl ⟨h, mem_node.mpr (.inr (.inl h1)), mem_node.mpr (.inr (.inl h2))⟩
  · exact .inr ⟨h, mem_node.mpr (.inr (.inl h1)), mem_node.mpr (.inr (.inl h2))⟩
theorem Out.up_r {l r : Tr} {lo a b m : Nat} (h : Out r (lo + l.w) a b m) : Out (node l r) lo a b m := by
  rcases h with ⟨h, h1, h2⟩ | ⟨h, h1, h2⟩
  · exact .inl ⟨h, mem_node.mpr (.inr (.inr h1)), mem_node.mpr (.inr (.inr h2))⟩
  · exact .inr ⟨h, mem_node.mpr (.inr (.inr h1)), mem_node.mpr (.inr (.inr h2))⟩
theorem Out.down_l {l r : Tr} {lo a b m : Nat} (q : lo ≤ a ∧ a < b ∧ b ≤ lo + l.w) (n : ¬ (a = lo ∧ b = lo + l.w)) (h : Out (node l r) lo a b m) : Out l lo a b m := by
  have wr := r.w_pos
  rcases h with ⟨h, h1, h2⟩ | ⟨h, h1, h2⟩
  · refine .inl ⟨h, ?_, ?_⟩
    · rcases mem_node.mp h1 with e | e | e
      · have := (Prod.mk.inj e).2; omega
      · exact e
      · have := (bd e).1; simp only at this; omega
    · rcases mem_node.mp h2 with e | e | e
      · have := (Prod.mk.inj e).2; omega
      · exact e
      · have := (bd e).1; simp only at this; omega
  · have hb : (b, m) ∈ l.all lo ∨ b = lo + l.w := by
      rcases mem_node.mp h2 with e | e | e
      · have := (Prod.mk.inj e).1; omega
      · exact .inl e
      · have := (bd e).1; simp only at this; exact .inr (by omega)
    rcases hb with hb | hb
    · have z := (bd hb).2.2
      simp only at z
      refine .inr ⟨h, ?_, hb⟩
      rcases mem_node.mp h1 with e | e | e
      · have := (Prod.mk.inj e).2; omega
      · exact e
      · have := (bd e).1; simp only at this; omega
    · exfalso
      rcases mem_node.mp h1 with e | e | e
      · have := (Prod.mk.inj e).1; omega
      · have := (bd e).2.2; simp only at this; omega
      · have := (bd e).1; simp only at this; omega
theorem Out.down_r {l r : Tr} {lo a b m : Nat} (q : lo + l.w ≤ a ∧ a < b ∧ b ≤ lo + l.w + r.w) (n : ¬ (a = lo + l.w ∧ b = lo + l.w + r.w)) (h : Out (node l r) lo a b m) : Out r (lo + l.w) a b m := by
  have wl := l.w_pos
  rcases h with ⟨h, h1, h2⟩ | ⟨h, h1, h2⟩
  · have ha : (m, a) ∈ r.all (lo + l.w) ∨ a = lo + l.w := by
      rcases mem_node.mp h1 with e | e | e
      · have := (Prod.mk.inj e).2; omega
      · have := (bd e).2.2; simp only at this; exact .inr (by omega)
      · exact .inl e
    rcases ha with ha | ha
    · have z := (bd ha).1
      simp only at z
      refine .inl ⟨h, ha, ?_⟩
      rcases mem_node.mp h2 with e | e | e
      · have := (Prod.mk.inj e).1; omega
      · have := (bd e).2.2; simp only at this; omega
      · exact e
    · exfalso
      rcases mem_node.mp h2 with e | e | e
      · have := (Prod.mk.inj e).2; omega
      · have := (bd e).2.2; simp only at this; omega
      · have := (bd e).1; simp only at this; omega
  · refine .inr ⟨h, ?_, ?_⟩
    · rcases mem_node.mp h1 with e | e | e
      · have := (Prod.mk.inj e).1; omega
      · have := (bd e).2.2; simp only at this; omega
      · exact e
    · rcases mem_node.mp h2 with e | e | e
      · have := (Prod.mk.inj e).1; omega
      · have := (bd e).2.2; simp only at this; omega
      · exact e
theorem Out.bd {t : Tr} {lo a b m : Nat} (h : Out t lo a b m) : lo ≤ m ∧ m ≤ lo + t.w := by
  rcases h with ⟨h, h1, h2⟩ | ⟨h, h1, h2⟩
  · have := Tr.bd h1; simp only at this; omega
  · have := Tr.bd h1; simp only at this; omega
/-- the one post outside a tie that is not the whole's -/
theorem apex_out : ∀ {t : Tr} {lo a b : Nat}, (a, b) ∈ t.all lo → ¬ (a = lo ∧ b = lo + t.w) → ∃ m, Out t lo a b m ∧ ∀ m', Out t lo a b m' → m' = m
  | leaf, lo, a, b, h, n => by
    exfalso
    obtain ⟨e1, e2⟩ := Prod.mk.inj (List.mem_singleton.mp h)
    exact n ⟨e1, e2⟩
  | node l r, lo, a, b, h, n => by
    have wl := l.w_pos
    have wr := r.w_pos
    rcases mem_node.mp h with h | h | h
    · exact absurd (Prod.mk.inj h) n
    · have q := Tr.bd h
      simp only at q
      by_cases c : a = lo ∧ b = lo + l.w
      · obtain ⟨rfl, rfl⟩ := c
        refine ⟨a + (l.w + r.w), .inr ⟨by omega, mem_node.mpr (.inl rfl), mem_node.mpr (.inr (.inr (by rw [← Nat.add_assoc]; exact root_mem)))⟩, fun m' o => ?_⟩
        rcases o with ⟨h, h1, h2⟩ | ⟨h, h1, h2⟩
        · have := (Tr.bd h1).1; simp only at this; omega
        · rcases mem_node.mp h1 with e | e | e
          · exact (Prod.mk.inj e).2
          · have := (Tr.bd e).2.2; simp only at this; omega
          · have := (Tr.bd e).1; simp only at this; omega
      · obtain ⟨m, o, u⟩ := apex_out h c
        exact ⟨m, o.up_l, fun m' o' => u m' (o'.down_l q c)⟩
    · have q := Tr.bd h
      simp only at q
      by_cases c : a = lo + l.w ∧ b = lo + l.w + r.w
      · obtain ⟨rfl, rfl⟩ := c
        refine ⟨lo, .inl ⟨by omega, mem_node.mpr (.inr (.inl root_mem)), mem_node.mpr (.inl (by rw [Nat.add_assoc]))⟩, fun m' o => ?_⟩
        rcases o with ⟨h, h1, h2⟩ | ⟨h, h1, h2⟩
        · rcases mem_node.mp h2 with e | e | e
          · exact (Prod.mk.inj e).1
          · have := (Tr.bd e).2.2; simp only at this; omega
          · have := (Tr.bd e).1; simp only at this; omega
        · have := (Tr.bd h1).2.2; simp only at this; change m' ≤ lo + (l.w + r.w) at this; omega
      · obtain ⟨m, o, u⟩ := apex_out h c
        exact ⟨m, o.up_r, fun m' o' => u m' (o'.down_r q c)⟩
end Tr
end Pm
/-! ### a cutting drawn ear by ear is a tree -/
namespace Pm
namespace Tr
def graft : Tr → Nat → Tr
  | leaf, _ => node leaf leaf
  | node l r, j => if j < l.w then node (l.graft j) r else node l (r.graft (j - l.w))
theorem w_graft : ∀ {t : Tr} {j : Nat}, j < t.w → (t.graft j).w = t.w + 1
  | leaf, _, _ => rfl
  | node l r, j, h => by
    unfold graft
    split
    · rename_i c
      show (l.graft j).w + r.w = l.w + r.w + 1
      rw [w_graft c]; omega
    · rename_i c
      show l.w + (r.graft (j - l.w)).w = l.w + r.w + 1
      have : j < l.w + r.w := h
      rw [w_graft (by omega)]; omega
def sk (c i : Nat) : Nat := if i < c then i else i + 1
def skp (c : Nat) (p : Nat × Nat) : Nat × Nat := (sk c p.1, sk c p.2)
theorem inn_shift : ∀ (t : Tr) (lo : Nat), t.inn (lo + 1) = (t.inn lo).map fun p => (p.1 + 1, p.2 + 1)
  | leaf, _ => rfl
  | node l r, lo => by
    show (lo + 1, lo + 1 + (l.w + r.w)) :: (l.inn (lo + 1) ++ r.inn (lo + 1 + l.w)) = ((lo, lo + (l.w + r.w)) :: (l.inn lo ++ r.inn (lo + l.w))).map _
    rw [List.map_cons, List.map_append, inn_shift l lo, show lo + 1 + l.w = lo + l.w + 1 by omega, inn_shift r (lo + l.w)]
    congr 2
    omega
theorem ropes_shift (t : Tr) (lo : Nat) : t.ropes (lo + 1) = (t.ropes lo).map fun p => (p.1 + 1, p.2 + 1) := by
  cases t with
  | leaf => rfl
  | node l r =>
    show l.inn (lo + 1) ++ r.inn (lo + 1 + l.w) = (l.inn lo ++ r.inn (lo + l.w)).map _
    rw [List.map_append, inn_shift l lo, show lo + 1 + l.w = lo + l.w + 1 by omega, inn_shift r (lo + l.w)]
theorem skp_up {t : Tr} {lo c : Nat} (h : c ≤ lo) : (t.inn lo).map (skp c) = t.inn (lo + 1) := by
  rw [inn_shift]
  refine List.map_congr_left fun p hp => ?_
  have q := bd (inn_all hp)
  unfold skp sk
  rw [if_neg (by omega), if_neg (by omega)]
theorem skp_down {t : Tr} {lo c : Nat} (h : lo + t.w < c) : (t.inn lo).map (skp c) = t.inn lo := by
  conv => rhs; rw [← List.map_id (t.inn lo)]
  refine List.map_congr_left fun p hp => ?_
  have q := bd (inn_all hp)
  unfold skp sk
  rw [if_pos (by omega), if_pos (by omega)]
  rfl
theorem inn_graft : ∀ {t : Tr} {lo j : Nat}, j < t.w → ((t.graft j).inn lo).Perm ((lo + j, lo + j + 2) :: (t.inn lo).map (skp (lo + j + 1)))
  | leaf, lo, j, h => by
    have : j = 0 := by have h : j < 1 := h; omega
    subst this
    exact List.Perm.refl _
  | node l r, lo, j, h => by
    have h : j < l.w + r.w := h
    have wr := r.w_pos
    have wl := l.w_pos
    show ((graft (node l r) j).inn lo).Perm ((lo + j, lo + j + 2) :: ((lo, lo + (l.w + r.w)) :: (l.inn lo ++ r.inn (lo + l.w))).map _)
    rw [List.map_cons, List.map_append]
    have e0 : skp (lo + j + 1) (lo, lo + (l.w + r.w)) = (lo, lo + (l.w + r.w) + 1) := by
      unfold skp sk
      rw [if_pos (by omega), if_neg (by omega)]
    rw [e0]
    unfold graft
    split
    · rename_i c
      show ((lo, lo + ((l.graft j).w + r.w)) :: ((l.graft j).inn lo ++ r.inn (lo + (l.graft j).w))).Perm _
      rw [w_graft c, skp_up (t := r) (show lo + j + 1 ≤ lo + l.w by omega), show lo + (l.w + 1 + r.w) = lo + (l.w + r.w) + 1 by omega, show lo + (l.w + 1) = lo + l.w + 1 by omega]
      exact ((inn_graft c).append_right _).cons _ |>.trans (List.Perm.swap _ _ _)
    · rename_i c
      have c' : j - l.w < r.w := by omega
      show ((lo, lo + (l.w + (r.graft (j - l.w)).w)) :: (l.inn lo ++ (r.graft (j - l.w)).inn (lo + l.w))).Perm _
      have ih := inn_graft (t := r) (lo := lo + l.w) c'
      rw [show lo + l.w + (j - l.w) = lo + j by omega] at ih
      rw [w_graft c', skp_down (t := l) (show lo + l.w < lo + j + 1 by omega), show lo + (l.w + (r.w + 1)) = lo + (l.w + r.w) + 1 by omega]
      refine ((ih.append_left _).cons _).trans ?_
      refine (List.Perm.cons _ List.perm_middle).trans (List.Perm.swap _ _ _)
theorem ropes_graft {t : Tr} {j : Nat} (h : j < t.w) (h2 : 2 ≤ t.w) : ((t.graft j).ropes 0).Perm ((j, j + 2) :: (t.ropes 0).map (skp (j + 1))) := by
  have q := inn_graft (lo := 0) h
  rw [inn_node (t := t) h2, inn_node (t := t.graft j) (by rw [w_graft h]; omega), w_graft h, List.map_cons] at q
  have e0 : skp (0 + j + 1) (0, 0 + t.w) = (0, 0 + (t.w + 1)) := by
    unfold skp sk
    rw [if_pos (by omega), if_neg (by omega)]
    congr 1
  rw [e0] at q
  have q2 := q.trans (List.Perm.swap _ _ _)
  have q3 := q2.cons_inv
  rw [Nat.zero_add] at q3
  exact q3
end Tr
abbrev Ear := Int × Int × Int
/-- all ears of a ring, cut off one by one -/
inductive Ears : List Int → List Ear → Prop
  | done {L : List Int} (h : L.length ≤ 3) : Ears L []
  | step {L : List Int} {es : List Ear} (k : Nat) (h3 : 3 < L.length) (hk : k < L.length) (t : Ears (L.eraseIdx k) es) :
      Ears L ((L.getD k 0, L.getD ((k + L.length - 1) % L.length) 0, L.getD ((k + 1) % L.length) 0) :: es)
def tieOf (a b : Int) : IP := (min a b, max a b)
def ropeOf (e : Ear) : IP := tieOf e.2.1 e.2.2
theorem getD_erase (L : List Int) (k i : Nat) : (L.eraseIdx k).getD i 0 = L.getD (Tr.sk k i) 0 := by
  rw [List.getD_eq_getElem?_getD, List.getD_eq_getElem?_getD, List.getElem?_eraseIdx]
  unfold Tr.sk
  split <;> rfl
theorem rise_get {L : List Int} (h : L.Pairwise (· < ·)) {i j : Nat} (hij : i < j) (hj : j < L.length) : L.getD i 0 < L.getD j 0 := by
  have q := List.pairwise_iff_getElem.mp h i j (by omega) hj hij
  rw [List.getD_eq_getElem?_getD, List.getD_eq_getElem?_getD, List.getElem?_eq_getElem (by omega), List.getElem?_eq_getElem hj]
  exact q
def atP (L : List Int) (p : Nat × Nat) : IP := (L.getD p.1 0, L.getD p.2 0)
theorem atP_erase (L : List Int) (k : Nat) (p : Nat × Nat) : atP (L.eraseIdx k) p = atP L (Tr.skp k p) := by
  unfold atP Tr.skp
  rw [getD_erase, getD_erase]
theorem tie_lt {a b : Int} (h : a < b) : tieOf a b = (a, b) := by unfold tieOf; rw [Int.min_eq_left (by omega), Int.max_eq_right (by omega)]
theorem tie_gt {a b : Int} (h : a < b) : tieOf b a = (a, b) := by unfold tieOf; rw [Int.min_eq_right (by omega), Int.max_eq_left (by omega)]
theorem drawn_tree {L : List Int} {es : List Ear} (h : Ears L es) : L.Pairwise (· < ·) → 3 ≤ L.length → ∃ t : Tr, t.w + 1 = L.length ∧ (es.map ropeOf).Perm ((t.ropes 0).map (atP L)) := by
  induction h with
  | done h =>
    intro _ h3
    exact ⟨.node .leaf .leaf, by show 2 + 1 = _; omega, List.Perm.refl _⟩
  | @step L es k h3 hk _ ih =>
    intro rise _
    have le : (L.eraseIdx k).length = L.length - 1 := List.length_eraseIdx_of_lt hk
    obtain ⟨t, hw, hp⟩ := ih (rise.sublist (List.eraseIdx_sublist L k)) (by omega)
    have w2 : 2 ≤ t.w := by omega
    have hp : (es.map ropeOf).Perm ((t.ropes 0).map fun p => atP L (Tr.skp k p)) := by
      rw [show (fun p => atP L (Tr.skp k p)) = atP (L.eraseIdx k) from funext fun p => (atP_erase L k p).symm]
      exact hp
    by_cases k0 : k = 0
    · subst k0
      refine ⟨.node .leaf t, by show 1 + t.w + 1 = _; omega, ?_⟩
      have e1 : (Tr.node .leaf t).ropes 0 = (1, 1 + t.w) :: (t.ropes 0).map (Tr.skp 0) := by
        show [] ++ t.inn (0 + 1) = _
        rw [List.nil_append, Tr.inn_node w2, Tr.ropes_shift]
        rfl
      have e2 : (0 + L.length - 1) % L.length = L.length - 1 := by rw [Nat.zero_add]; exact Nat.mod_eq_of_lt (by omega)
      have e3 : (0 + 1) % L.length = 1 := Nat.mod_eq_of_lt (by omega)
      rw [List.map_cons, e1, List.map_cons, List.map_map]
      have e4 : ropeOf (L.getD 0 0, L.getD ((0 + L.length - 1) % L.length) 0, L.getD ((0 + 1) % L.length) 0) = atP L (1, 1 + t.w) := by
        unfold ropeOf atP
        rw [e2, e3]
        simp only
        rw [show 1 + t.w = L.length - 1 by omega]
        exact tie_gt (rise_get rise (by omega) (by omega))
      rw [e4]
      exact hp.cons _
    · by_cases km : k = L.length - 1
      · refine ⟨.node t .leaf, by show t.w + 1 + 1 = _; omega, ?_⟩
        have e1 : (Tr.node t .leaf).ropes 0 = (0, t.w) :: t.ropes 0 := by
          show t.inn 0 ++ [] = _
          rw [List.append_nil, Tr.inn_node w2, Nat.zero_add]
        have e2 : (k + L.length - 1) % L.length = k - 1 := by
          rw [show k + L.length - 1 = (k - 1) + L.length by omega, Nat.add_mod_right]
          exact Nat.mod_eq_of_lt (by omega)
        have e3 : (k + 1) % L.length = 0 := by
          rw [show k + 1 = L.length by omega]
          exact Nat.mod_self _
        have e5 : (t.ropes 0).map (fun p => atP L (Tr.skp k p)) = (t.ropes 0).map (atP L) := by
          refine List.map_congr_left fun p hp => ?_
          have hin : p ∈ t.inn 0 := by rw [Tr.inn_node w2]; exact List.mem_cons_of_mem _ hp
          have q := Tr.bd (Tr.inn_all hin)
          unfold Tr.skp Tr.sk
          rw [if_pos (by omega), if_pos (by omega)]
        rw [e5] at hp
        rw [List.map_cons, e1, List.map_cons]
        have e4 : ropeOf (L.getD k 0, L.getD ((k + L.length - 1) % L.length) 0, L.getD ((k + 1) % L.length) 0) = atP L (0, t.w) := by
          unfold ropeOf atP
          rw [e2, e3]
          simp only
          rw [show t.w = k - 1 by omega]
          exact tie_gt (rise_get rise (by omega) (by omega))
        rw [e4]
        exact hp.cons _
      · refine ⟨t.graft (k - 1), by rw [Tr.w_graft (by omega)]; omega, ?_⟩
        have e1 := Tr.ropes_graft (t := t) (j := k - 1) (by omega) w2
        rw [show k - 1 + 1 = k by omega, show k - 1 + 2 = k + 1 by omega] at e1
        have e2 : (k + L.length - 1) % L.length = k - 1 := by
          rw [show k + L.length - 1 = (k - 1) + L.length by omega, Nat.add_mod_right]
          exact Nat.mod_eq_of_lt (by omega)
        have e3 : (k + 1) % L.length = k + 1 := Nat.mod_eq_of_lt (by omega)
        have e4 : ropeOf (L.getD k 0, L.getD ((k + L.length - 1) % L.length) 0, L.getD ((k + 1) % L.length) 0) = atP L (k - 1, k + 1) := by
          unfold ropeOf atP
          rw [e2, e3]
          exact tie_lt (rise_get rise (by omega) (by omega))
        rw [List.map_cons, e4]
        refine (hp.cons _).trans ?_
        have q := (e1.map (atP L)).symm
        rw [List.map_cons, List.map_map] at q
        exact q
def castP (p : Nat × Nat) : IP := ((p.1 : Int), (p.2 : Int))
/-- the posts of a ring -/
def posts (n : Nat) : List Int := (List.range n).map fun i : Nat => (i : Int)
theorem posts_len (n : Nat) : (posts n).length = n := by rw [posts, List.length_map, List.length_range]
theorem posts_rise (n : Nat) : (posts n).Pairwise (· < ·) := by
  rw [posts, List.pairwise_map]
  exact List.pairwise_lt_range.imp fun h => by omega
theorem posts_get {n i : Nat} (h : i < n) : (posts n).getD i 0 = (i : Int) := by
  rw [posts, List.getD_eq_getElem?_getD, List.getElem?_map, List.getElem?_range h] <;> rfl
theorem ropes_bd {t : Tr} {p : Nat × Nat} (hp : p ∈ t.ropes 0) : p ∈ t.inn 0 ∧ ¬ (p.1 = 0 ∧ p.2 = t.w) := by
  cases t with
  | leaf => cases hp
  | node l r =>
    have wl := l.w_pos
    have wr := r.w_pos
    refine ⟨List.mem_cons_of_mem _ hp, ?_⟩
    show ¬ (p.1 = 0 ∧ p.2 = l.w + r.w)
    rcases List.mem_append.mp hp with h | h
    · have := Tr.bd (Tr.inn_all h); omega
    · have := Tr.bd (Tr.inn_all h); omega
theorem drawn_posts {n : Nat} {es : List Ear} (h : Ears (posts n) es) (hn : 3 ≤ n) : ∃ t : Tr, t.w + 1 = n ∧ (es.map ropeOf).Perm ((t.ropes 0).map castP) := by
  obtain ⟨t, hw, hp⟩ := drawn_tree h (posts_rise n) (by rw [posts_len]; exact hn)
  rw [posts_len] at hw
  refine ⟨t, hw, ?_⟩
  have e : (t.ropes 0).map (atP (posts n)) = (t.ropes 0).map castP := by
    refine List.map_congr_left fun p hp => ?_
    have q := Tr.bd (Tr.inn_all (ropes_bd hp).1)
    unfold atP castP
    rw [posts_get (by omega), posts_get (by omega)]
  rw [e] at hp
  exact hp
end Pm
namespace Pm
open PySem PySem.Spec PyProof.Rows L2
/-! ### sides, ties, the posts beside -/
def sides0 (n : Nat) : List IP := ((List.range (n - 1)).map fun k : Nat => ((k : Int), (k : Int) + 1)) ++ [(0, (n : Int) - 1)]
def sidesL (n : Nat) : List IP := sortP (sides0 n)
def tiesL (n : Nat) (cut : List IP) : List IP := sortP (sides0 n ++ cut)
theorem sides0_len {n : Nat} (h : 1 ≤ n) : (sides0 n).length = n := by
  rw [sides0, List.length_append, List.length_map, List.length_range, List.length_singleton]; omega
theorem tiesL_eq (n : Nat) (cut : List IP) : sortP (sidesL n ++ cut) = tiesL n cut := sortP_congr ((sortP_perm _).append_right _)
theorem mem_ties {n : Nat} {cut : List IP} {p : IP} : p ∈ tiesL n cut ↔ p ∈ sides0 n ∨ p ∈ cut := by rw [tiesL, mem_sortP, List.mem_append]
def isBeside (T : List IP) (a b : Int) (c : Nat) : Bool := decide (tieOf a c ∈ T) && decide (tieOf b c ∈ T)
def besideL (n : Nat) (T : List IP) (a b : Int) : List Int := ((List.range n).filter (isBeside T a b)).map fun c : Nat => (c : Int)
/-- a tracked list of pairs -/
def PLt (H : Hp) (a : Addr) (ps : List IP) : Prop := ∃ vs, H a = some (.lst vs) ∧ Prs H vs ps
theorem PLt.same {H H' : Hp} {a : Addr} {ps : List IP} (h : PLt H a ps) (s : Same H H') : PLt H' a ps := by
  obtain ⟨vs, h1, h2⟩ := h
  exact ⟨vs, s _ _ h1, prs_keep (keeps s) h2⟩
theorem PLt.upd {H : Hp} {a b : Addr} {ps : List IP} {xs ys : List V} (h : PLt H a ps) (n : a ≠ b) (hb : H b = some (.lst xs)) : PLt (upd H b (.lst ys)) a ps := by
  obtain ⟨vs, h1, h2⟩ := h
  exact ⟨vs, by rw [upd_ne n]; exact h1, prs_keep (keeps_lst hb) h2⟩
/-- an ear as a tuple -/
def Er (H : Hp) (v : V) (e : Ear) : Prop := ∃ t, v = .ref t ∧ H t = some (.tup [.int e.1, .int e.2.1, .int e.2.2])
theorem er_mono (H H' : Hp) (v : V) (e : Ear) (k : Keeps H H') (h : Er H v e) : Er H' v e := by
  obtain ⟨t, rfl, ht⟩ := h
  exact ⟨t, rfl, k _ _ ht⟩
theorem er_new {H : Hp} {t : Addr} {a b c : Int} (h : H t = some (.tup [.int a, .int b, .int c])) : Er H (.ref t) (a, b, c) := ⟨t, rfl, h⟩
end Pm
/-! ### cuttings and their ties -/
namespace Pm
open PySem PySem.Spec PyProof.Rows L2
/-- cut is the cutting of the tree t -/
structure Cutting (n : Nat) (cut : List IP) (t : Tr) : Prop where
  w : t.w + 1 = n
  n3 : 3 ≤ n
  perm : cut.Perm ((t.ropes 0).map castP)
  rise : Rising cut
theorem drawn_cutting {n : Nat} {es : List Ear} (h : Ears (posts n) es) (hn : 3 ≤ n) : ∃ t, Cutting n (sortP (es.map ropeOf)) t := by
  obtain ⟨t, hw, hp⟩ := drawn_posts h hn
  exact ⟨t, hw, hn, (sortP_perm _).trans hp, sortP_rising _⟩
theorem castP_inj {p q : Nat × Nat} (h : castP p = castP q) : p = q := by
  obtain ⟨a, b⟩ := p
  obtain ⟨c, d⟩ := q
  have e1 := congrArg Prod.fst h
  have e2 := congrArg Prod.snd h
  simp only [castP] at e1 e2
  rw [show a = c by omega, show b = d by omega]
theorem mem_sides0 {n : Nat} {p : IP} (hn : 2 ≤ n) : p ∈ sides0 n ↔ (∃ k : Nat, k + 1 < n ∧ p = castP (k, k + 1)) ∨ p = castP (0, n - 1) := by
  unfold sides0
  rw [List.mem_append, List.mem_map, List.mem_singleton]
  constructor
  · rintro (⟨k, hk, rfl⟩ | rfl)
    · exact .inl ⟨k, by have := List.mem_range.mp hk; omega, by simp [castP]⟩
    · exact .inr (by simp only [castP]; congr 1; omega)
  · rintro (⟨k, hk, rfl⟩ | rfl)
    · exact .inl ⟨k, List.mem_range.mpr (by omega), by simp [castP]⟩
    · exact .inr (by simp only [castP]; congr 1; omega)
section
variable {n : Nat} {cut : List IP} {t : Tr}
theorem Cutting.mem (C : Cutting n cut t) {p : IP} : p ∈ cut ↔ ∃ q, q ∈ t.ropes 0 ∧ p = castP q := by
  rw [C.perm.mem_iff, List.mem_map]
  exact ⟨fun ⟨q, h, e⟩ => ⟨q, h, e.symm⟩, fun ⟨q, h, e⟩ => ⟨q, h, e.symm⟩⟩
theorem Cutting.w2 (C : Cutting n cut t) : 2 ≤ t.w := by have := C.w; have := C.n3; omega
theorem inn_iff {q : Nat × Nat} (h : 2 ≤ t.w) : q ∈ t.inn 0 ↔ q = (0, t.w) ∨ q ∈ t.ropes 0 := by
  rw [Tr.inn_node h, List.mem_cons, Nat.zero_add]
theorem ropes_iff {q : Nat × Nat} (h : 2 ≤ t.w) : q ∈ t.ropes 0 ↔ q ∈ t.inn 0 ∧ q ≠ (0, t.w) := by
  constructor
  · intro hq
    have z := ropes_bd hq
    exact ⟨z.1, fun e => z.2 (by rw [e]; exact ⟨rfl, rfl⟩)⟩
  · rintro ⟨h1, h2⟩
    exact ((inn_iff h).mp h1).resolve_left h2
theorem Cutting.ties (C : Cutting n cut t) {p : IP} : p ∈ tiesL n cut ↔ ∃ q, q ∈ t.all 0 ∧ p = castP q := by
  have h2 := C.w2
  have hw := C.w
  rw [mem_ties, mem_sides0 (by omega), C.mem]
  constructor
  · rintro ((⟨k, hk, rfl⟩ | rfl) | ⟨q, hq, rfl⟩)
    · exact ⟨_, Tr.all_iff.mpr (.inr ⟨Nat.zero_le _, rfl, by simp only; omega⟩), rfl⟩
    · refine ⟨_, Tr.inn_all ((inn_iff h2).mpr (.inl rfl)), ?_⟩
      rw [← hw] <;> rfl
    · exact ⟨q, Tr.inn_all ((inn_iff h2).mpr (.inr hq)), rfl⟩
  · rintro ⟨q, hq, rfl⟩
    rcases Tr.all_iff.mp hq with h | ⟨_, h, h'⟩
    · rcases (inn_iff h2).mp h with rfl | h
      · refine .inl (.inr ?_)
        rw [← hw] <;> rfl
      · exact .inr ⟨q, h, rfl⟩
    · refine .inl (.inl ⟨q.1, by omega, ?_⟩)
      obtain ⟨a, b⟩ := q
      simp only at h
      rw [h]
theorem Cutting.tied (C : Cutting n cut t) {a b : Nat} : castP (a, b) ∈ tiesL n cut ↔ (a, b) ∈ t.all 0 := by
  rw [C.ties]
  exact ⟨fun ⟨q, h, e⟩ => by rw [castP_inj e]; exact h, fun h => ⟨_, h, rfl⟩⟩
theorem tie_cast (a c : Nat) : tieOf (a : Int) (c : Int) = castP (min a c, max a c) := by
  unfold tieOf castP
  simp only
  congr 1 <;> omega
theorem tie_comm (a b : Int) : tieOf a b = tieOf b a := by unfold tieOf; rw [Int.min_comm, Int.max_comm]
theorem beside_comm (T : List IP) (a b : Int) : besideL n T a b = besideL n T b a := by
  unfold besideL
  congr 2
  funext c
  unfold isBeside
  rw [Bool.and_comm]
/-- beside: between, or outside -/
theorem Cutting.beside_iff (C : Cutting n cut t) {a b c : Nat} (hab : a < b) : isBeside (tiesL n cut) a b c = true ↔ ((a < c ∧ c < b) ∧ (a, c) ∈ t.all 0 ∧ (c, b) ∈ t.all 0) ∨ Tr.Out t 0 a b c := by
  unfold isBeside
  rw [Bool.and_eq_true, decide_eq_true_iff, decide_eq_true_iff, tie_cast, tie_cast, C.tied, C.tied]
  rcases Nat.lt_trichotomy c a with h | h | h
  · rw [Nat.min_eq_right (by omega), Nat.max_eq_left (by omega), Nat.min_eq_right (by omega), Nat.max_eq_left (by omega)]
    unfold Tr.Out
    constructor
    · exact fun q => .inr (.inl ⟨h, q⟩)
    · rintro (⟨q, _⟩ | ⟨_, q⟩ | ⟨q, _⟩)
      · omega
      · exact q
      · omega
  · subst h
    rw [Nat.min_self, Nat.max_self]
    constructor
    · rintro ⟨q, _⟩
      have := (Tr.bd q).2.1
      simp only at this
      omega
    · unfold Tr.Out
      rintro (⟨q, _⟩ | ⟨q, _⟩ | ⟨q, _⟩) <;> omega
  · rw [Nat.min_eq_left (by omega), Nat.max_eq_right (by omega)]
    rcases Nat.lt_trichotomy c b with h' | h' | h'
    · rw [Nat.min_eq_right (by omega), Nat.max_eq_left (by omega)]
      unfold Tr.Out
      constructor
      · exact fun q => .inl ⟨⟨h, h'⟩, q⟩
      · rintro (⟨_, q⟩ | ⟨q, _⟩ | ⟨q, _⟩)
        · exact q
        · omega
        · omega
    · subst h'
      rw [Nat.min_self, Nat.max_self]
      constructor
      · rintro ⟨_, q⟩
        have := (Tr.bd q).2.1
        simp only at this
        omega
      · unfold Tr.Out
        rintro (⟨q, _⟩ | ⟨q, _⟩ | ⟨q, _⟩) <;> omega
    · rw [Nat.min_eq_left (by omega), Nat.max_eq_right (by omega)]
      unfold Tr.Out
      constructor
      · exact fun q => .inr (.inr ⟨h', q⟩)
      · rintro (⟨q, _⟩ | ⟨q, _⟩ | ⟨_, q⟩)
        · omega
        · omega
        · exact q
end
theorem filter_range_eq {n : Nat} {p : Nat → Bool} {l : List Nat} (hl : l.Pairwise (· < ·)) (h : ∀ c, c ∈ l ↔ c < n ∧ p c = true) : (List.range n).filter p = l := by
  have h1 : ((List.range n).filter p).Pairwise (· < ·) := List.pairwise_lt_range.sublist List.filter_sublist
  have nd : ∀ {l : List Nat}, l.Pairwise (· < ·) → l.Nodup := fun q => q.imp fun z => by omega
  refine List.Perm.eq_of_pairwise (le := (· < ·)) (fun a b _ _ h1 h2 => absurd h1 (by omega)) h1 hl ((List.perm_ext_iff_of_nodup (nd h1) (nd hl)).mpr fun c => ?_)
  rw [List.mem_filter, List.mem_range, h]
section
variable {n : Nat} {cut : List IP} {t : Tr}
/-- the posts beside a rope: the one between, the one outside -/
theorem Cutting.beside_rope (C : Cutting n cut t) {a b : Nat} (h : (a, b) ∈ t.ropes 0) : ∃ m o : Nat, (a < m ∧ m < b) ∧ (a, m) ∈ t.all 0 ∧ (m, b) ∈ t.all 0 ∧ Tr.Out t 0 a b o ∧ (o < a ∨ b < o) ∧ o < n ∧
    besideL n (tiesL n cut) a b = [((min m o : Nat) : Int), ((max m o : Nat) : Int)] := by
  have hw := C.w
  have hi := (ropes_bd h)
  have hb := Tr.bd (Tr.inn_all hi.1)
  simp only at hb
  obtain ⟨m, hm, h1, h2, u⟩ := Tr.apex_in hi.1
  obtain ⟨o, ho, uo⟩ := Tr.apex_out (Tr.inn_all hi.1) (by rw [Nat.zero_add]; exact hi.2)
  have bo := ho.bd
  have oo : o < a ∨ b < o := by
    rcases ho with ⟨q, _⟩ | ⟨q, _⟩
    · exact .inl q
    · exact .inr q
  refine ⟨m, o, hm, h1, h2, ho, oo, by omega, ?_⟩
  have e : (List.range n).filter (isBeside (tiesL n cut) a b) = [min m o, max m o] := by
    refine filter_range_eq ?_ fun c => ?_
    · refine List.pairwise_cons.mpr ⟨fun c hc => ?_, List.pairwise_singleton _ _⟩
      rw [List.mem_singleton.mp hc]
      omega
    · rw [C.beside_iff hb.2.1, List.mem_cons, List.mem_singleton]
      constructor
      · intro hc
        have : c = m ∨ c = o := by omega
        rcases this with rfl | rfl
        · exact ⟨by omega, .inl ⟨hm, h1, h2⟩⟩
        · exact ⟨by omega, .inr ho⟩
      · rintro ⟨_, ⟨hc, q1, q2⟩ | hc⟩
        · have := u c hc.1 hc.2 q1 q2; omega
        · have := uo c hc; omega
  unfold besideL
  rw [e]
  rfl
/-- one post beside a side -/
theorem Cutting.beside_side (C : Cutting n cut t) {a b : Nat} (h : (a, b) ∈ t.all 0) (h' : (a, b) ∉ t.ropes 0) : ∃ m : Nat, m < n ∧ besideL n (tiesL n cut) a b = [(m : Int)] := by
  have hw := C.w
  have w2 := C.w2
  have hb := Tr.bd h
  simp only at hb
  suffices hs : ∃ m : Nat, m < n ∧ ∀ c, (((a < c ∧ c < b) ∧ (a, c) ∈ t.all 0 ∧ (c, b) ∈ t.all 0) ∨ Tr.Out t 0 a b c) ↔ c = m by
    obtain ⟨m, hm, hc⟩ := hs
    refine ⟨m, hm, ?_⟩
    have e : (List.range n).filter (isBeside (tiesL n cut) a b) = [m] := by
      refine filter_range_eq (List.pairwise_singleton _ _) fun c => ?_
      rw [C.beside_iff hb.2.1, hc, List.mem_singleton]
      exact ⟨fun e => ⟨by omega, e⟩, fun e => e.2⟩
    unfold besideL
    rw [e]
    rfl
  rcases Tr.all_iff.mp h with hi | hi
  · have er : (a, b) = (0, t.w) := by
      rcases (inn_iff w2).mp hi with e | e
      · exact e
      · exact absurd e h'
    obtain ⟨rfl, rfl⟩ := Prod.mk.inj er
    obtain ⟨m, hm, h1, h2, u⟩ := Tr.apex_in hi
    refine ⟨m, by omega, fun c => ⟨?_, fun e => .inl (by rw [e]; exact ⟨hm, h1, h2⟩)⟩⟩
    rintro (⟨q, q1, q2⟩ | q)
    · exact u c q.1 q.2 q1 q2
    · have := q.bd
      rcases q with ⟨q, _⟩ | ⟨q, _⟩ <;> omega
  · simp only at hi
    have nr : ¬ (a = 0 ∧ b = 0 + t.w) := by omega
    obtain ⟨o, ho, uo⟩ := Tr.apex_out h nr
    have := ho.bd
    refine ⟨o, by omega, fun c => ⟨?_, fun e => .inr (by rw [e]; exact ho)⟩⟩
    rintro (⟨q, _⟩ | q)
    · omega
    · exact uo c q
/-- how many posts are beside a tie -/
theorem Cutting.beside_len (C : Cutting n cut t) {a b : Int} (h : tieOf a b ∈ tiesL n cut) : (besideL n (tiesL n cut) a b).length = 1 + (if tieOf a b ∈ cut then 1 else 0) := by
  obtain ⟨⟨x, y⟩, hq, e⟩ := C.ties.mp h
  have hb := Tr.bd hq
  simp only at hb
  have main : (besideL n (tiesL n cut) (x : Int) (y : Int)).length = 1 + (if castP (x, y) ∈ cut then 1 else 0) := by
    by_cases hr : (x, y) ∈ t.ropes 0
    · obtain ⟨m, o, _, _, _, _, _, _, z⟩ := C.beside_rope hr
      rw [z, if_pos (C.mem.mpr ⟨_, hr, rfl⟩)]
      rfl
    · obtain ⟨m, _, z⟩ := C.beside_side hq hr
      rw [z, if_neg (fun hc => by
        obtain ⟨q, h1, h2⟩ := C.mem.mp hc
        rw [← castP_inj h2] at h1
        exact hr h1)]
      rfl
  rw [e]
  have e1 := congrArg Prod.fst e
  have e2 := congrArg Prod.snd e
  simp only [tieOf, castP] at e1 e2
  by_cases hab : a ≤ b
  · rw [Int.min_eq_left hab] at e1
    rw [Int.max_eq_right hab] at e2
    rw [e1, e2]
    exact main
  · rw [Int.min_eq_right (by omega)] at e1
    rw [Int.max_eq_left (by omega)] at e2
    rw [beside_comm, e1, e2]
    exact main
end
end Pm
/-! ### a rope turned: the tree rotated -/
namespace Pm
namespace Tr
theorem noncross : ∀ {t : Tr} {lo : Nat} {p q : Nat × Nat}, p ∈ t.all lo → q ∈ t.all lo → ¬ (p.1 < q.1 ∧ q.1 < p.2 ∧ p.2 < q.2)
  | leaf, lo, p, q, hp, hq => by
    rw [List.mem_singleton.mp hp, List.mem_singleton.mp hq]
    simp only
    omega
  | node l r, lo, p, q, hp, hq => by
    have bp := bd hp
    have bq := bd hq
    have e : (node l r).w = l.w + r.w := rfl
    rw [e] at bp bq
    rcases mem_node.mp hp with h | h | h <;> rcases mem_node.mp hq with k | k | k
    · rw [h, k]; simp only; omega
    · rw [h]; simp only; omega
    · rw [h]; simp only; omega
    · rw [k]; simp only; omega
    · exact noncross h k
    · have := bd h; have := bd k; omega
    · rw [k]; simp only; omega
    · have := bd h; have := bd k; omega
    · exact noncross h k
theorem inn_nodup : ∀ (t : Tr) (lo : Nat), (t.inn lo).Nodup
  | leaf, _ => List.nodup_nil
  | node l r, lo => by
    have wl := l.w_pos
    have wr := r.w_pos
    show ((lo, lo + (l.w + r.w)) :: (l.inn lo ++ r.inn (lo + l.w))).Nodup
    refine List.nodup_cons.mpr ⟨fun h => ?_, List.nodup_append.mpr ⟨inn_nodup l lo, inn_nodup r _, fun a ha b hb e => ?_⟩⟩
    · rcases List.mem_append.mp h with h | h
      · have := bd (inn_all h); simp only at this; omega
      · have := bd (inn_all h); simp only at this; omega
    · subst e
      have := bd (inn_all ha)
      have := bd (inn_all hb)
      omega
theorem ropes_nodup (t : Tr) (lo : Nat) : (t.ropes lo).Nodup := by
  cases t with
  | leaf => exact List.nodup_nil
  | node l r => exact (List.nodup_cons.mp (inn_nodup (node l r) lo)).2
/-- the tree turned at the rope (x, y), its ropes by a common rest R; m between, o outside -/
structure Flip (t t' : Tr) (lo x y m o : Nat) (R : List (Nat × Nat)) : Prop where
  w : t'.w = t.w
  old : (t.ropes lo).Perm ((x, y) :: R)
  new : (t'.ropes lo).Perm ((min m o, max m o) :: R)
  btw : x < m ∧ m < y
  out : Out t lo x y o
  am : (x, m) ∈ t.all lo
  mb : (m, y) ∈ t.all lo
theorem flip_up_l {l l' r : Tr} {lo x y m o : Nat} {R : List (Nat × Nat)} (hl : 2 ≤ l.w) (F : Flip l l' lo x y m o R) : Flip (node l r) (node l' r) lo x y m o ((lo, lo + l.w) :: (R ++ r.inn (lo + l.w))) := by
  refine ⟨?_, ?_, ?_, F.btw, F.out.up_l, mem_node.mpr (.inr (.inl F.am)), mem_node.mpr (.inr (.inl F.mb))⟩
  · show l'.w + r.w = l.w + r.w
    rw [F.w]
  · show (l.inn lo ++ r.inn (lo + l.w)).Perm _
    rw [inn_node hl]
    exact ((F.old.append_right _).cons _).trans (List.Perm.swap _ _ _)
  · show (l'.inn lo ++ r.inn (lo + l'.w)).Perm _
    rw [inn_node (show 2 ≤ l'.w by rw [F.w]; exact hl), F.w]
    exact ((F.new.append_right _).cons _).trans (List.Perm.swap _ _ _)
theorem flip_up_r {l r r' : Tr} {lo x y m o : Nat} {R : List (Nat × Nat)} (hr : 2 ≤ r.w) (F : Flip r r' (lo + l.w) x y m o R) : Flip (node l r) (node l r') lo x y m o ((lo + l.w, lo + l.w + r.w) :: (R ++ l.inn lo)) := by
  refine ⟨?_, ?_, ?_, F.btw, F.out.up_r, mem_node.mpr (.inr (.inr F.am)), mem_node.mpr (.inr (.inr F.mb))⟩
  · show l.w + r'.w = l.w + r.w
    rw [F.w]
  · show (l.inn lo ++ r.inn (lo + l.w)).Perm _
    rw [inn_node hr]
    refine List.perm_append_comm.trans ?_
    exact ((F.old.append_right _).cons _).trans (List.Perm.swap _ _ _)
  · show (l.inn lo ++ r'.inn (lo + l.w)).Perm _
    rw [inn_node (show 2 ≤ r'.w by rw [F.w]; exact hr), F.w]
    refine List.perm_append_comm.trans ?_
    exact ((F.new.append_right _).cons _).trans (List.Perm.swap _ _ _)
theorem flip : ∀ {t : Tr} {lo x y : Nat}, (x, y) ∈ t.ropes lo → ∃ t' m o R, Flip t t' lo x y m o R
  | leaf, _, _, _, h => by cases h
  | node l r, lo, x, y, h => by
    have wl := l.w_pos
    have wr := r.w_pos
    rcases List.mem_append.mp h with h | h
    · have wl2 : 2 ≤ l.w := by
        cases l with
        | leaf => cases h
        | node a b => have := a.w_pos; have := b.w_pos; show 2 ≤ a.w + b.w; omega
      rw [inn_node wl2] at h
      rcases List.mem_cons.mp h with h | h
      · obtain ⟨rfl, rfl⟩ := Prod.mk.inj h
        cases l with
        | leaf => exact absurd wl2 (by show ¬ 2 ≤ 1; omega)
        | node a b =>
          have wa := a.w_pos
          have wb := b.w_pos
          refine ⟨node a (node b r), x + a.w, x + (a.w + b.w + r.w), a.inn x ++ (b.inn (x + a.w) ++ r.inn (x + (a.w + b.w))), ?_, ?_, ?_, ?_, ?_, ?_, ?_⟩
          · show a.w + (b.w + r.w) = a.w + b.w + r.w; omega
          · show (((x, x + (a.w + b.w)) :: (a.inn x ++ b.inn (x + a.w))) ++ r.inn (x + (a.w + b.w))).Perm _
            rw [List.cons_append, List.append_assoc]
            exact List.Perm.refl _
          · show (a.inn x ++ ((x + a.w, x + a.w + (b.w + r.w)) :: (b.inn (x + a.w) ++ r.inn (x + a.w + b.w)))).Perm _
            rw [Nat.min_eq_left (by omega), Nat.max_eq_right (by omega), show x + a.w + (b.w + r.w) = x + (a.w + b.w + r.w) by omega, show x + a.w + b.w = x + (a.w + b.w) by omega]
            exact List.perm_middle
          · show x < x + a.w ∧ x + a.w < x + (a.w + b.w); omega
          · refine .inr ⟨?_, mem_node.mpr (.inl rfl), mem_node.mpr (.inr (.inr ?_))⟩
            · show x + (a.w + b.w) < x + (a.w + b.w + r.w); omega
            · show (x + (a.w + b.w), x + (a.w + b.w + r.w)) ∈ r.all (x + (a.w + b.w))
              rw [show x + (a.w + b.w + r.w) = x + (a.w + b.w) + r.w by omega]; exact root_mem
          · exact mem_node.mpr (.inr (.inl (mem_node.mpr (.inr (.inl root_mem)))))
          · refine mem_node.mpr (.inr (.inl (mem_node.mpr (.inr (.inr ?_)))))
            show (x + a.w, x + (a.w + b.w)) ∈ b.all (x + a.w)
            rw [show x + (a.w + b.w) = x + a.w + b.w by omega]; exact root_mem
      · obtain ⟨l', m, o, R, F⟩ := flip h
        exact ⟨node l' r, m, o, _, flip_up_l wl2 F⟩
    · have wr2 : 2 ≤ r.w := by
        cases r with
        | leaf => cases h
        | node a b => have := a.w_pos; have := b.w_pos; show 2 ≤ a.w + b.w; omega
      rw [inn_node wr2] at h
      rcases List.mem_cons.mp h with h | h
      · obtain ⟨rfl, rfl⟩ := Prod.mk.inj h
        cases r with
        | leaf => exact absurd wr2 (by show ¬ 2 ≤ 1; omega)
        | node a b =>
          have wa := a.w_pos
          have wb := b.w_pos
          refine ⟨node (node l a) b, lo + l.w + a.w, lo, l.inn lo ++ (a.inn (lo + l.w) ++ b.inn (lo + l.w + a.w)), ?_, ?_, ?_, ?_, ?_, ?_, ?_⟩
          · show l.w + a.w + b.w = l.w + (a.w + b.w); omega
          · show (l.inn lo ++ ((lo + l.w, lo + l.w + (a.w + b.w)) :: (a.inn (lo + l.w) ++ b.inn (lo + l.w + a.w)))).Perm _
            exact List.perm_middle
          · show (((lo, lo + (l.w + a.w)) :: (l.inn lo ++ a.inn (lo + l.w))) ++ b.inn (lo + (l.w + a.w))).Perm _
            rw [Nat.min_eq_right (by omega), Nat.max_eq_left (by omega), List.cons_append, List.append_assoc, show lo + (l.w + a.w) = lo + l.w + a.w by omega]
          · show lo + l.w < lo + l.w + a.w ∧ lo + l.w + a.w < lo + l.w + (a.w + b.w); omega
          · refine .inl ⟨by omega, mem_node.mpr (.inr (.inl root_mem)), mem_node.mpr (.inl ?_)⟩
            show (lo, lo + l.w + (a.w + b.w)) = (lo, lo + (l.w + (a.w + b.w)))
            congr 1
            omega
          · exact mem_node.mpr (.inr (.inr (mem_node.mpr (.inr (.inl root_mem)))))
          · refine mem_node.mpr (.inr (.inr (mem_node.mpr (.inr (.inr ?_)))))
            show (lo + l.w + a.w, lo + l.w + (a.w + b.w)) ∈ b.all (lo + l.w + a.w)
            rw [show lo + l.w + (a.w + b.w) = lo + l.w + a.w + b.w by omega]; exact root_mem
      · obtain ⟨r', m, o, R, F⟩ := flip h
        exact ⟨node l r', m, o, _, flip_up_r wr2 F⟩
end Tr
open PySem PySem.Spec PyProof.Rows L2
/-- the cutting behind a turning -/
def turnedL (n : Nat) (cut : List IP) (a b : Int) : List IP :=
  let e := besideL n (tiesL n cut) a b
  sortP (cut.filter (fun p => !decide (p = tieOf a b)) ++ [(e.getD 0 0, e.getD 1 0)])
structure Turning (n : Nat) (cut : List IP) (t t' : Tr) (x y m o : Nat) (R : List (Nat × Nat)) : Prop where
  F : Tr.Flip t t' 0 x y m o R
  bes : besideL n (tiesL n cut) x y = [((min m o : Nat) : Int), ((max m o : Nat) : Int)]
  out : o < x ∨ y < o
  on : o < n
  rest : (cut.filter (fun p => !decide (p = castP (x, y)))).Perm (R.map castP)
  cut' : Cutting n (turnedL n cut x y) t'
theorem Cutting.turn {n : Nat} {cut : List IP} {t : Tr} (C : Cutting n cut t) {x y : Nat} (h : (x, y) ∈ t.ropes 0) : ∃ t' m o R, Turning n cut t t' x y m o R := by
  obtain ⟨t', m, o, R, F⟩ := Tr.flip h
  obtain ⟨m2, o2, hm2, h1, h2, ho2, oo, on, eb⟩ := C.beside_rope h
  have hi := (ropes_bd h).1
  obtain ⟨m3, _, _, _, u⟩ := Tr.apex_in hi
  have em : m = m2 := (u m F.btw.1 F.btw.2 F.am F.mb).trans (u m2 hm2.1 hm2.2 h1 h2).symm
  obtain ⟨o3, _, uo⟩ := Tr.apex_out (Tr.inn_all hi) (by rw [Nat.zero_add]; exact (ropes_bd h).2)
  have eo : o = o2 := (uo o F.out).trans (uo o2 ho2).symm
  subst em; subst eo
  have pc : cut.Perm (castP (x, y) :: R.map castP) := C.perm.trans (F.old.map castP)
  have hb := Tr.bd (Tr.inn_all hi)
  simp only at hb
  have nR : castP (x, y) ∉ R.map castP := fun q => by
    obtain ⟨z, hz, e⟩ := List.mem_map.mp q
    rw [castP_inj e] at hz
    have nd := (F.old.nodup_iff).mp (Tr.ropes_nodup t 0)
    exact (List.nodup_cons.mp nd).1 hz
  have rest : (cut.filter (fun p => !decide (p = castP (x, y)))).Perm (R.map castP) := by
    refine (pc.filter _).trans ?_
    rw [List.filter_cons_of_neg (by simp)]
    rw [List.filter_eq_self.mpr]
    intro p hp
    have : p ≠ castP (x, y) := fun e => nR (by rw [← e]; exact hp)
    simp [this]
  have tx : tieOf (x : Int) (y : Int) = castP (x, y) := by rw [tie_cast, Nat.min_eq_left (by omega), Nat.max_eq_right (by omega)]
  refine ⟨t', m, o, R, F, eb, oo, on, rest, ?_, C.n3, ?_, sortP_rising _⟩
  · rw [F.w]; exact C.w
  · unfold turnedL
    simp only
    rw [eb, tx]
    refine (sortP_perm _).trans ?_
    refine (rest.append_right _).trans ?_
    refine (List.perm_append_singleton _ _).trans ?_
    exact (F.new.map castP).symm
/-- the new rope of a turning -/
theorem turned_comm (n : Nat) (cut : List IP) (a b : Int) : turnedL n cut a b = turnedL n cut b a := by
  unfold turnedL
  rw [beside_comm, tie_comm]
section
variable {n : Nat} {cut : List IP} {t t' : Tr} {x y m o : Nat} {R : List (Nat × Nat)}
theorem Turning.all_iff (C : Cutting n cut t) (U : Turning n cut t t' x y m o R) {q : Nat × Nat} : q ∈ t'.all 0 ↔ (q ∈ t.all 0 ∧ q ≠ (x, y)) ∨ q = (min m o, max m o) := by
  have h : (x, y) ∈ t.ropes 0 := U.F.old.mem_iff.mpr List.mem_cons_self
  have w2 := C.w2
  have w2' : 2 ≤ t'.w := by rw [U.F.w]; exact w2
  have nd := (U.F.old.nodup_iff).mp (Tr.ropes_nodup t 0)
  have wide := Tr.inn_wide (ropes_bd h).1
  simp only at wide
  have hr := (ropes_iff w2).mp h
  rw [Tr.all_iff, Tr.all_iff, inn_iff w2, inn_iff w2', U.F.old.mem_iff, U.F.new.mem_iff, List.mem_cons, List.mem_cons, U.F.w]
  constructor
  · rintro ((e | e | e) | e)
    · refine .inl ⟨.inl (.inl e), fun z => hr.2 (by rw [← z]; exact e)⟩
    · exact .inr e
    · refine .inl ⟨.inl (.inr (.inr e)), fun z => (List.nodup_cons.mp nd).1 (by rw [← z]; exact e)⟩
    · refine .inl ⟨.inr e, fun z => ?_⟩
      rw [z] at e
      simp only at e
      omega
  · rintro (⟨(e | e | e) | e, ne⟩ | e)
    · exact .inl (.inl e)
    · exact absurd e ne
    · exact .inl (.inr (.inr e))
    · exact .inr e
    · exact .inl (.inr (.inl e))
/-- the new rope crosses the old one -/
theorem Turning.cross (C : Cutting n cut t) (U : Turning n cut t t' x y m o R) : (x < m ∧ m < y ∧ y < o ∧ min m o = m ∧ max m o = o) ∨ (o < x ∧ x < m ∧ m < y ∧ min m o = o ∧ max m o = m) := by
  have b := U.F.btw
  rcases U.out with h | h <;> omega
/-- turned again, the old cutting -/
theorem Turning.back (C : Cutting n cut t) (U : Turning n cut t t' x y m o R) : (min m o, max m o) ∈ t'.ropes 0 ∧ turnedL n (turnedL n cut x y) ((min m o : Nat) : Int) ((max m o : Nat) : Int) = cut := by
  have hnew : (min m o, max m o) ∈ t'.ropes 0 := U.F.new.mem_iff.mpr List.mem_cons_self
  refine ⟨hnew, ?_⟩
  obtain ⟨t2, m2, o2, R2, U2⟩ := U.cut'.turn hnew
  have hold : (x, y) ∈ t.ropes 0 := U.F.old.mem_iff.mpr List.mem_cons_self
  have b := U.F.btw
  have cr := U.cross C
  -- the four ties round the rope stay
  have keep : ∀ {q : Nat × Nat}, q ∈ t.all 0 → q ≠ (x, y) → q ∈ t'.all 0 := fun h1 h2 => (U.all_iff C).mpr (.inl ⟨h1, h2⟩)
  have hi2 := (ropes_bd hnew).1
  obtain ⟨m3, hm3, _, _, u⟩ := Tr.apex_in hi2
  obtain ⟨o3, ho3, uo⟩ := Tr.apex_out (Tr.inn_all hi2) (by rw [Nat.zero_add]; exact (ropes_bd hnew).2)
  have em2 : m2 = m3 := u m2 U2.F.btw.1 U2.F.btw.2 U2.F.am U2.F.mb
  have eo2 : o2 = o3 := uo o2 U2.F.out
  have kam : (x, m) ∈ t'.all 0 := keep U.F.am (fun e => by have := (Prod.mk.inj e).2; omega)
  have kmb : (m, y) ∈ t'.all 0 := keep U.F.mb (fun e => by have := (Prod.mk.inj e).1; omega)
  have both : min m2 o2 = x ∧ max m2 o2 = y := by
    rcases U.F.out with ⟨ho, h1, h2⟩ | ⟨ho, h1, h2⟩
    · have k1 := keep h1 (fun e => by have := (Prod.mk.inj e).2; omega)
      have k2 := keep h2 (fun e => by have := (Prod.mk.inj e).1; omega)
      have e1 : min m o = o := by omega
      have e2 : max m o = m := by omega
      rw [e1, e2] at u uo
      have ex : x = m3 := u x ho b.1 k1 kam
      have ey : y = o3 := uo y (.inr ⟨b.2, k2, kmb⟩)
      omega
    · have k1 := keep h1 (fun e => by have := (Prod.mk.inj e).2; omega)
      have k2 := keep h2 (fun e => by have := (Prod.mk.inj e).1; omega)
      have e1 : min m o = m := by omega
      have e2 : max m o = o := by omega
      rw [e1, e2] at u uo
      have ey : y = m3 := u y b.2 ho kmb k2
      have ex : x = o3 := uo x (.inl ⟨b.1, kam, k1⟩)
      omega
  refine rising_eq (sortP_rising _) C.rise ?_
  have p2 := U2.cut'.perm
  refine p2.trans ?_
  have q1 : (t2.ropes 0).Perm ((x, y) :: R2) := by have := U2.F.new; rw [both.1, both.2] at this; exact this
  have q2 : R2.Perm R := by
    have z := (U2.F.old.symm.trans U.F.new).cons_inv
    exact z
  refine (q1.map castP).trans ?_
  refine ((q2.cons _).map castP).trans ?_
  exact ((C.perm.trans (U.F.old.map castP))).symm
end
end Pm
namespace Pm
open PySem PySem.Spec PyProof.Rows L2
/-! ### two pairs that cross -/
def crossP (a b c d : Int) : Prop := (c ≠ min a b ∧ c ≠ max a b ∧ d ≠ min a b ∧ d ≠ max a b) ∧ ¬ ((min a b < c ∧ c < max a b) ↔ (min a b < d ∧ d < max a b))
instance (a b c d : Int) : Decidable (crossP a b c d) := by unfold crossP; exact inferInstance

theorem cross_no {a b c d : Int} (h : c = min a b ∨ c = max a b ∨ d = min a b ∨ d = max a b) : decide (crossP a b c d) = false := by
  refine decide_eq_false fun q => ?_
  obtain ⟨⟨h1, h2, h3, h4⟩, _⟩ := q
  rcases h with h | h | h | h
  · exact h1 h
  · exact h2 h
  · exact h3 h
  · exact h4 h
theorem cross_is {a b c d : Int} {x y : Bool} (h : c ≠ min a b ∧ c ≠ max a b ∧ d ≠ min a b ∧ d ≠ max a b) (hx : x = decide (min a b < c ∧ c < max a b)) (hy : y = decide (min a b < d ∧ d < max a b)) : (!(x == y)) = decide (crossP a b c d) := by
  subst hx; subst hy
  by_cases h1 : (min a b < c ∧ c < max a b) <;> by_cases h2 : (min a b < d ∧ d < max a b)
  · rw [decide_eq_true h1, decide_eq_true h2, decide_eq_false (show ¬ crossP a b c d from fun q => q.2 ⟨fun _ => h2, fun _ => h1⟩)]; rfl
  · rw [decide_eq_true h1, decide_eq_false h2, decide_eq_true (show crossP a b c d from ⟨h, fun q => h2 (q.mp h1)⟩)]; rfl
  · rw [decide_eq_false h1, decide_eq_true h2, decide_eq_true (show crossP a b c d from ⟨h, fun q => h1 (q.mpr h2)⟩)]; rfl
  · rw [decide_eq_false h1, decide_eq_false h2, decide_eq_false (show ¬ crossP a b c d from fun q => q.2 ⟨fun z => absurd z h1, fun z => absurd z h2⟩)]; rfl
def spCross (K : PySem.W.Frag) : Sp := fun vs H Q _ => ∃ (t u : Addr) (a b c d : Int), vs = [.ref t, .ref u] ∧ SqT K H t [.int a, .int b] ∧ SqT K H u [.int c, .int d] ∧ Q (.bl (decide (crossP a b c d))) H
theorem mem2 {a b c : Int} : c ∈ [a, b] ↔ c = min a b ∨ c = max a b := by
  rw [List.mem_cons, List.mem_singleton]
  omega
theorem cross_iff {a b c d : Int} (h1 : a < b) (h2 : c < d) : crossP a b c d ↔ (a < c ∧ c < b ∧ b < d) ∨ (c < a ∧ a < d ∧ d < b) := by
  unfold crossP
  rw [Int.min_eq_left (by omega), Int.max_eq_right (by omega)]
  omega
/-- ties of a cutting do not cross -/
theorem Cutting.nocross {n : Nat} {cut : List IP} {t : Tr} (C : Cutting n cut t) {p q : IP} (hp : p ∈ tiesL n cut) (hq : q ∈ tiesL n cut) : ¬ crossP p.1 p.2 q.1 q.2 := by
  obtain ⟨⟨a, b⟩, ha, rfl⟩ := C.ties.mp hp
  obtain ⟨⟨c, d⟩, hc, rfl⟩ := C.ties.mp hq
  have h1 := Tr.bd ha
  have h2 := Tr.bd hc
  simp only at h1 h2
  have n1 := Tr.noncross ha hc
  have n2 := Tr.noncross hc ha
  simp only at n1 n2
  simp only [castP]
  rw [cross_iff (by omega) (by omega)]
  omega
section
variable {n : Nat} {cut : List IP} {t t' : Tr} {x y m o : Nat} {R : List (Nat × Nat)}
theorem Turning.rope_mem (U : Turning n cut t t' x y m o R) : (x, y) ∈ t.ropes 0 := U.F.old.mem_iff.mpr List.mem_cons_self
theorem Turning.new_mem (U : Turning n cut t t' x y m o R) : (min m o, max m o) ∈ t'.ropes 0 := U.F.new.mem_iff.mpr List.mem_cons_self
theorem Turning.cutP (C : Cutting n cut t) (U : Turning n cut t t' x y m o R) : cut.Perm (castP (x, y) :: R.map castP) := C.perm.trans (U.F.old.map castP)
theorem Turning.newP (U : Turning n cut t t' x y m o R) : (turnedL n cut x y).Perm (castP (min m o, max m o) :: R.map castP) := U.cut'.perm.trans (U.F.new.map castP)
theorem Turning.len (C : Cutting n cut t) (U : Turning n cut t t' x y m o R) : (turnedL n cut x y).length = cut.length := by
  rw [U.newP.length_eq, (U.cutP C).length_eq] <;> rfl
theorem Turning.new_cross (C : Cutting n cut t) (U : Turning n cut t t' x y m o R) : crossP (castP (min m o, max m o)).1 (castP (min m o, max m o)).2 (castP (x, y)).1 (castP (x, y)).2 := by
  have c := U.cross C
  have b := U.F.btw
  simp only [castP]
  rw [cross_iff (by omega) (by omega)]
  omega
theorem Turning.new_notin (C : Cutting n cut t) (U : Turning n cut t t' x y m o R) : castP (min m o, max m o) ∉ tiesL n cut := fun h => by
  exact C.nocross h (mem_ties.mpr (.inr (C.mem.mpr ⟨_, U.rope_mem, rfl⟩))) (U.new_cross C)
theorem Turning.old_notin (C : Cutting n cut t) (U : Turning n cut t t' x y m o R) : castP (x, y) ∉ turnedL n cut x y := fun h => by
  have h2 : castP (x, y) ∈ tiesL n (turnedL n cut x y) := mem_ties.mpr (.inr h)
  have h3 : castP (min m o, max m o) ∈ tiesL n (turnedL n cut x y) := mem_ties.mpr (.inr (U.cut'.mem.mpr ⟨_, U.new_mem, rfl⟩))
  exact U.cut'.nocross h3 h2 (U.new_cross C)
theorem Turning.fresh (C : Cutting n cut t) (U : Turning n cut t t' x y m o R) : (turnedL n cut x y).filter (fun p => !decide (p ∈ cut)) = [castP (min m o, max m o)] := by
  have pp := U.newP.filter (fun p => !decide (p ∈ cut))
  rw [List.filter_cons_of_pos (by
    have : castP (min m o, max m o) ∉ cut := fun h => U.new_notin C (mem_ties.mpr (.inr h))
    simp [this])] at pp
  have e2 : (R.map castP).filter (fun p => !decide (p ∈ cut)) = [] := List.filter_eq_nil_iff.mpr (fun p hp => by
    have : p ∈ cut := (U.cutP C).mem_iff.mpr (List.mem_cons_of_mem _ hp)
    simp [this])
  rw [e2] at pp
  exact List.perm_singleton.mp pp
theorem Turning.keeps (C : Cutting n cut t) (U : Turning n cut t t' x y m o R) {p : IP} (hp : p ∈ cut) (hne : p ≠ castP (x, y)) : p ∈ turnedL n cut x y ∧ ¬ crossP p.1 p.2 (castP (min m o, max m o)).1 (castP (min m o, max m o)).2 := by
  have h1 : p ∈ turnedL n cut x y := by
    rcases List.mem_cons.mp ((U.cutP C).mem_iff.mp hp) with e | e
    · exact absurd e hne
    · exact U.newP.mem_iff.mpr (List.mem_cons_of_mem _ e)
  exact ⟨h1, U.cut'.nocross (mem_ties.mpr (.inr h1)) (mem_ties.mpr (.inr (U.cut'.mem.mpr ⟨_, U.new_mem, rfl⟩)))⟩
theorem Turning.new_bd (C : Cutting n cut t) (U : Turning n cut t t' x y m o R) : min m o < max m o ∧ max m o < n := by
  have h := Tr.bd (Tr.inn_all (ropes_bd U.new_mem).1)
  have := U.cut'.w
  simp only at h
  omega
end
/-- any two numbers that are a rope -/
theorem Cutting.rope_of {n : Nat} {cut : List IP} {t : Tr} (C : Cutting n cut t) {a b : Int} (h : tieOf a b ∈ cut) : ∃ x y : Nat, (x, y) ∈ t.ropes 0 ∧ tieOf a b = castP (x, y) ∧ x < y ∧ y < n ∧ ((a = x ∧ b = y) ∨ (a = y ∧ b = x)) := by
  obtain ⟨⟨x, y⟩, hq, e⟩ := C.mem.mp h
  have hb := Tr.bd (Tr.inn_all (ropes_bd hq).1)
  have hw := C.w
  simp only at hb
  refine ⟨x, y, hq, e, hb.2.1, by omega, ?_⟩
  have e1 := congrArg Prod.fst e
  have e2 := congrArg Prod.snd e
  simp only [tieOf, castP] at e1 e2
  omega
theorem Cutting.beside2 {n : Nat} {cut : List IP} {t : Tr} (C : Cutting n cut t) {a b : Int} (h : tieOf a b ∈ cut) : 2 ≤ (besideL n (tiesL n cut) a b).length := by
  rw [C.beside_len (mem_ties.mpr (.inr h)), if_pos h]
  decide
theorem Cutting.turned_any {n : Nat} {cut : List IP} {t : Tr} (C : Cutting n cut t) {a b : Int} (h : tieOf a b ∈ cut) : ∃ t' x y m o R, Turning n cut t t' x y m o R ∧ tieOf a b = castP (x, y) ∧ turnedL n cut a b = turnedL n cut x y := by
  obtain ⟨x, y, hq, e, _, _, c⟩ := C.rope_of h
  obtain ⟨t', m, o, R, U⟩ := C.turn hq
  refine ⟨t', x, y, m, o, R, U, e, ?_⟩
  rcases c with ⟨rfl, rfl⟩ | ⟨rfl, rfl⟩
  · rfl
  · exact turned_comm _ _ _ _
end Pm
/-! ### nested tuples of numbers, their order, sorted lists of them -/
namespace Pm
inductive ND where
  | i (n : Int)
  | t (xs : List ND)
namespace ND
mutual
def cmp : ND → ND → Ordering
  | .i a, .i b => compare a b
  | .i _, .t _ => .lt
  | .t _, .i _ => .gt
  | .t xs, .t ys => cmpL xs ys
def cmpL : List ND → List ND → Ordering
  | [], [] => .eq
  | [], _ :: _ => .lt
  | _ :: _, [] => .gt
  | x :: xs, y :: ys => (cmp x y).then (cmpL xs ys)
end
mutual
theorem cmp_swap : ∀ x y : ND, cmp y x = (cmp x y).swap
  | .i a, .i b => by simp only [cmp]; exact Std.OrientedCmp.eq_swap
  | .i _, .t _ => rfl
  | .t _, .i _ => rfl
  | .t xs, .t ys => by simp only [cmp]; exact cmpL_swap xs ys
theorem cmpL_swap : ∀ xs ys : List ND, cmpL ys xs = (cmpL xs ys).swap
  | [], [] => rfl
  | [], _ :: _ => rfl
  | _ :: _, [] => rfl
  | x :: xs, y :: ys => by
    simp only [cmpL]
    rw [cmp_swap x y, cmpL_swap xs ys]
    cases cmp x y <;> cases cmpL xs ys <;> rfl
end
mutual
theorem cmp_eq : ∀ {x y : ND}, cmp x y = .eq → x = y
  | .i a, .i b, h => by
    simp only [cmp] at h
    rw [show a = b from Std.LawfulEqCmp.eq_of_compare h]
  | .i _, .t _, h => by cases h
  | .t _, .i _, h => by cases h
  | .t xs, .t ys, h => by
    simp only [cmp] at h
    rw [cmpL_eq h]
theorem cmpL_eq : ∀ {xs ys : List ND}, cmpL xs ys = .eq → xs = ys
  | [], [], _ => rfl
  | [], _ :: _, h => by cases h
  | _ :: _, [], h => by cases h
  | x :: xs, y :: ys, h => by
    simp only [cmpL] at h
    cases e : cmp x y with
    | eq =>
      rw [e] at h
      rw [cmp_eq e, cmpL_eq (xs := xs) (ys := ys) h]
    | lt => rw [e] at h; cases h
    | gt => rw [e] at h; cases h
end
mutual
theorem cmp_self : ∀ x : ND, cmp x x = .eq
  | .i a => by simp only [cmp]; exact Std.ReflCmp.compare_self
  | .t xs => by simp only [cmp]; exact cmpL_self xs
theorem cmpL_self : ∀ xs : List ND, cmpL xs xs = .eq
  | [] => rfl
  | x :: xs => by simp only [cmpL]; rw [cmp_self x, cmpL_self xs]; rfl
end
theorem int_lt {a b : Int} : compare a b = .lt ↔ a < b := Int.compare_eq_lt
mutual
theorem cmp_trans : ∀ {x y z : ND}, cmp x y = .lt → cmp y z = .lt → cmp x z = .lt
  | .i a, .i b, .i c, h, k => by
    simp only [cmp] at h k ⊢
    rw [int_lt] at h k ⊢
    omega
  | .i _, .i _, .t _, _, _ => rfl
  | .i _, .t _, .i _, _, k => by cases k
  | .i _, .t _, .t _, _, _ => rfl
  | .t _, .i _, _, h, _ => by cases h
  | .t _, .t _, .i _, _, k => by cases k
  | .t xs, .t ys, .t zs, h, k => by
    simp only [cmp] at h k ⊢
    exact cmpL_trans h k
theorem cmpL_trans : ∀ {xs ys zs : List ND}, cmpL xs ys = .lt → cmpL ys zs = .lt → cmpL xs zs = .lt
  | [], [], _, h, _ => by cases h
  | [], _ :: _, [], _, k => by cases k
  | [], _ :: _, _ :: _, _, _ => rfl
  | _ :: _, [], _, h, _ => by cases h
  | _ :: _, _ :: _, [], _, k => by cases k
  | x :: xs, y :: ys, z :: zs, h, k => by
    simp only [cmpL] at h k ⊢
    cases e1 : cmp x y with
    | gt => rw [e1] at h; cases h
    | lt =>
      cases e2 : cmp y z with
      | gt => rw [e2] at k; cases k
      | lt => rw [cmp_trans e1 e2]; rfl
      | eq => rw [← cmp_eq e2, e1]; rfl
    | eq =>
      rw [e1] at h
      have h : cmpL xs ys = .lt := h
      have e := cmp_eq e1
      subst e
      cases e2 : cmp x z with
      | gt => rw [e2] at k; cases k
      | lt => rfl
      | eq =>
        rw [e2] at k
        have k : cmpL ys zs = .lt := k
        show (Ordering.eq).then (cmpL xs zs) = .lt
        exact cmpL_trans (xs := xs) h k
end
def ltB (x y : ND) : Bool := cmp x y == .lt
theorem ltB_iff {x y : ND} : ltB x y = true ↔ cmp x y = .lt := by unfold ltB; cases cmp x y <;> simp
theorem ltB_no {x y : ND} : ltB x y = false ↔ cmp x y ≠ .lt := by unfold ltB; cases cmp x y <;> simp
theorem ltB_asym {x y : ND} (h : ltB x y = true) : ltB y x = false := by
  rw [ltB_iff] at h
  rw [ltB_no, cmp_swap x y, h]
  simp
theorem ltB_tr {x y z : ND} (h1 : ltB y x = false) (h2 : ltB z y = false) : ltB z x = false := by
  rw [ltB_no] at *
  intro h
  cases e : cmp x y with
  | lt => exact h2 (cmp_trans h e)
  | eq => exact h2 (by rw [← cmp_eq e]; exact h)
  | gt => exact h1 (by rw [cmp_swap x y, e]; rfl)
def leB (x y : ND) : Bool := !ltB y x
theorem leB_trans (x y z : ND) (h : leB x y = true) (k : leB y z = true) : leB x z = true := by
  unfold leB at *
  rw [Bool.not_eq_true'] at *
  exact ltB_tr h k
theorem leB_total (x y : ND) : (leB x y || leB y x) = true := by
  unfold leB
  cases e : ltB y x with
  | false => rfl
  | true => rw [ltB_asym e]; rfl
theorem leB_anti {x y : ND} (h : leB x y = true) (k : leB y x = true) : x = y := by
  unfold leB at *
  rw [Bool.not_eq_true', ltB_no] at *
  cases e : cmp x y with
  | eq => exact cmp_eq e
  | lt => exact absurd e k
  | gt => exact absurd (by rw [cmp_swap x y, e]; rfl) h
abbrev Ris (ds : List ND) : Prop := ds.Pairwise fun x y => leB x y = true
def sort (ds : List ND) : List ND := ds.mergeSort leB
theorem sort_perm (ds : List ND) : (sort ds).Perm ds := List.mergeSort_perm ds leB
theorem sort_ris (ds : List ND) : Ris (sort ds) := List.pairwise_mergeSort leB_trans leB_total ds
theorem ris_eq {ds es : List ND} (h : Ris ds) (k : Ris es) (e : ds.Perm es) : ds = es := List.Perm.eq_of_pairwise (fun _ _ _ _ a b => leB_anti a b) h k e
theorem sort_eq {ds es : List ND} (h : Ris ds) (e : ds.Perm es) : sort es = ds := ris_eq (sort_ris es) h ((sort_perm es).trans e.symm)
/-! #### as data -/
mutual
def py : ND → PySem.PyData
  | .i n => .int n
  | .t xs => .tuple (pyL xs)
def pyL : List ND → List PySem.PyData
  | [] => []
  | x :: xs => py x :: pyL xs
end
theorem pyL_map : ∀ xs : List ND, pyL xs = xs.map py
  | [] => rfl
  | x :: xs => by rw [pyL, pyL_map xs]; rfl
mutual
def of : PySem.PyData → ND
  | .int n => .i n
  | .tuple xs => .t (ofL xs)
  | .list _ => .i 0
  | .dict _ => .i 0
  | .none => .i 0
  | .bool _ => .i 0
  | .str _ => .i 0
def ofL : List PySem.PyData → List ND
  | [] => []
  | x :: xs => of x :: ofL xs
end
mutual
theorem of_py : ∀ d : ND, of (py d) = d
  | .i n => by simp only [py, of]
  | .t xs => by simp only [py, of]; rw [ofL_pyL xs]
theorem ofL_pyL : ∀ ds : List ND, ofL (pyL ds) = ds
  | [] => rfl
  | x :: xs => by simp only [pyL, ofL]; rw [of_py x, ofL_pyL xs]
end
mutual
theorem lay : ∀ d : ND, (py d).canLay0 = true
  | .i n => by simp only [py, PySem.PyData.canLay0]
  | .t xs => by simp only [py, PySem.PyData.canLay0]; exact layL xs
theorem layL : ∀ ds : List ND, PySem.PyData.canLayAll0 (pyL ds) = true
  | [] => by simp only [pyL, PySem.PyData.canLayAll0]
  | x :: xs => by simp only [pyL, PySem.PyData.canLayAll0]; rw [lay x, layL xs]; rfl
end
mutual
theorem eqv_py : ∀ x y : ND, PySem.PyData.eqv (py x) (py y) = (cmp x y == .eq)
  | .i a, .i b => by
    simp only [py, PySem.PyData.eqv, cmp]
    by_cases h : a = b
    · subst h; simp
    · have : compare a b ≠ .eq := fun e => h (Std.LawfulEqCmp.eq_of_compare e)
      cases e : compare a b <;> simp_all
  | .i _, .t _ => by simp only [py, PySem.PyData.eqv, cmp]; rfl
  | .t _, .i _ => by simp only [py, PySem.PyData.eqv, cmp]; rfl
  | .t xs, .t ys => by simp only [py, PySem.PyData.eqv, cmp]; exact eqvAll_py xs ys
theorem eqvAll_py : ∀ xs ys : List ND, PySem.PyData.eqvAll (pyL xs) (pyL ys) = (cmpL xs ys == .eq)
  | [], [] => by simp [pyL, PySem.PyData.eqvAll, cmpL]
  | [], _ :: _ => by simp [pyL, PySem.PyData.eqvAll, cmpL]
  | _ :: _, [] => by simp [pyL, PySem.PyData.eqvAll, cmpL]
  | x :: xs, y :: ys => by
    simp only [pyL, PySem.PyData.eqvAll, cmpL]
    rw [eqv_py x y, eqvAll_py xs ys]
    cases cmp x y <;> cases cmpL xs ys <;> rfl
end
theorem eqv_false {x y : ND} (h : PySem.PyData.eqv (py x) (py y) = false) : cmp x y ≠ .eq := fun e => by
  rw [eqv_py, e] at h
  cases h
theorem eqv_true {x y : ND} (h : PySem.PyData.eqv (py x) (py y) = true) : cmp x y = .eq := by
  rw [eqv_py] at h
  cases e : cmp x y with
  | eq => rfl
  | lt => rw [e] at h; cases h
  | gt => rw [e] at h; cases h
mutual
def hom : ND → ND → Bool
  | .i _, .i _ => true
  | .t xs, .t ys => homL xs ys
  | .i _, .t _ => false
  | .t _, .i _ => false
def homL : List ND → List ND → Bool
  | [], _ => true
  | _ :: _, [] => true
  | x :: xs, y :: ys => hom x y && homL xs ys
end
def dep (d : ND) : Nat := (py d).depth
end ND
open PySem PySem.Spec PyProof.Rows L2
/-! #### < of nested tuples -/
theorem readsAll_at {h : Heap} : ∀ {vs : List Value} {ds : List PyData} {as : List Addr} {j : Nat} (_ : ReadsAll h vs ds as) (h1 : j < vs.length) (h2 : j < ds.length), ∃ bs, Reads h vs[j] ds[j] bs
  | _ :: _, _ :: _, _, 0, .cons r _, _, _ => ⟨_, r⟩
  | _ :: _, _ :: _, _, j + 1, .cons _ t, h1, h2 => readsAll_at t (Nat.lt_of_succ_lt_succ h1) (Nat.lt_of_succ_lt_succ h2)
theorem lexAt_shift (e r : Nat → Bool) (z : Bool) : ∀ (k i : Nat), Ob.lexAt (fun j => e (j + 1)) (fun j => r (j + 1)) z i k = Ob.lexAt e r z (i + 1) k
  | 0, _ => rfl
  | k + 1, i => by
    show (if e (i + 1) = true then Ob.lexAt _ _ z (i + 1) k else r (i + 1)) = (if e (i + 1) = true then Ob.lexAt e r z (i + 1 + 1) k else r (i + 1))
    rw [lexAt_shift e r z k (i + 1)]
theorem lexAt_cmp : ∀ (xs ys : List ND), Ob.lexAt (fun j => ND.cmp (xs.getD j (.i 0)) (ys.getD j (.i 0)) == .eq) (fun j => ND.ltB (xs.getD j (.i 0)) (ys.getD j (.i 0))) (decide (xs.length < ys.length)) 0 (min xs.length ys.length) = (ND.cmpL xs ys == .lt)
  | [], [] => rfl
  | [], y :: ys => by simp [Ob.lexAt, ND.cmpL]
  | x :: xs, [] => by simp [Ob.lexAt, ND.cmpL]
  | x :: xs, y :: ys => by
    have ih := lexAt_cmp xs ys
    rw [List.length_cons, List.length_cons, show min (xs.length + 1) (ys.length + 1) = min xs.length ys.length + 1 by omega, Ob.lexAt_succ]
    rw [← lexAt_shift]
    show (if (ND.cmp x y == .eq) = true then Ob.lexAt (fun j => ND.cmp (xs.getD j (.i 0)) (ys.getD j (.i 0)) == .eq) (fun j => ND.ltB (xs.getD j (.i 0)) (ys.getD j (.i 0))) (decide (xs.length + 1 < ys.length + 1)) 0 _ else ND.ltB x y) = ((ND.cmp x y).then (ND.cmpL xs ys) == .lt)
    rw [show decide (xs.length + 1 < ys.length + 1) = decide (xs.length < ys.length) from decide_eq_decide.mpr (by omega), ih]
    unfold ND.ltB
    cases ND.cmp x y <;> rfl
theorem py_getD (xs : List ND) {j : Nat} (h : j < (ND.pyL xs).length) : (ND.pyL xs)[j] = ND.py (xs.getD j (.i 0)) := by
  have h' : j < xs.length := by rw [ND.pyL_map, List.length_map] at h; exact h
  rw [List.getD_eq_getElem?_getD, List.getElem?_eq_getElem h']
  simp only [ND.pyL_map, List.getElem_map, Option.getD_some]
theorem depL (xs : List ND) (j : Nat) : (ND.py (xs.getD j (.i 0))).depth ≤ PyData.depthAll (ND.pyL xs) := by
  induction xs generalizing j with
  | nil => show PyData.depth (.int 0) ≤ _; simp [PyData.depth]
  | cons x xs ih =>
    cases j with
    | zero =>
      show (ND.py x).depth ≤ PyData.depthAll (ND.py x :: ND.pyL xs)
      simp only [PyData.depthAll]
      omega
    | succ j =>
      have := ih j
      show (ND.py (xs.getD j (.i 0))).depth ≤ PyData.depthAll (ND.py x :: ND.pyL xs)
      simp only [PyData.depthAll]
      omega
theorem hom_at : ∀ {xs ys : List ND} {j : Nat}, ND.homL xs ys = true → j < xs.length → j < ys.length → ND.hom (xs.getD j (.i 0)) (ys.getD j (.i 0)) = true
  | x :: xs, y :: ys, 0, h, _, _ => by
    simp only [ND.homL, Bool.and_eq_true] at h
    exact h.1
  | x :: xs, y :: ys, j + 1, h, h1, h2 => by
    simp only [ND.homL, Bool.and_eq_true] at h
    exact hom_at (xs := xs) (ys := ys) h.2 (Nat.lt_of_succ_lt_succ h1) (Nat.lt_of_succ_lt_succ h2)
theorem nd_size : ∀ (xs : List ND) (j : Nat), j < xs.length → sizeOf (xs.getD j (.i 0)) < sizeOf xs
  | x :: xs, 0, _ => by show sizeOf x < sizeOf (x :: xs); simp; omega
  | x :: xs, j + 1, h => by
    have := nd_size xs j (Nat.lt_of_succ_lt_succ h)
    show sizeOf (xs.getD j (.i 0)) < sizeOf (x :: xs)
    simp only [List.cons.sizeOf_spec]
    omega
/-- x < y of nested tuples of numbers of one form -/
theorem rc_lt : ∀ (x y : ND) (A : Around) (s : Shared) (a b : Value) (as bs : List Addr), Reads s.heap a x.py as → Reads s.heap b y.py bs → ND.hom x y = true → A.units + min x.dep y.dep < cLine → Ob.RcOp .Lt A s a b (ND.ltB x y)
  | .i p, .i q, A, s, a, b, as, bs, ra, rb, _, hu => by
    simp only [ND.py] at ra rb
    cases ra
    cases rb
    have e : ND.ltB (.i p) (.i q) = decide (p < q) := by
      unfold ND.ltB
      simp only [ND.cmp]
      by_cases h : p < q
      · rw [decide_eq_true h, ND.int_lt.mpr h]; rfl
      · rw [decide_eq_false h]
        have : compare p q ≠ .lt := fun e => h (ND.int_lt.mp e)
        cases e : compare p q <;> simp_all
    rw [e]
    exact Ob.RcOp.lt_int _ _ _ _
  | .t xs, .t ys, A, s, a, b, as, bs, ra, rb, hh, hu => by
    simp only [ND.py] at ra rb
    cases ra with
    | tuple k1 k2 k3 k4 =>
      cases rb with
      | tuple l1 l2 l3 l4 =>
        rename_i a oa vs na b ob ws nb
        have n1 := SeqAt.ReadsAll.length _ _ _ k4
        have n2 := SeqAt.ReadsAll.length _ _ _ l4
        simp only [ND.hom] at hh
        have dx : (ND.t xs).dep = PyData.depthAll (ND.pyL xs) + 1 := by simp only [ND.dep, ND.py, PyData.depth]
        have dy : (ND.t ys).dep = PyData.depthAll (ND.pyL ys) + 1 := by simp only [ND.dep, ND.py, PyData.depth]
        rw [dx, dy] at hu
        have px : (ND.pyL xs).length = xs.length := by rw [ND.pyL_map, List.length_map]
        have py' : (ND.pyL ys).length = ys.length := by rw [ND.pyL_map, List.length_map]
        have e1 : vs.size = xs.length := by rw [← px, ← n1, Array.length_toList]
        have e2 : ws.size = ys.length := by rw [← py', ← n2, Array.length_toList]
        have in1 : A.in1.units = A.units + 1 := rfl
        have R := Ob.RcOp.tuples_lt (A := A) (s := s) (e := fun j => ND.cmp (xs.getD j (.i 0)) (ys.getD j (.i 0)) == .eq) (r := fun j => ND.ltB (xs.getD j (.i 0)) (ys.getD j (.i 0))) ⟨_, k1, k2, _, k3⟩ ⟨_, l1, l2, _, l3⟩ (by omega)
          (fun j h1 h2 => by
            obtain ⟨cs, r1⟩ := readsAll_at (j := j) k4 (by simpa using h1) (by omega)
            obtain ⟨ds, r2⟩ := readsAll_at (j := j) l4 (by simpa using h2) (by omega)
            rw [py_getD] at r1 r2
            have z := SeqAt.eqAt_reads _ _ A.in1 s _ _ _ _ r1 r2 (ND.lay _) (ND.lay _) (by have := depL xs j; have := depL ys j; rw [in1]; omega)
            rw [ND.eqv_py] at z
            simpa using z)
          (fun j h1 h2 _ => by
            obtain ⟨cs, r1⟩ := readsAll_at (j := j) k4 (by simpa using h1) (by omega)
            obtain ⟨ds, r2⟩ := readsAll_at (j := j) l4 (by simpa using h2) (by omega)
            rw [py_getD] at r1 r2
            have sz := nd_size xs j (by omega)
            have z := rc_lt (xs.getD j (.i 0)) (ys.getD j (.i 0)) A.in1 s _ _ _ _ r1 r2 (hom_at hh (by omega) (by omega)) (by have := depL xs j; have := depL ys j; rw [in1]; simp only [ND.dep]; omega)
            simpa using z)
        rw [e1, e2, lexAt_cmp] at R
        exact R
  | .i _, .t _, _, _, _, _, _, _, _, _, h, _ => by simp [ND.hom] at h
  | .t _, .i _, _, _, _, _, _, _, _, _, h, _ => by simp [ND.hom] at h
termination_by x => sizeOf x
decreasing_by simp only [ND.t.sizeOf_spec]; omega
theorem lexAt_not (e r : Nat → Bool) (z : Bool) : ∀ (k i : Nat), Ob.lexAt e (fun j => !r j) (!z) i k = !Ob.lexAt e r z i k
  | 0, _ => rfl
  | k + 1, i => by
    rw [Ob.lexAt_succ, Ob.lexAt_succ, lexAt_not e r z k (i + 1)]
    split <;> rfl
/-- x >= y of nested tuples of numbers of one form -/
theorem rc_ge : ∀ (x y : ND) (A : Around) (s : Shared) (a b : Value) (as bs : List Addr), Reads s.heap a x.py as → Reads s.heap b y.py bs → ND.hom x y = true → A.units + min x.dep y.dep < cLine → Ob.RcOp .GtE A s a b (!ND.ltB x y)
  | .i p, .i q, A, s, a, b, as, bs, ra, rb, _, hu => by
    simp only [ND.py] at ra rb
    cases ra
    cases rb
    have e : ND.ltB (.i p) (.i q) = decide (p < q) := by
      unfold ND.ltB
      simp only [ND.cmp]
      by_cases h : p < q
      · rw [decide_eq_true h, ND.int_lt.mpr h]; rfl
      · rw [decide_eq_false h]
        have : compare p q ≠ .lt := fun e => h (ND.int_lt.mp e)
        cases e : compare p q <;> simp_all
    rw [e, show (!decide (p < q)) = decide (q ≤ p) by by_cases h : p < q <;> simp [h] <;> omega]
    exact Ob.RcOp.ge_int _ _ _ _
  | .t xs, .t ys, A, s, a, b, as, bs, ra, rb, hh, hu => by
    simp only [ND.py] at ra rb
    cases ra with
    | tuple k1 k2 k3 k4 =>
      cases rb with
      | tuple l1 l2 l3 l4 =>
        rename_i a oa vs na b ob ws nb
        have n1 := SeqAt.ReadsAll.length _ _ _ k4
        have n2 := SeqAt.ReadsAll.length _ _ _ l4
        simp only [ND.hom] at hh
        have dx : (ND.t xs).dep = PyData.depthAll (ND.pyL xs) + 1 := by simp only [ND.dep, ND.py, PyData.depth]
        have dy : (ND.t ys).dep = PyData.depthAll (ND.pyL ys) + 1 := by simp only [ND.dep, ND.py, PyData.depth]
        rw [dx, dy] at hu
        have px : (ND.pyL xs).length = xs.length := by rw [ND.pyL_map, List.length_map]
        have py' : (ND.pyL ys).length = ys.length := by rw [ND.pyL_map, List.length_map]
        have e1 : vs.size = xs.length := by rw [← px, ← n1, Array.length_toList]
        have e2 : ws.size = ys.length := by rw [← py', ← n2, Array.length_toList]
        have in1 : A.in1.units = A.units + 1 := rfl
        have R := Ob.RcOp.tuples_ge (A := A) (s := s) (e := fun j => ND.cmp (xs.getD j (.i 0)) (ys.getD j (.i 0)) == .eq) (r := fun j => !ND.ltB (xs.getD j (.i 0)) (ys.getD j (.i 0))) ⟨_, k1, k2, _, k3⟩ ⟨_, l1, l2, _, l3⟩ (by omega)
          (fun j h1 h2 => by
            obtain ⟨cs, r1⟩ := readsAll_at (j := j) k4 (by simpa using h1) (by omega)
            obtain ⟨ds, r2⟩ := readsAll_at (j := j) l4 (by simpa using h2) (by omega)
            rw [py_getD] at r1 r2
            have z := SeqAt.eqAt_reads _ _ A.in1 s _ _ _ _ r1 r2 (ND.lay _) (ND.lay _) (by have := depL xs j; have := depL ys j; rw [in1]; omega)
            rw [ND.eqv_py] at z
            simpa using z)
          (fun j h1 h2 _ => by
            obtain ⟨cs, r1⟩ := readsAll_at (j := j) k4 (by simpa using h1) (by omega)
            obtain ⟨ds, r2⟩ := readsAll_at (j := j) l4 (by simpa using h2) (by omega)
            rw [py_getD] at r1 r2
            have sz := nd_size xs j (by omega)
            have z := rc_ge (xs.getD j (.i 0)) (ys.getD j (.i 0)) A.in1 s _ _ _ _ r1 r2 (hom_at hh (by omega) (by omega)) (by have := depL xs j; have := depL ys j; rw [in1]; simp only [ND.dep]; omega)
            simpa using z)
        rw [e1, e2, show decide (xs.length ≥ ys.length) = !decide (xs.length < ys.length) by by_cases h : xs.length < ys.length <;> simp [h] <;> omega, lexAt_not, lexAt_cmp] at R
        exact R
  | .i _, .t _, _, _, _, _, _, _, _, _, h, _ => by simp [ND.hom] at h
  | .t _, .i _, _, _, _, _, _, _, _, _, h, _ => by simp [ND.hom] at h
termination_by x => sizeOf x
decreasing_by simp only [ND.t.sizeOf_spec]; omega

/-! #### sorted(l) -/
mutual
theorem reads_keep {h h' : Heap} (k : ∀ b o, h.get? b = some o → o.cls = .type "tuple" → h'.get? b = some o) : ∀ (d : ND) (v : Value) (as : List Addr), Reads h v d.py as → Reads h' v d.py as
  | .i n, v, as, r => by
    simp only [ND.py] at r ⊢
    cases r
    exact .int _ _
  | .t xs, v, as, r => by
    simp only [ND.py] at r ⊢
    cases r with
    | tuple k1 k2 k3 k4 => exact .tuple (k _ _ k1 k2) k2 k3 (readsL_keep k xs _ _ k4)
theorem readsL_keep {h h' : Heap} (k : ∀ b o, h.get? b = some o → o.cls = .type "tuple" → h'.get? b = some o) : ∀ (ds : List ND) (vs : List Value) (as : List Addr), ReadsAll h vs (ND.pyL ds) as → ReadsAll h' vs (ND.pyL ds) as
  | [], vs, as, r => by
    simp only [ND.pyL] at r ⊢
    cases r
    exact .nil
  | d :: ds, vs, as, r => by
    simp only [ND.pyL] at r ⊢
    cases r with
    | cons r1 r2 => exact .cons (reads_keep k d _ _ r1) (readsL_keep k ds _ _ r2)
end
section
variable {prog : Program} {w : World} {A : Around} {E : Value → Shared → Prop} {s : Shared}
theorem kat_all {b : Bool} : ∀ (xs ys : List ND) (vs ws : List Value) (as bs : List Addr) (i : Nat), ReadsAll s.heap vs (ND.pyL xs) as → ReadsAll s.heap ws (ND.pyL ys) bs → ND.homL xs ys = true → A.units + max (PyData.depthAll (ND.pyL xs)) (PyData.depthAll (ND.pyL ys)) < cLine →
    ((b && i == 0) = true → ∀ x ∈ xs, ∃ n r, xs = .i n :: r) → PySem.W.KatLex prog w A b (decide (xs.length < ys.length)) (fun r s' => s' = s ∧ r = (ND.cmpL xs ys == .lt)) (vs.zip ws) i s
  | [], [], vs, ws, as, bs, i, ra, rb, _, _, _ => by
    simp only [ND.pyL] at ra rb
    cases ra
    cases rb
    exact PySem.W.kat_nil ⟨rfl, rfl⟩
  | [], y :: ys, vs, ws, as, bs, i, ra, rb, _, _, _ => by
    simp only [ND.pyL] at ra rb
    cases ra
    exact PySem.W.kat_nil ⟨rfl, by simp [ND.cmpL]⟩
  | x :: xs, [], vs, ws, as, bs, i, ra, rb, _, _, _ => by
    simp only [ND.pyL] at ra rb
    cases rb
    rw [List.zip_nil_right]
    exact PySem.W.kat_nil ⟨rfl, by simp [ND.cmpL]⟩
  | x :: xs, y :: ys, vs, ws, as, bs, i, ra, rb, hh, hu, hb => by
    simp only [ND.pyL] at ra rb hu
    simp only [PyData.depthAll] at hu
    simp only [ND.homL, Bool.and_eq_true] at hh
    cases ra with
    | cons r1 r2 =>
      cases rb with
      | cons q1 q2 =>
        rename_i v vs' as1 as2 u us' bs1 bs2
        rw [List.zip_cons_cons]
        have ee := SeqAt.eqAt_reads _ _ A s _ _ _ _ r1 q1 (ND.lay x) (ND.lay y) (by omega)
        refine PySem.W.kat_cons (ee prog w _ _ ?_)
        refine PySem.W.kat_go (fun e1 => ?_) (fun e1 => ?_)
        · have ec := ND.eqv_true e1
          have ih := kat_all (b := b) xs ys vs' us' _ _ (i + 1) r2 q2 hh.2 (by omega) (fun z => by simp at z)
          rw [List.length_cons, List.length_cons, show decide (xs.length + 1 < ys.length + 1) = decide (xs.length < ys.length) from decide_eq_decide.mpr (by omega)]
          refine PySem.W.kat_yes ?_
          have ev : ND.cmpL (x :: xs) (y :: ys) = ND.cmpL xs ys := by simp only [ND.cmpL]; rw [ec]; rfl
          rw [ev]
          exact ih
        · have ec := ND.eqv_false e1
          have ev : (ND.cmpL (x :: xs) (y :: ys) == .lt) = ND.ltB x y := by
            simp only [ND.cmpL, ND.ltB]
            cases e : ND.cmp x y with
            | eq => exact absurd e ec
            | lt => rfl
            | gt => rfl
          rw [ev]
          refine PySem.W.kat_no ?_
          cases hc : (b && i == 0) with
          | true =>
            obtain ⟨n, r, en⟩ := hb hc x List.mem_cons_self
            injection en with en _
            subst en
            cases y with
            | t _ => simp [ND.hom] at hh
            | i m =>
              simp only [ND.py] at r1 q1
              cases r1
              cases q1
              refine TS.oneLt_ints true ?_
              refine ⟨rfl, ?_⟩
              unfold ND.ltB
              simp only [ND.cmp]
              by_cases h : n < m
              · rw [decide_eq_true h, ND.int_lt.mpr h]; rfl
              · rw [decide_eq_false h]
                have : compare n m ≠ .lt := fun e => h (ND.int_lt.mp e)
                cases e : compare n m <;> simp_all
          | false =>
            refine PySem.W.kat_one _ _ ?_
            exact rc_lt x y A s _ _ _ _ r1 q1 hh.1 (by simp only [ND.dep]; omega) prog w _ _ ⟨rfl, rfl⟩
noncomputable def datOf (h : Heap) (v : Value) : ND := ND.of (SeqAt.readOf h v)
theorem datOf_eq {h : Heap} {v : Value} {d : ND} {as : List Addr} (r : Reads h v d.py as) : datOf h v = d := by
  unfold datOf
  rw [SeqAt.readOf_eq (ND.lay d) r, ND.of_py]
/-- what a list to be sorted holds: tuples, not empty, of one form -/
structure SrtOk (ds : List ND) : Prop where
  tup : ∀ d ∈ ds, ∃ f r, d = .t (f :: r)
  hom : ∀ d ∈ ds, ∀ e ∈ ds, ND.hom d e = true
  dep : ∀ d ∈ ds, d.dep ≤ 8
theorem swo_dat (f : Value → ND) : SrtO.Swo fun v u => ND.ltB (f v) (f u) := ⟨fun _ _ h => ND.ltB_asym h, fun _ _ _ h1 h2 => ND.ltB_tr h1 h2⟩
theorem firsts_nd : ∀ {h : Heap} {vs : List Value} {ds : List ND}, All2 (fun v d => ∃ as, Reads h v (ND.py d) as) vs ds → (∀ d ∈ ds, ∃ f r, d = .t (f :: r)) →
    ∃ fs : List Value, PySem.W.KatTups h vs fs ∧ fs.length = vs.length ∧ ∀ f ∈ fs, ∃ d g r as, d ∈ ds ∧ d = .t (g :: r) ∧ Reads h f g.py as
  | _, [], [], _, _ => ⟨[], .nil, rfl, fun _ hf => absurd hf List.not_mem_nil⟩
  | h, v :: vs, d :: ds, ha, ht => by
    obtain ⟨⟨as, r⟩, ha'⟩ := ha
    obtain ⟨fs, k, kl, kf⟩ := firsts_nd ha' fun d hd => ht d (List.mem_cons_of_mem _ hd)
    obtain ⟨g, rr, e⟩ := ht d List.mem_cons_self
    subst e
    simp only [ND.py, ND.pyL] at r
    cases r with
    | tuple k1 k2 k3 k4 =>
      rename_i a o ws n
      obtain ⟨wl⟩ := ws
      cases k4 with
      | cons q1 q2 =>
        rename_i x xs bs cs
        refine ⟨x :: fs, .cons k1 k2 k3 (by simp) k, by simp [kl], fun f hf => ?_⟩
        rcases List.mem_cons.mp hf with e | e
        · subst e
          exact ⟨_, g, rr, _, List.mem_cons_self, rfl, q1⟩
        · obtain ⟨d, g', r', as', h1, h2, h3⟩ := kf f e
          exact ⟨d, g', r', as', List.mem_cons_of_mem _ h1, h2, h3⟩
theorem nd_sortable {a : Addr} {vs : List Value} {ds : List ND} (h0 : 0 < vs.length) (hp : All2 (fun v d => ∃ as, Reads s.heap v (ND.py d) as) vs ds) (ok : SrtOk ds) (hu : A.units + 16 < cLine) (ha : ∀ o, s.heap.get? a = some o → o.cls ≠ .type "tuple") (f : Value → ND) (hf : ∀ v ∈ vs, ∀ d as, Reads s.heap v (ND.py d) as → f v = d) : SrtO.SortableO prog w A s a vs fun v u => ND.ltB (f v) (f u) := by
  intro h' keep
  have kt : ∀ b o, s.heap.get? b = some o → o.cls = .type "tuple" → h'.get? b = some o := fun b o e c => keep b o (fun z => by subst z; exact ha o e c) e
  have hp' : All2 (fun v d => ∃ as, Reads h' v (ND.py d) as) vs ds := hp.mono fun v d ⟨as, r⟩ => ⟨as, reads_keep kt d v as r⟩
  obtain ⟨fs, k1, k2, k3⟩ := firsts_nd hp' ok.tup
  -- the kind
  obtain ⟨f0, hf0⟩ : ∃ f0, f0 ∈ fs := by
    match fs, k2 with
    | [], k => simp at k; omega
    | x :: _, _ => exact ⟨x, List.mem_cons_self⟩
  obtain ⟨d0, g0, r0, as0, hd0, e0, rd0⟩ := k3 f0 hf0
  have same : ∀ f ∈ fs, ∃ g as, Reads h' f (ND.py g) as ∧ ND.hom g g0 = true := fun f hf => by
    obtain ⟨d, g, r, as, hd, e, rd⟩ := k3 f hf
    have hh := ok.hom d hd d0 hd0
    rw [e, e0] at hh
    simp only [ND.hom, ND.homL, Bool.and_eq_true] at hh
    exact ⟨g, as, rd, hh.1⟩
  have cmpB : ∀ b : Bool, (b = true → ∀ d ∈ ds, ∃ n r, d = .t (.i n :: r)) → SrtO.Cmp prog w A { s with heap := h' } (tuples' b) (fun p => p.1 ∈ vs) (SrtO.lt2 fun v u => ND.ltB (f v) (f u)) := fun b hb p q hm hm' => by
    obtain ⟨d, hd, as, rd⟩ := hp.mem hm
    obtain ⟨e, he, bs, re⟩ := hp.mem hm'
    have ef := hf _ hm d as rd
    have eg := hf _ hm' e bs re
    show wpAny (model prog w) A (keyLt' (tuples' b) p.1 q.1) (fun r s' => s' = _ ∧ r = ND.ltB (f p.1) (f q.1)) (fun _ _ => False) _
    rw [ef, eg]
    have rd' := reads_keep kt d _ _ rd
    have re' := reads_keep kt e _ _ re
    have hh := ok.hom d hd e he
    have dd := ok.dep d hd
    have de := ok.dep e he
    obtain ⟨g, r, rfl⟩ := ok.tup d hd
    obtain ⟨g', r', rfl⟩ := ok.tup e he
    have hb' : b = true → ∃ n, g = .i n := fun z => by
      obtain ⟨n, rr, en⟩ := hb z _ hd
      injection en with en
      injection en with en _
      exact ⟨n, en⟩
    generalize hv : p.1 = v at rd'
    generalize hw : q.1 = u at re'
    have dx : ∀ xs : List ND, (ND.t xs).dep = PyData.depthAll (ND.pyL xs) + 1 := fun xs => by simp only [ND.dep, ND.py, PyData.depth]
    rw [dx] at dd de
    have rd2 : Reads h' v (.tuple (ND.pyL (g :: r))) as := by simpa only [ND.py] using rd'
    have re2 : Reads h' u (.tuple (ND.pyL (g' :: r'))) bs := by simpa only [ND.py] using re'
    cases rd2 with
    | tuple k1 k2 k3 k4 =>
      cases re2 with
      | tuple l1 l2 l3 l4 =>
        rename_i va vo vvs vn ua uo uvs un
        refine PySem.W.kat_lt k1 k3 l1 l3 ?_
        have z := kat_all (prog := prog) (w := w) (A := A) (s := { s with heap := h' }) (b := b) (g :: r) (g' :: r') vvs.toList uvs.toList _ _ 0 k4 l4 (by simpa only [ND.hom] using hh) (by omega) (fun z x _ => by
          obtain ⟨n, en⟩ := hb' (by simpa using z)
          exact ⟨n, r, by rw [en]⟩)
        have n1 := SeqAt.ReadsAll.length _ _ _ k4
        have n2 := SeqAt.ReadsAll.length _ _ _ l4
        have m1 : vvs.size = (g :: r).length := by rw [← Array.length_toList, n1, ND.pyL_map, List.length_map]
        have m2 : uvs.size = (g' :: r').length := by rw [← Array.length_toList, n2, ND.pyL_map, List.length_map]
        rw [m1, m2]
        have ev : ND.ltB (.t (g :: r)) (.t (g' :: r')) = (ND.cmpL (g :: r) (g' :: r') == .lt) := by simp only [ND.ltB, ND.cmp]
        rw [ev]
        exact z
  cases g0 with
  | i n0 =>
    refine ⟨tuples' true, fun Q E hq => ?_, cmpB true fun _ d hd => ?_⟩
    · refine PySem.W.kat_kind (T := .type "int") k1 (by omega) (fun f hm => ?_) (by rfl) ?_
      · obtain ⟨g, as, rd, hh⟩ := same f hm
        cases g with
        | t _ => simp [ND.hom] at hh
        | i n =>
          simp only [ND.py] at rd
          cases rd
          exact PySem.W.Looks.now
      · have e : (Value.type "int" != Value.type "tuple") = true := by first | decide +kernel | rfl | decide
        rw [e]
        exact hq
    · have hh := ok.hom d hd d0 hd0
      obtain ⟨g, r, rfl⟩ := ok.tup d hd
      rw [e0] at hh
      simp only [ND.hom, ND.homL, Bool.and_eq_true] at hh
      cases g with
      | t _ => simp [ND.hom] at hh
      | i n => exact ⟨n, r, rfl⟩
  | t x0 =>
    refine ⟨tuples' false, fun Q E hq => ?_, cmpB false fun z => by cases z⟩
    refine PySem.W.kat_kind (T := .type "tuple") k1 (by omega) (fun f hm => ?_) (by rfl) ?_
    · obtain ⟨g, as, rd, hh⟩ := same f hm
      cases g with
      | i _ => simp [ND.hom] at hh
      | t xs =>
        simp only [ND.py] at rd
        cases rd with
        | tuple q1 q2 q3 q4 =>
          rename_i ga go gvs gn
          have z : PySem.W.Looks (model prog w) h' (typeOf (.ref ga)) go.cls := (PySem.W.Looks.ld q1).andThen .now
          rw [q2] at z
          exact z
    · have e : (Value.type "tuple" != Value.type "tuple") = false := by first | decide +kernel | rfl | decide
      rw [e]
      exact hq
end
section
variable {X : Cx} {K : PySem.W.Frag}
def rSortN (K : PySem.W.Frag) : List V → Hp → VK → Prop := fun vs H Q => ∃ (a : Addr) (xs : List V) (ds : List ND), vs = [V.ref a] ∧ SqL K H a xs ∧ All2 (fun x d => Dp K H x (ND.py d)) xs ds ∧ (∀ x ∈ xs, ∃ t, x = .ref t) ∧ SrtOk ds ∧
  ∀ (zs : List (V × ND)) p, zs.Perm (xs.zip ds) → zs.map (·.2) = ND.sort ds → H p = none → Q (.ref p) (upd H p (.lst (zs.map (·.1))))
theorem zip_map2 {α β γ : Type} (f : α → β) (g : α → γ) : ∀ l : List α, (l.map f).zip (l.map g) = l.map fun x => (f x, g x)
  | [] => rfl
  | x :: l => by rw [List.map_cons, List.map_cons, List.zip_cons_cons, zip_map2 f g l]; rfl
theorem reads2 {pins : List (Addr × Obj)} {σ : L2.St} {H : Hp} {s : Shared} (I : Inv X pins σ H s) : ∀ {xs : List V} {us : List Value} {ds : List ND}, Vals xs us → All2 (fun x d => Dp X.K H x (ND.py d)) xs ds → All2 (fun v d => ∃ as, Reads s.heap v (ND.py d) as) us ds
  | [], [], [], _, _ => trivial
  | _ :: _, _ :: _, _ :: _, .cons r t, h => ⟨Dp.reads I _ _ _ h.1 r, reads2 I t h.2⟩
  | [], _ :: _, _, r, _ => by cases r
  | _ :: _, [], _, r, _ => by cases r
theorem cr_sortN (hu : X.A.units + 40 < cLine) (e : X.K = K := by rfl) : CallR X (.builtin "sorted") (rSortN K) := by
  subst e
  intro pins s σ H vs us Q I r h
  obtain ⟨a, xs, ds, rfl, hs, hx, hrf, ok, q⟩ := h
  obtain ⟨its, rv, hl, hz⟩ := I.list hs
  obtain ⟨u, rfl, ru⟩ := vals1 r
  obtain rfl : u = Value.ref a := ru
  obtain ⟨e1, e2⟩ := refs_back rv fun x m => hrf x m
  have hR := reads2 I rv hx
  have hf : ∀ v ∈ its, ∀ d as, Reads s.heap v (ND.py d) as → datOf s.heap v = d := fun v _ d as r => datOf_eq r
  have hd : ∀ v ∈ its, ∃ as, Reads s.heap v (ND.py (datOf s.heap v)) as := fun v hv => by
    obtain ⟨d, _, as, rd⟩ := hR.mem hv
    rw [hf v hv d as rd]
    exact ⟨as, rd⟩
  have em : its.map (datOf s.heap) = ds := hR.map_eq fun v d ⟨as, rd⟩ => datOf_eq rd
  refine SrtO.sorted_ord (swo_dat (datOf s.heap)) hl.isList (by rw [← rv.length]; exact hz) (fun h2 h₁ b hb kk => ?_) fun out hs1 hs2 => ?_
  · have kt : ∀ c o, s.heap.get? c = some o → o.cls = .type "tuple" → h₁.get? c = some o := fun c o e _ => (kk c o e).2
    refine nd_sortable (s := { s with heap := h₁ }) (ds := ds) (by omega) (hR.mono fun v d ⟨as, rd⟩ => ⟨as, reads_keep kt d v as rd⟩) ok (by show X.A.units + 1 + 1 + 16 < cLine; omega) (fun o e => ?_) (datOf s.heap) (fun v hv d as rd => ?_)
    · have e' : some o = some (seqObj "list" its.toArray 0) := e.symm.trans hb
      cases e'
      intro c
      exact absurd (Value.type.inj c) (by decide)
    · obtain ⟨d', _, as', rd'⟩ := hR.mem hv
      rw [hf v hv d' as' rd']
      have z1 := datOf_eq (reads_keep kt d' v as' rd')
      have z2 := datOf_eq rd
      exact z1.symm.trans z2
  · have h3 : ∀ u ∈ out, ∃ a, u = Value.ref a := fun u hu => e2 u (hs2.perm.mem_iff.mp hu)
    have pm : (out.map backV).Perm xs := by rw [e1]; exact hs2.perm.map _
    have so : out.map (datOf s.heap) = ND.sort ds := by
      refine (ND.sort_eq ?_ ?_).symm
      · refine List.pairwise_map.mpr (hs1.imp fun {x y} z => ?_)
        have z : ND.ltB (datOf s.heap y) (datOf s.heap x) = false := z
        unfold ND.leB
        rw [z]
        rfl
      · rw [← em]; exact hs2.perm.map _
    obtain ⟨n, hn⟩ := sortedAll_at s.heap its out.toArray
    have ez : (out.map fun v => (backV v, datOf s.heap v)).map (·.1) = out.map backV := by rw [List.map_map]; rfl
    have ez2 : (out.map fun v => (backV v, datOf s.heap v)).map (·.2) = out.map (datOf s.heap) := by rw [List.map_map]; rfl
    refine ⟨.ref (s.heap.objs.size + 1), upd H (s.heap.objs.size + 1) (.lst (out.map backV)), I.laid (t' := s.toks) (fun b o e => sortedAll_old e) (Nat.le_succ _) ⟨?_, out, n, vals_back h3, hn⟩, rfl, ?_⟩
    · rw [pm.length_eq]; exact hz
    · have z := q (out.map fun v => (backV v, datOf s.heap v)) (s.heap.objs.size + 1) ?_ (by rw [ez2]; exact so) (I.hok.fresh (Nat.le_succ _))
      · rw [ez] at z
        exact z
      · rw [← em, e1, zip_map2]
        exact hs2.perm.map _
end
section
variable {X : Cx} {K : PySem.W.Frag}
def rGeN (K : PySem.W.Frag) : R2 := fun x y H Q => ∃ d e : ND, Dp K H x d.py ∧ Dp K H y e.py ∧ ND.hom d e = true ∧ d.dep ≤ 8 ∧ Q (.bl (!ND.ltB d e)) H
def rLtN (K : PySem.W.Frag) : R2 := fun x y H Q => ∃ d e : ND, Dp K H x d.py ∧ Dp K H y e.py ∧ ND.hom d e = true ∧ d.dep ≤ 8 ∧ Q (.bl (ND.ltB d e)) H
theorem op_geN (hu : X.A.units + 40 < cLine) (e : X.K = K := by rfl) : OpR X (compareOp .GtE) (rGeN K) := by
  subst e
  intro pins s σ H x y v u Q I rx ry h
  obtain ⟨d, e, hd, he, hh, dd, q⟩ := h
  obtain ⟨as, r1⟩ := Dp.reads I _ x v hd rx
  obtain ⟨bs, r2⟩ := Dp.reads I _ y u he ry
  have R := rc_ge d e X.A s v u as bs r1 r2 hh (by omega)
  exact R X.prog X.w X.xe (EP X pins σ Q) ⟨.bl _, H, I, rfl, q⟩
theorem op_ltN (hu : X.A.units + 40 < cLine) (e : X.K = K := by rfl) : OpR X (compareOp .Lt) (rLtN K) := by
  subst e
  intro pins s σ H x y v u Q I rx ry h
  obtain ⟨d, e, hd, he, hh, dd, q⟩ := h
  obtain ⟨as, r1⟩ := Dp.reads I _ x v hd rx
  obtain ⟨bs, r2⟩ := Dp.reads I _ y u he ry
  have R := rc_lt d e X.A s v u as bs r1 r2 hh (by omega)
  exact R X.prog X.w X.xe (EP X pins σ Q) ⟨.bl _, H, I, rfl, q⟩
end
theorem all2_zip {α : Type} {R : V → α → Prop} {enc : α → ND} (inj : ∀ a b, enc a = enc b → a = b) : ∀ {zs : List (V × ND)} {qs : List α}, (∀ z ∈ zs, ∃ p, R z.1 p ∧ z.2 = enc p) → zs.map (·.2) = qs.map enc → All2 R (zs.map (·.1)) qs
  | [], [], _, _ => trivial
  | [], _ :: _, _, e => by cases e
  | _ :: _, [], _, e => by cases e
  | z :: zs, q :: qs, h, e => by
    rw [List.map_cons, List.map_cons] at e
    injection e with e1 e2
    obtain ⟨p, r, ep⟩ := h z List.mem_cons_self
    rw [ep] at e1
    have := inj _ _ e1
    subst this
    exact ⟨r, all2_zip inj (fun z hz => h z (List.mem_cons_of_mem _ hz)) e2⟩
theorem zip_mem {α : Type} {R : V → α → Prop} {enc : α → ND} : ∀ {xs : List V} {ps : List α}, All2 R xs ps → ∀ z ∈ xs.zip (ps.map enc), ∃ p, R z.1 p ∧ z.2 = enc p
  | [], [], _, z, hz => by simp at hz
  | x :: xs, p :: ps, h, z, hz => by
    rw [List.map_cons, List.zip_cons_cons] at hz
    rcases List.mem_cons.mp hz with e | e
    · subst e
      exact ⟨p, h.1, rfl⟩
    · exact zip_mem h.2 z e
/-- sorted of a list of things that are written by enc -/
theorem w_sortN {α : Type} {K : PySem.W.Frag} {H : Hp} {Q : VK} {a : Addr} {vs : List V} {ps qs : List α} {R : V → α → Prop} {enc : α → ND} (inj : ∀ a b, enc a = enc b → a = b) (hd : ∀ v p, R v p → Dp K H v (enc p).py ∧ ∃ t, v = .ref t)
    (h1 : SqL K H a vs) (p1 : All2 R vs ps) (ok : SrtOk (ps.map enc)) (hs : ND.sort (ps.map enc) = qs.map enc) (h : ∀ ys p, H p = none → All2 R ys qs → Q (.ref p) (upd H p (.lst ys))) : rSortN K [.ref a] H Q := by
  refine ⟨a, vs, ps.map enc, rfl, h1, ?_, fun x hx => ?_, ok, fun zs p pm hz hp => h _ p hp ?_⟩
  · clear h h1 ok hs
    induction vs generalizing ps with
    | nil => cases ps with
      | nil => trivial
      | cons _ _ => exact p1.elim
    | cons v vs ih => cases ps with
      | nil => exact p1.elim
      | cons q qs => exact ⟨(hd _ _ p1.1).1, ih p1.2⟩
  · obtain ⟨q, _, r⟩ := p1.mem hx
    exact (hd _ _ r).2
  · exact all2_zip inj (fun z hz' => zip_mem p1 z (pm.mem_iff.mp hz')) (hz.trans hs)
theorem _root_.L2.Room.u40 {A : Around} {k : Nat} (hr : Room k A) : A.units + 40 < cLine := by have := hr.un; omega
/-! #### a sorted list through a way to write it -/
theorem sort_enc {α : Type} {enc : α → ND} {le : α → α → Bool} (he : ∀ a b, ND.leB (enc a) (enc b) = le a b) (tr : ∀ a b c, le a b = true → le b c = true → le a c = true) (tot : ∀ a b, (le a b || le b a) = true) (xs : List α) : ND.sort (xs.map enc) = (xs.mergeSort le).map enc := by
  refine ND.sort_eq (List.pairwise_map.mpr ((List.pairwise_mergeSort tr tot xs).imp fun {a b} h => ?_)) ((List.mergeSort_perm xs le).map enc)
  rw [he]
  exact h
theorem leB_i (a b : Int) : ND.leB (.i a) (.i b) = decide (a ≤ b) := by
  unfold ND.leB ND.ltB
  simp only [ND.cmp]
  by_cases h : b < a
  · rw [ND.int_lt.mpr h, decide_eq_false (by omega)]; rfl
  · rw [decide_eq_true (by omega)]
    have : compare b a ≠ .lt := fun e => h (ND.int_lt.mp e)
    cases e : compare b a <;> simp_all
theorem leB_tcons (x y : ND) (xs ys : List ND) : ND.leB (.t (x :: xs)) (.t (y :: ys)) = (if ND.cmp x y = .eq then ND.leB (.t xs) (.t ys) else ND.leB x y) := by
  unfold ND.leB ND.ltB
  simp only [ND.cmp, ND.cmpL]
  rw [ND.cmp_swap x y]
  cases e : ND.cmp x y with
  | eq => rfl
  | lt => rfl
  | gt => rfl
theorem leB_tnil (ys : List ND) : ND.leB (.t []) (.t ys) = true := by
  unfold ND.leB ND.ltB
  cases ys <;> simp [ND.cmp, ND.cmpL]
theorem cmp_i_eq (a b : Int) : (ND.cmp (.i a) (.i b) = .eq) ↔ a = b := by
  simp only [ND.cmp]
  exact ⟨fun h => Std.LawfulEqCmp.eq_of_compare h, fun h => by subst h; exact Std.ReflCmp.compare_self⟩
end Pm
/-! ### plots -/
namespace Pm
abbrev I3 := Int × Int × Int
namespace Tr
def plots : Nat → Tr → List (Nat × Nat × Nat)
  | _, leaf => []
  | lo, node l r => (lo, lo + l.w, lo + (l.w + r.w)) :: (l.plots lo ++ r.plots (lo + l.w))
theorem plots_len : ∀ (t : Tr) (lo : Nat), (t.plots lo).length + 1 = t.w
  | leaf, _ => rfl
  | node l r, lo => by
    show ((lo, lo + l.w, lo + (l.w + r.w)) :: (l.plots lo ++ r.plots (lo + l.w))).length + 1 = l.w + r.w
    rw [List.length_cons, List.length_append]
    have h1 := plots_len l lo
    have h2 := plots_len r (lo + l.w)
    omega
theorem plots_bd : ∀ {t : Tr} {lo : Nat} {p : Nat × Nat × Nat}, p ∈ t.plots lo → lo ≤ p.1 ∧ p.1 < p.2.1 ∧ p.2.1 < p.2.2 ∧ p.2.2 ≤ lo + t.w
  | leaf, _, _, h => by cases h
  | node l r, lo, p, h => by
    have wl := l.w_pos
    have wr := r.w_pos
    show lo ≤ p.1 ∧ p.1 < p.2.1 ∧ p.2.1 < p.2.2 ∧ p.2.2 ≤ lo + (l.w + r.w)
    rcases List.mem_cons.mp h with h | h
    · rw [h]; simp only; omega
    · rcases List.mem_append.mp h with h | h
      · have := plots_bd h; omega
      · have := plots_bd h; omega
theorem plots_nodup : ∀ (t : Tr) (lo : Nat), (t.plots lo).Nodup
  | leaf, _ => List.nodup_nil
  | node l r, lo => by
    have wl := l.w_pos
    have wr := r.w_pos
    refine List.nodup_cons.mpr ⟨fun h => ?_, List.nodup_append.mpr ⟨plots_nodup l lo, plots_nodup r _, fun a ha b hb e => ?_⟩⟩
    · rcases List.mem_append.mp h with h | h
      · have := plots_bd h; simp only at this; omega
      · have := plots_bd h; simp only at this; omega
    · subst e
      have := plots_bd ha
      have := plots_bd hb
      omega
/-- three posts each two of which are tied -/
theorem plots_iff : ∀ {t : Tr} {lo a b c : Nat}, (a, b, c) ∈ t.plots lo ↔ (a < b ∧ b < c) ∧ (a, b) ∈ t.all lo ∧ (b, c) ∈ t.all lo ∧ (a, c) ∈ t.all lo
  | leaf, lo, a, b, c => by
    constructor
    · intro h; cases h
    · rintro ⟨h, h1, h2, h3⟩
      have := Prod.mk.inj (List.mem_singleton.mp h1)
      have := Prod.mk.inj (List.mem_singleton.mp h3)
      omega
  | node l r, lo, a, b, c => by
    have wl := l.w_pos
    have wr := r.w_pos
    constructor
    · intro h
      rcases List.mem_cons.mp h with h | h
      · obtain ⟨rfl, h⟩ := Prod.mk.inj h
        obtain ⟨rfl, rfl⟩ := Prod.mk.inj h
        exact ⟨⟨by omega, by omega⟩, mem_node.mpr (.inr (.inl root_mem)), mem_node.mpr (.inr (.inr (by rw [← Nat.add_assoc]; exact root_mem))), mem_node.mpr (.inl rfl)⟩
      · rcases List.mem_append.mp h with h | h
        · obtain ⟨q, h1, h2, h3⟩ := plots_iff.mp h
          exact ⟨q, mem_node.mpr (.inr (.inl h1)), mem_node.mpr (.inr (.inl h2)), mem_node.mpr (.inr (.inl h3))⟩
        · obtain ⟨q, h1, h2, h3⟩ := plots_iff.mp h
          exact ⟨q, mem_node.mpr (.inr (.inr h1)), mem_node.mpr (.inr (.inr h2)), mem_node.mpr (.inr (.inr h3))⟩
    · rintro ⟨q, h1, h2, h3⟩
      show (a, b, c) ∈ _ :: (_ ++ _)
      rw [List.mem_cons, List.mem_append]
      rcases mem_node.mp h3 with e | e | e
      · obtain ⟨rfl, rfl⟩ := Prod.mk.inj e
        have eb : b = a + l.w := by
          rcases mem_node.mp h1 with e | e | e
          · have := (Prod.mk.inj e).2; omega
          · have x1 := (bd e).2.2
            simp only at x1
            rcases mem_node.mp h2 with e | e | e
            · have := (Prod.mk.inj e).1; omega
            · have := (bd e).2.2; simp only at this; omega
            · have := (bd e).1; simp only at this; omega
          · have := (bd e).1; simp only at this; omega
        rw [eb]
        exact .inl rfl
      · have b3 := bd e
        simp only at b3
        refine .inr (.inl (plots_iff.mpr ⟨q, ?_, ?_, e⟩))
        · rcases mem_node.mp h1 with e | e | e
          · have := (Prod.mk.inj e).2; omega
          · exact e
          · have := (bd e).1; simp only at this; omega
        · rcases mem_node.mp h2 with e | e | e
          · have := (Prod.mk.inj e).1; omega
          · exact e
          · have := (bd e).1; simp only at this; omega
      · have b3 := bd e
        simp only at b3
        refine .inr (.inr (plots_iff.mpr ⟨q, ?_, ?_, e⟩))
        · rcases mem_node.mp h1 with e | e | e
          · have := (Prod.mk.inj e).1; omega
          · have := (bd e).2.2; simp only at this; omega
          · exact e
        · rcases mem_node.mp h2 with e | e | e
          · have := (Prod.mk.inj e).1; omega
          · have := (bd e).2.2; simp only at this; omega
          · exact e
end Tr
/-! #### triples in order -/
def lex3 (p q : I3) : Bool := decide (p.1 < q.1 ∨ (p.1 = q.1 ∧ (p.2.1 < q.2.1 ∨ (p.2.1 = q.2.1 ∧ p.2.2 ≤ q.2.2))))
theorem lex3_iff {p q : I3} : lex3 p q = true ↔ (p.1 < q.1 ∨ (p.1 = q.1 ∧ (p.2.1 < q.2.1 ∨ (p.2.1 = q.2.1 ∧ p.2.2 ≤ q.2.2)))) := decide_eq_true_iff
theorem lex3_trans (p q r : I3) (h : lex3 p q = true) (k : lex3 q r = true) : lex3 p r = true := by
  have h := lex3_iff.mp h
  have k := lex3_iff.mp k
  exact lex3_iff.mpr (by omega)
theorem lex3_total (p q : I3) : (lex3 p q || lex3 q p) = true := by
  rw [Bool.or_eq_true, lex3_iff, lex3_iff]
  omega
theorem lex3_anti {p q : I3} (h : lex3 p q = true) (k : lex3 q p = true) : p = q := by
  have h := lex3_iff.mp h
  have k := lex3_iff.mp k
  obtain ⟨a, b, e⟩ := p
  obtain ⟨c, d, f⟩ := q
  simp only at h k
  have e1 : a = c := by omega
  have e2 : b = d := by omega
  have e3 : e = f := by omega
  rw [e1, e2, e3]
abbrev Rising3 (ps : List I3) : Prop := ps.Pairwise fun p q => lex3 p q = true
def sort3 (ps : List I3) : List I3 := ps.mergeSort lex3
theorem sort3_perm (ps : List I3) : (sort3 ps).Perm ps := List.mergeSort_perm ps lex3
theorem sort3_rising (ps : List I3) : Rising3 (sort3 ps) := List.pairwise_mergeSort lex3_trans lex3_total ps
theorem rising3_eq {ps qs : List I3} (h : Rising3 ps) (k : Rising3 qs) (e : ps.Perm qs) : ps = qs := List.Perm.eq_of_pairwise (fun _ _ _ _ a b => lex3_anti a b) h k e
theorem sort3_eq {ps qs : List I3} (h : Rising3 ps) (e : ps.Perm qs) : sort3 qs = ps := rising3_eq (sort3_rising qs) h ((sort3_perm qs).trans e.symm)
/-! #### the plots of a list of ties -/
def cast3 (p : Nat × Nat × Nat) : I3 := ((p.1 : Int), (p.2.1 : Int), (p.2.2 : Int))
theorem cast3_inj {p q : Nat × Nat × Nat} (h : cast3 p = cast3 q) : p = q := by
  obtain ⟨a, b, e⟩ := p
  obtain ⟨c, d, f⟩ := q
  have e1 := congrArg Prod.fst h
  have e2 := congrArg (fun z => z.2.1) h
  have e3 := congrArg (fun z => z.2.2) h
  simp only [cast3] at e1 e2 e3
  rw [show a = c by omega, show b = d by omega, show e = f by omega]
/-- the third posts above a tie -/
def above (n : Nat) (T : List IP) (p : IP) : List Nat := (List.range (((n : Int) - (p.2 + 1)).toNat)).filter fun i => decide ((p.1, p.2 + 1 + (i : Int)) ∈ T) && decide ((p.2, p.2 + 1 + (i : Int)) ∈ T)
def plots0 (n : Nat) (T S : List IP) : List I3 := S.flatMap fun p => (above n T p).map fun i : Nat => (p.1, p.2, p.2 + 1 + (i : Int))
def plotsL (n : Nat) (cut : List IP) : List I3 := sort3 (plots0 n (tiesL n cut) (tiesL n cut))
theorem mem_plots0 {n : Nat} {T S : List IP} {q : I3} : q ∈ plots0 n T S ↔ (q.1, q.2.1) ∈ S ∧ q.2.1 < q.2.2 ∧ q.2.2 < n ∧ (q.1, q.2.2) ∈ T ∧ (q.2.1, q.2.2) ∈ T := by
  unfold plots0
  rw [List.mem_flatMap]
  constructor
  · rintro ⟨p, hp, hq⟩
    obtain ⟨i, hi, rfl⟩ := List.mem_map.mp hq
    unfold above at hi
    rw [List.mem_filter, List.mem_range, Bool.and_eq_true, decide_eq_true_iff, decide_eq_true_iff] at hi
    exact ⟨hp, by simp only; omega, by simp only; omega, hi.2.1, hi.2.2⟩
  · rintro ⟨h1, h2, h3, h4, h5⟩
    refine ⟨_, h1, List.mem_map.mpr ⟨(q.2.2 - (q.2.1 + 1)).toNat, ?_, ?_⟩⟩
    · unfold above
      rw [List.mem_filter, List.mem_range, Bool.and_eq_true, decide_eq_true_iff, decide_eq_true_iff]
      have e : q.2.1 + 1 + ((q.2.2 - (q.2.1 + 1)).toNat : Int) = q.2.2 := by omega
      simp only
      rw [e]
      exact ⟨by omega, h4, h5⟩
    · obtain ⟨a, b, c⟩ := q
      simp only at h2 ⊢
      have e : b + 1 + ((c - (b + 1)).toNat : Int) = c := by omega
      rw [e]
section
variable {n : Nat} {cut : List IP} {t : Tr}
theorem plots0_nodup {T S : List IP} (h : S.Nodup) : (plots0 n T S).Nodup := by
  unfold plots0
  induction S with
  | nil => exact List.nodup_nil
  | cons p S ih =>
    obtain ⟨h1, h2⟩ := List.nodup_cons.mp h
    rw [List.flatMap_cons]
    refine List.nodup_append.mpr ⟨?_, ih h2, fun a ha b hb e => ?_⟩
    · have nd : (above n T p).Nodup := (List.nodup_range (n := ((n : Int) - (p.2 + 1)).toNat)).sublist List.filter_sublist
      refine List.Pairwise.map _ ?_ nd
      intro i j hij e
      have := congrArg (fun z => z.2.2) e
      simp only at this
      exact hij (by omega)
    · subst e
      obtain ⟨i, _, rfl⟩ := List.mem_map.mp ha
      have := mem_plots0.mp hb
      exact h1 this.1
theorem Cutting.ties_nodup (C : Cutting n cut t) : (tiesL n cut).Nodup := by
  have w2 := C.w2
  have hw := C.w
  refine ((sortP_perm _).nodup_iff).mpr (List.nodup_append.mpr ⟨?_, ?_, fun a ha b hb e => ?_⟩)
  · unfold sides0
    refine List.nodup_append.mpr ⟨?_, by simp, fun a ha b hb e => ?_⟩
    · refine List.Pairwise.map _ ?_ (List.nodup_range (n := n - 1))
      intro i j hij e
      have := congrArg Prod.fst e
      simp only at this
      exact hij (by omega)
    · subst e
      obtain ⟨k, hk, rfl⟩ := List.mem_map.mp ha
      have := List.mem_singleton.mp hb
      have e1 := congrArg Prod.fst this
      have e2 := congrArg Prod.snd this
      simp only at e1 e2
      omega
  · refine (C.perm.nodup_iff).mpr (List.Pairwise.map _ ?_ (Tr.ropes_nodup t 0))
    intro p q hpq e
    exact hpq (castP_inj e)
  · subst e
    obtain ⟨q, hq, rfl⟩ := C.mem.mp hb
    have hr := (ropes_iff w2).mp hq
    have hwid := Tr.inn_wide hr.1
    rcases (mem_sides0 (by omega)).mp ha with ⟨k, hk, e⟩ | e
    · rw [castP_inj e] at hwid
      simp only at hwid
      omega
    · refine hr.2 ?_
      rw [castP_inj e, ← hw] <;> rfl
theorem Cutting.plots_perm (C : Cutting n cut t) : (plots0 n (tiesL n cut) (tiesL n cut)).Perm ((t.plots 0).map cast3) := by
  have hw := C.w
  refine (List.perm_ext_iff_of_nodup (plots0_nodup C.ties_nodup) (List.Pairwise.map _ (fun p q hpq e => hpq (cast3_inj e)) (Tr.plots_nodup t 0))).mpr fun q => ?_
  rw [mem_plots0, List.mem_map]
  obtain ⟨a, b, c⟩ := q
  simp only
  constructor
  · rintro ⟨h1, h2, h3, h4, h5⟩
    obtain ⟨⟨x, y⟩, hx, ex⟩ := C.ties.mp h1
    obtain ⟨⟨x2, z⟩, hz, ez⟩ := C.ties.mp h4
    obtain ⟨⟨y2, z2⟩, hy, ey⟩ := C.ties.mp h5
    simp only [castP, Prod.mk.injEq] at ex ez ey
    obtain ⟨rfl, rfl⟩ := ex
    obtain ⟨e1, rfl⟩ := ez
    obtain ⟨e2, e3⟩ := ey
    have f1 : x2 = x := by omega
    have f2 : y2 = y := by omega
    have f3 : z2 = z := by omega
    subst f1 f2 f3
    have b1 := Tr.bd hx
    have b2 := Tr.bd hy
    simp only at b1 b2
    exact ⟨(x2, y2, z2), Tr.plots_iff.mpr ⟨⟨by omega, by omega⟩, hx, hy, hz⟩, rfl⟩
  · rintro ⟨⟨x, y, z⟩, hp, e⟩
    obtain ⟨q, h1, h2, h3⟩ := Tr.plots_iff.mp hp
    have b1 := Tr.plots_bd hp
    simp only at b1
    have e1 := congrArg Prod.fst e
    have e2 := congrArg (fun z => z.2.1) e
    have e3 := congrArg (fun z => z.2.2) e
    simp only [cast3] at e1 e2 e3
    subst e1 e2 e3
    exact ⟨C.tied.mpr h1, by omega, by omega, C.tied.mpr h3, C.tied.mpr h2⟩
theorem Cutting.plots_len (C : Cutting n cut t) : (plotsL n cut).length + 2 = n := by
  have hw := C.w
  have h := Tr.plots_len t 0
  rw [plotsL, (sort3_perm _).length_eq, C.plots_perm.length_eq, List.length_map]
  omega
theorem Cutting.mem_plots (C : Cutting n cut t) {q : I3} : q ∈ plotsL n cut ↔ ∃ p, p ∈ t.plots 0 ∧ q = cast3 p := by
  rw [plotsL, (sort3_perm _).mem_iff, C.plots_perm.mem_iff, List.mem_map]
  exact ⟨fun ⟨q, h, e⟩ => ⟨q, h, e.symm⟩, fun ⟨q, h, e⟩ => ⟨q, h, e.symm⟩⟩
theorem Cutting.plots_nodup (C : Cutting n cut t) : (plotsL n cut).Nodup := ((sort3_perm _).nodup_iff).mpr (plots0_nodup C.ties_nodup)
end
/-! #### triples as data -/
section
open PySem PySem.Spec PyProof.Rows L2
def nd3 (q : I3) : ND := .t [.i q.1, .i q.2.1, .i q.2.2]
theorem leB_nd3 (p q : I3) : ND.leB (nd3 p) (nd3 q) = lex3 p q := by
  unfold nd3
  rw [leB_tcons, leB_tcons, leB_tcons, leB_tnil, leB_i, leB_i, leB_i]
  simp only [cmp_i_eq]
  unfold lex3
  by_cases h1 : p.1 = q.1 <;> by_cases h2 : p.2.1 = q.2.1 <;> by_cases h3 : p.2.2 = q.2.2 <;> simp [h1, h2, h3] <;> omega
theorem sort_nd3 (ps : List I3) : ND.sort (ps.map nd3) = (sort3 ps).map nd3 := sort_enc leB_nd3 lex3_trans lex3_total ps
theorem nd3_inj {p q : I3} (h : nd3 p = nd3 q) : p = q := by
  obtain ⟨a, b, c⟩ := p
  obtain ⟨d, e, f⟩ := q
  unfold nd3 at h
  injection h with h
  injection h with h1 h
  injection h with h2 h
  injection h with h3 _
  injection h1 with h1
  injection h2 with h2
  injection h3 with h3
  simp only at h1 h2 h3
  rw [h1, h2, h3]
theorem dp_er {K : PySem.W.Frag} {H : Hp} {v : V} {q : I3} (h : Er H v q) : Dp K H v (nd3 q).py := by
  obtain ⟨t, rfl, ht⟩ := h
  simp only [nd3, ND.py, ND.pyL]
  exact .tup (SqT.of ht) (.cons (.int _) (.cons (.int _) (.cons (.int _) .nil)))
theorem srt3 (ps : List I3) : SrtOk (ps.map nd3) := by
  refine ⟨fun d hd => ?_, fun d hd e he => ?_, fun d hd => ?_⟩
  · obtain ⟨p, _, rfl⟩ := List.mem_map.mp hd
    exact ⟨_, _, rfl⟩
  · obtain ⟨p, _, rfl⟩ := List.mem_map.mp hd
    obtain ⟨q, _, rfl⟩ := List.mem_map.mp he
    simp [nd3, ND.hom, ND.homL]
  · obtain ⟨p, _, rfl⟩ := List.mem_map.mp hd
    simp [nd3, ND.dep, ND.py, ND.pyL, PyData.depth, PyData.depthAll]
/-- sorted of a list of triples -/
theorem w_sort3 {K : PySem.W.Frag} {H : Hp} {Q : VK} {a : Addr} {vs : List V} {ps : List I3} (h1 : SqL K H a vs) (p1 : All2 (Er H) vs ps) (h : ∀ ys p, H p = none → All2 (Er H) ys (sort3 ps) → Q (.ref p) (upd H p (.lst ys))) : rSortN K [.ref a] H Q :=
  w_sortN (fun _ _ => nd3_inj) (fun v p r => ⟨dp_er r, by obtain ⟨t, e, _⟩ := r; exact ⟨t, e⟩⟩) h1 p1 (srt3 ps) (sort_nd3 ps) h
end
/-! #### how many plots hold a tie -/
theorem nodup_map_on {α β : Type} {f : α → β} : ∀ {l : List α}, (∀ x ∈ l, ∀ y ∈ l, f x = f y → x = y) → l.Nodup → (l.map f).Nodup
  | [], _, _ => List.nodup_nil
  | a :: l, h, nd => by
    obtain ⟨h1, h2⟩ := List.nodup_cons.mp nd
    refine List.nodup_cons.mpr ⟨fun hm => ?_, nodup_map_on (fun x hx y hy => h x (List.mem_cons_of_mem _ hx) y (List.mem_cons_of_mem _ hy)) h2⟩
    obtain ⟨b, hb, e⟩ := List.mem_map.mp hm
    exact h1 (by rw [← h b (List.mem_cons_of_mem _ hb) a List.mem_cons_self e]; exact hb)
def holds3 (q : I3) (p : IP) : Bool := decide (p.1 = q.1 ∨ p.1 = q.2.1 ∨ p.1 = q.2.2) && decide (p.2 = q.1 ∨ p.2 = q.2.1 ∨ p.2 = q.2.2)
theorem holds3_iff {q : I3} {p : IP} : holds3 q p = true ↔ (p.1 = q.1 ∨ p.1 = q.2.1 ∨ p.1 = q.2.2) ∧ (p.2 = q.1 ∨ p.2 = q.2.1 ∨ p.2 = q.2.2) := by
  unfold holds3
  rw [Bool.and_eq_true, decide_eq_true_iff, decide_eq_true_iff]
def third (q : I3) (p : IP) : Int := q.1 + q.2.1 + q.2.2 - p.1 - p.2
section
variable {n : Nat} {cut : List IP} {t : Tr}
theorem Cutting.holds_len (C : Cutting n cut t) {p : IP} (hp : p ∈ tiesL n cut) : ((plotsL n cut).filter fun q => holds3 q p).length = 1 + (if p ∈ cut then 1 else 0) := by
  have hw := C.w
  obtain ⟨⟨x, y⟩, hxy, rfl⟩ := C.ties.mp hp
  have bx := Tr.bd hxy
  simp only at bx
  have et : tieOf (x : Int) (y : Int) = castP (x, y) := by rw [tie_cast, Nat.min_eq_left (by omega), Nat.max_eq_right (by omega)]
  have hl := C.beside_len (a := x) (b := y) (by rw [et]; exact hp)
  rw [et] at hl
  rw [← hl]
  have pm : (((plotsL n cut).filter fun q => holds3 q (castP (x, y))).map fun q => third q (castP (x, y))).Perm (besideL n (tiesL n cut) x y) := by
    refine (List.perm_ext_iff_of_nodup ?_ ?_).mpr fun c => ?_
    · refine nodup_map_on (fun q hq q' hq' e => ?_) (C.plots_nodup.sublist List.filter_sublist)
      obtain ⟨hq, h1⟩ := List.mem_filter.mp hq
      obtain ⟨hq', h2⟩ := List.mem_filter.mp hq'
      obtain ⟨⟨a, b, c⟩, ha, rfl⟩ := C.mem_plots.mp hq
      obtain ⟨⟨a', b', c'⟩, ha', rfl⟩ := C.mem_plots.mp hq'
      have b1 := Tr.plots_bd ha
      have b2 := Tr.plots_bd ha'
      have h1 := holds3_iff.mp h1
      have h2 := holds3_iff.mp h2
      simp only [third, castP, cast3] at h1 h2 e b1 b2
      have : a = a' ∧ b = b' ∧ c = c' := by omega
      rw [this.1, this.2.1, this.2.2]
    · unfold besideL
      refine List.Pairwise.map _ ?_ ((List.nodup_range (n := n)).sublist List.filter_sublist)
      intro i j hij e
      exact hij (by omega)
    · rw [List.mem_map]
      unfold besideL
      rw [List.mem_map]
      constructor
      · rintro ⟨q, hq, rfl⟩
        obtain ⟨hq, h1⟩ := List.mem_filter.mp hq
        obtain ⟨⟨a, b, c⟩, ha, rfl⟩ := C.mem_plots.mp hq
        obtain ⟨o, k1, k2, k3⟩ := Tr.plots_iff.mp ha
        have b1 := Tr.plots_bd ha
        have h1 := holds3_iff.mp h1
        simp only [third, castP, cast3] at h1 b1 ⊢
        have cs : (x = a ∧ y = b) ∨ (x = b ∧ y = c) ∨ (x = a ∧ y = c) := by omega
        rcases cs with ⟨rfl, rfl⟩ | ⟨rfl, rfl⟩ | ⟨rfl, rfl⟩
        · exact ⟨c, List.mem_filter.mpr ⟨List.mem_range.mpr (by omega), (C.beside_iff bx.2.1).mpr (.inr (.inr ⟨by omega, k3, k2⟩))⟩, by omega⟩
        · exact ⟨a, List.mem_filter.mpr ⟨List.mem_range.mpr (by omega), (C.beside_iff bx.2.1).mpr (.inr (.inl ⟨by omega, k1, k3⟩))⟩, by omega⟩
        · exact ⟨b, List.mem_filter.mpr ⟨List.mem_range.mpr (by omega), (C.beside_iff bx.2.1).mpr (.inl ⟨o, k1, k2⟩)⟩, by omega⟩
      · rintro ⟨m, hm, rfl⟩
        obtain ⟨_, hb⟩ := List.mem_filter.mp hm
        rcases (C.beside_iff bx.2.1).mp hb with ⟨o, k1, k2⟩ | ⟨o, k1, k2⟩ | ⟨o, k1, k2⟩
        · refine ⟨cast3 (x, m, y), List.mem_filter.mpr ⟨C.mem_plots.mpr ⟨_, Tr.plots_iff.mpr ⟨o, k1, k2, hxy⟩, rfl⟩, ?_⟩, ?_⟩
          · simp [holds3, castP, cast3]
          · simp only [third, castP, cast3]; omega
        · refine ⟨cast3 (m, x, y), List.mem_filter.mpr ⟨C.mem_plots.mpr ⟨_, Tr.plots_iff.mpr ⟨⟨o, bx.2.1⟩, k1, hxy, k2⟩, rfl⟩, ?_⟩, ?_⟩
          · simp [holds3, castP, cast3]
          · simp only [third, castP, cast3]; omega
        · refine ⟨cast3 (x, y, m), List.mem_filter.mpr ⟨C.mem_plots.mpr ⟨_, Tr.plots_iff.mpr ⟨⟨bx.2.1, o⟩, hxy, k2, k1⟩, rfl⟩, ?_⟩, ?_⟩
          · simp [holds3, castP, cast3]
          · simp only [third, castP, cast3]; omega
  have l := pm.length_eq
  rw [List.length_map] at l
  exact l
end
end Pm
/-! ### fractions: a tuple (top, bottom) in lowest terms is a Rat -/
namespace Pm
open PySem PySem.Spec PyProof.Rows L2
theorem gcd_turn (x y : Nat) (hy : 0 < y) : Nat.gcd y (x % y) = Nat.gcd x y := by
  rw [Nat.gcd_comm x y, Nat.gcd_rec y x, Nat.gcd_comm]
theorem gcd_abs (a b : Int) : Nat.gcd (if a < 0 then -a else a).natAbs (if b < 0 then -b else b).natAbs = Int.gcd a b := by
  unfold Int.gcd
  have e : ∀ c : Int, (if c < 0 then -c else c).natAbs = c.natAbs := fun c => by split <;> omega
  rw [e, e]
theorem div_pos_num {a b : Int} (h : 0 < b) : a / ((Int.gcd a b : Nat) : Int) = (Rat.divInt a b).num ∧ b / ((Int.gcd a b : Nat) : Int) = ((Rat.divInt a b).den : Int) := by
  rw [Rat.num_divInt, Rat.den_divInt, if_neg (by omega), Int.sign_eq_one_of_pos h, Int.one_mul, Int.gcd_comm b a]
  refine ⟨rfl, ?_⟩
  rw [Int.natCast_ediv]
  congr 1
  omega
theorem div_neg_num {a b : Int} (h : b < 0) : -a / ((Int.gcd (-a) (-b) : Nat) : Int) = (Rat.divInt a b).num ∧ -b / ((Int.gcd (-a) (-b) : Nat) : Int) = ((Rat.divInt a b).den : Int) := by
  have q := div_pos_num (a := -a) (b := -b) (by omega)
  have e : Rat.divInt (-a) (-b) = Rat.divInt a b := Rat.neg_divInt_neg a b
  rw [e] at q
  exact q
theorem gcd_le_right {a b : Int} (h : 0 < b) : ((Int.gcd a b : Nat) : Int) ≤ b := Int.gcd_le_right a h
theorem gcd_pos {a b : Int} (h : b ≠ 0) : 0 < ((Int.gcd a b : Nat) : Int) := by
  have := Int.gcd_pos_of_ne_zero_right a h
  omega
/-- the size of a fraction -/
def rb (r : Rat) (n : Nat) : Prop := r.num.natAbs < 2 ^ n ∧ r.den < 2 ^ n
theorem rb.mono {r : Rat} {n m : Nat} (h : rb r n) (k : n ≤ m) : rb r m :=
  ⟨Nat.lt_of_lt_of_le h.1 (Nat.pow_le_pow_right (by decide) k), Nat.lt_of_lt_of_le h.2 (Nat.pow_le_pow_right (by decide) k)⟩
theorem rb_div {a b : Int} {n : Nat} (hb : b ≠ 0) (h1 : a.natAbs < 2 ^ n) (h2 : b.natAbs < 2 ^ n) : rb (Rat.divInt a b) n := by
  have hg : 0 < Int.gcd b a := Int.gcd_pos_of_ne_zero_left a hb
  constructor
  · rw [Rat.num_divInt]
    refine Nat.lt_of_le_of_lt ?_ h1
    have e : (b.sign * a).natAbs ≤ a.natAbs := by
      rw [Int.natAbs_mul]
      have := Int.natAbs_sign_of_ne_zero hb
      rw [this, Nat.one_mul]
      exact Nat.le_refl _
    refine Nat.le_trans ?_ e
    exact Int.natAbs_ediv_le_natAbs _ _
  · rw [Rat.den_divInt, if_neg hb]
    exact Nat.lt_of_le_of_lt (Nat.div_le_self _ _) h2
theorem rb_divW {a b : Int} {n m : Nat} (hb : b ≠ 0) (h1 : a.natAbs < 2 ^ n) (h2 : b.natAbs < 2 ^ m) : rb (Rat.divInt a b) (max n m) :=
  rb_div hb (Nat.lt_of_lt_of_le h1 (Nat.pow_le_pow_right (by decide) (Nat.le_max_left _ _))) (Nat.lt_of_lt_of_le h2 (Nat.pow_le_pow_right (by decide) (Nat.le_max_right _ _)))
theorem wide_add {i j : Int} {a b : Nat} (ha : i.natAbs < 2 ^ a) (hb : j.natAbs < 2 ^ a) : (i + j).natAbs < 2 ^ (a + 1) := by
  have := Int.natAbs_add_le i j
  rw [Nat.pow_succ]
  omega
theorem wide_sub {i j : Int} {a : Nat} (ha : i.natAbs < 2 ^ a) (hb : j.natAbs < 2 ^ a) : (i - j).natAbs < 2 ^ (a + 1) := by
  rw [Nat.pow_succ]
  omega
theorem den_ne (r : Rat) : (r.den : Int) ≠ 0 := by have := r.den_nz; omega
theorem divInt_self' (r : Rat) : Rat.divInt r.num r.den = r := Rat.num_divInt_den r
theorem plus_is (x y : Rat) : Rat.divInt (x.num * y.den + y.num * x.den) (x.den * y.den) = x + y := by
  rw [← Rat.divInt_add_divInt _ _ (den_ne x) (den_ne y), divInt_self', divInt_self']
theorem less_is (x y : Rat) : Rat.divInt (x.num * y.den - y.num * x.den) (x.den * y.den) = x - y := by
  rw [← Rat.divInt_sub_divInt _ _ (den_ne x) (den_ne y), divInt_self', divInt_self']
theorem times_is (x y : Rat) : Rat.divInt (x.num * y.num) (x.den * y.den) = x * y := by
  rw [← Rat.divInt_mul_divInt, divInt_self', divInt_self']
theorem over_is (x y : Rat) : Rat.divInt (x.num * y.den) (x.den * y.num) = x / y := by
  rw [← Rat.divInt_mul_divInt, divInt_self', Rat.div_def, Rat.inv_def]
theorem rb_pos {r : Rat} {n : Nat} (h : rb r n) : 0 < n := by
  rcases Nat.eq_zero_or_pos n with z | z
  · subst z
    have := h.2
    have := r.den_nz
    omega
  · exact z
theorem rb_den {r : Rat} {n : Nat} (h : rb r n) : (r.den : Int).natAbs < 2 ^ n := by have := h.2; omega
theorem den_mul (x y : Rat) : (x.den : Int) * (y.den : Int) ≠ 0 := Int.mul_ne_zero (den_ne x) (den_ne y)
theorem lt_dec (x y : Rat) : decide (x < y) = decide (x.num * (y.den : Int) < y.num * (x.den : Int)) := by
  have e : (x < y) ↔ (x.num * (y.den : Int) < y.num * (x.den : Int)) := Rat.lt_iff x y
  exact decide_eq_decide.mpr e
theorem rb_add {x y : Rat} {n m : Nat} (h : rb x n) (k : rb y m) : rb (x + y) (n + m + 1) := by
  rw [← plus_is]
  refine rb_div (den_mul x y) (wide_add (b := 0) (wide_lt h.1 (rb_den k)) ?_) ?_
  · rw [Nat.add_comm n m]; exact wide_lt k.1 (rb_den h)
  · exact Nat.lt_of_lt_of_le (wide_lt (rb_den h) (rb_den k)) (Nat.pow_le_pow_right (by decide) (by omega))
theorem rb_sub {x y : Rat} {n m : Nat} (h : rb x n) (k : rb y m) : rb (x - y) (n + m + 1) := by
  rw [← less_is]
  refine rb_div (den_mul x y) (wide_sub (wide_lt h.1 (rb_den k)) ?_) ?_
  · rw [Nat.add_comm n m]; exact wide_lt k.1 (rb_den h)
  · exact Nat.lt_of_lt_of_le (wide_lt (rb_den h) (rb_den k)) (Nat.pow_le_pow_right (by decide) (by omega))
theorem rb_mul {x y : Rat} {n m : Nat} (h : rb x n) (k : rb y m) : rb (x * y) (n + m) := by
  rw [← times_is]
  exact rb_div (den_mul x y) (wide_lt h.1 k.1) (wide_lt (rb_den h) (rb_den k))
theorem rb_quot {x y : Rat} {n m : Nat} (hy : y ≠ 0) (h : rb x n) (k : rb y m) : rb (x / y) (n + m) := by
  rw [← over_is]
  exact rb_div (Int.mul_ne_zero (den_ne x) (fun z => hy (Rat.num_eq_zero.mp z))) (wide_lt h.1 (rb_den k)) (wide_lt (rb_den h) k.1)
theorem cross_div {x y : Int} (h : y ≠ 0) : (Rat.divInt x y).num * y = (Rat.divInt x y).den * x := by
  have q : Rat.divInt (Rat.divInt x y).num (Rat.divInt x y).den = Rat.divInt x y := divInt_self' _
  rw [Rat.divInt_eq_divInt_iff (den_ne _) h] at q
  rw [q, Int.mul_comm]
/-- a new tuple that is the fraction r -/
def FrNew (H : Hp) (r : Rat) (Q : VK) : Prop := ∀ (t : Addr) (H' : Hp), Same H H' → H t = none → H' t = some (.tup [.int r.num, .int r.den]) → Q (.ref t) H'
end Pm
/-! ### lengths: two numbers for each post, a tie's length is their determinant -/
namespace Pm
structure V2 where
  p : Rat
  q : Rat
def det (a b : V2) : Rat := a.p * b.q - b.p * a.q
theorem det_pl (a b c d : V2) : det a c * det b d = det a b * det c d + det b c * det a d := by unfold det; grind
theorem det_anti (a b : V2) : det b a = - det a b := by unfold det; grind
theorem det_self (a : V2) : det a a = 0 := by unfold det; grind
def mix (a : V2) (x : Rat) (b : V2) (y : Rat) : V2 := ⟨a.p * x + b.p * y, a.q * x + b.q * y⟩
theorem det_mix_l (a b : V2) (x y : Rat) : det a (mix a x b y) = y * det a b := by unfold det mix; grind
theorem det_mix_r (a b : V2) (x y : Rat) : det (mix a x b y) b = x * det a b := by unfold det mix; grind
theorem rat_mul_pos {a b : Rat} (h : 0 < a) (k : 0 < b) : 0 < a * b := Rat.mul_pos h k
theorem rat_pos_of_mul {a b : Rat} (hb : 0 < b) (h : 0 < a * b) : 0 < a := by
  by_cases z : 0 < a
  · exact z
  · have z1 : a ≤ 0 := by grind
    have z2 : 0 ≤ -a := by grind
    have := Rat.mul_nonneg z2 (show (0 : Rat) ≤ b by grind)
    grind
theorem rat_cancel_l {X A B : Rat} (h : 0 < X) (e : X * A = X * B) : A = B := by
  have : X ≠ 0 := by grind
  clear h
  grind
theorem rat_cancel_r {X A B : Rat} (h : 0 < X) (e : A * X = B * X) : A = B := by
  have : X ≠ 0 := by grind
  clear h
  grind
theorem rat_div_pos {a b : Rat} (h : 0 < a) (k : 0 < b) : 0 < a / b := by
  refine rat_pos_of_mul k ?_
  have : a / b * b = a := by grind
  rw [this]; exact h
abbrev Len := Nat × Nat → Rat
namespace Tr
def Stood (t : Tr) (lo : Nat) (L : Len) (S : Nat → V2) : Prop := ∀ p ∈ t.all lo, det (S p.1) (S p.2) = L p
def Pos (t : Tr) (lo : Nat) (L : Len) : Prop := ∀ p ∈ t.all lo, 0 < L p
theorem mem_l {l r : Tr} {lo : Nat} {p : Nat × Nat} (h : p ∈ l.all lo) : p ∈ (node l r).all lo := mem_node.mpr (.inr (.inl h))
theorem mem_r {l r : Tr} {lo : Nat} {p : Nat × Nat} (h : p ∈ r.all (lo + l.w)) : p ∈ (node l r).all lo := mem_node.mpr (.inr (.inr h))
theorem mem_root {l r : Tr} {lo : Nat} : (lo, lo + (l.w + r.w)) ∈ (node l r).all lo := mem_node.mpr (.inl rfl)
def std : Tr → Nat → Len → V2 → V2 → Nat → V2
  | leaf, lo, _, a, b, i => if i ≤ lo then a else b
  | node l r, lo, L, a, b, i =>
    if i ≤ lo + l.w then std l lo L a (mix a (L (lo + l.w, lo + (l.w + r.w)) / L (lo, lo + (l.w + r.w))) b (L (lo, lo + l.w) / L (lo, lo + (l.w + r.w)))) i
    else std r (lo + l.w) L (mix a (L (lo + l.w, lo + (l.w + r.w)) / L (lo, lo + (l.w + r.w))) b (L (lo, lo + l.w) / L (lo, lo + (l.w + r.w)))) b i
theorem std_lo : ∀ (t : Tr) (lo : Nat) (L : Len) (a b : V2), t.std lo L a b lo = a
  | leaf, lo, L, a, b => by unfold std; rw [if_pos (Nat.le_refl _)]
  | node l r, lo, L, a, b => by unfold std; rw [if_pos (by omega), std_lo l]
theorem std_hi : ∀ (t : Tr) (lo : Nat) (L : Len) (a b : V2), t.std lo L a b (lo + t.w) = b
  | leaf, lo, L, a, b => by unfold std w; rw [if_neg (by omega)]
  | node l r, lo, L, a, b => by
    have := w_pos r
    unfold std
    rw [if_neg (by simp only [w]; omega), show lo + (node l r).w = lo + l.w + r.w by simp only [w]; omega, std_hi r]
theorem std_stood : ∀ {t : Tr} {lo : Nat} {L : Len} {a b : V2}, t.Pos lo L → det a b = L (lo, lo + t.w) → t.Stood lo L (t.std lo L a b)
  | leaf, lo, L, a, b, _, h, p, hp => by
    have e : p = (lo, lo + 1) := by simpa [all] using hp
    subst e
    have e2 : lo + 1 = lo + leaf.w := rfl
    simp only
    rw [std_lo, e2, std_hi]
    exact h
  | node l r, lo, L, a, b, hP, h, p, hp => by
    have hL0 : 0 < L (lo, lo + (l.w + r.w)) := hP _ mem_root
    have hw : (node l r).w = l.w + r.w := rfl
    rw [hw] at h
    generalize hc : mix a (L (lo + l.w, lo + (l.w + r.w)) / L (lo, lo + (l.w + r.w))) b (L (lo, lo + l.w) / L (lo, lo + (l.w + r.w))) = c
    have h1 : det a c = L (lo, lo + l.w) := by
      rw [← hc, det_mix_l, h]; grind
    have h2 : det c b = L (lo + l.w, lo + l.w + r.w) := by
      rw [← hc, det_mix_r, h, Nat.add_assoc]; grind
    have ihl := std_stood (t := l) (lo := lo) (L := L) (a := a) (b := c) (fun p hp => hP p (mem_l hp)) h1
    have ihr := std_stood (t := r) (lo := lo + l.w) (L := L) (a := c) (b := b) (fun p hp => hP p (mem_r hp)) h2
    have eL : ∀ i, i ≤ lo + l.w → (node l r).std lo L a b i = l.std lo L a c i := fun i hi => by
      show (if i ≤ lo + l.w then _ else _) = _
      rw [if_pos hi, hc]
    have eR : ∀ i, lo + l.w ≤ i → (node l r).std lo L a b i = r.std (lo + l.w) L c b i := fun i hi => by
      rcases Nat.eq_or_lt_of_le hi with e | e
      · subst e
        rw [eL _ (Nat.le_refl _), std_hi, std_lo]
      · show (if i ≤ lo + l.w then _ else _) = _
        rw [if_neg (by omega), hc]
    rcases mem_node.mp hp with rfl | q | q
    · simp only
      have := std_hi (node l r) lo L a b
      rw [hw] at this
      rw [std_lo, this]; exact h
    · have b1 := bd q
      rw [eL _ (by omega), eL _ (by omega)]
      exact ihl p q
    · have b1 := bd q
      rw [eR _ (by omega), eR _ (by omega)]
      exact ihr p q
theorem ends_eq : ∀ {t : Tr} {lo : Nat} {L : Len} {S S' : Nat → V2}, t.Pos lo L → t.Stood lo L S → t.Stood lo L S' → ∀ i, lo ≤ i → i ≤ lo + t.w →
    det (S lo) (S i) = det (S' lo) (S' i) ∧ det (S i) (S (lo + t.w)) = det (S' i) (S' (lo + t.w))
  | leaf, lo, L, S, S', _, h, h', i, h1, h2 => by
    have e := h (lo, lo + 1) (by simp [all])
    have e' := h' (lo, lo + 1) (by simp [all])
    simp only [w] at *
    rcases Nat.eq_or_lt_of_le h1 with z | z
    · subst z
      rw [det_self, det_self, e, e']; exact ⟨rfl, rfl⟩
    · have z : i = lo + 1 := by omega
      subst z
      rw [det_self, det_self, e, e']; exact ⟨rfl, rfl⟩
  | node l r, lo, L, S, S', hP, h, h', i, h1, h2 => by
    have hw : (node l r).w = l.w + r.w := rfl
    rw [hw] at h2 ⊢
    have r0 := h _ (mem_root (l := l) (r := r) (lo := lo))
    have r0' := h' _ (mem_root (l := l) (r := r) (lo := lo))
    have l0 := h _ (mem_l (r := r) (root_mem (t := l) (lo := lo)))
    have l0' := h' _ (mem_l (r := r) (root_mem (t := l) (lo := lo)))
    have k0 := h _ (mem_r (l := l) (root_mem (t := r) (lo := lo + l.w)))
    have k0' := h' _ (mem_r (l := l) (root_mem (t := r) (lo := lo + l.w)))
    have pl := hP _ (mem_l (r := r) (root_mem (t := l) (lo := lo)))
    have pr := hP _ (mem_r (l := l) (root_mem (t := r) (lo := lo + l.w)))
    simp only at r0 r0' l0 l0' k0 k0' pl pr
    rw [Nat.add_assoc] at k0 k0' pr
    by_cases z : i ≤ lo + l.w
    · have ih := ends_eq (t := l) (fun p hp => hP p (mem_l hp)) (fun p hp => h p (mem_l hp)) (fun p hp => h' p (mem_l hp)) i h1 z
      refine ⟨ih.1, ?_⟩
      have p1 := det_pl (S lo) (S i) (S (lo + l.w)) (S (lo + (l.w + r.w)))
      have p2 := det_pl (S' lo) (S' i) (S' (lo + l.w)) (S' (lo + (l.w + r.w)))
      generalize det (S i) (S (lo + (l.w + r.w))) = A at *
      generalize det (S' i) (S' (lo + (l.w + r.w))) = B at *
      rw [l0, r0, k0, ih.1, ih.2] at p1
      rw [l0', r0', k0'] at p2
      generalize L (lo, lo + l.w) = X at *
      exact rat_cancel_l pl (by rw [p1, p2])
    · have ih := ends_eq (t := r) (lo := lo + l.w) (fun p hp => hP p (mem_r hp)) (fun p hp => h p (mem_r hp)) (fun p hp => h' p (mem_r hp)) i (by omega) (by omega)
      rw [Nat.add_assoc] at ih
      refine ⟨?_, ih.2⟩
      have p1 := det_pl (S lo) (S (lo + l.w)) (S i) (S (lo + (l.w + r.w)))
      have p2 := det_pl (S' lo) (S' (lo + l.w)) (S' i) (S' (lo + (l.w + r.w)))
      generalize det (S lo) (S i) = A at *
      generalize det (S' lo) (S' i) = B at *
      rw [l0, r0, k0, ih.1, ih.2] at p1
      rw [l0', r0', k0'] at p2
      generalize L (lo + l.w, lo + (l.w + r.w)) = X at *
      exact rat_cancel_r pr (by rw [p1, p2])
theorem det_eq {t : Tr} {lo : Nat} {L : Len} {S S' : Nat → V2} (hP : t.Pos lo L) (h : t.Stood lo L S) (h' : t.Stood lo L S') {i k : Nat} (hi : lo ≤ i ∧ i ≤ lo + t.w) (hk : lo ≤ k ∧ k ≤ lo + t.w) : det (S i) (S k) = det (S' i) (S' k) := by
  have e1 := ends_eq hP h h' i hi.1 hi.2
  have e2 := ends_eq hP h h' k hk.1 hk.2
  have r0 := h _ (root_mem (t := t) (lo := lo))
  have r0' := h' _ (root_mem (t := t) (lo := lo))
  have p0 := hP _ (root_mem (t := t) (lo := lo))
  have p1 := det_pl (S lo) (S i) (S k) (S (lo + t.w))
  have p2 := det_pl (S' lo) (S' i) (S' k) (S' (lo + t.w))
  simp only at r0 r0' p0
  rw [r0, e2.1, e2.2, e1.1, e1.2] at p1
  rw [r0'] at p2
  generalize det (S i) (S k) = A at *
  generalize det (S' i) (S' k) = B at *
  generalize L (lo, lo + t.w) = X at *
  exact rat_cancel_r p0 (by grind)
theorem ends_pos : ∀ {t : Tr} {lo : Nat} {L : Len} {S : Nat → V2}, t.Pos lo L → t.Stood lo L S → ∀ i, (lo < i → i ≤ lo + t.w → 0 < det (S lo) (S i)) ∧ (lo ≤ i → i < lo + t.w → 0 < det (S i) (S (lo + t.w)))
  | leaf, lo, L, S, hP, h, i => by
    have e := h (lo, lo + 1) (by simp [all])
    have p := hP (lo, lo + 1) (by simp [all])
    simp only [w] at *
    refine ⟨fun h1 h2 => ?_, fun h1 h2 => ?_⟩
    · have z : i = lo + 1 := by omega
      subst z
      rw [e]; exact p
    · have z : i = lo := by omega
      subst z
      rw [e]; exact p
  | node l r, lo, L, S, hP, h, i => by
    have hw : (node l r).w = l.w + r.w := rfl
    rw [hw]
    have r0 := h _ (mem_root (l := l) (r := r) (lo := lo))
    have l0 := h _ (mem_l (r := r) (root_mem (t := l) (lo := lo)))
    have k0 := h _ (mem_r (l := l) (root_mem (t := r) (lo := lo + l.w)))
    have pp := hP _ (mem_root (l := l) (r := r) (lo := lo))
    have pl := hP _ (mem_l (r := r) (root_mem (t := l) (lo := lo)))
    have pr := hP _ (mem_r (l := l) (root_mem (t := r) (lo := lo + l.w)))
    simp only at r0 l0 k0 pl pr
    rw [Nat.add_assoc] at k0 pr
    have il := ends_pos (t := l) (fun p hp => hP p (mem_l hp)) (fun p hp => h p (mem_l hp)) i
    have ir := ends_pos (t := r) (lo := lo + l.w) (fun p hp => hP p (mem_r hp)) (fun p hp => h p (mem_r hp)) i
    rw [Nat.add_assoc] at ir
    refine ⟨fun h1 h2 => ?_, fun h1 h2 => ?_⟩
    · by_cases z : i ≤ lo + l.w
      · exact il.1 h1 z
      · have a1 := ir.1 (by omega) (by omega)
        have p1 := det_pl (S lo) (S (lo + l.w)) (S i) (S (lo + (l.w + r.w)))
        rw [l0, r0, k0] at p1
        refine rat_pos_of_mul pr ?_
        rw [p1]
        have := rat_mul_pos a1 pp
        rcases Nat.eq_or_lt_of_le h2 with z2 | z2
        · subst z2
          rw [det_self]
          grind
        · have a2 := ir.2 (by omega) (by omega)
          have := rat_mul_pos pl a2
          grind
    · by_cases z : lo + l.w ≤ i
      · exact ir.2 z (by omega)
      · have a1 := il.2 (by omega) (by omega)
        have p1 := det_pl (S lo) (S i) (S (lo + l.w)) (S (lo + (l.w + r.w)))
        rw [l0, r0, k0] at p1
        refine rat_pos_of_mul pl ?_
        rw [Rat.mul_comm, p1]
        have := rat_mul_pos a1 pp
        rcases Nat.eq_or_lt_of_le h1 with z2 | z2
        · subst z2
          rw [det_self]
          grind
        · have a2 := il.1 (by omega) (by omega)
          have := rat_mul_pos a2 pr
          grind
theorem det_pos : ∀ {t : Tr} {lo : Nat} {L : Len} {S : Nat → V2}, t.Pos lo L → t.Stood lo L S → ∀ i k, lo ≤ i → i < k → k ≤ lo + t.w → 0 < det (S i) (S k)
  | leaf, lo, L, S, hP, h, i, k, h1, h2, h3 => by
    have e := h (lo, lo + 1) (by simp [all])
    have p := hP (lo, lo + 1) (by simp [all])
    simp only [w] at *
    have z : i = lo := by omega
    have z2 : k = lo + 1 := by omega
    subst z z2
    rw [e]; exact p
  | node l r, lo, L, S, hP, h, i, k, h1, h2, h3 => by
    have hw : (node l r).w = l.w + r.w := rfl
    have il := det_pos (t := l) (fun p hp => hP p (mem_l hp)) (fun p hp => h p (mem_l hp)) i
    have ir := det_pos (t := r) (lo := lo + l.w) (fun p hp => hP p (mem_r hp)) (fun p hp => h p (mem_r hp))
    have ie := (ends_pos hP h i).2
    rw [hw] at h3 ie
    by_cases z : k ≤ lo + l.w
    · exact il k h1 h2 z
    · by_cases z2 : lo + l.w ≤ i
      · exact ir i k z2 h2 (by omega)
      · have a1 := il (lo + l.w) h1 (by omega) (Nat.le_refl _)
        have a2 := ir (lo + l.w) k (by omega) (by omega) (by omega)
        have a3 := ie (by omega) (by omega)
        have a4 := ir (lo + l.w) (lo + (l.w + r.w)) (by omega) (by have := w_pos r; omega) (by omega)
        have p1 := det_pl (S i) (S (lo + l.w)) (S k) (S (lo + (l.w + r.w)))
        refine rat_pos_of_mul a4 ?_
        rw [p1]
        have := rat_mul_pos a2 a3
        rcases Nat.eq_or_lt_of_le h3 with z2 | z2
        · subst z2
          rw [det_self]
          grind
        · have a5 := ir k (lo + (l.w + r.w)) (by omega) z2 (by omega)
          have := rat_mul_pos a1 a5
          grind
/-! #### posts that stand spread over plots -/
def Closed (t : Tr) (lo : Nat) (Z : Nat → Prop) : Prop := ∀ a b c, (a, b, c) ∈ t.plots lo → (Z a → Z b → Z c) ∧ (Z a → Z c → Z b) ∧ (Z b → Z c → Z a)
theorem mem_plots_node {l r : Tr} {lo : Nat} {q : Nat × Nat × Nat} : q ∈ (node l r).plots lo ↔ q = (lo, lo + l.w, lo + (l.w + r.w)) ∨ q ∈ l.plots lo ∨ q ∈ r.plots (lo + l.w) := by
  simp only [plots, List.mem_cons, List.mem_append]
theorem closed_down : ∀ {t : Tr} {lo : Nat} {Z : Nat → Prop}, t.Closed lo Z → Z lo → Z (lo + t.w) → ∀ i, lo ≤ i → i ≤ lo + t.w → Z i
  | leaf, lo, Z, _, h1, h2, i, h3, h4 => by
    simp only [w] at *
    rcases Nat.eq_or_lt_of_le h3 with z | z
    · subst z; exact h1
    · rw [show i = lo + 1 by omega]; exact h2
  | node l r, lo, Z, hC, h1, h2, i, h3, h4 => by
    have hw : (node l r).w = l.w + r.w := rfl
    rw [hw] at h2 h4
    have hm := (hC lo (lo + l.w) (lo + (l.w + r.w)) (mem_plots_node.mpr (.inl rfl))).2.1 h1 h2
    by_cases z : i ≤ lo + l.w
    · exact closed_down (t := l) (fun a b c h => hC a b c (mem_plots_node.mpr (.inr (.inl h)))) h1 hm i h3 z
    · exact closed_down (t := r) (lo := lo + l.w) (fun a b c h => hC a b c (mem_plots_node.mpr (.inr (.inr h)))) hm (by rw [Nat.add_assoc]; exact h2) i (by omega) (by omega)
theorem closed_up : ∀ {t : Tr} {lo : Nat} {Z : Nat → Prop}, t.Closed lo Z → ∀ {a b : Nat}, (a, b) ∈ t.all lo → Z a → Z b → Z lo ∧ Z (lo + t.w)
  | leaf, lo, Z, _, a, b, h, ha, hb => by
    have e : a = lo ∧ b = lo + 1 := by simpa [all] using h
    obtain ⟨rfl, rfl⟩ := e
    exact ⟨ha, hb⟩
  | node l r, lo, Z, hC, a, b, h, ha, hb => by
    have hw : (node l r).w = l.w + r.w := rfl
    rw [hw]
    have hp := hC lo (lo + l.w) (lo + (l.w + r.w)) (mem_plots_node.mpr (.inl rfl))
    rcases mem_node.mp h with e | q | q
    · injection e with e1 e2
      subst e1 e2
      exact ⟨ha, hb⟩
    · have := closed_up (t := l) (fun a b c h => hC a b c (mem_plots_node.mpr (.inr (.inl h)))) q ha hb
      exact ⟨this.1, hp.1 this.1 this.2⟩
    · have := closed_up (t := r) (lo := lo + l.w) (fun a b c h => hC a b c (mem_plots_node.mpr (.inr (.inr h)))) q ha hb
      rw [Nat.add_assoc] at this
      exact ⟨hp.2.2 this.1 this.2, this.2⟩
theorem closed_all {t : Tr} {Z : Nat → Prop} (hC : t.Closed 0 Z) {a b : Nat} (h : (a, b) ∈ t.all 0) (ha : Z a) (hb : Z b) {i : Nat} (hi : i ≤ t.w) : Z i := by
  obtain ⟨h1, h2⟩ := closed_up hC h ha hb
  exact closed_down hC h1 h2 i (by omega) (by omega)
end Tr
/-! #### what is measured -/
structure Meas (n : Nat) (t : Tr) (L : Len) (D : Nat → Nat → Rat) : Prop where
  w : t.w + 1 = n
  pos : t.Pos 0 L
  ex : ∃ S, t.Stood 0 L S ∧ ∀ i k, i < n → k < n → D i k = det (S i) (S k)
section
variable {n : Nat} {t : Tr} {L : Len} {D : Nat → Nat → Rat}
theorem Meas.tie (M : Meas n t L D) {i k : Nat} (h : (i, k) ∈ t.all 0) : D i k = L (i, k) := by
  obtain ⟨S, h1, h2⟩ := M.ex
  have b := Tr.bd h
  have := M.w
  rw [h2 i k (by omega) (by omega)]
  exact h1 _ h
theorem Meas.anti (M : Meas n t L D) {i k : Nat} (hi : i < n) (hk : k < n) : D k i = - D i k := by
  obtain ⟨S, h1, h2⟩ := M.ex
  rw [h2 i k hi hk, h2 k i hk hi, det_anti]
theorem Meas.self (M : Meas n t L D) {i : Nat} (hi : i < n) : D i i = 0 := by
  obtain ⟨S, h1, h2⟩ := M.ex
  rw [h2 i i hi hi, det_self]
theorem Meas.pl (M : Meas n t L D) {a b c d : Nat} (ha : a < n) (hb : b < n) (hc : c < n) (hd : d < n) : D a c * D b d = D a b * D c d + D b c * D a d := by
  obtain ⟨S, h1, h2⟩ := M.ex
  rw [h2 a c ha hc, h2 b d hb hd, h2 a b ha hb, h2 c d hc hd, h2 b c hb hc, h2 a d ha hd]
  exact det_pl _ _ _ _
theorem Meas.above (M : Meas n t L D) {i k : Nat} (h : i < k) (hk : k < n) : 0 < D i k := by
  obtain ⟨S, h1, h2⟩ := M.ex
  have := M.w
  rw [h2 i k (by omega) hk]
  exact Tr.det_pos M.pos h1 i k (by omega) h (by omega)
theorem Meas.ne (M : Meas n t L D) {i k : Nat} (h : i ≠ k) (hi : i < n) (hk : k < n) : D i k ≠ 0 := by
  rcases Nat.lt_or_gt_of_ne h with z | z
  · have := M.above z hk; grind
  · have := M.above z hi
    have := M.anti hk hi
    grind
theorem Meas.uniq {D' : Nat → Nat → Rat} (M : Meas n t L D) (M' : Meas n t L D') {i k : Nat} (hi : i < n) (hk : k < n) : D i k = D' i k := by
  obtain ⟨S, h1, h2⟩ := M.ex
  obtain ⟨S', h1', h2'⟩ := M'.ex
  have := M.w
  rw [h2 i k hi hk, h2' i k hi hk]
  exact Tr.det_eq M.pos h1 h1' (by omega) (by omega)
end
def Mt (t : Tr) (L : Len) (i k : Nat) : Rat := det (t.std 0 L ⟨1, 0⟩ ⟨0, L (0, t.w)⟩ i) (t.std 0 L ⟨1, 0⟩ ⟨0, L (0, t.w)⟩ k)
theorem meas_mt {n : Nat} {t : Tr} {L : Len} (hw : t.w + 1 = n) (hP : t.Pos 0 L) : Meas n t L (Mt t L) :=
  ⟨hw, hP, _, Tr.std_stood (t := t) (lo := 0) (a := ⟨1, 0⟩) (b := ⟨0, L (0, t.w)⟩) hP (by unfold det; rw [Nat.zero_add]; grind), fun _ _ _ _ => rfl⟩
/-- a rope turned: the same lengths are measured -/
theorem Meas.turn {n : Nat} {cut : List IP} {t t' : Tr} {x y m o : Nat} {R : List (Nat × Nat)} {L L' : Len} {D : Nat → Nat → Rat} (M : Meas n t L D) (C : Cutting n cut t) (U : Turning n cut t t' x y m o R)
    (h1 : ∀ p ∈ t.all 0, p ≠ (x, y) → L' p = L p) (h2 : L' (min m o, max m o) = D (min m o) (max m o)) : Meas n t' L' D := by
  have hw := U.cut'.w
  have bd : min m o < max m o ∧ max m o < n := by
    have z := U.cross C
    have z2 := Tr.bd (U.all_iff C |>.mpr (.inr rfl))
    omega
  refine ⟨U.cut'.w, fun p hp => ?_, ?_⟩
  · rcases (U.all_iff C).mp hp with ⟨q, ne⟩ | rfl
    · rw [h1 p q ne]; exact M.pos p q
    · rw [h2]; exact M.above bd.1 bd.2
  · obtain ⟨S, s1, s2⟩ := M.ex
    refine ⟨S, fun p hp => ?_, s2⟩
    rcases (U.all_iff C).mp hp with ⟨q, ne⟩ | rfl
    · rw [h1 p q ne]; exact s1 p q
    · rw [h2, s2 _ _ (by omega) (by omega)]
/-! #### how great the numbers may be -/
structure Bd (n : Nat) (D : Nat → Nat → Rat) (F : Nat) (B : Nat) : Prop where
  f0 : 0 < F
  fb : F < 2 ^ B
  all : ∀ i k, i < n → k < n → ∃ z : Int, D i k * F = z ∧ z.natAbs < 2 ^ B
theorem rat_of_mul {x : Rat} {F : Nat} {z : Int} (f0 : 0 < F) (h : x * F = z) : x = Rat.divInt z F := by
  rw [Rat.divInt_eq_div]
  have : (F : Rat) ≠ 0 := by
    intro e
    have : (F : Rat) = ((0 : Nat) : Rat) := by rw [e]; rfl
    have := Rat.natCast_inj.mp this
    omega
  have e2 : ((F : Int) : Rat) = (F : Rat) := rfl
  rw [e2, ← h]
  grind
theorem Bd.rb {n : Nat} {D : Nat → Nat → Rat} {F B : Nat} (h : Bd n D F B) {i k : Nat} (hi : i < n) (hk : k < n) : rb (D i k) B := by
  obtain ⟨z, h1, h2⟩ := h.all i k hi hk
  rw [rat_of_mul h.f0 h1]
  have := h.fb
  exact rb_div (by have := h.f0; omega) h2 (by omega)
theorem Bd.quot {n : Nat} {D : Nat → Nat → Rat} {F B : Nat} (h : Bd n D F B) {i k a b : Nat} (hi : i < n) (hk : k < n) (ha : a < n) (hb : b < n) (ne : D a b ≠ 0) : Pm.rb (D i k / D a b) B := by
  obtain ⟨z, h1, h2⟩ := h.all i k hi hk
  obtain ⟨y, h3, h4⟩ := h.all a b ha hb
  have y0 : y ≠ 0 := by
    rintro rfl
    have e := rat_of_mul h.f0 h3
    rw [Rat.zero_divInt] at e
    exact ne e
  have e : D i k / D a b = Rat.divInt z y := by
    rw [Rat.divInt_eq_div, ← h1, ← h3]
    have f : (F : Rat) ≠ 0 := by
      intro e
      have : (F : Rat) = ((0 : Nat) : Rat) := by rw [e]; rfl
      have := Rat.natCast_inj.mp this
      have := h.f0
      omega
    grind
  rw [e]
  exact rb_div y0 h2 h4
end Pm
/-! ### dicts with tuple keys: walked by pairs and by keys, copied, compared -/
namespace Pm
open PySem PySem.Spec PyProof.Rows L2
/-- the pairs of the locked dict at d, each a new tuple of the key's own tuple and the value -/
def Itit (d : Addr) (o : Obj) (kvs : List (List L2.Key × V)) : It :=
  ⟨fun i H => H d = some (.frz o (.dT kvs)) ∧ i < kvs.length, fun i H x H' => ∃ (T : Addr) (k : List L2.Key) (v : V) (q : Addr), kvs[i]? = some (k, v) ∧ x = .ref T ∧ H T = none ∧ H q = some (.tup (k.map kV)) ∧ H' = upd H T (.tup [.ref q, v]), fun i H => H d = some (.frz o (.dT kvs)) ∧ kvs.length ≤ i⟩
section
variable {X : Cx} {pins : List (Addr × Obj)} {σ : L2.St} {H : Hp} {s : Shared} {d : Addr} {o : Obj}
theorem frzT2 {kvs : List (List L2.Key × V)} (I : Inv X pins σ H s) (h : H d = some (.frz o (.dT kvs))) :
    (d == sysModules) = false ∧ s.heap.get? d = some o ∧ o.ExactDict ∧ ∃ (es : Array DictEntry) (ep : Nat), o.data = .dict es ep ∧ es.size = kvs.length ∧
      ∀ (i : Nat) (k : List L2.Key) (v : V), kvs[i]? = some (k, v) → ∃ (en : DictEntry) (q : Addr), es[i]? = some en ∧ en.key = .ref q ∧ H q = some (.tup (k.map kV)) ∧ RelV v en.val := by
  obtain ⟨hd, z, hs, xs, pr, o', es, ep, ho, hx, hdt, he, _⟩ := I.hok d _ h
  rw [hd] at ho
  cases ho
  refine ⟨hs, hd, hx, es, ep, hdt, ?_, fun i k v e => ?_⟩
  · have l1 : es.size = xs.length := size_of_entries he
    have l2 : kvs.length = xs.length := Paired.length pr
    omega
  · obtain ⟨b, hb, e1, e2, e3⟩ := paired_get pr e
    have q := entry_at he i
    rw [hb] at q
    exact ⟨_, b.2.1, q, rfl, e2, e3⟩
end
section
variable {P : Program} {w : World} {K : PySem.W.Frag} {d : Addr} {o : Obj} {es : Array DictEntry} {ep : Nat}
theorem turn_itemsT {kvs : List (List L2.Key × V)} {elts : List Expr} {kk : Nat} {tpos : Pos} (it : Addr) (hod : o.data = .dict es ep) :
    Turn P w K (.Tuple elts kk tpos) (Itit d o kvs) [it] it (fun i h => ∃ ok ov, IsItemIter h it d i kvs.length ep ok ov) where
  mem := by simp
  obj := fun i h st b hb => by
    have e : b = it := by simpa using hb
    subst e
    obtain ⟨ok, ov, e⟩ := st
    exact ⟨_, e, fun v z => nomatch z⟩
  keep := fun i h h' st k => let ⟨ok, ov, e⟩ := st; ⟨ok, ov, k it (by simp) _ e⟩
  item := by
    intro X hP hw hK hc i pins s σ H E I hf st hg
    subst hP hw hK
    obtain ⟨hd, hi⟩ := hg
    obtain ⟨hs, hgd, hx, es', ep', hdt, hsz, ent⟩ := frzT2 I hd
    obtain ⟨rfl, rfl⟩ := dict_ep hod hdt
    obtain ⟨⟨k, v⟩, hkv⟩ : ∃ p, kvs[i]? = some p := ⟨kvs[i], List.getElem?_eq_getElem hi⟩
    obtain ⟨en, q, hen, hkey, hq, rv⟩ := ent i k v hkv
    obtain ⟨ok, ov, he⟩ := st
    have hlt : it < s.heap.objs.size := Heap.lt_size he
    have hie : i < es'.size := by omega
    have een : es'[i] = en := by rw [Array.getElem?_eq_getElem hie] at hen; exact Option.some.inj hen
    rw [← hsz] at he
    refine DT.nextI he ⟨o, hgd, hx, hdt⟩ hie fun h' ho hT hz hk => ?_
    rw [een] at ho hT
    refine ⟨_, rfl, wpAny_letOwnedTupleGo_items (s := { s with heap := h' }) ho fun h'' he' sb => ?_⟩
    have hT2 : h''.get? s.heap.objs.size = some { cls := .type "tuple", data := .seq #[en.key, en.val] } := (sb.2 _ (Nat.ne_of_gt hlt)).trans hT
    have new : ObjOk X.prog X.w (upd H s.heap.objs.size (.tup [.ref q, v])) h'' s.heap.objs.size (.tup [.ref q, v]) :=
      ⟨by show 2 ≤ sizeLine; decide, [en.key, en.val], .cons hkey (.cons rv .nil), ⟨_, hT2, rfl, _, rfl⟩⟩
    have I1 : Inv X pins σ (upd H s.heap.objs.size (.tup [.ref q, v])) { s with heap := h'' } :=
      I.turnedNew (t' := s.toks) (ch := [it]) (fun b ob hb e => (sb.2 b (by simpa using hb)).trans (hk b ob (by simpa using hb) e)) hf (Nat.le_refl _) new
    refine ⟨.ref s.heap.objs.size, _, I1, rfl, ⟨_, k, v, q, hkv, rfl, I.hok.fresh (Nat.le_refl _), hq, rfl⟩, ⟨en.key, en.val, ?_⟩, fun b hb => ?_⟩
    · rw [← hsz]; exact he'
    · have e : b = it := by simpa using hb
      rw [e, upd_ne (Nat.ne_of_lt hlt)]
      exact (hf it (by simp)).1
  done := by
    intro X hP hw hK hc i pins s σ H E I hf st hg
    subst hP hw hK
    obtain ⟨hd, hi⟩ := hg
    obtain ⟨f0, f1, f2, f3, f4, f5⟩ := hf it (by simp)
    obtain ⟨hs, hgd, hx, es', ep', hdt, hsz, ent⟩ := frzT2 I hd
    obtain ⟨rfl, rfl⟩ := dict_ep hod hdt
    obtain ⟨ok, ov, he⟩ := st
    rw [← hsz] at he
    exact DT.endI (I.ok.hd hc) he ⟨o, hgd, hx, hdt⟩ (by omega) fun h' eb => ⟨rfl, I.turned (t' := s.toks) (fun b ob hb e => eb b ob hb e) f0 f1 f3 f4 f5⟩
  self := fun A i s Q E st h => let ⟨_, _, e⟩ := st; PySem.W.kcp_self e h
end
def iItemsT (td : TE) : TI := fun σ H R => td σ H fun x H1 => ∃ d o kvs, x = .ref d ∧ H1 d = some (.frz o (.dT kvs)) ∧ R (Itit d o kvs) H1
section
variable {X : Cx} {e : Expr} {td : TE} {apos cpos : Pos}
theorem pi_itemsT {elts : List Expr} {kk : Nat} {tpos : Pos} (he : PE X e td) (hbase : attributeBase e "items" X.env (eval e X.env) = eval e X.env := by rfl) (hline : (apos.endLine == cpos.line) = true := by rfl) :
    PI X (.Tuple elts kk tpos) (.Call (.Attribute e "items" apos) [] [] cpos) (iItemsT td) := by
  refine ⟨fun pins s σ H R I h => ?_⟩
  refine wpAny_Call_method (T := "dict") (id := "dict.items") hbase rfl hline F.plainAttrs_dict F.slot_dict_items F.type_dict_items (thn (he.run pins s σ H _ I h) fun u s1 ⟨x, H1, I1, rx, d, o, kvs, ex, hd, q⟩ => ?_)
  subst ex
  obtain rfl : u = Value.ref d := rx
  obtain ⟨hs, hgd, hx, es, ep, hdt, hsz, ent⟩ := frzT2 I1 hd
  have hraw : DT.Raw s1.heap d es ep := ⟨o, hgd, hx, hdt⟩
  refine ⟨hraw.typeIs, fun o' ho' => ?_, ?_⟩
  · cases ho'
    exact ⟨o, hgd, hx.2.1⟩
  have I2 : Inv X pins σ H1 { s1 with heap := s1.heap.push { cls := .type "dict_items", data := .fields #[.ref d] } } := I1.kept (t' := s1.toks) fun b ob q => Heap.get?_push_of_some _ q
  have fin : wpAny (model X.prog X.w) X.A (pyIter (.ref s1.heap.objs.size)) (PIE X pins σ (.Tuple elts kk tpos) R) X.xe { s1 with heap := s1.heap.push { cls := .type "dict_items", data := .fields #[.ref d] } } := by
    refine DT.iterI (d := d) ⟨_, Heap.get?_push_size _ rfl, rfl, rfl⟩ (hraw.push _) (pi_one (tk := s1.toks) I2 _ (turn_itemsT _ hdt) ⟨.none, .none, ?_⟩ q)
    rw [← hsz]
    exact Heap.get?_push_size _ rfl
  show wpAny _ _ (callWith cpos (.builtin "dict.items") [.ref d] [] []) _ X.xe s1
  exact method_meetsIn F.slot_dict_items F.entry_dict_items rfl (PySem.evalArgs_none ⟨rfl, hraw.typeIs, F.args_dict_items_1 _, _, DT.meetsItems (es := es) (ep := ep) hs, hraw, fin⟩)
end
/-! #### d.keys() walked -/
def iKeysT (td : TE) : TI := fun σ H R => td σ H fun x H1 => ∃ d o kvs, x = .ref d ∧ H1 d = some (.frz o (.dT kvs)) ∧ R (Itkt d o kvs) H1
section
variable {X : Cx} {tg e : Expr} {td : TE} {apos cpos : Pos}
theorem pi_keysT (he : PE X e td) (hbase : attributeBase e "keys" X.env (eval e X.env) = eval e X.env := by rfl) (hline : (apos.endLine == cpos.line) = true := by rfl) : PI X tg (.Call (.Attribute e "keys" apos) [] [] cpos) (iKeysT td) := by
  refine ⟨fun pins s σ H R I h => ?_⟩
  refine wpAny_Call_method (T := "dict") (id := "dict.keys") hbase rfl hline F.plainAttrs_dict F.slot_dict_keys F.type_dict_keys (thn (he.run pins s σ H _ I h) fun u s1 ⟨x, H1, I1, rx, d, o, kvs, ex, hd, q⟩ => ?_)
  subst ex
  obtain rfl : u = Value.ref d := rx
  obtain ⟨hs, hgd, hx, es, ep, hdt, hsz, ent⟩ := I1.frzT hd
  have hraw : s1.heap.DictRaw d es ep := ⟨o, hgd, hx, hdt⟩
  refine ⟨hraw.typeIs, fun o' ho' => ?_, ?_⟩
  · cases ho'
    exact ⟨o, hgd, hx.2.1⟩
  have I2 : Inv X pins σ H1 { s1 with heap := s1.heap.push { cls := .type "dict_keys", data := .fields #[.ref d] } } := I1.kept (t' := s1.toks) fun b ob q => Heap.get?_push_of_some _ q
  have fin : wpAny (model X.prog X.w) X.A (pyIter (.ref s1.heap.objs.size)) (PIE X pins σ tg R) X.xe { s1 with heap := s1.heap.push { cls := .type "dict_keys", data := .fields #[.ref d] } } := by
    refine wpAny_pyIter_keys_raw (d := d) ⟨_, Heap.get?_push_size _ rfl, rfl, rfl⟩ (hraw.push _) (pi_one (tk := s1.toks) I2 _ (turn_keysT _ hdt) ⟨_, Heap.get?_push_size _ rfl, rfl, ?_⟩ q)
    rw [hsz] <;> rfl
  show wpAny _ _ (callWith cpos (.builtin "dict.keys") [.ref d] [] []) _ X.xe s1
  exact method_meetsIn F.slot_dict_keys F.entry_dict_keys rfl (PySem.evalArgs_none ⟨rfl, hraw.typeIs, F.args_dict_keys_1 _, _, meets_dict_keys_raw d hs, ⟨⟨es, ep, hraw⟩, fin⟩⟩)
end
/-! #### dict(d), d.pop(k) -/
section
variable {prog : Program} {w : World} {κ : Type} [DecidableEq κ] {knd : HeapKind prog w κ} {A : Around} {E : Value → Shared → Prop} {s : Shared}
theorem call_dictH {o : Addr} {more : List (κ × Addr × Value)} {Q : Value → Shared → Prop} (hu : ∀ A' : Around, A'.units ≤ A.units + 2 → knd.room A') (hoS : (o == sysModules) = false) (ho : s.heap.DictOfH knd o more) (hsz : more.length ≤ sizeLine)
    (hty : ∀ x ∈ more, s.TypeIs (.ref x.2.1) "tuple") (hap : (more.map fun x => knd.hash x.1).Nodup) (hst : ∀ x ∈ more, knd.is (s.heap.push { cls := .type "dict", data := .dict #[] }) x.1 x.2.1)
    (h : ∀ h', h'.DictOfH knd s.heap.objs.size more → Heap.SameBut s.heap.objs.size (s.heap.push { cls := .type "dict", data := .dict #[] }) h' → Q (.ref s.heap.objs.size) { s with heap := h' }) :
    wpAny (model prog w) A (call (.type "dict") [.ref o]) Q E s := by
  refine callType_codes (Q₁ := fun obj s₁ => obj = .ref s.heap.objs.size ∧ s₁ = { s with heap := s.heap.push { cls := .type "dict", data := .dict #[] } }) F.kt_called_dict (F.kt_typeCall_dict_1 _) F.entry_dict_init (kt_code_dict_new _ ⟨rfl, rfl⟩) ?_
  rintro obj s₁ ⟨rfl, rfl⟩
  have hnew : (s.heap.push { cls := .type "dict", data := .dict #[] }).DictOfH knd s.heap.objs.size [] := Heap.DictOfH.new s.heap
  have hdo : s.heap.objs.size ≠ o := by
    obtain ⟨_, _, _, hg, _⟩ := ho
    exact fun e => absurd (Heap.lt_size hg) (by rw [e]; exact Nat.lt_irrefl _)
  have ho' : (s.heap.push { cls := .type "dict", data := .dict #[] }).DictOfH knd o more := by
    obtain ⟨ob, es, ep, h1, h2, h3, h4, h5, h6⟩ := ho
    exact ⟨ob, es, ep, Heap.get?_push_of_some _ h1, h2, h3, h4, hst, h6⟩
  have hn := ho.nodup
  refine ⟨hnew.typeIs, F.args_dict_init_2 _ _, ?_⟩
  unfold Builtin.«dict.__init__»
  refine wpAny_bind ?_
  unfold Builtin.Dict.selfAndRest
  refine wpAny_bind (wpAny_notOrdered_dict hnew.typeIs ?_)
  show wpAny _ _ (pure (s.heap.objs.size, [Value.ref o])) _ _ _
  refine wpAny_pure ?_
  show wpAny _ _ (Builtin.Dict.updateFrom "dict.__init__" s.heap.objs.size (.ref o) [] .none) _ _ _
  unfold Builtin.Dict.updateFrom
  refine wpAny_bind (wpAny_typeOf ho'.typeIs ?_)
  rw [if_neg (by decide)]
  refine wpAny_bind ?_
  unfold Builtin.Dict.merge
  refine wpAny_bind ?_
  unfold Builtin.Dict.readDirectly
  refine wpAny_bind (wpAny_isInstance ho'.typeIs isSubtype_dict_dict ?_)
  simp only [Bool.not_true, Bool.false_eq_true, if_false]
  refine wpAny_bind (wpAny_specialOf ho'.typeIs F.slot_dict_iter.lookup (wpAny_pure ?_))
  simp only [beq_self_eq_true, if_true]
  refine wpAny_bind (wpAny_pure ?_)
  refine wpAny_mergeDict_heap (hsz := by simpa using hsz) (hu _ ?_) hdo hoS hnew ho' (.inr ⟨fun x hx => ?_, hap⟩) fun h' hd' _ hs' => ?_
  · exact Nat.le_refl _
  · obtain ⟨ob, h1, h2⟩ := hty x hx
    exact ⟨ob, Heap.get?_push_of_some _ h1, h2⟩
  show wpAny _ _ (Builtin.Dict.addKeywords s.heap.objs.size [] >>= _) _ _ _
  rw [storedAllH_nil_of_nodup more hn] at hd'
  exact wpAny_bind (wpAny_pure (wpAny_pure ⟨rfl, h h' hd' hs'⟩))
end
/-- the hash of a pair of small numbers -/
def ph (p : Int × Int) : Int := reduceHash (Builtin.Tuple.tupleHashOf [hashInt p.1, hashInt p.2])
def smalls : List (Int × Int) := (List.range 16).flatMap fun a : Nat => (List.range 16).map fun b : Nat => ((a : Int) - 1, (b : Int) - 1)
theorem ph_nodup : (smalls.map ph).Nodup := by decide +kernel
def smallP (p : Int × Int) : Prop := (-1 ≤ p.1 ∧ p.1 ≤ 14) ∧ (-1 ≤ p.2 ∧ p.2 ≤ 14)
theorem mem_smalls {p : Int × Int} (h : smallP p) : p ∈ smalls := by
  unfold smalls
  rw [List.mem_flatMap]
  obtain ⟨a, b⟩ := p
  obtain ⟨⟨h1, h2⟩, h3, h4⟩ := h
  simp only at h1 h2 h3 h4
  refine ⟨(a + 1).toNat, List.mem_range.mpr (by omega), List.mem_map.mpr ⟨(b + 1).toNat, List.mem_range.mpr (by omega), ?_⟩⟩
  congr 1 <;> omega
theorem inj_of_nodup_map {α β : Type} {f : α → β} : ∀ {l : List α}, (l.map f).Nodup → ∀ {x y}, x ∈ l → y ∈ l → f x = f y → x = y
  | [], _, x, y, h, _, _ => nomatch h
  | z :: l, h, x, y, hx, hy, e => by
    rw [List.map_cons, List.nodup_cons] at h
    rcases List.mem_cons.mp hx with ex | mx
    · rcases List.mem_cons.mp hy with ey | my
      · rw [ex, ey]
      · rw [ex] at e
        exact absurd (List.mem_map.mpr ⟨y, my, e.symm⟩) h.1
    · rcases List.mem_cons.mp hy with ey | my
      · rw [ey] at e
        exact absurd (List.mem_map.mpr ⟨x, mx, e⟩) h.1
      · exact inj_of_nodup_map h.2 mx my e
/-- a pair as a key -/
def kk (p : IP) : List L2.Key := [.inl p.1, .inl p.2]
theorem kk_inj {p q : IP} (h : kk p = kk q) : p = q := by
  unfold kk at h
  injection h with h1 h2
  injection h2 with h2 _
  injection h1 with h1
  injection h2 with h2
  exact Prod.ext h1 h2
theorem ph_is {prog : Program} {w : World} (p : IP) : (tupleKind (mixKind prog w)).hash (kk p) = ph p := rfl
/-- dict(d) of a dict with keys that are pairs of small numbers -/
def rDictT : List V → Hp → VK → Prop := fun xs H Q => ∃ (a : Addr) (kvs : List (List L2.Key × V)), xs = [.ref a] ∧ Rd H a (.dT kvs) ∧ (∀ e ∈ kvs, ∃ p, e.1 = kk p ∧ smallP p) ∧ ∀ p, H p = none → Q (.ref p) (upd H p (.dT kvs))
theorem KT_mem {H : Hp} : ∀ {kvs : List (List L2.Key × V)} {xs : List (List L2.Key × Addr × Value)}, KT H kvs xs → ∀ x ∈ xs, ∃ v, (x.1, v) ∈ kvs ∧ H x.2.1 = some (.tup (x.1.map kV))
  | [], _, h, x, hx => by cases h; exact nomatch hx
  | e :: kvs, _, h, x, hx => by
    cases h with
    | cons h1 h2 =>
      rcases List.mem_cons.mp hx with rfl | hx
      · exact ⟨e.2, List.mem_cons.mpr (.inl (by rw [← h1.1])), by rw [← h1.1]; exact h1.2.1⟩
      · obtain ⟨v, m, q⟩ := KT_mem h2 x hx
        exact ⟨v, List.mem_cons_of_mem _ m, q⟩
theorem KT_stay {H H' : Hp} (k : ∀ t ys, H t = some (.tup ys) → H' t = some (.tup ys)) : ∀ {kvs : List (List L2.Key × V)} {xs : List (List L2.Key × Addr × Value)}, KT H kvs xs → KT H' kvs xs
  | [], _, h => by cases h; exact .nil
  | e :: kvs, _, h => by
    cases h with
    | cons h1 h2 => exact .cons ⟨h1.1, k _ _ h1.2.1, h1.2.2⟩ (KT_stay k h2)
theorem nodup_map_inj {α β : Type} {f : α → β} : ∀ {l : List α}, (∀ x ∈ l, ∀ y ∈ l, f x = f y → x = y) → l.Nodup → (l.map f).Nodup
  | [], _, _ => List.nodup_nil
  | x :: l, h, n => by
    rw [List.nodup_cons] at n
    rw [List.map_cons, List.nodup_cons]
    refine ⟨fun m => ?_, nodup_map_inj (fun a ha b hb => h a (List.mem_cons_of_mem _ ha) b (List.mem_cons_of_mem _ hb)) n.2⟩
    obtain ⟨y, hy, e⟩ := List.mem_map.mp m
    have := h y (List.mem_cons_of_mem _ hy) x List.mem_cons_self e
    subst this
    exact n.1 hy
section
variable {X : Cx}
theorem call_dictT (hu : X.A.units + 2 < cLine) : CallR X (.type "dict") rDictT := by
  intro pins s σ H xs us Q I r q
  obtain ⟨a, kvs, ex, hd, hk, q⟩ := q
  subst ex
  obtain ⟨u, eu, rx⟩ := vals1 r
  subst eu
  cases rx
  obtain ⟨z, lo, vs, rel, dd⟩ := dt_rd I.hok hd
  have keyOk : ∀ x ∈ vs, ∃ p, x.1 = kk p ∧ smallP p := fun x hx => by
    obtain ⟨v, m, _⟩ := KT_mem rel x hx
    exact hk _ m
  have hap : (vs.map fun x => (tupleKind (mixKind X.prog X.w)).hash x.1).Nodup := by
    have e : (vs.map fun x => (tupleKind (mixKind X.prog X.w)).hash x.1) = (vs.map (·.1)).map (tupleKind (mixKind X.prog X.w)).hash := by rw [List.map_map] <;> rfl
    rw [e]
    refine nodup_map_inj (fun x hx y hy exy => ?_) dd.nodup
    obtain ⟨x', hx', rfl⟩ := List.mem_map.mp hx
    obtain ⟨y', hy', rfl⟩ := List.mem_map.mp hy
    obtain ⟨p, ep, sp⟩ := keyOk x' hx'
    obtain ⟨p', ep', sp'⟩ := keyOk y' hy'
    rw [ep, ep'] at exy ⊢
    rw [ph_is, ph_is] at exy
    rw [inj_of_nodup_map ph_nodup (mem_smalls sp) (mem_smalls sp') exy]
  have tupOf : ∀ x ∈ vs, ∃ its : List Value, IsTup s.heap x.2.1 its.toArray := fun x hx => by
    obtain ⟨v, m, e⟩ := KT_mem rel x hx
    obtain ⟨_, its, _, it⟩ := (show ObjOk X.prog X.w H s.heap x.2.1 (.tup (x.1.map kV)) from I.hok _ _ e)
    exact ⟨its, it⟩
  refine call_dictH (knd := tupleKind (mixKind X.prog X.w)) (fun A' hA => show A'.units < cLine by omega) lo dd (by rw [← Paired.length rel]; exact z) (fun x hx => ?_) hap (fun x hx => ?_) fun h' d' hs => ?_
  · obtain ⟨its, o, h1, h2, _⟩ := tupOf x hx
    exact ⟨o, h1, h2⟩
  · obtain ⟨_, _, _, _, _, _, _, his, _⟩ := dd
    obtain ⟨o, items, n, h1, h2, h3, h4⟩ := his x hx
    exact ⟨o, items, n, Heap.get?_push_of_some _ h1, h2, h3, h4⟩
  have hm : (s.heap.objs.size == sysModules) = false := beq_eq_false_iff_ne.mpr (Nat.ne_of_gt I.big)
  have hfree := I.hok.fresh (Nat.le_refl _)
  obtain ⟨o, es, ep, g1, g2, g3, g4, _, g6⟩ := d'
  refine ⟨.ref s.heap.objs.size, upd H s.heap.objs.size (.dT kvs), I.laid (t' := s.toks) (fun b u e => (hs.2 b (Nat.ne_of_lt (Heap.lt_size e))).trans (Heap.get?_push_of_some _ e)) (Nat.le_refl _)
    (show ObjOk X.prog X.w _ _ _ (.dT kvs) from ⟨z, hm, vs, KT_stay (fun t ys e => by rw [upd_ne (ne_of_none e hfree)]; exact e) rel, o, es, ep, g1, g2, g3, g4, g6⟩), rfl, q _ hfree⟩
end
theorem _root_.L2.Room.u2 {A : Around} {k : Nat} (hr : Room k A) : A.units + 2 < cLine := by have := hr.un; omega
/-! #### d.pop(k), the key is there -/
theorem meetsPop1 {prog : Program} {w : World} {κ : Type} [DecidableEq κ] {knd : HeapKind prog w κ} {d b : Addr} {k : κ} (hd : (d == sysModules) = false) :
    MeetsIn prog w (Builtin.«dict.pop» ⟨[.ref d, .ref b], []⟩) (fun A R s => ∃ xs, knd.room A.in1 ∧ knd.is s.heap k b ∧ s.heap.DictOfH knd d xs ∧ xs.length ≤ sizeLine ∧ (∃ p, atKey xs k = some p) ∧
      ∀ p, atKey xs k = some p → ∀ h' tk, h'.DictOfH knd d (DT.dropH xs k) → Heap.SameBut d s.heap h' → R (.ok (.ret p.2)) { s with heap := h', toks := tk }) :=
  .of_wp fun A R s ⟨xs, hu, hkey, hm, hsz, ⟨p0, hp0⟩, hsome⟩ => by
    obtain ⟨o, es, ep, ho, hc, hdat, he, his, hn⟩ := id hm
    have hes : es.size = xs.length := size_of_entries he
    have hpart : (keyPart (Value.ref b)).isSome = false := rfl
    unfold Builtin.«dict.pop»
    refine wpAny_bind ?_
    unfold Builtin.Dict.keyAndDefault
    refine wpAny_bind (wpAny_notOrdered_dict hm.typeIs ?_)
    show wpAny _ _ (pure (d, Value.ref b, none)) _ _ s
    refine wpAny_pure ?_
    simp only [hpart, Bool.false_eq_true, if_false]
    refine wpAny_bind (wpAny_dictEntries ho hdat (wpAny_bind (wpAny_pure ?_)))
    cases hem : es.isEmpty with
    | true =>
      have h0 : xs = [] := by
        have z : es.size = 0 := by simpa using hem
        exact List.length_eq_zero_iff.mp (by omega)
      subst h0
      exact nomatch hp0
    | false =>
      simp only [Bool.false_eq_true, if_false]
      refine wpAny_bind (DT.takeH hu hkey hm hsz (fun hno => ?_) fun p e hp hev h' hm' hs' => ?_)
      · rw [hno] at hp0
        exact nomatch hp0
      · simp only [Option.isNone_some, Bool.false_eq_true, if_false]
        exact wpAny_bind (wpAny_letGo (wpAny_pure ⟨e.val, rfl, by rw [hev]; exact hsome p hp h' _ hm' hs'⟩))
def rPop1T : V → List V → Hp → VK → Prop := fun x xs H Q => ∃ (a : Addr) (kvs : List (List L2.Key × V)) (k : List L2.Key) (b : Addr) (v : V), x = .ref a ∧ xs = [.ref b] ∧ H a = some (.dT kvs) ∧ H b = some (.tup (k.map kV)) ∧ valV kvs k = some v ∧ Q v (upd H a (.dT (dropK kvs k)))
theorem mt_pop1T {X : Cx} (hu : X.A.units + 2 < cLine) : MtR X "dict.pop" rPop1T := by
  intro pins s σ H x xs v us Q I rx rxs h
  obtain ⟨a, kvs, k, b, v1, rfl, rfl, ha, hb, ev, q1⟩ := h
  cases rx
  obtain ⟨u1, rfl, r1⟩ := vals1 rxs
  cases r1
  obtain ⟨z, hd, xs', rel, dd⟩ := dt_of I.hok ha
  have hz : xs'.length ≤ sizeLine := by rw [← Paired.length rel]; exact z
  have r := rel.val k
  rw [ev] at r
  refine call_meetsIn PySem.F.slot_dict_pop dd.typeIs PySem.F.entry_dict_pop (PySem.F.args_dict_pop_2 _ _) (meetsPop1 (knd := tupleKind (mixKind X.prog X.w)) (k := k) hd)
    ⟨xs', tupleKind_room_in1 (by omega), key_of I.hok hb, dd, hz, ?_, fun p hp h' tk dd' hs => ?_⟩
  · cases ea : atKey xs' k with
    | none => rw [ea] at r; exact (show False from r).elim
    | some p => exact ⟨p, rfl⟩
  · rw [hp] at r
    obtain ⟨o, es, ep, hq, h2, h3, h4, _, h5⟩ := dd'
    have I2 : Inv X pins σ (upd H a (.dT (dropK kvs k))) { s with heap := h', toks := tk } :=
      d_write I (by rw [ha]; exact True.intro) hs ⟨o, hq⟩ ⟨Nat.le_trans (dropK_le kvs k) z, hd, _, (DX.KT_drop k rel).keeps (fun c ys ec => (by rw [upd_ne (ne_of ec ha (fun z => nomatch z))]; exact ec)), o, es, ep, hq, h2, h3, h4, h5⟩
    show EP X pins σ Q p.2 _
    exact ⟨v1, _, I2, r, q1⟩
end Pm
/-! ### dicts from pairs of numbers to pairs of numbers -/
namespace Pm
open PySem PySem.Spec PyProof.Rows L2
/-- a pair of numbers: tracked, or written in the top -/
def FrV (K : PySem.W.Frag) (H : Hp) (v : V) (p : IP) : Prop := ∃ t, v = .ref t ∧ (H t = some (.tup [.int p.1, .int p.2]) ∨ ∀ H', SqT K H' t [.int p.1, .int p.2])
section
variable {K : PySem.W.Frag} {H H' : Hp} {v : V} {p q : IP}
theorem FrV.keep (k : Keeps H H') (h : FrV K H v p) : FrV K H' v p := by
  obtain ⟨t, e, h | h⟩ := h
  · exact ⟨t, e, .inl (k _ _ h)⟩
  · exact ⟨t, e, .inr h⟩
theorem FrV.tup {t : Addr} (h : FrV K H (.ref t) p) : SqT K H t [.int p.1, .int p.2] := by
  obtain ⟨t, e, h | h⟩ := h
  · cases e; exact SqT.of h
  · cases e; exact h H
theorem FrV.of (h : Pr H v p) : FrV K H v p := by
  obtain ⟨t, e, h⟩ := h
  exact ⟨t, e, .inl h⟩
theorem frv_mono (H H' : Hp) (v : V) (p : IP) (k : Keeps H H') (h : FrV K H v p) : FrV K H' v p := h.keep k
theorem FrV.dp (h : FrV K H v p) : Dp K H v (pD p) := by
  obtain ⟨t, rfl, h⟩ := h
  exact .tup (FrV.tup ⟨t, rfl, h⟩) (.cons (.int _) (.cons (.int _) .nil))
end
theorem w_eqFr {K : PySem.W.Frag} {H : Hp} {Q : VK} {v u : V} {p q : IP} (h1 : FrV K H v p) (h2 : FrV K H u q) (h : Q (.bl (decide (p = q))) H) : rEqD K v u H Q :=
  ⟨_, _, h1.dp, h2.dp, shaped_pD _, shaped_pD _, by rw [eqv_pD]; exact h⟩
theorem w_neFr {K : PySem.W.Frag} {H : Hp} {Q : VK} {v u : V} {p q : IP} (h1 : FrV K H v p) (h2 : FrV K H u q) (h : Q (.bl (!decide (p = q))) H) : rNeD K v u H Q :=
  ⟨_, _, h1.dp, h2.dp, shaped_pD _, shaped_pD _, by rw [eqv_pD]; exact h⟩
/-- the fraction as a pair -/
def rp (r : Rat) : IP := (r.num, (r.den : Int))
theorem rp_inj {r s : Rat} (h : rp r = rp s) : r = s := by
  unfold rp at h
  injection h with h1 h2
  exact Rat.ext h1 (by omega)
def En (K : PySem.W.Frag) (H : Hp) (L : IP → IP) (e : List L2.Key × V) (k : IP) : Prop := e.1 = kk k ∧ FrV K H e.2 (L k)
/-- the dict at d: its keys in order, and what each holds -/
structure LD (K : PySem.W.Frag) (H : Hp) (d : Addr) (ks : List IP) (L : IP → IP) : Prop where
  nd : ks.Nodup
  ex : ∃ es, H d = some (.dT es) ∧ All2 (En K H L) es ks
def updF (L : IP → IP) (k : IP) (p : IP) : IP → IP := fun j => if j = k then p else L j
theorem updF_same {L : IP → IP} {k p : IP} : updF L k p k = p := if_pos rfl
theorem updF_ne {L : IP → IP} {k p j : IP} (h : j ≠ k) : updF L k p j = L j := if_neg h
def putk (ks : List IP) (k : IP) : List IP := if k ∈ ks then ks else ks ++ [k]
theorem mem_putk {ks : List IP} {k j : IP} : j ∈ putk ks k ↔ j ∈ ks ∨ j = k := by
  unfold putk
  split
  · rename_i h
    constructor
    · exact .inl
    · rintro (z | rfl)
      · exact z
      · exact h
  · rw [List.mem_append, List.mem_singleton]
theorem putk_new {ks : List IP} {k : IP} (h : k ∉ ks) : putk ks k = ks ++ [k] := if_neg h
theorem putk_old {ks : List IP} {k : IP} (h : k ∈ ks) : putk ks k = ks := if_pos h
theorem putk_nodup {ks : List IP} {k : IP} (h : ks.Nodup) : (putk ks k).Nodup := by
  unfold putk
  split
  · exact h
  · rename_i n
    rw [List.nodup_append]
    exact ⟨h, by simp, fun a ha b hb => by rw [List.mem_singleton.mp hb]; rintro rfl; exact n ha⟩
theorem putk_len (ks : List IP) (k : IP) : (putk ks k).length ≤ ks.length + 1 := by
  unfold putk
  split
  · omega
  · rw [List.length_append, List.length_singleton]; exact Nat.le_refl _
section
variable {K : PySem.W.Frag} {H H' : Hp} {L : IP → IP}
theorem ens_keep (k : Keeps H H') {es : List (List L2.Key × V)} {ks : List IP} (h : All2 (En K H L) es ks) : All2 (En K H' L) es ks := h.mono fun _ _ q => ⟨q.1, q.2.keep k⟩
theorem ens_congr {L' : IP → IP} : ∀ {es : List (List L2.Key × V)} {ks : List IP}, (∀ k ∈ ks, L' k = L k) → All2 (En K H L) es ks → All2 (En K H L') es ks
  | [], [], _, _ => trivial
  | _ :: _, _ :: _, e, h => ⟨⟨h.1.1, by rw [e _ List.mem_cons_self]; exact h.1.2⟩, ens_congr (fun k hk => e k (List.mem_cons_of_mem _ hk)) h.2⟩
theorem ens_val : ∀ {es : List (List L2.Key × V)} {ks : List IP}, All2 (En K H L) es ks → ∀ k, (k ∉ ks → valV es (kk k) = none) ∧ (k ∈ ks → ∃ v, valV es (kk k) = some v ∧ FrV K H v (L k))
  | [], [], _, k => ⟨fun _ => rfl, fun h => nomatch h⟩
  | e :: es, j :: ks, h, k => by
    have ih := ens_val h.2 k
    by_cases z : j = k
    · subst z
      refine ⟨fun n => absurd List.mem_cons_self n, fun _ => ⟨e.2, valV_pos h.1.1, h.1.2⟩⟩
    · have ne : ¬ e.1 = kk k := fun q => z (kk_inj (h.1.1.symm.trans q))
      rw [valV_neg ne]
      refine ⟨fun n => ih.1 fun m => n (List.mem_cons_of_mem _ m), fun m => ih.2 ?_⟩
      rcases List.mem_cons.mp m with q | q
      · exact absurd q.symm z
      · exact q
theorem ens_some {es : List (List L2.Key × V)} {ks : List IP} (h : All2 (En K H L) es ks) (k : IP) : (valV es (kk k)).isSome = decide (k ∈ ks) := by
  obtain ⟨h1, h2⟩ := ens_val h k
  by_cases m : k ∈ ks
  · obtain ⟨v, e, _⟩ := h2 m
    rw [e, decide_eq_true m] <;> rfl
  · rw [h1 m, decide_eq_false m] <;> rfl
theorem ens_map {v : V} {k p : IP} (hv : FrV K H v p) : ∀ {es : List (List L2.Key × V)} {ks : List IP}, All2 (En K H L) es ks → All2 (En K H (updF L k p)) (es.map fun kv => if kv.1 = kk k then (kv.1, v) else kv) ks
  | [], [], _ => trivial
  | e :: es, j :: ks, h => by
    refine ⟨?_, ens_map hv h.2⟩
    by_cases z : j = k
    · subst z
      show En K H _ (if e.1 = kk j then (e.1, v) else e) j
      rw [if_pos h.1.1]
      exact ⟨h.1.1, by rw [updF_same]; exact hv⟩
    · have ne : ¬ e.1 = kk k := fun q => z (kk_inj (h.1.1.symm.trans q))
      show En K H _ (if e.1 = kk k then (e.1, v) else e) j
      rw [if_neg ne]
      exact ⟨h.1.1, by rw [updF_ne z]; exact h.1.2⟩
theorem ens_put {v : V} {k p : IP} (hv : FrV K H v p) {es : List (List L2.Key × V)} {ks : List IP} (h : All2 (En K H L) es ks) : All2 (En K H (updF L k p)) (putK es (kk k) v) (putk ks k) := by
  unfold putK putk
  rw [valV_any, ens_some h]
  by_cases m : k ∈ ks
  · rw [decide_eq_true m, if_pos rfl, if_pos m]
    exact ens_map hv h
  · rw [decide_eq_false m, if_neg Bool.false_ne_true, if_neg m]
    refine All2.snoc (ens_congr (fun j hj => updF_ne (fun z => m (z ▸ hj))) h) ⟨rfl, by rw [updF_same]; exact hv⟩
theorem ens_drop {k : IP} : ∀ {es : List (List L2.Key × V)} {ks : List IP}, All2 (En K H L) es ks → All2 (En K H L) (dropK es (kk k)) (ks.filter fun j => decide (j ≠ k))
  | [], [], _ => trivial
  | e :: es, j :: ks, h => by
    have ih := ens_drop (k := k) h.2
    unfold dropK at ih ⊢
    by_cases z : j = k
    · subst z
      rw [List.filter_cons_of_neg (by simp [h.1.1]), List.filter_cons_of_neg (by simp)]
      exact ih
    · have ne : ¬ e.1 = kk k := fun q => z (kk_inj (h.1.1.symm.trans q))
      rw [List.filter_cons_of_pos (by simp [ne]), List.filter_cons_of_pos (by simp [z])]
      exact ⟨h.1, ih⟩
end
section
variable {K : PySem.W.Frag} {H H' : Hp} {d b : Addr} {ks : List IP} {L : IP → IP} {k : IP} {Q : VK} {nx : L2.St → Hp → Prop} {σ : L2.St}
theorem LD.same (h : LD K H d ks L) (s : Same H H') : LD K H' d ks L := by
  obtain ⟨n, es, h1, h2⟩ := h
  exact ⟨n, es, s _ _ h1, ens_keep (keeps s) h2⟩
theorem LD.keep {o : HO} (h : LD K H d ks L) (k : Keeps H H') (e : H' d = H d) : LD K H' d ks L := by
  obtain ⟨n, es, h1, h2⟩ := h
  exact ⟨n, es, by rw [e]; exact h1, ens_keep k h2⟩
theorem LD.congr {L' : IP → IP} (h : LD K H d ks L) (e : ∀ k ∈ ks, L' k = L k) : LD K H d ks L' := by
  obtain ⟨n, es, h1, h2⟩ := h
  exact ⟨n, es, h1, ens_congr e h2⟩
theorem ld_nil (h : H d = some (.dT [])) (L : IP → IP) : LD K H d [] L := ⟨List.nodup_nil, [], h, trivial⟩
theorem kk_map (p : IP) : (kk p).map kV = [.int p.1, .int p.2] := rfl
theorem Pr.kkey (h : Pr H (.ref b) k) : H b = some (.tup ((kk k).map kV)) := by
  obtain ⟨t, e, h⟩ := h
  cases e
  exact h
theorem w_ldIn (h : LD K H d ks L) (hb : Pr H (.ref b) k) (q : Q (.bl (decide (k ∈ ks))) H) : DInK (.ref b) Q (.ref d) H := by
  obtain ⟨n, es, h1, h2⟩ := h
  exact w_diT h1 hb.kkey (by rw [ens_some h2]; exact q)
theorem w_ldNotIn (h : LD K H d ks L) (hb : Pr H (.ref b) k) (q : Q (.bl (!decide (k ∈ ks))) H) : DNotInK (.ref b) Q (.ref d) H := by
  obtain ⟨n, es, h1, h2⟩ := h
  exact w_dniT h1 hb.kkey (by rw [ens_some h2]; exact q)
theorem w_ldGet (h : LD K H d ks L) (hb : Pr H (.ref b) k) (m : k ∈ ks) (q : ∀ t, FrV K H (.ref t) (L k) → Q (.ref t) H) : DGK (.ref d) Q (.ref b) H := by
  obtain ⟨n, es, h1, h2⟩ := h
  obtain ⟨v, e, hv⟩ := (ens_val h2 k).2 m
  obtain ⟨t, rfl, ht⟩ := id hv
  exact w_dgT h1 hb.kkey e (q t hv)
theorem w_ldPut {v : V} {p : IP} (h : LD K H d ks L) (hb : Pr H (.ref b) k) (hv : FrV K H v p) (hl : ks.length < 1000000) (q : ∀ es, LD K (upd H d (.dT es)) d (putk ks k) (updF L k p) → Keeps H (upd H d (.dT es)) → nx σ (upd H d (.dT es))) : DPK nx σ v (.ref d) (.ref b) H := by
  obtain ⟨n, es, h1, h2⟩ := h
  have k0 : Keeps H (upd H d (.dT (putK es (kk k) v))) := keeps_dT h1
  exact w_dpT h1 hb.kkey (size_lt (by rw [h2.length]; omega)) (q _ ⟨putk_nodup n, _, upd_same, ens_keep k0 (ens_put hv h2)⟩ k0)
theorem w_ldLen (h : LD K H d ks L) (q : Q (.int ks.length) H) : rLenT [.ref d] H Q := by
  obtain ⟨n, es, h1, h2⟩ := h
  exact ⟨d, es, rfl, h1, by rw [h2.length]; exact q⟩
theorem w_ldDict (h : LD K H d ks L) (sm : ∀ k ∈ ks, smallP k) (q : ∀ p es, H p = none → LD K (upd H p (.dT es)) p ks L → Q (.ref p) (upd H p (.dT es))) : rDictT [.ref d] H Q := by
  obtain ⟨n, es, h1, h2⟩ := h
  refine ⟨d, es, rfl, .inl h1, fun e he => ?_, fun p hp => q p es hp ⟨n, es, upd_same, ens_keep (keeps (same_new hp _)) h2⟩⟩
  obtain ⟨k, hk, r⟩ := h2.mem he
  exact ⟨k, r.1, sm k hk⟩
theorem w_isiLd {nm : String} {bb : Bool} (h : LD K H d ks L) (e : kitB "dict" nm = some bb) (q : Q (.bl bb) H) : rIsi K [.ref d, .ty nm] H Q := by
  obtain ⟨n, es, h1, h2⟩ := h
  exact ⟨_, _, _, _, bb, rfl, .ty nm, .base (.dT h1), kit_ty e, q⟩
/-- heaps alike but for the object at d, which is locked -/
theorem same_lock {H0 H H1 : Hp} {d : Addr} {od : Obj} {u : HO} (hd : H0 d = some u) (s : Same (upd H0 d (.frz od u)) H1) : Same H0 (upd H1 d u) := fun b o e => by
  by_cases z : b = d
  · subst z
    rw [upd_same, ← hd]; exact e
  · rw [upd_ne z]
    exact s _ _ (by rw [upd_ne z]; exact e)
theorem lock_keeps {H0 H1 : Hp} {d : Addr} {od : Obj} {es : List (List L2.Key × V)} (hd : H0 d = some (.dT es)) (s : Same (upd H0 d (.frz od (.dT es))) H1) : Keeps H0 H1 := fun t xs e => by
  refine s _ _ ?_
  rw [upd_ne (ne_of e hd (fun z => nomatch z))]
  exact e
theorem lock_get {H0 H1 : Hp} {d b : Addr} {od : Obj} {u o : HO} (s : Same (upd H0 d (.frz od u)) H1) (e : H0 b = some o) (n : b ≠ d) : H1 b = some o := s _ _ (by rw [upd_ne n]; exact e)
theorem lock_mono {H0 H : Hp} {d : Addr} {od : Obj} {u : HO} (s : Same H0 H) : Same (upd H0 d (.frz od u)) (upd H d (.frz od u)) := fun b o e => by
  by_cases z : b = d
  · subst z
    rw [upd_same] at e ⊢; exact e
  · rw [upd_ne z] at e ⊢
    exact s _ _ e
theorem lock_none {H0 : Hp} {d b : Addr} {od : Obj} {u v : HO} (hd : H0 d = some u) (h : H0 b = none) : upd H0 d (.frz od v) b = none := by
  rw [upd_ne (ne_of_none hd h).symm]; exact h
/-- an end behind a locked walk -/
def LkE {α : Type} (d : Addr) (od : Obj) (u : HO) (R : α → Hp → Prop) : α → Hp → Prop := fun x H' => H' d = some (.frz od u) ∧ R x (upd H' d u)
theorem w_lkE {α : Type} {od : Obj} {u : HO} {R : α → Hp → Prop} {x : α} (h1 : H d = some (.frz od u)) (h : R x (upd H d u)) : LkE d od u R x H := ⟨h1, h⟩
end
section
variable {K : PySem.W.Frag} {bk ct nx : L2.St → Hp → Prop} {rt : VK} {σ : L2.St} {g : TG} {t : TS} {L : IP → IP} {ks : List IP} {d : Addr} {td : TE} {H0 H : Hp}
/-- for .. in d.items() -/
theorem w_forItems (hd0 : LD K H0 d ks L) (s0 : Same H0 H) (Iv : Obj → HO → Nat → L2.St → Hp → Prop) (htd : ∀ od u Q, u = u → H d = some u → Q (V.ref d) (upd H d (.frz od u)) → td σ (upd H d (.frz od u)) Q)
    (h0 : ∀ od u, H0 d = some u → Iv od u 0 σ (upd H d (.frz od u)))
    (hs : ∀ od es i k σ H1, H0 d = some (.dT es) → ks[i]? = some k → Same (upd H0 d (.frz od (.dT es))) H1 → Keeps H0 H1 → Iv od (.dT es) i σ H1 → ∀ (T q : Addr) (v : V), H1 T = none → Pr H1 (.ref q) k → FrV K H1 v (L k) →
      g (.ref T) σ (upd H1 T (.tup [.ref q, v])) fun σ2 H2 => t ⟨fun σ' H' => Same (upd H0 d (.frz od (.dT es))) H' ∧ Iv od (.dT es) (i + 1) σ' H', LkE d od (.dT es) rt, LkE d od (.dT es) nx, fun σ' H' => Same (upd H0 d (.frz od (.dT es))) H' ∧ Iv od (.dT es) (i + 1) σ' H'⟩ σ2 H2)
    (he : ∀ od es σ H1, H0 d = some (.dT es) → Same (upd H0 d (.frz od (.dT es))) H1 → Iv od (.dT es) ks.length σ H1 → Same H0 (upd H1 d (.dT es)) → nx σ (upd H1 d (.dT es))) :
    tLock (tFor (iItemsT td) g t) ⟨nx, rt, bk, ct⟩ σ H := by
  obtain ⟨n, es, h1, h2⟩ := hd0
  have hd : H d = some (.dT es) := s0 _ _ h1
  refine ⟨d, .dT es, hd, True.intro, fun od => ?_⟩
  show iItemsT td σ _ _
  refine htd od _ _ rfl hd ⟨d, od, es, rfl, upd_same, ?_⟩
  refine ⟨fun i m σ' H' => i + m = es.length ∧ Same (upd H0 d (.frz od (.dT es))) H' ∧ Iv od (.dT es) i σ' H', ⟨es.length, by omega, lock_mono s0, h0 _ _ h1⟩, ?_⟩
  rintro i m σ' H' ⟨hm, s1, iv⟩
  have lk : H' d = some (.frz od (.dT es)) := s1 _ _ upd_same
  rcases Nat.eq_zero_or_pos m with z | z
  · subst z
    refine .inl ⟨⟨lk, by omega⟩, lk, ?_⟩
    have e : i = ks.length := by rw [← h2.length]; omega
    subst e
    exact he od es σ' H' h1 s1 iv (same_lock (H := H) h1 s1)
  · refine .inr ⟨⟨lk, by omega⟩, _, fun σ2 H2 q => ⟨m - 1, by omega, by omega, q⟩, ?_⟩
    rintro x H2 ⟨T, k, v, q, ek, rfl, hT, hq, rfl⟩
    have kp := lock_keeps h1 s1
    obtain ⟨j, hj, r1, r2⟩ := h2.get ek
    have hq' : Pr H' (.ref q) j := by
      simp only at r1
      rw [r1, kk_map] at hq
      exact ⟨q, rfl, hq⟩
    exact hs od es i j σ' H' h1 hj s1 kp iv T q v hT hq' (r2.keep kp)
/-- for .. in d.keys() -/
theorem w_forKeysT (hd0 : LD K H0 d ks L) (s0 : Same H0 H) (Iv : Obj → HO → Nat → L2.St → Hp → Prop) (htd : ∀ od u Q, u = u → H d = some u → Q (V.ref d) (upd H d (.frz od u)) → td σ (upd H d (.frz od u)) Q)
    (h0 : ∀ od u, H0 d = some u → Iv od u 0 σ (upd H d (.frz od u)))
    (hs : ∀ od es i k σ H1, H0 d = some (.dT es) → ks[i]? = some k → Same (upd H0 d (.frz od (.dT es))) H1 → Keeps H0 H1 → Iv od (.dT es) i σ H1 → ∀ (q : Addr), Pr H1 (.ref q) k →
      g (.ref q) σ H1 fun σ2 H2 => t ⟨fun σ' H' => Same (upd H0 d (.frz od (.dT es))) H' ∧ Iv od (.dT es) (i + 1) σ' H', LkE d od (.dT es) rt, LkE d od (.dT es) nx, fun σ' H' => Same (upd H0 d (.frz od (.dT es))) H' ∧ Iv od (.dT es) (i + 1) σ' H'⟩ σ2 H2)
    (he : ∀ od es σ H1, H0 d = some (.dT es) → Same (upd H0 d (.frz od (.dT es))) H1 → Iv od (.dT es) ks.length σ H1 → Same H0 (upd H1 d (.dT es)) → nx σ (upd H1 d (.dT es))) :
    tLock (tFor (iKeysT td) g t) ⟨nx, rt, bk, ct⟩ σ H := by
  obtain ⟨n, es, h1, h2⟩ := hd0
  have hd : H d = some (.dT es) := s0 _ _ h1
  refine ⟨d, .dT es, hd, True.intro, fun od => ?_⟩
  show iKeysT td σ _ _
  refine htd od _ _ rfl hd ⟨d, od, es, rfl, upd_same, ?_⟩
  refine ⟨fun i m σ' H' => i + m = es.length ∧ Same (upd H0 d (.frz od (.dT es))) H' ∧ Iv od (.dT es) i σ' H', ⟨es.length, by omega, lock_mono s0, h0 _ _ h1⟩, ?_⟩
  rintro i m σ' H' ⟨hm, s1, iv⟩
  have lk : H' d = some (.frz od (.dT es)) := s1 _ _ upd_same
  rcases Nat.eq_zero_or_pos m with z | z
  · subst z
    refine .inl ⟨⟨lk, by omega⟩, lk, ?_⟩
    have e : i = ks.length := by rw [← h2.length]; omega
    subst e
    exact he od es σ' H' h1 s1 iv (same_lock (H := H) h1 s1)
  · refine .inr ⟨⟨lk, by omega⟩, _, fun σ2 H2 q => ⟨m - 1, by omega, by omega, q⟩, ?_⟩
    rintro x H2 ⟨rfl, k, v, q, ek, rfl, hq⟩
    have kp := lock_keeps h1 s1
    obtain ⟨j, hj, r1, r2⟩ := h2.get ek
    have hq' : Pr H2 (.ref q) j := by
      simp only at r1
      rw [r1, kk_map] at hq
      exact ⟨q, rfl, hq⟩
    exact hs od es i j σ' H2 h1 hj s1 kp iv q hq'
end
theorem LD.lock {K : PySem.W.Frag} {H H1 : Hp} {f d : Addr} {od : Obj} {es : List (List L2.Key × V)} {ks : List IP} {L : IP → IP} (h : LD K H f ks L) (hd : H d = some (.dT es)) (ne : f ≠ d) (s : Same (upd H d (.frz od (.dT es))) H1) : LD K H1 f ks L := by
  obtain ⟨n, es', h1, h2⟩ := h
  exact ⟨n, es', lock_get s h1 ne, ens_keep (lock_keeps hd s) h2⟩
theorem perm_len {α : Type} {l l' : List α} (h : l.Nodup) (h' : l'.Nodup) (e : ∀ x, x ∈ l ↔ x ∈ l') : l.length = l'.length := ((List.perm_ext_iff_of_nodup h h').mpr e).length_eq
/-! #### d.clear() -/
def rClearT : V → List V → Hp → VK → Prop := fun x xs H Q => ∃ (a : Addr) (kvs : List (List L2.Key × V)), x = .ref a ∧ xs = [] ∧ H a = some (.dT kvs) ∧ Q .non (upd H a (.dT []))
theorem mt_clearT {X : Cx} : MtR X "dict.clear" rClearT := by
  intro pins s σ H x xs v us Q I rx rv h
  obtain ⟨a, kvs, rfl, rfl, ha, q⟩ := h
  obtain rfl : v = Value.ref a := rx
  have hus := rv.zero
  subst hus
  obtain ⟨z, hd, xs', rel, dd⟩ := dt_of I.hok ha
  obtain ⟨o, es, ep, h1, h2, h3, h4, _, h5⟩ := id dd
  have raw : s.heap.DictRaw a es ep := ⟨o, h1, h2, h3⟩
  have hz : es.size ≤ sizeLine := by rw [size_of_entries h4, ← Paired.length rel]; exact z
  refine call_meetsIn PySem.F.slot_dict_clear dd.typeIs PySem.F.entry_dict_clear (PySem.F.args_dict_clear_1 _) (meets_dict_clear_raw a) ⟨es, ep, raw, hz, fun h' raw' hs => ?_⟩
  obtain ⟨o', g1, g2, g3⟩ := raw'
  have I2 : Inv X pins σ (upd H a (.dT [])) { s with heap := h' } :=
    d_write (t' := s.toks) (ob := .dT []) I (by rw [ha]; exact True.intro) hs ⟨o', g1⟩ ⟨Nat.zero_le _, hd, [], .nil, o', #[], _, g1, g2, g3, rfl, List.nodup_nil⟩
  show EP X pins σ Q .none _
  exact ⟨.non, _, I2, rfl, q⟩
theorem lenOk_rat {a b : Int} (hb : 0 < b) (g : Int.gcd a b = 1) : (a, b) = rp (Rat.divInt a b) := by
  have z := div_pos_num (a := a) hb
  rw [g] at z
  unfold rp
  rw [← z.1, ← z.2]
  simp
end Pm
/-! ### pairs of fractions, dicts of them by post, the lengths of a cutting -/
namespace Pm
open PySem PySem.Spec PyProof.Rows L2
/-- a fraction that stands somewhere -/
def FrA (K : PySem.W.Frag) (H : Hp) (r : Rat) (Q : VK) : Prop := ∀ (t : Addr) (H' : Hp), Same H H' → FrV K H' (.ref t) (rp r) → Q (.ref t) H'
theorem FrV.rat {K : PySem.W.Frag} {H : Hp} {t : Addr} {r : Rat} (h : FrV K H (.ref t) (rp r)) : SqT K H t [.int r.num, .int r.den] := h.tup
theorem frv_new {K : PySem.W.Frag} {H : Hp} {t : Addr} {r : Rat} (h : H t = some (.tup [.int r.num, .int r.den])) : FrV K H (.ref t) (rp r) := ⟨t, rfl, .inl h⟩
/-- a pair of fractions -/
def PrV (K : PySem.W.Frag) (H : Hp) (v : V) (s : V2) : Prop := ∃ t u w, v = .ref t ∧ H t = some (.tup [.ref u, .ref w]) ∧ FrV K H (.ref u) (rp s.p) ∧ FrV K H (.ref w) (rp s.q)
section
variable {K : PySem.W.Frag} {H H' : Hp}
theorem PrV.keep (k : Keeps H H') {v : V} {s : V2} (h : PrV K H v s) : PrV K H' v s := by
  obtain ⟨t, u, w, e, h1, h2, h3⟩ := h
  exact ⟨t, u, w, e, k _ _ h1, h2.keep k, h3.keep k⟩
theorem prv_mono (H H' : Hp) (v : V) (s : V2) (k : Keeps H H') (h : PrV K H v s) : PrV K H' v s := h.keep k
end
/-! #### dicts by post -/
def SEn (K : PySem.W.Frag) (H : Hp) (S : Nat → V2) (e : L2.Key × V) (i : Nat) : Prop := e.1 = .inl (i : Int) ∧ PrV K H e.2 (S i)
structure SD (K : PySem.W.Frag) (H : Hp) (d : Addr) (ks : List Nat) (S : Nat → V2) : Prop where
  nd : ks.Nodup
  ex : ∃ es, H d = some (.dK es) ∧ All2 (SEn K H S) es ks
section
variable {K : PySem.W.Frag} {H H' : Hp} {S : Nat → V2}
theorem sens_keep (k : Keeps H H') {es : List (L2.Key × V)} {ks : List Nat} (h : All2 (SEn K H S) es ks) : All2 (SEn K H' S) es ks := h.mono fun _ _ q => ⟨q.1, q.2.keep k⟩
theorem key_inj {i j : Nat} (h : (Sum.inl (i : Int) : L2.Key) = Sum.inl (j : Int)) : i = j := by
  have := Sum.inl.inj h
  omega
theorem sens_val : ∀ {es : List (L2.Key × V)} {ks : List Nat}, All2 (SEn K H S) es ks → ∀ k : Nat, (k ∉ ks → valV es (.inl (k : Int)) = none) ∧ (k ∈ ks → ∃ v, valV es (.inl (k : Int)) = some v ∧ PrV K H v (S k))
  | [], [], _, k => ⟨fun _ => rfl, fun h => nomatch h⟩
  | e :: es, j :: ks, h, k => by
    have ih := sens_val h.2 k
    by_cases z : j = k
    · subst z
      refine ⟨fun n => absurd List.mem_cons_self n, fun _ => ⟨e.2, valV_pos h.1.1, h.1.2⟩⟩
    · have ne : ¬ e.1 = .inl (k : Int) := fun q => z (key_inj (h.1.1.symm.trans q))
      rw [valV_neg ne]
      refine ⟨fun n => ih.1 fun m => n (List.mem_cons_of_mem _ m), fun m => ih.2 ?_⟩
      rcases List.mem_cons.mp m with q | q
      · exact absurd q.symm z
      · exact q
theorem sens_some {es : List (L2.Key × V)} {ks : List Nat} (h : All2 (SEn K H S) es ks) (k : Nat) : (valV es (.inl (k : Int))).isSome = decide (k ∈ ks) := by
  obtain ⟨h1, h2⟩ := sens_val h k
  by_cases m : k ∈ ks
  · obtain ⟨v, e, _⟩ := h2 m
    rw [e, decide_eq_true m] <;> rfl
  · rw [h1 m, decide_eq_false m] <;> rfl
end
section
variable {K : PySem.W.Frag} {H H' : Hp} {d : Addr} {ks : List Nat} {S : Nat → V2} {k : Nat} {Q : VK} {nx : L2.St → Hp → Prop} {σ : L2.St}
theorem SD.same (h : SD K H d ks S) (s : Same H H') : SD K H' d ks S := by
  obtain ⟨n, es, h1, h2⟩ := h
  exact ⟨n, es, s _ _ h1, sens_keep (keeps s) h2⟩
theorem keeps_dK' {a : Addr} {xs ys : List (L2.Key × V)} (h : H a = some (.dK xs)) : Keeps H (upd H a (.dK ys)) := keeps_dK h
theorem w_sdIn (h : SD K H d ks S) (q : Q (.bl (decide (k ∈ ks))) H) : DInK (.int (k : Int)) Q (.ref d) H := by
  obtain ⟨n, es, h1, h2⟩ := h
  exact w_diK (k := .inl (k : Int)) h1 (by rw [sens_some h2]; exact q)
theorem w_sdNotIn (h : SD K H d ks S) (q : Q (.bl (!decide (k ∈ ks))) H) : DNotInK (.int (k : Int)) Q (.ref d) H := by
  obtain ⟨n, es, h1, h2⟩ := h
  exact w_dniK (k := .inl (k : Int)) h1 (by rw [sens_some h2]; exact q)
theorem w_sdGet (h : SD K H d ks S) (m : k ∈ ks) (q : ∀ t, PrV K H (.ref t) (S k) → Q (.ref t) H) : DGK (.ref d) Q (.int (k : Int)) H := by
  obtain ⟨n, es, h1, h2⟩ := h
  obtain ⟨v, e, hv⟩ := (sens_val h2 k).2 m
  obtain ⟨t, u, w, rfl, ht⟩ := id hv
  exact w_dgK (k := .inl (k : Int)) h1 e (q t hv)
theorem w_sdPut {v : V} (h : SD K H d ks S) (m : k ∉ ks) (hv : PrV K H v (S k)) (hl : ks.length < 1000000) (q : ∀ es, SD K (upd H d (.dK es)) d (ks ++ [k]) S → Keeps H (upd H d (.dK es)) → nx σ (upd H d (.dK es))) : DPK nx σ v (.ref d) (.int (k : Int)) H := by
  obtain ⟨n, es, h1, h2⟩ := h
  refine w_dpK (k := .inl (k : Int)) h1 (size_lt (by rw [h2.length]; omega)) ?_
  rw [putK_new v ((sens_val h2 k).1 m)]
  have k0 : Keeps H (upd H d (.dK (es ++ [(.inl (k : Int), v)]))) := keeps_dK h1
  refine q _ ⟨?_, _, upd_same, All2.snoc (sens_keep k0 h2) ⟨rfl, hv.keep k0⟩⟩ k0
  rw [List.nodup_append]
  exact ⟨n, by simp, fun a ha b hb => by rw [List.mem_singleton.mp hb]; rintro rfl; exact m ha⟩
def rLenD : List V → Hp → VK → Prop := fun xs H Q => ∃ (a : Addr) (kvs : List (L2.Key × V)), xs = [.ref a] ∧ H a = some (.dK kvs) ∧ Q (.int kvs.length) H
theorem c_lenD {X : Cx} : CallR X (.builtin "len") rLenD := call_lenD
theorem w_sdLen (h : SD K H d ks S) (q : Q (.int ks.length) H) : rLenD [.ref d] H Q := by
  obtain ⟨n, es, h1, h2⟩ := h
  exact ⟨d, es, rfl, h1, by rw [h2.length]; exact q⟩
end
/-- the display of two posts -/
def DispK (p : Addr) (Q : VK) : List (V × V) → Hp → Prop := fun ps H2 => H2 p = some (.dK []) ∧ ∃ kvs : List (L2.Key × V), ps = kvs.map (fun kv => (kV kv.1, kv.2)) ∧ kvs.length ≤ 15 ∧ Q (.ref p) (upd H2 p (.dK (mergeK [] kvs)))
theorem w_disp {trs : List (TE × TE)} {σ : L2.St} {H : Hp} {Q : VK} (h : ∀ p, H p = none → tPairs trs σ (upd H p (.dK [])) (DispK p Q)) : tDisp trs σ H Q := h
theorem w_pairs {tk tv : TE} {r : List (TE × TE)} {σ : L2.St} {H : Hp} {R : List (V × V) → Hp → Prop} (h : tk σ H fun x H1 => tv σ H1 fun y H2 => tPairs r σ H2 fun ps H3 => R ((x, y) :: ps) H3) : tPairs ((tk, tv) :: r) σ H R := h
theorem w_pairs0 {σ : L2.St} {H : Hp} {R : List (V × V) → Hp → Prop} (h : R [] H) : tPairs [] σ H R := h
theorem w_sdDisp {K : PySem.W.Frag} {H : Hp} {p : Addr} {a b : Nat} {x y : V} {S : Nat → V2} {Q : VK} (hp : H p = some (.dK [])) (ne : a ≠ b) (hx : PrV K H x (S a)) (hy : PrV K H y (S b))
    (q : ∀ es, SD K (upd H p (.dK es)) p [a, b] S → Keeps H (upd H p (.dK es)) → Q (.ref p) (upd H p (.dK es))) : DispK p Q [(.int (a : Int), x), (.int (b : Int), y)] H := by
  refine ⟨hp, [(.inl (a : Int), x), (.inl (b : Int), y)], rfl, by simp, ?_⟩
  have ne' : ¬ (Sum.inl (b : Int) : L2.Key) = Sum.inl (a : Int) := fun z => ne (key_inj z).symm
  have e : mergeK [] [((Sum.inl (a : Int) : L2.Key), x), ((Sum.inl (b : Int) : L2.Key), y)] = [((Sum.inl (a : Int) : L2.Key), x), ((Sum.inl (b : Int) : L2.Key), y)] := by
    show putK (putK [] _ x) _ y = _
    rw [putK_new x valV_nil, List.nil_append, putK_new y (by rw [valV_neg (fun z => ne' z.symm)]; rfl)]
    rfl
  rw [e]
  have k0 : Keeps H (upd H p (.dK [((Sum.inl (a : Int) : L2.Key), x), ((Sum.inl (b : Int) : L2.Key), y)])) := keeps_dK hp
  exact q _ ⟨by simpa using ne, _, upd_same, ⟨rfl, hx.keep k0⟩, ⟨rfl, hy.keep k0⟩, trivial⟩ k0
/-! #### the lengths of a cutting, as a dict -/
structure LenD (K : PySem.W.Frag) (H : Hp) (d : Addr) (t : Tr) (D : Nat → Nat → Rat) : Prop where
  ex : ∃ ks L, LD K H d ks L ∧ (∀ p, p ∈ ks ↔ ∃ q, q ∈ t.all 0 ∧ p = castP q) ∧ ∀ q ∈ t.all 0, L (castP q) = rp (D q.1 q.2)
theorem LenD.same {K : PySem.W.Frag} {H H' : Hp} {d : Addr} {t : Tr} {D : Nat → Nat → Rat} (h : LenD K H d t D) (s : Same H H') : LenD K H' d t D := by
  obtain ⟨ks, L, h1, h2⟩ := h
  exact ⟨ks, L, h1.same s, h2⟩
theorem w_lenGet {K : PySem.W.Frag} {H : Hp} {d b : Addr} {t : Tr} {D : Nat → Nat → Rat} {i k : Nat} {Q : VK} (h : LenD K H d t D) (hb : Pr H (.ref b) (castP (i, k))) (m : (i, k) ∈ t.all 0) (q : ∀ u, FrV K H (.ref u) (rp (D i k)) → Q (.ref u) H) : DGK (.ref d) Q (.ref b) H := by
  obtain ⟨ks, L, h1, h2, h3⟩ := h
  refine w_ldGet h1 hb ((h2 _).mpr ⟨_, m, rfl⟩) fun u hu => q u ?_
  rw [h3 _ m] at hu
  exact hu
/-- the target of stands: the two numbers of a post, by the first plot's a and b -/
def tgt (D : Nat → Nat → Rat) (a b : Nat) (i : Nat) : V2 := ⟨D i b / D a b, D a i⟩
section
variable {n : Nat} {t : Tr} {L : Len} {D : Nat → Nat → Rat} {F B a b : Nat}
theorem tgt_det (M : Meas n t L D) (ha : a < n) (hb : b < n) (ne : a ≠ b) {i k : Nat} (hi : i < n) (hk : k < n) : det (tgt D a b i) (tgt D a b k) = D i k := by
  have n0 := M.ne ne ha hb
  have p := M.pl ha hi hb hk
  have a1 := M.anti hk hb
  have a2 := M.anti ha hi
  unfold det tgt
  simp only
  grind
theorem tgt_a (M : Meas n t L D) (ha : a < n) (hb : b < n) (ne : a ≠ b) : tgt D a b a = ⟨1, 0⟩ := by
  have n0 := M.ne ne ha hb
  unfold tgt
  rw [M.self ha]
  congr 1
  grind
theorem tgt_b (M : Meas n t L D) (ha : a < n) (hb : b < n) (ne : a ≠ b) : tgt D a b b = ⟨0, D a b⟩ := by
  unfold tgt
  rw [M.self hb]
  congr 1
  grind
theorem tgt_mix (M : Meas n t L D) (ha : a < n) (hb : b < n) (ne : a ≠ b) {x y z : Nat} (hx : x < n) (hy : y < n) (hz : z < n) (nxy : x ≠ y) : mix (tgt D a b x) (D z y / D x y) (tgt D a b y) (D x z / D x y) = tgt D a b z := by
  have n0 := M.ne ne ha hb
  have n1 := M.ne nxy hx hy
  have p1 := M.pl hx hz hy hb
  have p2 := M.pl ha hx hz hy
  have a1 := M.anti hy hz
  have a2 := M.anti hz hb
  have a3 := M.anti hx hz
  have a4 := M.anti ha hx
  have a5 := M.anti hx hy
  unfold mix tgt
  congr 1
  · simp only
    grind
  · simp only
    grind
theorem tgt_rb (M : Meas n t L D) (Z : Bd n D F B) (ha : a < n) (hb : b < n) (ne : a ≠ b) {i : Nat} (hi : i < n) : rb (tgt D a b i).p B ∧ rb (tgt D a b i).q B :=
  ⟨Z.quot hi hb ha hb (M.ne ne ha hb), Z.rb ha hi⟩
end
def spBetween (K : PySem.W.Frag) : Sp := fun vs H Q _ => ∃ (d : Addr) (t : Tr) (D : Nat → Nat → Rat) (a b : Nat), vs = [.ref d, .int a, .int b] ∧ LenD K H d t D ∧ (min a b, max a b) ∈ t.all 0 ∧ a ≠ b ∧ D a b = - D b a ∧ FrA K H (D a b) Q
def spSpread (K : PySem.W.Frag) : Sp := fun vs H Q _ => ∃ (x y : Addr) (s r : V2) (n : Nat), vs = [.ref x, .ref y] ∧ PrV K H (.ref x) s ∧ PrV K H (.ref y) r ∧ rb s.p n ∧ rb s.q n ∧ rb r.p n ∧ rb r.q n ∧ 4 * n ≤ 9000 ∧ FrNew H (det s r) Q
end Pm
/-! ### how great the numbers of drawn lengths are -/
namespace Pm
def vb (v : V2) (E B : Nat) : Prop := ∃ x y : Int, v.p * E = x ∧ v.q * E = y ∧ x.natAbs ≤ B ∧ y.natAbs ≤ B
theorem cast_mul_nat (a b : Nat) : ((a * b : Nat) : Rat) = (a : Rat) * (b : Rat) := Rat.natCast_mul a b
theorem vb.scale {v : V2} {E B : Nat} (h : vb v E B) (k C : Nat) (hk : k ≤ C) : vb v (E * k) (B * C) := by
  obtain ⟨x, y, h1, h2, h3, h4⟩ := h
  refine ⟨x * k, y * k, ?_, ?_, ?_, ?_⟩
  · rw [cast_mul_nat, ← Rat.mul_assoc, h1, Rat.intCast_mul]; rfl
  · rw [cast_mul_nat, ← Rat.mul_assoc, h2, Rat.intCast_mul]; rfl
  · rw [Int.natAbs_mul, Int.natAbs_natCast]; exact Nat.mul_le_mul h3 hk
  · rw [Int.natAbs_mul, Int.natAbs_natCast]; exact Nat.mul_le_mul h4 hk
theorem vb.mono {v : V2} {E B C : Nat} (h : vb v E B) (k : B ≤ C) : vb v E C := by
  obtain ⟨x, y, h1, h2, h3, h4⟩ := h
  exact ⟨x, y, h1, h2, by omega, by omega⟩
/-- a length above nought with a small top and bottom -/
def szd (r : Rat) (N M : Nat) : Prop := 0 < r ∧ r.num.natAbs ≤ N ∧ r.den ≤ M
theorem rat_num_den (r : Rat) : r * (r.den : Rat) = (r.num : Rat) := by
  have e : r = (r.num : Rat) / ((r.den : Int) : Rat) := by
    conv => lhs; rw [← Rat.num_divInt_den r]
    exact Rat.divInt_eq_div _ _
  have i0 : ((r.den : Int) : Rat) = (r.den : Rat) := rfl
  have d0 : (r.den : Rat) ≠ 0 := fun z => by
    have : (r.den : Rat) = ((0 : Nat) : Rat) := by rw [z]; rfl
    exact r.den_nz (Rat.natCast_inj.mp this)
  rw [i0] at e
  generalize (r.den : Rat) = A at *
  generalize (r.num : Rat) = C at *
  grind
theorem pos_num {r : Rat} (h : 0 < r) : 0 < r.num := by
  have h1 := Rat.num_nonneg.mpr (show 0 ≤ r by grind)
  have h2 : r.num ≠ 0 := fun z => by rw [Rat.num_eq_zero.mp z] at h; exact absurd h (by grind)
  omega
theorem vb_mix {a b : V2} {E B N M : Nat} {l0 l1 l2 : Rat} (ha : vb a E B) (hb : vb b E B) (h0 : szd l0 N M) (h1 : szd l1 N M) (h2 : szd l2 N M) :
    ∃ k : Nat, 0 < k ∧ k ≤ N * M * M ∧ vb (mix a (l1 / l0) b (l2 / l0)) (E * k) (B * (2 * (N * M * M))) ∧ ∀ v, vb v E B → vb v (E * k) (B * (2 * (N * M * M))) := by
  have p0 := pos_num h0.1
  have e0 : l0.num = (l0.num.natAbs : Int) := by omega
  refine ⟨l1.den * l2.den * l0.num.natAbs, ?_, ?_, ?_, ?_⟩
  · exact Nat.mul_pos (Nat.mul_pos (Nat.pos_of_ne_zero l1.den_nz) (Nat.pos_of_ne_zero l2.den_nz)) (by omega)
  · have q := Nat.mul_le_mul (Nat.mul_le_mul h1.2.2 h2.2.2) h0.2.1
    rw [show N * M * M = M * M * N by rw [Nat.mul_assoc, Nat.mul_comm]]
    exact q
  · obtain ⟨x, y, a1, a2, a3, a4⟩ := ha
    obtain ⟨z, u, b1, b2, b3, b4⟩ := hb
    have d0 : l0 ≠ 0 := by have := h0.1; grind
    have q0 := rat_num_den l0
    have q1 := rat_num_den l1
    have q2 := rat_num_den l2
    have c0 : ((l0.num.natAbs : Nat) : Rat) = (l0.num : Rat) := by
      conv => rhs; rw [e0]
      rfl
    have key : ∀ (s r : Rat) (m n : Int), s * E = m → r * E = n → (s * (l1 / l0) + r * (l2 / l0)) * ((E * (l1.den * l2.den * l0.num.natAbs) : Nat) : Rat) = ((m * (l1.num * l0.den * l2.den) + n * (l2.num * l0.den * l1.den) : Int) : Rat) := by
      intro s r m n hm hn
      rw [cast_mul_nat, cast_mul_nat, cast_mul_nat, c0, Rat.intCast_add, Rat.intCast_mul, Rat.intCast_mul, Rat.intCast_mul, Rat.intCast_mul, Rat.intCast_mul, Rat.intCast_mul, ← q0, ← q1, ← q2, ← hm, ← hn]
      have i0 : ((l0.den : Int) : Rat) = (l0.den : Rat) := rfl
      have i1 : ((l1.den : Int) : Rat) = (l1.den : Rat) := rfl
      have i2 : ((l2.den : Int) : Rat) = (l2.den : Rat) := rfl
      rw [i0, i1, i2]
      generalize (l0.den : Rat) = A
      generalize (l1.den : Rat) = C
      generalize (l2.den : Rat) = G
      generalize (E : Rat) = W
      clear q0 q1 q2 c0 hm hn
      grind
    have bnd : ∀ m n : Int, m.natAbs ≤ B → n.natAbs ≤ B → (m * (l1.num * l0.den * l2.den) + n * (l2.num * l0.den * l1.den) : Int).natAbs ≤ B * (2 * (N * M * M)) := by
      intro m n hm hn
      refine Nat.le_trans (Int.natAbs_add_le _ _) ?_
      rw [Int.natAbs_mul, Int.natAbs_mul, Int.natAbs_mul, Int.natAbs_mul, Int.natAbs_mul, Int.natAbs_mul, Int.natAbs_natCast, Int.natAbs_natCast, Int.natAbs_natCast]
      have r1 := Nat.mul_le_mul hm (Nat.mul_le_mul (Nat.mul_le_mul h1.2.1 h0.2.2) h2.2.2)
      have r2 := Nat.mul_le_mul hn (Nat.mul_le_mul (Nat.mul_le_mul h2.2.1 h0.2.2) h1.2.2)
      have e : B * (2 * (N * M * M)) = B * (N * M * M) + B * (N * M * M) := by rw [Nat.two_mul, Nat.mul_add]
      rw [e]
      exact Nat.add_le_add r1 r2
    exact ⟨_, _, key _ _ _ _ a1 b1, key _ _ _ _ a2 b2, bnd _ _ a3 b3, bnd _ _ a4 b4⟩
  · intro v hv
    refine (hv.scale _ (N * M * M) ?_).mono (Nat.mul_le_mul (Nat.le_refl _) (by omega))
    have q := Nat.mul_le_mul (Nat.mul_le_mul h1.2.2 h2.2.2) h0.2.1
    rw [show N * M * M = M * M * N by rw [Nat.mul_assoc, Nat.mul_comm]]
    exact q
theorem Tr.std_bd {N M : Nat} : ∀ {t : Tr} {lo : Nat} {L : Len} {a b : V2} {E B : Nat}, (∀ p ∈ t.all lo, szd (L p) N M) → vb a E B → vb b E B → ∃ k : Nat, 0 < k ∧ k ≤ (N * M * M) ^ (t.w - 1) ∧ ∀ i, vb (t.std lo L a b i) (E * k) (B * (2 * (N * M * M)) ^ (t.w - 1))
  | leaf, lo, L, a, b, E, B, _, ha, hb => ⟨1, by decide, by simp [w], fun i => by
      have e : (2 * (N * M * M)) ^ (leaf.w - 1) = 1 := by simp [w]
      rw [Nat.mul_one, e, Nat.mul_one]
      unfold std
      split
      · exact ha
      · exact hb⟩
  | node l r, lo, L, a, b, E, B, hL, ha, hb => by
    have wl := w_pos l
    have wr := w_pos r
    obtain ⟨k0, k0p, k0b, hc, hsc⟩ := vb_mix ha hb (hL _ (mem_root (l := l) (r := r))) (hL (lo + l.w, lo + (l.w + r.w)) (mem_r (by have := root_mem (t := r) (lo := lo + l.w); rw [Nat.add_assoc] at this; exact this))) (hL (lo, lo + l.w) (mem_l root_mem))
    obtain ⟨k1, k1p, k1b, h1⟩ := Tr.std_bd (t := l) (lo := lo) (L := L) (fun p hp => hL p (mem_l hp)) (hsc _ ha) hc
    obtain ⟨k2, k2p, k2b, h2⟩ := Tr.std_bd (t := r) (lo := lo + l.w) (L := L) (fun p hp => hL p (mem_r hp)) hc (hsc _ hb)
    have hw : (node l r).w - 1 = 1 + (l.w - 1) + (r.w - 1) := by show l.w + r.w - 1 = _; omega
    have one : ∀ m : Nat, (N * M * M) ^ m ≤ (2 * (N * M * M)) ^ m := fun m => Nat.pow_le_pow_left (by omega) m
    refine ⟨k0 * k1 * k2, Nat.mul_pos (Nat.mul_pos k0p k1p) k2p, ?_, fun i => ?_⟩
    · rw [hw, Nat.pow_add, Nat.pow_add, Nat.pow_one]
      exact Nat.mul_le_mul (Nat.mul_le_mul k0b k1b) k2b
    · rw [hw, Nat.pow_add, Nat.pow_add, Nat.pow_one]
      unfold std
      split
      · have q := (h1 i).scale k2 _ (Nat.le_trans k2b (one _))
        rw [show E * (k0 * k1 * k2) = E * k0 * k1 * k2 by rw [← Nat.mul_assoc, ← Nat.mul_assoc], show B * (2 * (N * M * M) * (2 * (N * M * M)) ^ (l.w - 1) * (2 * (N * M * M)) ^ (r.w - 1)) = B * (2 * (N * M * M)) * (2 * (N * M * M)) ^ (l.w - 1) * (2 * (N * M * M)) ^ (r.w - 1) by rw [← Nat.mul_assoc, ← Nat.mul_assoc]]
        exact q
      · have q := (h2 i).scale k1 _ (Nat.le_trans k1b (one _))
        rw [show E * (k0 * k1 * k2) = E * k0 * k2 * k1 by rw [← Nat.mul_assoc, ← Nat.mul_assoc, Nat.mul_right_comm], show B * (2 * (N * M * M) * (2 * (N * M * M)) ^ (l.w - 1) * (2 * (N * M * M)) ^ (r.w - 1)) = B * (2 * (N * M * M)) * (2 * (N * M * M)) ^ (r.w - 1) * (2 * (N * M * M)) ^ (l.w - 1) by rw [← Nat.mul_assoc, ← Nat.mul_assoc, Nat.mul_right_comm]]
        exact q
/-- lengths with tops below 2 ^ 10 and bottoms below 2 ^ 7 of up to 12 posts -/
theorem meas_bd {n : Nat} {t : Tr} {L : Len} (hw : t.w + 1 = n) (hn : n ≤ 12) (hL : ∀ p ∈ t.all 0, szd (L p) 1024 128) : ∃ F, Bd n (Mt t L) F 550 := by
  have r0 := hL _ (Tr.root_mem (t := t) (lo := 0))
  rw [Nat.zero_add] at r0
  have q0 := rat_num_den (L (0, t.w))
  have dp := Nat.pos_of_ne_zero (L (0, t.w)).den_nz
  have d1 : ((L (0, t.w)).den : Rat) * 1 = (((L (0, t.w)).den : Int) : Rat) := by rw [Rat.mul_one]; rfl
  obtain ⟨k, kp, kb, h⟩ := Tr.std_bd (t := t) (lo := 0) (L := L) (a := ⟨1, 0⟩) (b := ⟨0, L (0, t.w)⟩) (E := (L (0, t.w)).den) (B := 1024) hL
    ⟨(L (0, t.w)).den, 0, by simp only; rw [Rat.one_mul]; rfl, by simp only; rw [Rat.zero_mul]; rfl, by have := r0.2.2; omega, by omega⟩
    ⟨0, (L (0, t.w)).num, by simp only; rw [Rat.zero_mul]; rfl, q0, by omega, r0.2.1⟩
  generalize hE : (L (0, t.w)).den * k = E at h
  have Eb : E ≤ 2 ^ 260 := by
    rw [← hE]
    have : (1024 * 128 * 128) ^ (t.w - 1) ≤ (1024 * 128 * 128) ^ 10 := Nat.pow_le_pow_right (by decide) (by omega)
    refine Nat.le_trans (Nat.mul_le_mul r0.2.2 (Nat.le_trans kb this)) (by decide)
  have E0 : 0 < E := by rw [← hE]; exact Nat.mul_pos dp kp
  have Bb : 1024 * (2 * (1024 * 128 * 128)) ^ (t.w - 1) ≤ 2 ^ 260 := by
    have : (2 * (1024 * 128 * 128)) ^ (t.w - 1) ≤ (2 * (1024 * 128 * 128)) ^ 10 := Nat.pow_le_pow_right (by decide) (by omega)
    refine Nat.le_trans (Nat.mul_le_mul (Nat.le_refl _) this) (by decide)
  refine ⟨E * E, Nat.mul_pos E0 E0, Nat.lt_of_le_of_lt (Nat.mul_le_mul Eb Eb) (by decide), fun i k _ _ => ?_⟩
  obtain ⟨x, y, h1, h2, h3, h4⟩ := h i
  obtain ⟨z, u, g1, g2, g3, g4⟩ := h k
  refine ⟨x * u - z * y, ?_, ?_⟩
  · unfold Mt det
    rw [cast_mul_nat, Rat.intCast_sub, Rat.intCast_mul, Rat.intCast_mul, ← h1, ← h2, ← g1, ← g2]
    generalize (E : Rat) = W
    grind
  · have a1 : (x * u).natAbs ≤ 2 ^ 260 * 2 ^ 260 := by rw [Int.natAbs_mul]; exact Nat.mul_le_mul (Nat.le_trans h3 Bb) (Nat.le_trans g4 Bb)
    have a2 : (z * y).natAbs ≤ 2 ^ 260 * 2 ^ 260 := by rw [Int.natAbs_mul]; exact Nat.mul_le_mul (Nat.le_trans g3 Bb) (Nat.le_trans h4 Bb)
    have a3 := Int.natAbs_sub_le (x * u) (z * y)
    have a4 : 2 ^ 260 * 2 ^ 260 + 2 ^ 260 * 2 ^ 260 < 2 ^ 550 := by decide
    omega
end Pm
/-! ### tables: lists of lists of pairs -/
namespace Pm
open PySem PySem.Spec PyProof.Rows L2
/-- a row: a list of pairs -/
def Row (K : PySem.W.Frag) (H : Hp) (a : Addr) (row : List IP) : Prop := ∃ vs, H a = some (.lst vs) ∧ All2 (FrV K H) vs row
structure Tb (K : PySem.W.Frag) (H : Hp) (l : Addr) (as : List Addr) (R : List (List IP)) : Prop where
  top : H l = some (.lst (as.map V.ref))
  nd : as.Nodup
  out : l ∉ as
  rows : All2 (Row K H) as R
section
variable {K : PySem.W.Frag} {H H' : Hp} {l : Addr} {as : List Addr} {R : List (List IP)}
theorem frvs_keep (k : Keeps H H') {vs : List V} {row : List IP} (h : All2 (FrV K H) vs row) : All2 (FrV K H') vs row := h.mono fun _ _ q => q.keep k
theorem Row.same {a : Addr} {row : List IP} (h : Row K H a row) (s : Same H H') : Row K H' a row := by
  obtain ⟨vs, h1, h2⟩ := h
  exact ⟨vs, s _ _ h1, frvs_keep (keeps s) h2⟩
theorem Row.keep {a : Addr} {row : List IP} (h : Row K H a row) (k : Keeps H H') (e : H' a = H a) : Row K H' a row := by
  obtain ⟨vs, h1, h2⟩ := h
  exact ⟨vs, by rw [e]; exact h1, frvs_keep k h2⟩
theorem Tb.same (h : Tb K H l as R) (s : Same H H') : Tb K H' l as R := ⟨s _ _ h.top, h.nd, h.out, h.rows.mono fun _ _ q => q.same s⟩
theorem Tb.len (h : Tb K H l as R) : as.length = R.length := h.rows.length
theorem nodup_get {α : Type} : ∀ {l : List α} {i j : Nat} {x : α}, l.Nodup → l[i]? = some x → l[j]? = some x → i = j
  | [], i, j, x, _, h, _ => by simp at h
  | y :: l, 0, 0, x, _, _, _ => rfl
  | y :: l, 0, j + 1, x, n, h, k => by
    simp only [List.getElem?_cons_zero, Option.some.injEq, List.getElem?_cons_succ] at h k
    subst h
    exact absurd (List.mem_of_getElem? k) (List.nodup_cons.mp n).1
  | y :: l, i + 1, 0, x, n, h, k => by
    simp only [List.getElem?_cons_zero, Option.some.injEq, List.getElem?_cons_succ] at h k
    subst k
    exact absurd (List.mem_of_getElem? h) (List.nodup_cons.mp n).1
  | y :: l, i + 1, j + 1, x, n, h, k => by
    simp only [List.getElem?_cons_succ] at h k
    rw [nodup_get (List.nodup_cons.mp n).2 h k]
theorem all2_of_get {α β : Type} {P : α → β → Prop} : ∀ {xs : List α} {ys : List β}, xs.length = ys.length → (∀ (i : Nat) (x : α) (y : β), xs[i]? = some x → ys[i]? = some y → P x y) → All2 P xs ys
  | [], [], _, _ => trivial
  | x :: xs, [], h, _ => by simp at h
  | [], y :: ys, h, _ => by simp at h
  | x :: xs, y :: ys, h, f => ⟨f 0 x y rfl rfl, all2_of_get (by simpa using h) fun i a b ha hb => f (i + 1) a b (by simpa using ha) (by simpa using hb)⟩
theorem Tb.row (h : Tb K H l as R) {i : Nat} {row : List IP} (e : R[i]? = some row) : ∃ a vs, as[i]? = some a ∧ H a = some (.lst vs) ∧ All2 (FrV K H) vs row := by
  obtain ⟨a, ha, vs, h1, h2⟩ := h.rows.get' e
  exact ⟨a, vs, ha, h1, h2⟩
/-- a place of a table set -/
theorem Tb.put (h : Tb K H l as R) {i k : Nat} {a : Addr} {vs : List V} {row : List IP} {v : V} {p : IP} (e : R[i]? = some row) (ha : as[i]? = some a) (hv : H a = some (.lst vs)) (hr : All2 (FrV K H) vs row) (fv : FrV K H v p) :
    Tb K (upd H a (.lst (vs.set k v))) l as (R.set i (row.set k p)) := by
  have kp : Keeps H (upd H a (.lst (vs.set k v))) := keeps_lst hv
  have ma : a ∈ as := List.mem_of_getElem? ha
  have nl : l ≠ a := fun z => h.out (by rw [z]; exact ma)
  refine ⟨by rw [upd_ne nl]; exact h.top, h.nd, h.out, all2_of_get (by rw [List.length_set]; exact h.len) fun j b r hb hrj => ?_⟩
  by_cases z : j = i
  · subst z
    rw [ha] at hb
    cases hb
    have el : j < R.length := (List.getElem?_eq_some_iff.mp e).1
    rw [List.getElem?_set_self el] at hrj
    cases hrj
    exact ⟨_, upd_same, frvs_keep kp (hr.set k fv)⟩
  · rw [List.getElem?_set_ne (fun q => z q.symm)] at hrj
    obtain ⟨r', hr', q⟩ := h.rows.get hb
    rw [hrj] at hr'
    cases hr'
    exact q.keep kp (upd_ne fun q : b = a => z (nodup_get h.nd hb (by rw [q]; exact ha)))
end
/-- a square of n rows -/
def mat (n : Nat) (g : Nat → Nat → IP) : List (List IP) := (List.range n).map fun i => (List.range n).map fun k => g i k
theorem mat_row {n i : Nat} {g : Nat → Nat → IP} (h : i < n) : (mat n g)[i]? = some ((List.range n).map fun k => g i k) := by
  unfold mat
  rw [List.getElem?_map, List.getElem?_range h]
  rfl
theorem mat_len (n : Nat) (g : Nat → Nat → IP) : (mat n g).length = n := by unfold mat; rw [List.length_map, List.length_range]
theorem mat_congr {n : Nat} {g g' : Nat → Nat → IP} (h : ∀ i k, i < n → k < n → g i k = g' i k) : mat n g = mat n g' := by
  unfold mat
  refine List.map_congr_left fun i hi => List.map_congr_left fun k hk => ?_
  exact h i k (List.mem_range.mp hi) (List.mem_range.mp hk)
theorem map_set_range {n k : Nat} {f : Nat → IP} {p : IP} : ((List.range n).map f).set k p = (List.range n).map fun j => if j = k then p else f j := by
  refine List.ext_getElem? fun j => ?_
  by_cases z : j < n
  · rw [List.getElem?_map, List.getElem?_range z]
    by_cases e : j = k
    · subst e
      rw [List.getElem?_set_self (by rw [List.length_map, List.length_range]; exact z)]
      simp
    · rw [List.getElem?_set_ne (fun q => e q.symm), List.getElem?_map, List.getElem?_range z]
      simp [e]
  · rw [List.getElem?_eq_none (by rw [List.length_set, List.length_map, List.length_range]; omega), List.getElem?_eq_none (by rw [List.length_map, List.length_range]; omega)]
theorem mat_set {n i k : Nat} {g : Nat → Nat → IP} {p : IP} (hi : i < n) : (mat n g).set i (((List.range n).map fun j => g i j).set k p) = mat n fun x y => if x = i ∧ y = k then p else g x y := by
  rw [map_set_range]
  refine List.ext_getElem? fun j => ?_
  by_cases z : j < n
  · rw [mat_row z]
    by_cases e : j = i
    · subst e
      rw [List.getElem?_set_self (by rw [mat_len]; exact z)]
      simp
    · rw [List.getElem?_set_ne (fun q => e q.symm), mat_row z]
      simp [e]
  · rw [List.getElem?_eq_none (by rw [List.length_set, mat_len]; omega), List.getElem?_eq_none (by rw [mat_len]; omega)]
section
variable {K : PySem.W.Frag} {H : Hp} {Q : VK} {l : Addr} {as : List Addr} {n i k : Nat} {g : Nat → Nat → IP}
/-- rows[i] -/
theorem w_tbRow (h : Tb K H l as (mat n g)) (hi : i < n) {j : Int} (ej : j = (i : Int)) (q : ∀ a vs, as[i]? = some a → H a = some (.lst vs) → All2 (FrV K H) vs ((List.range n).map fun k => g i k) → Q (.ref a) H) : rIxL K (.ref l) (.int j) H Q := by
  obtain ⟨a, vs, ha, h1, h2⟩ := h.row (mat_row hi)
  subst ej
  refine w_ixL (v := .ref a) (SqL.of h.top) (atI_nat ?_) (q a vs ha h1 h2)
  rw [List.getElem?_map, ha]; rfl
/-- row[k] -/
theorem w_rowAt {a : Addr} {vs : List V} {f : Nat → IP} (h1 : H a = some (.lst vs)) (h2 : All2 (FrV K H) vs ((List.range n).map f)) (hk : k < n) {j : Int} (ej : j = (k : Int)) (q : ∀ t, FrV K H (.ref t) (f k) → Q (.ref t) H) : rIxL K (.ref a) (.int j) H Q := by
  have e : ((List.range n).map f)[k]? = some (f k) := by rw [List.getElem?_map, List.getElem?_range hk]; rfl
  obtain ⟨v, hv, t, rfl, ht⟩ := h2.get' e
  subst ej
  exact w_ixL (v := .ref t) (SqL.of h1) (atI_nat hv) (q t ⟨t, rfl, ht⟩)
end
/-- a new table -/
def TbNew (K : PySem.W.Frag) (H : Hp) (R : List (List IP)) (Q : VK) : Prop := ∀ (l : Addr) (H' : Hp) (as : List Addr), Same H H' → H l = none → (∀ a ∈ as, H a = none) → Tb K H' l as R → Q (.ref l) H'
/-- the table of pairs -/
def sprd (S : Nat → V2) (i k : Nat) : IP := rp (if i = k then 0 else det (S (min i k)) (S (max i k)))
/-! #### all posts are among so many -/
theorem nodup_le : ∀ {ks l : List Nat}, ks.Nodup → (∀ k ∈ ks, k ∈ l) → ks.length ≤ l.length
  | [], _, _, _ => Nat.zero_le _
  | k :: ks, l, hn, hs => by
    rw [List.nodup_cons] at hn
    have hk := hs k List.mem_cons_self
    have := nodup_le (l := l.erase k) hn.2 fun j hj => (List.mem_erase_of_ne (fun z : j = k => hn.1 (by rw [← z]; exact hj))).mpr (hs j (List.mem_cons_of_mem _ hj))
    rw [List.length_erase_of_mem hk] at this
    have := List.length_pos_of_mem hk
    simp only [List.length_cons]
    omega
theorem all_in {n : Nat} {ks : List Nat} (hn : ks.Nodup) (hs : ∀ k ∈ ks, k < n) (hl : n ≤ ks.length) {i : Nat} (hi : i < n) : i ∈ ks := by
  by_cases z : i ∈ ks
  · exact z
  · have := nodup_le (ks := i :: ks) (l := List.range n) (List.nodup_cons.mpr ⟨z, hn⟩) fun k hk => by
      rcases List.mem_cons.mp hk with rfl | hk
      · exact List.mem_range.mpr hi
      · exact List.mem_range.mpr (hs k hk)
    rw [List.length_range, List.length_cons] at this
    omega
theorem nodup_bd {n : Nat} {ks : List Nat} (hn : ks.Nodup) (hs : ∀ k ∈ ks, k < n) : ks.length ≤ n := by
  have := nodup_le (l := List.range n) hn fun k hk => List.mem_range.mpr (hs k hk)
  rw [List.length_range] at this
  exact this
/-! #### posts that stand, plot by plot -/
def st3 (ks : List Nat) (x y z : Nat) : List Nat := if x ∈ ks ∧ y ∈ ks ∧ z ∉ ks then ks ++ [z] else ks
def st9 (ks : List Nat) (q : Nat × Nat × Nat) : List Nat := st3 (st3 (st3 ks q.1 q.2.1 q.2.2) q.1 q.2.2 q.2.1) q.2.1 q.2.2 q.1
theorem st3_cases (ks : List Nat) (x y z : Nat) : (st3 ks x y z = ks ∧ (x ∈ ks → y ∈ ks → z ∈ ks)) ∨ (st3 ks x y z = ks ++ [z] ∧ z ∉ ks) := by
  unfold st3
  split
  · rename_i h
    exact .inr ⟨rfl, h.2.2⟩
  · rename_i h
    exact .inl ⟨rfl, fun a b => by
      by_cases c : z ∈ ks
      · exact c
      · exact absurd ⟨a, b, c⟩ h⟩
theorem st3_len (ks : List Nat) (x y z : Nat) : ks.length ≤ (st3 ks x y z).length ∧ ((st3 ks x y z).length = ks.length → st3 ks x y z = ks) := by
  rcases st3_cases ks x y z with ⟨h, _⟩ | ⟨h, _⟩
  · rw [h]; exact ⟨Nat.le_refl _, fun _ => rfl⟩
  · rw [h, List.length_append, List.length_singleton]; exact ⟨by omega, fun z => by omega⟩
theorem st9_len (ks : List Nat) (q : Nat × Nat × Nat) : ks.length ≤ (st9 ks q).length := by
  unfold st9
  exact Nat.le_trans (Nat.le_trans (st3_len ks q.1 q.2.1 q.2.2).1 (st3_len _ q.1 q.2.2 q.2.1).1) (st3_len _ q.2.1 q.2.2 q.1).1
theorem st9_same {ks : List Nat} {q : Nat × Nat × Nat} (h : (st9 ks q).length = ks.length) : st9 ks q = ks ∧ (q.1 ∈ ks → q.2.1 ∈ ks → q.2.2 ∈ ks) ∧ (q.1 ∈ ks → q.2.2 ∈ ks → q.2.1 ∈ ks) ∧ (q.2.1 ∈ ks → q.2.2 ∈ ks → q.1 ∈ ks) := by
  unfold st9 at h ⊢
  have a1 := st3_len ks q.1 q.2.1 q.2.2
  have a2 := st3_len (st3 ks q.1 q.2.1 q.2.2) q.1 q.2.2 q.2.1
  have a3 := st3_len (st3 (st3 ks q.1 q.2.1 q.2.2) q.1 q.2.2 q.2.1) q.2.1 q.2.2 q.1
  have e1 := a1.2 (by omega)
  rw [e1] at a2 a3 h ⊢
  have e2 := a2.2 (by omega)
  rw [e2] at a3 h ⊢
  have e3 := a3.2 (by omega)
  refine ⟨e3, ?_, ?_, ?_⟩
  · rcases st3_cases ks q.1 q.2.1 q.2.2 with ⟨_, h⟩ | ⟨h, _⟩
    · exact h
    · rw [e1] at h; exact absurd (congrArg List.length h) (by rw [List.length_append, List.length_singleton]; omega)
  · rcases st3_cases ks q.1 q.2.2 q.2.1 with ⟨_, h⟩ | ⟨h, _⟩
    · exact h
    · rw [e2] at h; exact absurd (congrArg List.length h) (by rw [List.length_append, List.length_singleton]; omega)
  · rcases st3_cases ks q.2.1 q.2.2 q.1 with ⟨_, h⟩ | ⟨h, _⟩
    · exact h
    · rw [e3] at h; exact absurd (congrArg List.length h) (by rw [List.length_append, List.length_singleton]; omega)
theorem st3_mem {ks : List Nat} {x y z n : Nat} (h : ∀ k ∈ ks, k < n) (hz : z < n) : ∀ k ∈ st3 ks x y z, k < n := by
  rcases st3_cases ks x y z with ⟨e, _⟩ | ⟨e, _⟩
  · rw [e]; exact h
  · rw [e]
    intro k hk
    rcases List.mem_append.mp hk with q | q
    · exact h k q
    · rw [List.mem_singleton.mp q]; exact hz
theorem st3_sub {ks : List Nat} {x y z k : Nat} (h : k ∈ ks) : k ∈ st3 ks x y z := by
  rcases st3_cases ks x y z with ⟨e, _⟩ | ⟨e, _⟩
  · rw [e]; exact h
  · rw [e]; exact List.mem_append.mpr (.inl h)
theorem st9_sub {ks : List Nat} {q : Nat × Nat × Nat} {k : Nat} (h : k ∈ ks) : k ∈ st9 ks q := st3_sub (st3_sub (st3_sub h))
def runs (ks : List Nat) (qs : List (Nat × Nat × Nat)) : List Nat := qs.foldl st9 ks
theorem runs_snoc (ks : List Nat) (qs : List (Nat × Nat × Nat)) (q : Nat × Nat × Nat) : runs ks (qs ++ [q]) = st9 (runs ks qs) q := by unfold runs; rw [List.foldl_append]; rfl
theorem runs_len : ∀ (qs : List (Nat × Nat × Nat)) (ks : List Nat), ks.length ≤ (runs ks qs).length
  | [], ks => Nat.le_refl _
  | q :: qs, ks => Nat.le_trans (st9_len ks q) (runs_len qs (st9 ks q))
theorem runs_sub : ∀ {qs : List (Nat × Nat × Nat)} {ks : List Nat} {k : Nat}, k ∈ ks → k ∈ runs ks qs
  | [], ks, k, h => h
  | q :: qs, ks, k, h => runs_sub (qs := qs) (st9_sub h)
theorem runs_same : ∀ {qs : List (Nat × Nat × Nat)} {ks : List Nat}, (runs ks qs).length = ks.length → ∀ q ∈ qs, (q.1 ∈ ks → q.2.1 ∈ ks → q.2.2 ∈ ks) ∧ (q.1 ∈ ks → q.2.2 ∈ ks → q.2.1 ∈ ks) ∧ (q.2.1 ∈ ks → q.2.2 ∈ ks → q.1 ∈ ks)
  | [], ks, _, q, h => nomatch h
  | p :: qs, ks, h, q, hq => by
    have l1 := st9_len ks p
    have l2 := runs_len qs (st9 ks p)
    have h' : (runs (st9 ks p) qs).length = ks.length := h
    obtain ⟨e, r⟩ := st9_same (ks := ks) (q := p) (by omega)
    rcases List.mem_cons.mp hq with rfl | hq
    · exact r
    · rw [e] at h'
      exact runs_same h' q hq
/-- a pass over all plots brings a post more, unless all stand -/
theorem runs_more {n : Nat} {cut : List IP} {t : Tr} (C : Cutting n cut t) {qs : List (Nat × Nat × Nat)} (hq : ∀ q, q ∈ t.plots 0 → q ∈ qs) {ks : List Nat} (hn : ks.Nodup) {a b : Nat} (hab : (a, b) ∈ t.all 0) (ha : a ∈ ks) (hb : b ∈ ks) (hl : ks.length < n) (hs : ∀ k ∈ ks, k < n) : ks.length < (runs ks qs).length := by
  rcases Nat.lt_or_ge ks.length (runs ks qs).length with z | z
  · exact z
  · have e : (runs ks qs).length = ks.length := Nat.le_antisymm z (runs_len qs ks)
    have cl := runs_same e
    have w := C.w
    have all : ∀ i, i < n → i ∈ ks := fun i hi => Tr.closed_all (t := t) (Z := fun k => k ∈ ks) (fun x y z h => cl (x, y, z) (hq _ h)) hab ha hb (by omega)
    have := nodup_le (ks := List.range n) (l := ks) List.nodup_range fun k hk => all k (List.mem_range.mp hk)
    rw [List.length_range] at this
    omega
theorem Tr.inn_len' : ∀ (t : Tr) (lo : Nat), (t.inn lo).length + 1 = t.w
  | .leaf, lo => by simp [Tr.inn, Tr.w]
  | .node l r, lo => by
    have h1 := Tr.inn_len' l lo
    have h2 := Tr.inn_len' r (lo + l.w)
    simp only [Tr.inn, Tr.w, List.length_cons, List.length_append]
    omega
theorem Cutting.cut_len {n : Nat} {cut : List IP} {t : Tr} (C : Cutting n cut t) : cut.length + 3 = n := by
  have h := C.perm.length_eq
  have w := C.w
  rw [List.length_map] at h
  have q := t.inn_len' 0
  rw [Tr.inn_node C.w2, List.length_cons] at q
  have := C.w2
  omega
/-! #### comprehensions that make rows -/
structure RowsAt (K : PySem.W.Frag) (H0 H : Hp) (D : Addr) (f : Nat → List IP) (i : Nat) (as : List Addr) : Prop where
  same : Same H0 H
  top : H D = some (.lst (as.map V.ref))
  nd : as.Nodup
  out : D ∉ as
  fresh : ∀ a ∈ as, H0 a = none
  rows : All2 (Row K H) as ((List.range i).map f)
theorem RowsAt.put {K : PySem.W.Frag} {H0 H1 H2 : Hp} {D r : Addr} {f : Nat → List IP} {i : Nat} {as : List Addr} (h : RowsAt K H0 H1 D f i as) (hD : H0 D = none) (s : Same H1 H2) (nr : H1 r = none) (hr : Row K H2 r (f i)) : RowsAt K H0 (upd H2 D (.lst (as.map V.ref ++ [.ref r]))) D f (i + 1) (as ++ [r]) := by
  have top2 := s _ _ h.top
  have kp : Keeps H2 (upd H2 D (.lst (as.map V.ref ++ [.ref r]))) := keeps_lst top2
  have nD : r ≠ D := (ne_of_none h.top nr).symm
  have na : r ∉ as := fun z => by
    obtain ⟨row, _, vs, e, _⟩ := h.rows.mem z
    rw [nr] at e
    cases e
  refine ⟨same_but hD (h.same.trans s), by rw [upd_same, List.map_append]; rfl, ?_, ?_, ?_, ?_⟩
  · rw [List.nodup_append]
    exact ⟨h.nd, by simp, fun a ha b hb => by rw [List.mem_singleton.mp hb]; rintro rfl; exact na ha⟩
  · intro z
    rcases List.mem_append.mp z with z | z
    · exact h.out z
    · exact nD (List.mem_singleton.mp z).symm
  · intro a ha
    rcases List.mem_append.mp ha with z | z
    · exact h.fresh a z
    · rw [List.mem_singleton.mp z]; exact h.same.free nr
  · rw [List.range_succ, List.map_append]
    refine All2.append ?_ ⟨hr.keep kp (upd_ne nD), trivial⟩
    refine all2_of_get (by have := h.rows.length; exact this) fun j b row hb hrow => ?_
    obtain ⟨row', e', q⟩ := h.rows.get hb
    rw [hrow] at e'
    cases e'
    have nb : b ≠ D := fun z => h.out (by rw [← z]; exact List.mem_of_getElem? hb)
    exact (q.same s).keep kp (upd_ne nb)
section
variable {K : PySem.W.Frag} {H : Hp} {Q : VK} {σ : L2.St} {vs : List Nat} {g : TG} {tt : TT} {te : TE}
theorem w_lcRowsL {a : Addr} {xs : List V} (hl : SqL K H a xs) (f : Nat → List IP) (hx : xs.length < 1000000)
    (step : ∀ D i x H1 Nx, H D = none → xs[i]? = some x → Same H H1 → (∀ r H2, Same H1 H2 → H1 r = none → Row K H2 r (f i) → LcPut D Nx (.ref r) H2) → g x (wipe σ vs) H1 (LcTurn tt te vs σ D Nx))
    (done : ∀ D H1 as, H D = none → Same H H1 → (∀ a ∈ as, H a = none) → Tb K H1 D as ((List.range xs.length).map f) → Q (.ref D) H1) : LcB g tt te vs σ Q (Itl K a) H := by
  refine w_lcL (xs := xs) fun D hD => ⟨fun i H1 => ∃ as, RowsAt K H H1 D f i as, ?_, ?_, ?_, ?_⟩
  · exact ⟨[], same_new hD _, upd_same, List.nodup_nil, List.not_mem_nil, (fun _ h => nomatch h), trivial⟩
  · rintro i H1 _ ⟨as, h⟩
    exact h.same.seq hl
  · rintro i x H1 hi ⟨as, h⟩
    refine step D i x H1 _ hD hi h.same fun r H2 s nr hr => ?_
    have la : as.length = i := by have := h.rows.length; rw [List.length_map, List.length_range] at this; exact this
    have li : i < xs.length := (List.getElem?_eq_some_iff.mp hi).1
    exact w_put (s _ _ h.top) (size_lt (by rw [List.length_map]; omega)) ⟨_, h.put hD s nr hr⟩
  · rintro H1 ⟨as, h⟩
    exact done D H1 as hD h.same h.fresh ⟨h.top, h.nd, h.out, h.rows⟩
theorem w_lcRowsR {lo : Int} {n : Nat} (f : Nat → List IP) (hx : n < 1000000)
    (step : ∀ D i H1 Nx, H D = none → i < n → Same H H1 → (∀ r H2, Same H1 H2 → H1 r = none → Row K H2 r (f i) → LcPut D Nx (.ref r) H2) → g (.int (lo + (i : Nat))) (wipe σ vs) H1 (LcTurn tt te vs σ D Nx))
    (done : ∀ D H1 as, H D = none → Same H H1 → (∀ a ∈ as, H a = none) → Tb K H1 D as ((List.range n).map f) → Q (.ref D) H1) : LcB g tt te vs σ Q (Itr lo n) H := by
  refine w_lcR fun D hD => ⟨fun i H1 => ∃ as, RowsAt K H H1 D f i as, ?_, ?_, ?_⟩
  · exact ⟨[], same_new hD _, upd_same, List.nodup_nil, List.not_mem_nil, (fun _ h => nomatch h), trivial⟩
  · rintro i H1 hi ⟨as, h⟩
    refine step D i H1 _ hD hi h.same fun r H2 s nr hr => ?_
    have la : as.length = i := by have := h.rows.length; rw [List.length_map, List.length_range] at this; exact this
    exact w_put (s _ _ h.top) (size_lt (by rw [List.length_map]; omega)) ⟨_, h.put hD s nr hr⟩
  · rintro H1 ⟨as, h⟩
    exact done D H1 as hD h.same h.fresh ⟨h.top, h.nd, h.out, h.rows⟩
end
/-! #### a table filled pair by pair -/
/-- what is set once all pairs below k, and those of k with less than i, are -/
def fil (S : Nat → V2) (k i x y : Nat) : IP := rp (if x ≠ y ∧ (max x y < k ∨ (max x y = k ∧ min x y < i)) then det (S (min x y)) (S (max x y)) else 0)
theorem fil_zero (S : Nat → V2) (x y : Nat) : fil S 0 0 x y = rp 0 := by
  unfold fil
  rw [if_neg (by omega)]
theorem fil_next (S : Nat → V2) (k x y : Nat) : fil S k k x y = fil S (k + 1) 0 x y := by
  unfold fil
  congr 1
  by_cases h : x ≠ y ∧ (max x y < k ∨ (max x y = k ∧ min x y < k))
  · rw [if_pos h, if_pos (by omega)]
  · rw [if_neg h, if_neg (by omega)]
theorem fil_set (S : Nat → V2) {k i : Nat} (h : i < k) (x y : Nat) : (if x = k ∧ y = i then rp (det (S i) (S k)) else if x = i ∧ y = k then rp (det (S i) (S k)) else fil S k i x y) = fil S k (i + 1) x y := by
  unfold fil
  by_cases h1 : x = k ∧ y = i
  · obtain ⟨rfl, rfl⟩ := h1
    rw [if_pos ⟨rfl, rfl⟩, if_pos (by omega), Nat.min_eq_right (by omega), Nat.max_eq_left (by omega)]
  · rw [if_neg h1]
    by_cases h2 : x = i ∧ y = k
    · obtain ⟨rfl, rfl⟩ := h2
      rw [if_pos ⟨rfl, rfl⟩, if_pos (by omega), Nat.min_eq_left (by omega), Nat.max_eq_right (by omega)]
    · rw [if_neg h2]
      congr 1
      by_cases h3 : x ≠ y ∧ (max x y < k ∨ (max x y = k ∧ min x y < i))
      · rw [if_pos h3, if_pos (by omega)]
      · rw [if_neg h3, if_neg (by omega)]
theorem fil_all (S : Nat → V2) {n x y : Nat} (hx : x < n) (hy : y < n) : fil S n 0 x y = sprd S x y := by
  unfold fil sprd
  congr 1
  by_cases h : x = y
  · rw [if_pos h, if_neg (by omega)]
  · rw [if_neg h, if_pos (by omega)]
theorem row_set {K : PySem.W.Frag} {H : Hp} {l a : Addr} {as : List Addr} {n i k : Nat} {g : Nat → Nat → IP} {vs : List V} {v : V} {p : IP} (h : Tb K H l as (mat n g)) (hi : i < n) (ha : as[i]? = some a) (hv : H a = some (.lst vs)) (hr : All2 (FrV K H) vs ((List.range n).map fun k => g i k)) (fv : FrV K H v p) :
    Tb K (upd H a (.lst (vs.set k v))) l as (mat n fun x y => if x = i ∧ y = k then p else g x y) := by
  have q := h.put (k := k) (mat_row hi) ha hv hr fv
  rw [mat_set hi] at q
  exact q
end Pm
/-! ### None, lists turned about -/
namespace Pm
open PySem PySem.Spec PyProof.Rows L2
/-! #### None -/
def rNotN : R2 := fun x y H Q => y = .non ∧ Q (.bl (!decide (x = .non))) H
def rIsN : R2 := fun x y H Q => y = .non ∧ Q (.bl (decide (x = .non))) H
theorem op_notNK {X : Cx} : OpR X (compareOp .IsNot) rNotN := op_notN
theorem op_isNK {X : Cx} : OpR X (compareOp .Is) rIsN := op_isN
section
variable {H : Hp} {Q : VK} {a : Addr}
theorem w_notN_ref (h : Q (.bl true) H) : rNotN (.ref a) .non H Q := ⟨rfl, h⟩
theorem w_notN_non (h : Q (.bl false) H) : rNotN .non .non H Q := ⟨rfl, h⟩
theorem w_isN_ref (h : Q (.bl false) H) : rIsN (.ref a) .non H Q := ⟨rfl, h⟩
theorem w_isN_non (h : Q (.bl true) H) : rIsN .non .non H Q := ⟨rfl, h⟩
end
theorem k_revL {X : Cx} {K : PySem.W.Frag} {ex : Expr} {te : TE} (h : PE X ex (tRevL X.K te)) (e : X.K = K := by rfl) : PE X ex (tRevL K te) := e ▸ h
def RevK (K : PySem.W.Frag) (Q : VK) : VK := fun x H1 => ∃ a xs, x = .ref a ∧ SqL K H1 a xs ∧ ∀ p, H1 p = none → Q (.ref p) (upd H1 p (.lst xs.reverse))
theorem w_revL {K : PySem.W.Frag} {te : TE} {σ : L2.St} {H : Hp} {Q : VK} (h : te σ H (RevK K Q)) : tRevL K te σ H Q := h
theorem w_revK {K : PySem.W.Frag} {H : Hp} {Q : VK} {a : Addr} {xs : List V} (hl : SqL K H a xs) (h : ∀ p, H p = none → Q (.ref p) (upd H p (.lst xs.reverse))) : RevK K Q (.ref a) H := ⟨a, xs, rfl, hl, h⟩
theorem All2.reverse {α β : Type} {R : α → β → Prop} : ∀ {xs : List α} {ys : List β}, All2 R xs ys → All2 R xs.reverse ys.reverse
  | [], [], _ => trivial
  | _ :: _, _ :: _, h => by
    rw [List.reverse_cons, List.reverse_cons]
    exact h.2.reverse.snoc h.1
theorem cr_sortIK {X : Cx} {K : PySem.W.Frag} (e : X.K = K := by rfl) : CallR X (.builtin "sorted") (rSortedI K) := e ▸ cr_sortedI
/-- sorted of a list of numbers -/
theorem w_sortI {K : PySem.W.Frag} {H : Hp} {Q : VK} {a : Addr} {ns ms : List Int} (hl : SqL K H a (ns.map V.int)) (hp : ms.Perm ns) (hs : ms.Pairwise (· ≤ ·)) (q : ∀ p, H p = none → Q (.ref p) (upd H p (.lst (ms.map V.int)))) : rSortedI K [.ref a] H Q := by
  refine ⟨a, ns, rfl, hl, fun ns' p h1 h2 h3 => ?_⟩
  have e : ns' = ms := List.Perm.eq_of_pairwise (le := fun a b => a ≤ b) (fun a b _ _ x y => by omega) h2 hs (h1.trans hp.symm)
  rw [e]
  exact q p h3
end Pm
/-! ### ears put back one by one: the ties of each, and where its posts stand -/
namespace Pm
theorem mod_next {i m : Nat} (h : i < m) : (i + 1) % m = if i + 1 = m then 0 else i + 1 := by
  split
  · rename_i e; rw [e, Nat.mod_self]
  · exact Nat.mod_eq_of_lt (by omega)
theorem mod_prev {i m : Nat} (h : i < m) : (i + m - 1) % m = if i = 0 then m - 1 else i - 1 := by
  split
  · rename_i e; subst e; rw [Nat.zero_add]; exact Nat.mod_eq_of_lt (by omega)
  · rw [show i + m - 1 = (i - 1) + m by omega, Nat.add_mod_right]; exact Nat.mod_eq_of_lt (by omega)
/-- each two neighbours of a ring are tied -/
def Ring (T : List IP) (L : List Int) : Prop := ∀ i, i < L.length → tieOf (L.getD i 0) (L.getD (if i + 1 = L.length then 0 else i + 1) 0) ∈ T
theorem getD_mem {L : List Int} {i : Nat} (h : i < L.length) : L.getD i 0 ∈ L := by
  rw [List.getD_eq_getElem?_getD, List.getElem?_eq_getElem h]
  exact List.getElem_mem h
theorem ring_erase {T : List IP} {L : List Int} {k : Nat} (h : Ring T L) (h3 : 3 < L.length) (hk : k < L.length) (hr : tieOf (L.getD (if k = 0 then L.length - 1 else k - 1) 0) (L.getD (if k + 1 = L.length then 0 else k + 1) 0) ∈ T) : Ring T (L.eraseIdx k) := by
  have le : (L.eraseIdx k).length = L.length - 1 := List.length_eraseIdx_of_lt hk
  intro i hi
  rw [le] at hi ⊢
  rw [getD_erase, getD_erase]
  unfold Tr.sk
  by_cases last : i + 1 = L.length - 1
  · rw [if_pos last]
    by_cases k0 : k = 0
    · subst k0
      rw [if_pos rfl, if_neg (by omega)] at hr
      rw [if_neg (by omega), if_neg (by omega), last]
      exact hr
    · rw [if_neg k0] at hr
      by_cases km : k + 1 = L.length
      · rw [if_pos km] at hr
        rw [if_pos (by omega), if_pos (by omega), show i = k - 1 by omega]
        exact hr
      · rw [if_neg (by omega), if_pos (by omega)]
        have q := h (i + 1) (by omega)
        rw [if_pos (by omega)] at q
        exact q
  · rw [if_neg last]
    by_cases c1 : i + 1 < k
    · rw [if_pos (by omega), if_pos c1]
      have q := h i (by omega)
      rw [if_neg (by omega)] at q
      exact q
    · by_cases c2 : i < k
      · rw [if_neg (show ¬ k = 0 by omega), if_neg (by omega)] at hr
        rw [if_pos c2, if_neg c1, show i = k - 1 by omega, show k - 1 + 1 + 1 = k + 1 by omega]
        exact hr
      · rw [if_neg c2, if_neg c1]
        have q := h (i + 1) (by omega)
        rw [if_neg (by omega)] at q
        exact q
/-- the ears of rs put back one by one to the three posts F -/
structure EarOk (T : List IP) (Z : List Int) (e : Ear) : Prop where
  a : e.2.1 ∈ Z
  b : e.2.2 ∈ Z
  out : e.1 ∉ Z
  ab : tieOf e.2.1 e.2.2 ∈ T
  pa : tieOf e.1 e.2.1 ∈ T
  pb : tieOf e.1 e.2.2 ∈ T
  ne : e.2.1 ≠ e.2.2
def Built (T : List IP) (F : List Int) (rs : List Ear) : Prop := ∀ (i : Nat) e, rs[i]? = some e → EarOk T (F ++ (rs.take i).map (·.1)) e
theorem mem_erase_iff {L : List Int} {k : Nat} (rise : L.Pairwise (· < ·)) (hk : k < L.length) (x : Int) : x ∈ L.eraseIdx k ↔ x ∈ L ∧ x ≠ L.getD k 0 := by
  constructor
  · intro h
    refine ⟨List.mem_of_mem_eraseIdx h, fun e => ?_⟩
    obtain ⟨i, hi, ei⟩ := List.mem_iff_getElem.mp h
    have le : (L.eraseIdx k).length = L.length - 1 := List.length_eraseIdx_of_lt hk
    have g := getD_erase L k i
    rw [List.getD_eq_getElem?_getD, List.getElem?_eq_getElem hi, Option.getD_some, ei, e] at g
    unfold Tr.sk at g
    split at g
    · rename_i c
      have := rise_get rise c hk
      omega
    · rename_i c
      have := rise_get rise (show k < i + 1 by omega) (by omega)
      omega
  · rintro ⟨h, ne⟩
    obtain ⟨i, hi, ei⟩ := List.mem_iff_getElem.mp h
    have ei' : L.getD i 0 = x := by rw [List.getD_eq_getElem?_getD, List.getElem?_eq_getElem hi]; exact ei
    have nk : i ≠ k := fun z => ne (by rw [← ei', z])
    have le : (L.eraseIdx k).length = L.length - 1 := List.length_eraseIdx_of_lt hk
    by_cases c : i < k
    · have g := getD_erase L k i
      unfold Tr.sk at g
      rw [if_pos c, ei'] at g
      rw [← g]
      exact getD_mem (by omega)
    · have g := getD_erase L k (i - 1)
      unfold Tr.sk at g
      rw [if_neg (by omega), show i - 1 + 1 = i by omega, ei'] at g
      rw [← g]
      exact getD_mem (by omega)
theorem ears_built {T : List IP} {L : List Int} {es : List Ear} (h : Ears L es) : L.Pairwise (· < ·) → 3 ≤ L.length → (∀ e ∈ es, ropeOf e ∈ T) → Ring T L →
    ∃ F : List Int, F.length = 3 ∧ F.Pairwise (· < ·) ∧ Ring T F ∧ (∀ x, x ∈ L ↔ x ∈ F ∨ x ∈ es.map (·.1)) ∧ (∀ x ∈ F, x ∉ es.map (·.1)) ∧ Built T F es.reverse := by
  induction h with
  | @done L h =>
    intro rise h3 _ ring
    exact ⟨L, by omega, rise, ring, (fun x => by simp), (fun x _ => by simp), (fun i e h => by simp at h)⟩
  | @step L es k h3 hk _ ih =>
    intro rise _ hT ring
    have le : (L.eraseIdx k).length = L.length - 1 := List.length_eraseIdx_of_lt hk
    have hr := hT _ List.mem_cons_self
    have hr' : tieOf (L.getD (if k = 0 then L.length - 1 else k - 1) 0) (L.getD (if k + 1 = L.length then 0 else k + 1) 0) ∈ T := by
      unfold ropeOf at hr
      simp only at hr
      rw [mod_next hk, mod_prev hk] at hr
      exact hr
    obtain ⟨F, f3, fr, fR, fm, fo, fb⟩ := ih (rise.sublist (List.eraseIdx_sublist L k)) (by omega) (fun e he => hT e (List.mem_cons_of_mem _ he)) (ring_erase ring h3 hk hr')
    have mi := mem_erase_iff rise hk
    refine ⟨F, f3, fr, fR, fun x => ?_, fun x hx => ?_, ?_⟩
    · rw [List.map_cons, List.mem_cons]
      have q := mi x
      rw [fm x] at q
      constructor
      · intro hx
        by_cases e : x = L.getD k 0
        · exact .inr (.inl e)
        · rcases q.mpr ⟨hx, e⟩ with z | z
          · exact .inl z
          · exact .inr (.inr z)
      · rintro (z | z | z)
        · exact (q.mp (.inl z)).1
        · rw [z]; exact getD_mem hk
        · exact (q.mp (.inr z)).1
    · rw [List.map_cons, List.mem_cons]
      rintro (z | z)
      · exact ((mi x).mp ((fm x).mpr (.inl hx))).2 z
      · exact fo x hx z
    · rw [List.reverse_cons]
      intro i e he
      by_cases c : i < es.reverse.length
      · rw [List.getElem?_append_left c] at he
        rw [List.take_append_of_le_length (Nat.le_of_lt c)]
        exact fb i e he
      · have hi : i = es.reverse.length := by
          have := (List.getElem?_eq_some_iff.mp he).1
          rw [List.length_append, List.length_singleton] at this
          omega
        subst hi
        rw [List.getElem?_append_right (Nat.le_refl _), Nat.sub_self] at he
        simp only [List.getElem?_cons_zero, Option.some.injEq] at he
        subst he
        rw [List.take_append_of_le_length (Nat.le_refl _), List.take_length]
        have Z : ∀ x, x ∈ F ++ es.reverse.map (·.1) ↔ x ∈ L ∧ x ≠ L.getD k 0 := fun x => by
          rw [← mi x, fm x, List.mem_append, List.map_reverse, List.mem_reverse]
        have kn : ∀ j, j < L.length → j ≠ k → L.getD j 0 ∈ L ∧ L.getD j 0 ≠ L.getD k 0 := fun j hj ne => ⟨getD_mem hj, fun e => by
          rcases Nat.lt_or_gt_of_ne ne with z | z
          · have := rise_get rise z hk; omega
          · have := rise_get rise z hj; omega⟩
        have r1 := ring k hk
        have r2 := ring (if k = 0 then L.length - 1 else k - 1) (by split <;> omega)
        have r2' : tieOf (L.getD (if k = 0 then L.length - 1 else k - 1) 0) (L.getD k 0) ∈ T := by
          by_cases k0 : k = 0
          · subst k0
            rw [if_pos rfl, if_pos (by omega)] at r2
            rw [if_pos rfl]
            exact r2
          · rw [if_neg k0, if_neg (by omega), show k - 1 + 1 = k by omega] at r2
            rw [if_neg k0]
            exact r2
        refine ⟨?_, ?_, ?_, ?_, ?_, ?_, ?_⟩
        · simp only
          rw [mod_prev hk, Z]
          exact kn _ (by split <;> omega) (by split <;> omega)
        · simp only
          rw [mod_next hk, Z]
          exact kn _ (by split <;> omega) (by split <;> omega)
        · simp only
          rw [Z]
          exact fun z => z.2 rfl
        · simp only
          rw [mod_prev hk, mod_next hk]
          exact hr'
        · simp only
          rw [mod_prev hk, tie_comm]
          exact r2'
        · simp only
          rw [mod_next hk]
          exact r1
        · simp only
          rw [mod_prev hk, mod_next hk]
          intro e
          have a : ∀ i j, i < L.length → j < L.length → i ≠ j → L.getD i 0 ≠ L.getD j 0 := fun i j hi hj ne e => by
            rcases Nat.lt_or_gt_of_ne ne with z | z
            · have := rise_get rise z hj; omega
            · have := rise_get rise z hi; omega
          refine a _ _ (by split <;> omega) (by split <;> omega) ?_ e
          split <;> split <;> omega
theorem ring_posts {n : Nat} {cut : List IP} (hn : 3 ≤ n) : Ring (tiesL n cut) (posts n) := by
  intro i hi
  rw [posts_len] at hi ⊢
  rw [posts_get hi]
  rw [mem_ties]
  refine .inl ((mem_sides0 (by omega)).mpr ?_)
  by_cases c : i + 1 = n
  · rw [if_pos c, posts_get (by omega)]
    refine .inr ?_
    rw [tie_cast, Nat.min_eq_right (by omega), Nat.max_eq_left (by omega), show i = n - 1 by omega]
  · rw [if_neg c, posts_get (by omega)]
    exact .inl ⟨i, by omega, by rw [tie_cast, Nat.min_eq_left (by omega), Nat.max_eq_right (by omega)]⟩
theorem pairwise_lt_eq {l l' : List Int} (h : l.Pairwise (· < ·)) (h' : l'.Pairwise (· < ·)) (e : ∀ x, x ∈ l ↔ x ∈ l') : l = l' := by
  have nd : ∀ {l : List Int}, l.Pairwise (· < ·) → l.Nodup := fun h => h.imp fun q => by omega
  refine List.Perm.eq_of_pairwise (le := fun a b => a < b) (fun a b _ _ h1 h2 => by omega) h h' ?_
  exact (List.perm_ext_iff_of_nodup (nd h) (nd h')).mpr e
section
open PySem PySem.Spec PyProof.Rows L2
variable {β : Type} {R : Hp → V → β → Prop} {H : Hp} {Q : VK} {σ : L2.St} {vs : List Nat} {g : TG} {tt : TT} {te : TE}
/-- [f(k) for k in range(n) if p(k)] -/
theorem w_lcRf (mono : ∀ H H' v b, Keeps H H' → R H v b → R H' v b) {lo : Int} {n : Nat} (f : Nat → β) (pr : Nat → Bool) (hn : n < 1000000)
    (body : ∀ D i H1 (Nx : Hp → Prop), H D = none → i < n → Same H H1 → (∀ y H4, pr i = true → Same H1 H4 → R H4 y (f i) → LcPut D Nx y H4) → (∀ H4, pr i = false → Same H1 H4 → Nx H4) → g (.int (lo + (i : Nat))) (wipe σ vs) H1 (LcTurn tt te vs σ D Nx))
    (done : ∀ D H1 ws, H D = none → Same H H1 → H1 D = some (.lst ws) → All2 (R H1) ws (((List.range n).filter pr).map f) → Q (.ref D) H1) : LcB g tt te vs σ Q (Itr lo n) H := by
  refine w_lcR fun D hD => ⟨fun i H1 => Same H H1 ∧ ∃ acc, H1 D = some (.lst acc) ∧ All2 (R H1) acc (((List.range i).filter pr).map f), ⟨same_new hD _, [], upd_same, trivial⟩, ?_, ?_⟩
  · rintro i H1 hi ⟨s1, acc, hd, ha⟩
    have et : (List.range (i + 1)).filter pr = (List.range i).filter pr ++ [i].filter pr := by rw [List.range_succ, List.filter_append]
    refine body D i H1 _ hD hi s1 (fun y H4 hp s4 hy => ?_) (fun H4 hp s4 => ?_)
    · have hle : (((List.range i).filter pr).map f).length < 1000000 := by
        rw [List.length_map]
        have := List.length_filter_le pr (List.range i)
        rw [List.length_range] at this
        omega
      refine put_next mono hD s1 hd ha hle s4 hy fun H5 acc' s5 h5 a5 => ⟨s5, acc', h5, ?_⟩
      rw [et, List.map_append]
      have e1 : List.filter pr [i] = [i] := by simp [hp]
      rw [e1]
      exact a5
    · refine ⟨s1.trans s4, acc, s4 _ _ hd, ?_⟩
      have e1 : List.filter pr [i] = [] := by simp [hp]
      rw [et, e1, List.append_nil]
      exact ha.mono fun _ _ r => mono _ _ _ _ (keeps s4) r
  · rintro H1 ⟨s1, acc, hd, ha⟩
    exact done D H1 acc hD s1 hd ha
end
/-- two unlike posts -/
def twoOk (n : Nat) (a b : Int) : Prop := (0 ≤ a ∧ a < n) ∧ (0 ≤ b ∧ b < n) ∧ a ≠ b
instance (n : Nat) (a b : Int) : Decidable (twoOk n a b) := by unfold twoOk; infer_instance
/-! #### tables that are good, the least four that break the rule -/
/-- lengths between n posts -/
structure GoodT (n : Nat) (G : Nat → Nat → Rat) (B : Nat) : Prop where
  self : ∀ i, i < n → G i i = 0
  pos : ∀ i k, i < n → k < n → i ≠ k → 0 < G i k
  sym : ∀ i k, i < n → k < n → G i k = G k i
  rb : ∀ i k, i < n → k < n → rb (G i k) B
def Rule4 (G : Nat → Nat → Rat) (a b c d : Nat) : Prop := G a c * G b d = G a b * G c d + G b c * G a d
instance (G : Nat → Nat → Rat) (a b c d : Nat) : Decidable (Rule4 G a b c d) := by unfold Rule4; infer_instance
def lex4 (a b c d a' b' c' d' : Nat) : Prop := a < a' ∨ (a = a' ∧ (b < b' ∨ (b = b' ∧ (c < c' ∨ (c = c' ∧ d < d')))))
def in4 (n a b c d : Nat) : Prop := a < b ∧ b < c ∧ c < d ∧ d < n
def Least4 (P : Nat → Nat → Nat → Nat → Prop) (n : Nat) : Option (Nat × Nat × Nat × Nat) → Prop
  | none => ∀ a b c d, in4 n a b c d → P a b c d
  | some q => in4 n q.1 q.2.1 q.2.2.1 q.2.2.2 ∧ ¬ P q.1 q.2.1 q.2.2.1 q.2.2.2 ∧ ∀ a b c d, in4 n a b c d → lex4 a b c d q.1 q.2.1 q.2.2.1 q.2.2.2 → P a b c d
theorem least4_uniq {P : Nat → Nat → Nat → Nat → Prop} {n : Nat} : ∀ {q q' : Option (Nat × Nat × Nat × Nat)}, Least4 P n q → Least4 P n q' → q = q'
  | none, none, _, _ => rfl
  | none, some _, h, h' => absurd (h _ _ _ _ h'.1) h'.2.1
  | some _, none, h, h' => absurd (h' _ _ _ _ h.1) h.2.1
  | some (a, b, c, d), some (a', b', c', d'), h, h' => by
    have n1 : ¬ lex4 a b c d a' b' c' d' := fun z => h.2.1 (h'.2.2 _ _ _ _ h.1 z)
    have n2 : ¬ lex4 a' b' c' d' a b c d := fun z => h'.2.1 (h.2.2 _ _ _ _ h'.1 z)
    unfold lex4 at n1 n2
    have e1 : a = a' := by omega
    have e2 : b = b' := by omega
    have e3 : c = c' := by omega
    have e4 : d = d' := by omega
    rw [e1, e2, e3, e4]
/-- what four posts are told as -/
def Four (K : PySem.W.Frag) (H : L2.Hp) (v : L2.V) : Option (Nat × Nat × Nat × Nat) → Prop
  | none => v = .non
  | some q => ∃ t, v = .ref t ∧ H t = some (.tup [.int (q.1 : Int), .int (q.2.1 : Int), .int (q.2.2.1 : Int), .int (q.2.2.2 : Int)])
/-! #### a post stretched -/
def strD (D : Nat → Nat → Rat) (p : Nat) (f : Rat) (i k : Nat) : Rat := if i = p ∨ k = p then f * D i k else D i k
theorem Meas.stretch {n : Nat} {t : Tr} {L : Len} {D : Nat → Nat → Rat} (M : Meas n t L D) {p : Nat} {f : Rat} (hf : 0 < f) : Meas n t (fun q => strD D p f q.1 q.2) (strD D p f) := by
  obtain ⟨S, s1, s2⟩ := M.ex
  have w := M.w
  refine ⟨M.w, fun q hq => ?_, fun i => if i = p then ⟨f * (S i).p, f * (S i).q⟩ else S i, fun q hq => ?_, fun i k hi hk => ?_⟩
  · have b := Tr.bd hq
    have pos := M.above (show q.1 < q.2 by omega) (by omega)
    unfold strD
    split
    · exact rat_mul_pos hf pos
    · exact pos
  · have b := Tr.bd hq
    simp only [strD]
    rw [s2 q.1 q.2 (by omega) (by omega)]
    by_cases e1 : q.1 = p
    · rw [if_pos e1, if_neg (by omega), if_pos (.inl e1)]
      unfold det; grind
    · rw [if_neg e1]
      by_cases e2 : q.2 = p
      · rw [if_pos e2, if_pos (.inr e2)]
        unfold det; grind
      · rw [if_neg e2, if_neg (by omega)]
  · unfold strD
    simp only
    rw [s2 i k hi hk]
    by_cases e1 : i = p
    · rw [if_pos (.inl e1), if_pos e1]
      by_cases e2 : k = p
      · rw [if_pos e2, e1, e2, det_self]
        unfold det; grind
      · rw [if_neg e2]
        unfold det; grind
    · rw [if_neg e1]
      by_cases e2 : k = p
      · rw [if_pos (.inr e2), if_pos e2]
        unfold det; grind
      · rw [if_neg (by omega), if_neg e2]
theorem Bd.stretch {n : Nat} {D : Nat → Nat → Rat} {F B m : Nat} (Z : Bd n D F B) {p : Nat} {f : Rat} (hf : Pm.rb f m) : Bd n (strD D p f) (F * f.den) (B + m) := by
  have m0 := rb_pos hf
  refine ⟨Nat.mul_pos Z.f0 (Nat.pos_of_ne_zero f.den_nz), ?_, fun i k hi hk => ?_⟩
  · rw [Nat.pow_add]
    exact Nat.mul_lt_mul'' Z.fb hf.2
  · obtain ⟨z, h1, h2⟩ := Z.all i k hi hk
    have q := rat_num_den f
    unfold strD
    split
    · refine ⟨z * f.num, ?_, ?_⟩
      · rw [cast_mul_nat, Rat.intCast_mul, ← h1, ← q]
        generalize (F : Rat) = W
        generalize (f.den : Rat) = V
        clear q
        grind
      · rw [Int.natAbs_mul, Nat.pow_add]
        exact Nat.mul_lt_mul'' h2 hf.1
    · refine ⟨z * (f.den : Int), ?_, ?_⟩
      · rw [cast_mul_nat, Rat.intCast_mul, ← h1, ← Rat.mul_assoc]
        rfl
      · rw [Int.natAbs_mul, Nat.pow_add, Int.natAbs_natCast]
        exact Nat.mul_lt_mul'' h2 hf.2
end Pm
/-! ### == of dicts with keys that are tuples -/
namespace Pm
open PySem PySem.Spec PyProof.Rows L2 PySem.W
section
variable {prog : Program} {w : World} {κ : Type} [DecidableEq κ] {knd : HeapKind prog w κ} {A : Around} {E : Value → Shared → Prop} {s : Shared}
inductive HitsH {κ : Type} [DecidableEq κ] (A : Around) (s : Shared) (kb : List (κ × Addr × Value)) : List (κ × Addr × Value) → Bool → Prop
  | nil : HitsH A s kb [] true
  | hit {k : κ} {a a' : Addr} {v y : Value} {r : List (κ × Addr × Value)} {e b : Bool} : atKey kb k = some (a', y) → SeqAt.EqAt A s v y e → HitsH A s kb r b → HitsH A s kb ((k, a, v) :: r) (e && b)
theorem HitsH.inv {kb : List (κ × Addr × Value)} {k : κ} {a : Addr} {v : Value} {r : List (κ × Addr × Value)} {b : Bool} (h : HitsH A s kb ((k, a, v) :: r) b) :
    ∃ a' y e b', atKey kb k = some (a', y) ∧ SeqAt.EqAt A s v y e ∧ HitsH A s kb r b' ∧ b = (e && b') := by
  cases h with
  | hit hy he hr => exact ⟨_, _, _, _, hy, he, hr, rfl⟩
theorem samePairsH {nm : String} {a b : Addr} {ka kb : List (κ × Addr × Value)} {r : Bool} {Q : Bool → Shared → Prop} (hu : knd.room A) (ha : (a == sysModules) = false) (hb : (b == sysModules) = false)
    (da : s.heap.DictOfH knd a ka) (db : s.heap.DictOfH knd b kb) (hl : ka.length = kb.length) (hits : HitsH A s kb ka r) (h : Q r s) :
    wpAny (model prog w) A (Builtin.Dict.samePairs nm a b) Q E s := by
  obtain ⟨oa, es, ep, hoa, _, hda, hea, hia, _⟩ := da
  obtain ⟨ob, es', ep', hob, _, hdb, heb, hib, hnb⟩ := db
  have hla : ka.length = es.size := (size_of_entries hea).symm
  have hlb : kb.length = es'.size := (size_of_entries heb).symm
  have hsz : es.size = es'.size := by omega
  unfold Builtin.Dict.samePairs Builtin.Dict.showsAll
  rw [if_neg (show ¬ (a == sysModules) = true by rw [ha]; exact Bool.false_ne_true), if_neg (show ¬ (b == sysModules) = true by rw [hb]; exact Bool.false_ne_true)]
  refine wpAny_bind (wpAny_pure (wpAny_bind (wpAny_pure ?_)))
  refine wpAny_bind (wpAny_dictEntries hoa hda ?_)
  dsimp only
  refine wpAny_bind (wpAny_dictEntries hob hdb ?_)
  rw [if_neg (by rw [hsz]; simp)]
  refine wpAny_bind (wpAny_dictEpoch hoa hda ?_)
  refine wpAny_bind ?_
  rw [Std.Legacy.Range.forIn_eq_forIn_range']
  simp only [Std.Legacy.Range.size, Nat.sub_zero, Nat.add_sub_cancel, Nat.div_one]
  refine wpAny_forIn_list _
    (fun rest q s' => s' = s ∧ q = (none, ()) ∧ ∃ i, rest = List.range' i (es.size - i) ∧ i ≤ es.size ∧ HitsH A s kb (ka.drop i) r)
    _ ?_ ?_ _ _ ⟨rfl, rfl, 0, by simp, Nat.zero_le _, hits⟩
  · rintro x rest q s' ⟨rfl, rfl, i, hr, hi, hpre⟩
    have hlt : i < es.size := by
      rcases Nat.lt_or_ge i es.size with h | h
      · exact h
      · rw [Nat.sub_eq_zero_of_le h] at hr; simp at hr
    obtain ⟨rfl, hrest⟩ : x = i ∧ rest = List.range' (i + 1) (es.size - (i + 1)) := by
      have e : es.size - i = (es.size - (i + 1)) + 1 := by omega
      rw [e, List.range'_succ] at hr
      injection hr with h1 h2
      exact ⟨h1, h2⟩
    refine wpAny_bind (wpAny_dictEntries hoa hda ?_)
    have hlt' : x < ka.length := by rw [hla]; exact hlt
    obtain ⟨k, ad, v, hkv⟩ : ∃ k ad v, ka[x] = (k, ad, v) := ⟨_, _, _, rfl⟩
    have hdrop : ka.drop x = (k, ad, v) :: ka.drop (x + 1) := by rw [← hkv]; exact List.drop_eq_getElem_cons hlt'
    have eent : es[x]? = some (entryOfKey knd (k, ad, v)) := by rw [entry_at hea x, List.getElem?_eq_getElem hlt', hkv]; rfl
    rw [eent]
    rw [hdrop] at hpre
    obtain ⟨a', y, e, b', hy, he, hrr, er⟩ := hpre.inv
    have hkey : knd.is s'.heap k ad := hia (k, ad, v) (by rw [← hkv]; exact List.getElem_mem hlt')
    show wpAny _ _ (holding [.ref ad, v] _ >>= _) _ _ _
    refine wpAny_bind (wpAny_holding (wpAny_bind ?_))
    show wpAny _ _ (dictFind b (.ref ad) (knd.hash k)) _ _ _
    refine wpAny_dictFind_heap hu hkey hob hdb heb hib hnb ?_ ?_
    · intro hno
      rw [atKey_none_of_get hno] at hy
      exact nomatch hy
    · intro j p hj
      have ep' : atKey kb k = some p := atKey_of_get hnb hj
      rw [ep'] at hy
      cases hy
      refine wpAny_bind (wpAny_dictEntries hob hdb ?_)
      rw [entry_at heb j, hj]
      refine wpAny_holding (he prog w _ _ ?_)
      cases e with
      | false =>
        rw [er, Bool.false_and] at h
        show wpAny _ _ (if (!false) = true then _ else _) _ _ _
        rw [if_pos (by decide)]
        exact wpAny_pure (wpAny_pure h)
      | true =>
        rw [Bool.true_and] at er
        rw [← er] at hrr
        show wpAny _ _ (if (!true) = true then _ else _) _ _ _
        rw [if_neg (by decide)]
        refine wpAny_bind (wpAny_dictEpoch hoa hda ?_)
        rw [if_neg (by simp)]
        exact wpAny_pure ⟨rfl, rfl, x + 1, hrest, hlt, hrr⟩
  · rintro q s' ⟨rfl, rfl, i, hr, hi, hpre⟩
    have hin : i = es.size := by
      rcases Nat.lt_or_ge i es.size with h | h
      · have e : es.size - i = (es.size - (i + 1)) + 1 := by omega
        rw [e, List.range'_succ] at hr; exact nomatch hr
      · exact Nat.le_antisymm hi h
    refine wpAny_pure ?_
    rw [hin, ← hla, List.drop_length] at hpre
    cases hpre
    exact h
theorem eq_dictH {a b : Addr} {ka kb : List (κ × Addr × Value)} {r : Bool} {Q : Value → Shared → Prop} (hr : knd.room A.in1) (ha : (a == sysModules) = false) (hb : (b == sysModules) = false)
    (da : s.heap.DictOfH knd a ka) (db : s.heap.DictOfH knd b kb) (hu : A.units < cLine) (hl : ka.length = kb.length) (hits : HitsH A.in1 s kb ka r) (h : Q (.bool r) s) :
    wpAny (model prog w) A (compareOp .Eq (.ref a) (.ref b)) Q E s := by
  refine wpAny_richCompare_same_room (op := .Eq) da.typeIs db.typeIs PySem.F.slot_dict_eq (wpAny_call_entry PySem.F.slot_dict_eq da.typeIs PySem.F.entry_dict_eq ?_ (PySem.F.args_dict_eq_2 _ _)) hu
  show wpAny _ _ (Builtin.Dict.dictSlotArgs "__eq__" ⟨[.ref a, .ref b], []⟩ >>= _) _ _ s
  refine wpAny_bind ?_
  unfold Builtin.Dict.dictSlotArgs
  refine wpAny_bind (wpAny_notOrdered_dict da.typeIs ?_)
  show wpAny _ _ (pure (Value.ref a, Value.ref b)) _ _ s
  refine wpAny_pure ?_
  refine wpAny_bind (wpAny_isInstance (T := "dict") db.typeIs PySem.F.sub_dict_dict ?_)
  simp only [Bool.not_true, Bool.false_eq_true, if_false]
  refine wpAny_bind (wpAny_pure (wpAny_bind (wpAny_pure ?_)))
  refine wpAny_bind (samePairsH hr ha hb da db hl hits ?_)
  refine wpAny_pure ⟨_, rfl, ?_, ?_⟩
  · exact fun x => nomatch x
  · simpa using h
end
/-- the pairs of one dict, each looked for in the other -/
inductive HitsV (K : PySem.W.Frag) (H : Hp) (kb : List (List L2.Key × V)) : List (List L2.Key × V) → Bool → Prop
  | nil : HitsV K H kb [] true
  | hit {k : List L2.Key} {v y : V} {d e : PyData} {r : List (List L2.Key × V)} {b : Bool} : valV kb k = some y → Dp K H v d → Dp K H y e → SeqAt.shaped d = true → SeqAt.shaped e = true → HitsV K H kb r b → HitsV K H kb ((k, v) :: r) (PyData.eqv d e && b)
def rEqT (K : PySem.W.Frag) : R2 := fun x y H Q => ∃ (a b : Addr) (ka kb : List (List L2.Key × V)) (r : Bool), x = .ref a ∧ y = .ref b ∧ H a = some (.dT ka) ∧ H b = some (.dT kb) ∧ ka.length = kb.length ∧ HitsV K H kb ka r ∧ Q (.bl r) H
theorem hitsH_of {X : Cx} {pins : List (Addr × Obj)} {σ : L2.St} {H : Hp} {s : Shared} (I : Inv X pins σ H s) (hu : X.A.in1.units + 64 < cLine) {kb : List (List L2.Key × V)} {xb : List (List L2.Key × Addr × Value)} (rb : KT H kb xb) : ∀ {ka : List (List L2.Key × V)} {xa : List (List L2.Key × Addr × Value)} {r : Bool}, KT H ka xa → HitsV X.K H kb ka r → HitsH X.A.in1 s xb xa r
  | [], _, _, h, hv => by
    cases h
    cases hv
    exact .nil
  | (k, v) :: ka, _, r, h, hv => by
    cases h with
    | @cons _ q _ qs h1 h2 =>
      cases hv with
      | hit hy dv dy sd se hr =>
        obtain ⟨q1, q2, q3⟩ := q
        obtain ⟨e1, _, e3⟩ := h1
        simp only at e1 e3
        subst e1
        have hb := rb.val k
        rw [hy] at hb
        cases ea : atKey xb k with
        | none => rw [ea] at hb; exact (show False from hb).elim
        | some p =>
          rw [ea] at hb
          obtain ⟨as, r1⟩ := Dp.reads I _ _ _ dv e3
          obtain ⟨bs, r2⟩ := Dp.reads I _ _ _ dy (show RelV _ p.2 from hb)
          exact .hit ea (PySem.W.keq_at (A := X.A) r1 r2 sd se hu) (hitsH_of I hu rb h2 hr)
theorem op_eqT {X : Cx} {K : PySem.W.Frag} (hu : X.A.units + 65 < cLine) (e : X.K = K := by rfl) : OpR X (compareOp .Eq) (rEqT K) := by
  subst e
  intro pins s σ H x y v u Q I rx ry h
  obtain ⟨a, b, ka, kb, r, rfl, rfl, ha, hb, hl, hits, q⟩ := h
  cases rx
  cases ry
  obtain ⟨za, sa, xa, ra, da⟩ := dt_of I.hok ha
  obtain ⟨zb, sb, xb, rb, db⟩ := dt_of I.hok hb
  have la := Paired.length ra
  have lb := Paired.length rb
  exact eq_dictH (knd := tupleKind (mixKind X.prog X.w)) (tupleKind_room_in1 (by omega)) sa sb da db (by omega) (by omega) (hitsH_of I (show X.A.units + 1 + 64 < cLine by omega) rb ra hits) ⟨.bl r, H, I, rfl, q⟩
/-- == of two dicts with the same keys -/
theorem w_ldEq {K : PySem.W.Frag} {H : Hp} {Q : VK} {f d : Addr} {kf kd : List IP} {Lf Ld : IP → IP} (hf : LD K H f kf Lf) (hd : LD K H d kd Ld) (hk : ∀ p, p ∈ kf ↔ p ∈ kd) (q : Q (.bl (decide (∀ k ∈ kf, Lf k = Ld k))) H) : rEqT K (.ref f) (.ref d) H Q := by
  have len := perm_len hf.nd hd.nd hk
  obtain ⟨nf, ef, hf1, hf2⟩ := hf
  obtain ⟨nd, ed, hd1, hd2⟩ := hd
  refine ⟨f, d, ef, ed, _, rfl, rfl, hf1, hd1, by rw [hf2.length, hd2.length, len], ?_, q⟩
  have gen : ∀ {es : List (List L2.Key × V)} {ks : List IP}, (∀ k ∈ ks, k ∈ kd) → All2 (En K H Lf) es ks → HitsV K H ed es (decide (∀ k ∈ ks, Lf k = Ld k)) := by
    intro es
    induction es with
    | nil =>
      intro ks _ h
      match ks, h with
      | [], _ => rw [decide_eq_true (fun k hk => nomatch hk)]; exact .nil
    | cons e es ih =>
      intro ks hs h
      match ks, h with
      | k :: ks, ⟨h1, h2⟩ =>
        obtain ⟨y, hy, fy⟩ := (ens_val hd2 k).2 (hs k List.mem_cons_self)
        have ih' := ih (fun j hj => hs j (List.mem_cons_of_mem _ hj)) h2
        obtain ⟨ek, ev⟩ := e
        obtain ⟨e1, e2⟩ := h1
        simp only at e1 e2
        have hh := HitsV.hit (k := ek) (v := ev) (by rw [e1]; exact hy) e2.dp fy.dp (shaped_pD _) (shaped_pD _) ih'
        rw [eqv_pD] at hh
        have eb : (decide (Lf k = Ld k) && decide (∀ k ∈ ks, Lf k = Ld k)) = decide (∀ j ∈ k :: ks, Lf j = Ld j) := by
          rw [← Bool.decide_and]
          exact decide_eq_decide.mpr ⟨fun ⟨x, z⟩ j hj => by
            rcases List.mem_cons.mp hj with rfl | hj
            · exact x
            · exact z j hj, fun z => ⟨z k List.mem_cons_self, fun j hj => z j (List.mem_cons_of_mem _ hj)⟩⟩
        rw [eb] at hh
        exact hh
  exact gen (fun k hk' => (hk k).mp hk') hf2
end Pm
/-! ### d.keys() as a value, sorted(d.keys()) of pairs -/
namespace Pm
open PySem PySem.Spec PyProof.Rows L2 PySem.W
def keysO (p d : Addr) : HO := .ext fun h => KdlKeysView h p d
theorem keysO_ok {P : Program} {w : World} {H : Hp} {h : Heap} {p d : Addr} (e : h.get? p = some { cls := .type "dict_keys", data := .fields #[.ref d] }) : ObjOk P w H h p (keysO p d) :=
  ⟨⟨_, e, rfl, rfl⟩, ⟨_, e⟩, fun h1 h2 x k => let ⟨o, ho, r⟩ := x; ⟨o, k o ho, r⟩⟩
def rKeysT : V → List V → Hp → VK → Prop := fun x xs H Q => ∃ (a : Addr) (kvs : List (List L2.Key × V)), x = .ref a ∧ xs = [] ∧ H a = some (.dT kvs) ∧ ∀ p, H p = none → Q (.ref p) (upd H p (keysO p a))
theorem mt_keysT {X : Cx} : MtR X "dict.keys" rKeysT := by
  intro pins s σ H x xs v us Q I rx rxs h
  obtain ⟨a, kvs, rfl, rfl, ha, q⟩ := h
  cases rx
  cases rxs
  obtain ⟨z, hd, xs', rel, dd⟩ := dt_of I.hok ha
  obtain ⟨o, es, ep, ho, hx, hdat, _⟩ := id dd
  have raw : s.heap.DictRaw a es ep := ⟨o, ho, hx, hdat⟩
  have hf : H s.heap.objs.size = none := I.hok.fresh (Nat.le_refl _)
  exact call_meetsIn PySem.F.slot_dict_keys dd.typeIs PySem.F.entry_dict_keys (PySem.F.args_dict_keys_1 _) (meets_dict_keys_raw a hd)
    ⟨⟨es, ep, raw⟩, ⟨.ref s.heap.objs.size, upd H s.heap.objs.size (keysO s.heap.objs.size a), I.laid (t' := s.toks) (fun b u e => Heap.get?_push_of_some _ e) (Nat.le_refl _) (keysO_ok (Heap.get?_push_size _ rfl)), rfl, q _ hf⟩⟩
section
variable {prog : Program} {w : World} {A : Around} {E : Value → Shared → Prop} {s : Shared}
theorem sorted_keysO {r d : Addr} {es : Array DictEntry} {ep : Nat} {k : Value → Int × Int} {Q : Value → Shared → Prop} (hh : A.handled = none) (hv : KdlKeysView s.heap r d) (hm : s.heap.DictRaw d es ep) (hz : es.size ≤ sizeLine)
    (hp : ∀ e ∈ es.toList, Srt.IsPair s.heap e.key (k e.key).1 (k e.key).2)
    (h : ∀ (h1 h' : Heap) (tk : Nat) (out : List Value), SrtO.Srtd (fun v u => SrtO.lexB (k v) (k u)) out → SrtO.Stb (fun v u => SrtO.lexB (k v) (k u)) out (es.toList.map (·.key)) → (∀ b o, s.heap.get? b = some o → h1.get? b = some o) → (∀ b o, h1.get? b = some o → h'.get? b = some o) → (∃ n, h'.get? h1.objs.size = some (seqObj "list" out.toArray n)) → Q (.ref h1.objs.size) { s with heap := h', toks := tk }) :
    wpAny (model prog w) A (call (.builtin "sorted") [.ref r]) Q E s := by
  refine Calls.call_function_entry kind_sorted plain_sorted entry_sorted (args_sorted1 _) ?_
  unfold Builtin.«sorted»
  refine wpAny_bind (m := checkCount "sorted" 1 1 _) (wpAny_pure ?_)
  refine wpAny_bind (kdu_collect (A := A.in1) (KdlSrc.rawKeys (r := r) (d := d) (es := es) (ep := ep)) hh ⟨hv, hm⟩ hz fun h1 tk acc hk hacc => ?_)
  have eacc : acc.toList = es.toList.map (·.key) := by
    refine List.ext_getElem? fun j => ?_
    rw [List.getElem?_map]
    have sz := hacc.1
    by_cases c : j < es.size
    · have c1 : j < acc.size := by omega
      have q := hacc.2 j acc[j] (by rw [Array.getElem?_eq_getElem c1])
      obtain ⟨hi, e⟩ := q
      rw [Array.getElem?_toList, Array.getElem?_toList, Array.getElem?_eq_getElem c1, Array.getElem?_eq_getElem c, e]
      rfl
    · rw [Array.getElem?_toList, Array.getElem?_toList, Array.getElem?_eq_none (by omega), Array.getElem?_eq_none (by omega)]
      rfl
  rw [eacc]
  have hz' : (es.toList.map (·.key)).length ≤ sizeLine := by rw [List.length_map, Array.length_toList]; exact hz
  generalize hvs : es.toList.map (·.key) = vs at *
  refine wpAny_bind (wpAny_newList ?_ hz')
  have hoL : (h1.push (seqObj "list" vs.toArray 0)).get? h1.objs.size = some (seqObj "list" vs.toArray 0) := Heap.get?_push_size _ rfl
  have keep : ∀ b o, s.heap.get? b = some o → b ≠ h1.objs.size ∧ (h1.push (seqObj "list" vs.toArray 0)).get? b = some o := fun b o q => by
    have q1 := hk b o q
    exact ⟨Nat.ne_of_lt (Heap.lt_size q1), Heap.get?_push_of_some _ q1⟩
  show wpAny _ _ _ _ _ { s with heap := h1.push (seqObj "list" vs.toArray 0), toks := tk }
  refine wpAny_bind (wpAny_holding (wpAny_call_entry slot_list_sort ⟨_, hoL, rfl⟩ entry_list_sort (SrtO.list_sort_ord (SrtO.swo_lex k) hoL hz' (fun h2 => ?_) fun out hs hb => ⟨_, rfl, ?_⟩) (args_list_sort _)))
  · refine SrtO.pairs_sortableO (by omega) (fun v hm => ?_) fun o e => ?_
    · rw [← hvs] at hm
      obtain ⟨en, he, rfl⟩ := List.mem_map.mp hm
      exact (hp en he).keeps fun b o e _ => (keep b o e).2
    · have e' : some o = some (seqObj "list" vs.toArray 0) := e.symm.trans hoL
      cases e'
      intro c
      exact absurd (Value.type.inj c) (by decide)
  · refine wpAny_pure ⟨_, rfl, h h1 _ _ out hs hb hk (fun b o e => ?_) (sortedHeap_at hoL)⟩
    have n2 := Heap.get?_push_of_some (seqObj "list" vs.toArray 0) e
    rw [sortedHeap_old (Nat.ne_of_lt (Heap.lt_size e)) (Heap.lt_size n2)]
    exact n2
end
/-- sorted(d.keys()) of a dict with keys that are pairs -/
def rSortKT : List V → Hp → VK → Prop := fun vs H Q => ∃ (p a : Addr) (kvs : List (List L2.Key × V)) (ks : List IP), vs = [.ref p] ∧ H p = some (keysO p a) ∧ H a = some (.dT kvs) ∧ kvs.map (·.1) = ks.map kk ∧ ∀ ys l, H l = none → Prs H ys (sortP ks) → Q (.ref l) (upd H l (.lst ys))
theorem cr_sortKT {X : Cx} (hc : X.calm = true) : CallR X (.builtin "sorted") rSortKT := by
  intro pins s σ H vs us Q I r h
  obtain ⟨p, a, kvs, ks, rfl, hp, ha, hks, q⟩ := h
  obtain ⟨u, rfl, ru⟩ := vals1 r
  obtain rfl : u = Value.ref p := ru
  obtain ⟨z, hd, xs, rel, dd⟩ := dt_of I.hok ha
  obtain ⟨o, es, ep, ho, hx, hdat, he, _, hn⟩ := id dd
  have hview : KdlKeysView s.heap p a := (I.hok p _ hp).1
  have hsz : es.size = xs.length := size_of_entries he
  have lx := Paired.length rel
  have ek : es.toList.map (·.key) = xs.map fun x => Value.ref x.2.1 := by
    rw [he, List.map_map]
    rfl
  have all : ∀ x ∈ xs, ∃ k : IP, Pr H (.ref x.2.1) k := fun x hx => by
    obtain ⟨v, m, e⟩ := KT_mem rel x hx
    have m2 : x.1 ∈ ks.map kk := by rw [← hks]; exact List.mem_map.mpr ⟨_, m, rfl⟩
    obtain ⟨k, _, ek⟩ := List.mem_map.mp m2
    rw [← ek, kk_map] at e
    exact ⟨k, _, rfl, e⟩
  have keys2 : All2 (fun v k => Pr H v k) (xs.map fun x => V.ref x.2.1) ks := by
    have gen : ∀ {kvs : List (List L2.Key × V)} {xs : List (List L2.Key × Addr × Value)} {ks : List IP}, KT H kvs xs → kvs.map (·.1) = ks.map kk → All2 (fun v k => Pr H v k) (xs.map fun x => V.ref x.2.1) ks := by
      intro kvs
      induction kvs with
      | nil =>
        intro xs ks h e
        cases h
        match ks, e with
        | [], _ => trivial
      | cons kv kvs ih =>
        intro xs ks h e
        cases h with
        | @cons _ x _ xs h1 h2 =>
          match ks, e with
          | k :: ks, e =>
            rw [List.map_cons, List.map_cons] at e
            injection e with e1 e2
            refine ⟨?_, ih h2 e2⟩
            have h3 := h1.2.1
            rw [e1, kk_map] at h3
            exact ⟨_, rfl, h3⟩
    exact gen rel hks
  refine sorted_keysO (k := fun u => kOf H (backV u)) (I.ok.hd hc) hview ⟨o, ho, hx, hdat⟩ (by omega) (fun e hm => ?_) fun h1 h' tk out hs hb hk hk' hn' => ?_
  · have hm2 : e.key ∈ es.toList.map (·.key) := List.mem_map.mpr ⟨e, hm, rfl⟩
    rw [ek] at hm2
    obtain ⟨x, hx', ex⟩ := List.mem_map.mp hm2
    rw [← ex]
    obtain ⟨k, hk⟩ := all x hx'
    have hkk : kOf H (backV (Value.ref x.2.1)) = k := hk.k
    rw [hkk]
    obtain ⟨t, et, ht⟩ := hk
    cases et
    obtain ⟨_, its2, r2, o2, ho2, hc2, n2, hd2⟩ := I.hok _ _ ht
    obtain ⟨u1, u2, rfl, ri, rj⟩ := vals2 r2
    obtain ⟨t1, rfl⟩ := ri
    obtain ⟨t2, rfl⟩ := rj
    exact ⟨_, o2, t1, t2, n2, rfl, ho2, hc2, hd2⟩
  · have h3 : ∀ u ∈ out, ∃ a, u = Value.ref a := fun u hu => by
      have hu2 := hb.perm.mem_iff.mp hu
      rw [ek] at hu2
      obtain ⟨x, _, e⟩ := List.mem_map.mp hu2
      exact ⟨_, e.symm⟩
    obtain ⟨n, hn'⟩ := hn'
    have hbb : SrtO.Stb (ltP (kOf H)) (out.map backV) (xs.map fun x => V.ref x.2.1) := by
      have e9 : (xs.map fun x => V.ref x.2.1) = (es.toList.map (·.key)).map backV := by rw [ek, List.map_map]; rfl
      rw [e9]
      exact SrtO.Stb.map (ltP_swo (kOf H)) backV hb
    have hss : SrtO.Srtd (ltP (kOf H)) (out.map backV) := SrtO.srtd_map hs
    have I1 : Inv X pins σ H { s with heap := h1, toks := tk } := I.kept hk
    have len : (out.map backV).length ≤ sizeLine := by rw [hbb.len, List.length_map]; omega
    refine ⟨.ref h1.objs.size, upd H h1.objs.size (.lst (out.map backV)), I1.laid (t' := tk) hk' (Nat.le_refl _) (show ObjOk X.prog X.w _ _ _ (.lst (out.map backV)) from ⟨len, out, n, vals_back h3, hn'⟩), rfl, q _ _ (I1.hok.fresh (Nat.le_refl _)) ?_⟩
    have e1 : (xs.map fun x => V.ref x.2.1).map (kOf H) = ks := keys2.map_eq fun _ _ r => r.k
    have pm : ((out.map backV).map (kOf H)).Perm ks := by rw [← e1]; exact hbb.perm.map _
    have rs : Rising ((out.map backV).map (kOf H)) := List.pairwise_map.mpr (hss.imp fun {x y} q => lexB_le q)
    rw [sortP_eq rs pm]
    refine All2.of_map fun y hy => ?_
    obtain ⟨q', _, r'⟩ := keys2.mem (hbb.perm.mem_iff.mp hy)
    rw [r'.k]
    exact r'
theorem w_ldKeys {K : PySem.W.Frag} {H : Hp} {Q : VK} {d : Addr} {ks : List IP} {L : IP → IP} (h : LD K H d ks L) (q : ∀ p, H p = none → Q (.ref p) (upd H p (keysO p d))) : rKeysT (.ref d) [] H Q := by
  obtain ⟨n, es, h1, h2⟩ := h
  exact ⟨d, es, rfl, rfl, h1, q⟩
theorem ens_keys {K : PySem.W.Frag} {H : Hp} {L : IP → IP} : ∀ {es : List (List L2.Key × V)} {ks : List IP}, All2 (En K H L) es ks → es.map (·.1) = ks.map kk
  | [], [], _ => rfl
  | _ :: _, _ :: _, h => by
    rw [List.map_cons, List.map_cons, h.1.1, ens_keys h.2]
theorem w_ldSortKeys {K : PySem.W.Frag} {H : Hp} {Q : VK} {d p : Addr} {ks : List IP} {L : IP → IP} (h : LD K H d ks L) (hp : H p = some (keysO p d)) (q : ∀ ys l, H l = none → Prs H ys (sortP ks) → Q (.ref l) (upd H l (.lst ys))) : rSortKT [.ref p] H Q := by
  obtain ⟨n, es, h1, h2⟩ := h
  exact ⟨p, d, es, ks, rfl, hp, h1, ens_keys h2, q⟩
end Pm
/-! ### ratios, and lengths that are alike -/
namespace Pm
/-- the ratio of the rope (x, y) with m between and o outside -/
def rat4 (D : Nat → Nat → Rat) (x m y o : Nat) : Rat := (D x m * D (min y o) (max y o)) / (D m y * D (min o x) (max o x))
def ratP (n : Nat) (cut : List IP) (D : Nat → Nat → Rat) (p : IP) : Rat :=
  if p.1 < (besideL n (tiesL n cut) p.1 p.2).getD 0 0 ∧ (besideL n (tiesL n cut) p.1 p.2).getD 0 0 < p.2 then rat4 D p.1.toNat ((besideL n (tiesL n cut) p.1 p.2).getD 0 0).toNat p.2.toNat ((besideL n (tiesL n cut) p.1 p.2).getD 1 0).toNat
  else rat4 D p.1.toNat ((besideL n (tiesL n cut) p.1 p.2).getD 1 0).toNat p.2.toNat ((besideL n (tiesL n cut) p.1 p.2).getD 0 0).toNat
theorem ratP_is {n : Nat} {cut : List IP} {t t' : Tr} {x y m o : Nat} {R : List (Nat × Nat)} {D : Nat → Nat → Rat} (C : Cutting n cut t) (U : Turning n cut t t' x y m o R) : ratP n cut D (castP (x, y)) = rat4 D x m y o := by
  have b := U.bes
  unfold ratP
  rw [show besideL n (tiesL n cut) (castP (x, y)).1 (castP (x, y)).2 = _ from b]
  rcases U.cross C with ⟨h1, h2, h3, h4, h5⟩ | ⟨h1, h2, h3, h4, h5⟩
  · rw [h4, h5]
    simp only [castP, List.getD_cons_zero, List.getD_cons_succ]
    rw [if_pos (by omega)]
    rfl
  · rw [h4, h5]
    simp only [castP, List.getD_cons_zero, List.getD_cons_succ]
    rw [if_neg (by omega)]
    rfl
/-- the four ties round a rope -/
theorem Turning.four {n : Nat} {cut : List IP} {t t' : Tr} {x y m o : Nat} {R : List (Nat × Nat)} (C : Cutting n cut t) (U : Turning n cut t t' x y m o R) : (x, m) ∈ t.all 0 ∧ (m, y) ∈ t.all 0 ∧ (min y o, max y o) ∈ t.all 0 ∧ (min o x, max o x) ∈ t.all 0 ∧ x < m ∧ m < y ∧ y < n ∧ o < n ∧ (o < x ∨ y < o) := by
  have am := U.F.am
  have mb := U.F.mb
  have bt := U.F.btw
  have on := U.on
  have w := C.w
  have b := Tr.bd mb
  simp only at b
  rcases U.F.out with ⟨h1, h2, h3⟩ | ⟨h1, h2, h3⟩
  · rw [Nat.min_eq_right (by omega), Nat.max_eq_left (by omega), Nat.min_eq_left (by omega), Nat.max_eq_right (by omega)]
    exact ⟨am, mb, h3, h2, bt.1, bt.2, by omega, on, .inl h1⟩
  · rw [Nat.min_eq_left (by omega), Nat.max_eq_right (by omega), Nat.min_eq_right (by omega), Nat.max_eq_left (by omega)]
    exact ⟨am, mb, h3, h2, bt.1, bt.2, by omega, on, .inr h1⟩
theorem ratP_rbB {n : Nat} {cut : List IP} {t : Tr} {L : Len} {D : Nat → Nat → Rat} {F B : Nat} (C : Cutting n cut t) (M : Meas n t L D) (Z : Bd n D F B) {p : IP} (hp : p ∈ cut) : rb (ratP n cut D p) (4 * B) := by
  obtain ⟨⟨x, y⟩, hq, rfl⟩ := C.mem.mp hp
  obtain ⟨t', m, o, R, U⟩ := C.turn hq
  rw [ratP_is C U]
  obtain ⟨txm, tmy, tyo, tox, xm, my, yn, on, out⟩ := U.four C
  unfold rat4
  have p1 := M.above my yn
  have p2 : 0 < D (min o x) (max o x) := M.above (by omega) (by omega)
  have := rat_mul_pos p1 p2
  exact (rb_quot (by grind) (rb_mul (Z.rb (by omega) (by omega)) (Z.rb (by omega) (by omega))) (rb_mul (Z.rb (by omega) (by omega)) (Z.rb (by omega) (by omega)))).mono (by omega)
theorem ratP_rb {n : Nat} {cut : List IP} {t : Tr} {L : Len} {D : Nat → Nat → Rat} {F : Nat} (C : Cutting n cut t) (M : Meas n t L D) (Z : Bd n D F 550) {p : IP} (hp : p ∈ cut) : rb (ratP n cut D p) 2300 := (ratP_rbB C M Z hp).mono (by decide)
/-- two measures that differ by a factor of each post and one of all -/
def Like (n : Nat) (D1 D2 : Nat → Nat → Rat) : Prop := ∃ (l : Rat) (r : Nat → Rat), 0 < l ∧ (∀ i, i < n → 0 < r i) ∧ ∀ i k, i < n → k < n → D2 i k = l * r i * r k * D1 i k
namespace Tr
/-- the ratios within a tree -/
def Ak (g : Nat × Nat → Rat) : Tr → Nat → Prop
  | leaf, _ => True
  | node l r, lo => (∀ l1 l2, l = node l1 l2 → g (lo, lo + l1.w) * g (lo + l.w, lo + (l.w + r.w)) = g (lo + l1.w, lo + l.w) * g (lo, lo + (l.w + r.w))) ∧
    (∀ r1 r2, r = node r1 r2 → g (lo + l.w, lo + l.w + r1.w) * g (lo, lo + (l.w + r.w)) = g (lo + l.w + r1.w, lo + (l.w + r.w)) * g (lo, lo + l.w)) ∧ Ak g l lo ∧ Ak g r (lo + l.w)
theorem ak_rho {g : Nat × Nat → Rat} {c : Rat} (hc : 0 < c) : ∀ {t : Tr} {lo : Nat} {a b : Rat}, t.Ak g lo → (∀ p ∈ t.all lo, 0 < g p) → 0 < a → 0 < b → g (lo, lo + t.w) = c * a * b →
    (∀ l r, t = node l r → g (lo, lo + t.w) * g (lo, lo + l.w) = c * a * a * g (lo + l.w, lo + t.w)) →
    ∃ r : Nat → Rat, r lo = a ∧ r (lo + t.w) = b ∧ (∀ i, 0 < r i) ∧ ∀ p ∈ t.all lo, g p = c * r p.1 * r p.2
  | leaf, lo, a, b, _, _, ha, hb, hg, _ => by
    refine ⟨fun i => if i ≤ lo then a else b, if_pos (Nat.le_refl _), if_neg (by simp only [w]; omega), fun i => by simp only; split; exact ha; exact hb, fun p hp => ?_⟩
    have e : p = (lo, lo + 1) := by simpa [all] using hp
    subst e
    simp only
    rw [if_pos (Nat.le_refl _), if_neg (by omega)]
    exact hg
  | node l r, lo, a, b, hA, hp, ha, hb, hg, hl => by
    have hw : (node l r).w = l.w + r.w := rfl
    have wl := w_pos l
    have wr := w_pos r
    rw [hw] at hg
    have h0 := hl l r rfl
    rw [hw] at h0
    obtain ⟨A1, A2, A3, A4⟩ := hA
    have p0 := hp _ (mem_root (l := l) (r := r))
    have p1 := hp _ (mem_l (r := r) (root_mem (t := l) (lo := lo)))
    have p2 := hp _ (mem_r (l := l) (root_mem (t := r) (lo := lo + l.w)))
    rw [Nat.add_assoc] at p2
    have c0 : c ≠ 0 := by grind
    have a0 : a ≠ 0 := by grind
    have b0 : b ≠ 0 := by grind
    generalize hm : g (lo, lo + l.w) / (c * a) = m
    have e1 : g (lo, lo + l.w) = c * a * m := by rw [← hm]; grind
    have m0 : 0 < m := by rw [← hm]; exact rat_div_pos p1 (rat_mul_pos hc ha)
    have e2 : g (lo + l.w, lo + (l.w + r.w)) = c * m * b := by
      rw [hg, e1] at h0
      grind
    obtain ⟨r1, x1, x2, x3, x4⟩ := ak_rho hc (t := l) (lo := lo) (a := a) (b := m) A3 (fun p q => hp p (mem_l q)) ha m0 e1 (fun l1 l2 el => by
      have q := A1 l1 l2 el
      rw [e2, hg] at q
      rw [e1]
      have b1 : b ≠ 0 := b0
      have m1 : m ≠ 0 := by grind
      generalize g (lo, lo + l1.w) = u at *
      generalize g (lo + l1.w, lo + l.w) = v at *
      clear hm h0
      grind)
    obtain ⟨r2, y1, y2, y3, y4⟩ := ak_rho hc (t := r) (lo := lo + l.w) (a := m) (b := b) A4 (fun p q => hp p (mem_r q)) m0 hb (by rw [Nat.add_assoc]; exact e2) (fun r1' r2' er => by
      have q := A2 r1' r2' er
      rw [e1, hg] at q
      rw [Nat.add_assoc, e2]
      have m1 : m ≠ 0 := by grind
      generalize g (lo + l.w, lo + l.w + r1'.w) = u at *
      generalize g (lo + l.w + r1'.w, lo + (l.w + r.w)) = v at *
      clear hm h0
      grind)
    refine ⟨fun i => if i ≤ lo + l.w then r1 i else r2 i, by simp only; rw [if_pos (by omega)]; exact x1, by simp only; rw [if_neg (by rw [hw]; omega), show lo + (node l r).w = lo + l.w + r.w by rw [hw]; omega]; exact y2, fun i => by simp only; split; exact x3 i; exact y3 i, fun p q => ?_⟩
    have eR : ∀ i, lo + l.w ≤ i → (if i ≤ lo + l.w then r1 i else r2 i) = r2 i := fun i hi => by
      rcases Nat.eq_or_lt_of_le hi with z | z
      · rw [if_pos (by omega), ← z, x2, y1]
      · rw [if_neg (by omega)]
    rcases mem_node.mp q with rfl | q | q
    · simp only
      rw [if_pos (by omega), x1, eR _ (by omega), show r2 (lo + (l.w + r.w)) = b by rw [← Nat.add_assoc]; exact y2]
      exact hg
    · have bb := bd q
      simp only
      rw [if_pos (by omega), if_pos (by omega)]
      exact x4 p q
    · have bb := bd q
      simp only
      rw [eR _ (by omega), eR _ (by omega)]
      exact y4 p q
theorem ropes_of_inn {t : Tr} {q : Nat × Nat} (h : q ∈ t.inn 0) (ne : q ≠ (0, t.w)) (w2 : 2 ≤ t.w) : q ∈ t.ropes 0 := by
  rw [inn_node w2] at h
  rcases List.mem_cons.mp h with e | e
  · rw [Nat.zero_add] at e
    exact absurd e ne
  · exact e
/-- the rule of ratios for all ropes, read within the tree -/
theorem ak_of {t : Tr} {g : Nat × Nat → Rat} (w2 : 2 ≤ t.w) (hR : ∀ x y m o, (x, y) ∈ t.ropes 0 → x < m → m < y → (x, m) ∈ t.all 0 → (m, y) ∈ t.all 0 → Out t 0 x y o → g (x, m) * g (min y o, max y o) = g (m, y) * g (min o x, max o x)) :
    ∀ {s : Tr} {lo : Nat}, (∀ p ∈ s.all lo, p ∈ t.all 0) → (∀ p ∈ s.inn lo, p ∈ t.inn 0) → s.Ak g lo
  | leaf, lo, _, _ => trivial
  | node l r, lo, h1, h2 => by
    have wl := w_pos l
    have wr := w_pos r
    have root : (lo, lo + (l.w + r.w)) ∈ t.all 0 := h1 _ mem_root
    have rb := bd root
    simp only at rb
    have lt : (lo, lo + l.w) ∈ t.all 0 := h1 _ (mem_l root_mem)
    have rt : (lo + l.w, lo + (l.w + r.w)) ∈ t.all 0 := by
      have := h1 _ (mem_r (l := l) (root_mem (t := r) (lo := lo + l.w)))
      rw [Nat.add_assoc] at this
      exact this
    refine ⟨fun l1 l2 el => ?_, fun r1 r2 er => ?_, ak_of w2 hR (fun p hp => h1 p (mem_l hp)) (fun p hp => h2 p (by simp only [inn, List.mem_cons, List.mem_append]; exact .inr (.inl hp))), ak_of w2 hR (fun p hp => h1 p (mem_r hp)) (fun p hp => h2 p (by simp only [inn, List.mem_cons, List.mem_append]; exact .inr (.inr hp)))⟩
    · have w1 := w_pos l1
      have w2' := w_pos l2
      have hlw : l.w = l1.w + l2.w := by rw [el]; rfl
      have inl : (lo, lo + l.w) ∈ l.inn lo := by rw [inn_node (by omega)]; exact List.mem_cons_self
      have rope : (lo, lo + l.w) ∈ t.ropes 0 := ropes_of_inn (h2 _ (by simp only [inn, List.mem_cons, List.mem_append]; exact .inr (.inl inl))) (fun z => by injection z with z1 z2; omega) w2
      have m1 : (lo, lo + l1.w) ∈ t.all 0 := h1 _ (mem_l (by rw [el]; exact mem_l root_mem))
      have m2 : (lo + l1.w, lo + l.w) ∈ t.all 0 := h1 _ (mem_l (by rw [el]; have := mem_r (l := l1) (root_mem (t := l2) (lo := lo + l1.w)); rw [Nat.add_assoc] at this; exact this))
      have q := hR lo (lo + l.w) (lo + l1.w) (lo + (l.w + r.w)) rope (by omega) (by omega) m1 m2 (.inr ⟨by omega, root, rt⟩)
      rw [Nat.min_eq_left (by omega), Nat.max_eq_right (by omega), Nat.min_eq_right (by omega), Nat.max_eq_left (by omega)] at q
      exact q
    · have w1 := w_pos r1
      have w2' := w_pos r2
      have hrw : r.w = r1.w + r2.w := by rw [er]; rfl
      have inr : (lo + l.w, lo + l.w + r.w) ∈ r.inn (lo + l.w) := by rw [inn_node (by omega)]; exact List.mem_cons_self
      rw [Nat.add_assoc] at inr
      have rope : (lo + l.w, lo + (l.w + r.w)) ∈ t.ropes 0 := ropes_of_inn (h2 _ (by simp only [inn, List.mem_cons, List.mem_append]; exact .inr (.inr inr))) (fun z => by injection z with z1 z2; omega) w2
      have m1 : (lo + l.w, lo + l.w + r1.w) ∈ t.all 0 := h1 _ (mem_r (by rw [er]; exact mem_l root_mem))
      have m2 : (lo + l.w + r1.w, lo + (l.w + r.w)) ∈ t.all 0 := by
        have z := mem_r (l := r1) (root_mem (t := r2) (lo := lo + l.w + r1.w))
        rw [← er, show lo + l.w + r1.w + r2.w = lo + (l.w + r.w) by omega] at z
        exact h1 _ (mem_r z)
      have q := hR (lo + l.w) (lo + (l.w + r.w)) (lo + l.w + r1.w) lo rope (by omega) (by omega) m1 m2 (.inl ⟨by omega, lt, root⟩)
      rw [Nat.min_eq_right (by omega), Nat.max_eq_left (by omega), Nat.min_eq_left (by omega), Nat.max_eq_right (by omega)] at q
      exact q
end Tr
theorem rat4_like {n x m y o : Nat} {D1 D2 : Nat → Nat → Rat} (xn : x < n) (mn : m < n) (yn : y < n) (on : o < n) (h : Like n D1 D2) (p1 : 0 < D1 m y) (p2 : 0 < D1 (min o x) (max o x)) : rat4 D2 x m y o = rat4 D1 x m y o := by
  obtain ⟨l, r, l0, r0, e⟩ := h
  unfold rat4
  rw [e x m xn mn, e _ _ (show min y o < n by omega) (show max y o < n by omega), e m y mn yn, e _ _ (show min o x < n by omega) (show max o x < n by omega)]
  have k1 : r (min y o) * r (max y o) = r y * r o := by
    rcases Nat.le_total y o with z | z
    · rw [Nat.min_eq_left z, Nat.max_eq_right z]
    · rw [Nat.min_eq_right z, Nat.max_eq_left z]; grind
  have k2 : r (min o x) * r (max o x) = r o * r x := by
    rcases Nat.le_total o x with z | z
    · rw [Nat.min_eq_left z, Nat.max_eq_right z]
    · rw [Nat.min_eq_right z, Nat.max_eq_left z]; grind
  have a1 := r0 x xn
  have a2 := r0 m mn
  have a3 := r0 y yn
  have a4 := r0 o on
  have t1 : l * r (min y o) * r (max y o) = l * (r y * r o) := by rw [← k1]; grind
  have t2 : l * r (min o x) * r (max o x) = l * (r o * r x) := by rw [← k2]; grind
  rw [t1, t2]
  have n1 : r x ≠ 0 := by grind
  have n2 : r m ≠ 0 := by grind
  have n3 : r y ≠ 0 := by grind
  have n4 : r o ≠ 0 := by grind
  have n5 : l ≠ 0 := by grind
  have n6 : D1 m y ≠ 0 := by grind
  have n7 : D1 (min o x) (max o x) ≠ 0 := by grind
  generalize D1 (min o x) (max o x) = d1 at *
  generalize D1 m y = d2 at *
  generalize D1 x m = d3 at *
  generalize D1 (min y o) (max y o) = d4 at *
  clear k1 k2 t1 t2 p1 p2 e r0 l0 a1 a2 a3 a4
  grind
/-- the ratios are the same just where the lengths are alike -/
theorem like_iff {n : Nat} {cut : List IP} {t : Tr} {L1 L2 : Len} {D1 D2 : Nat → Nat → Rat} (C : Cutting n cut t) (M1 : Meas n t L1 D1) (M2 : Meas n t L2 D2) : (∀ p ∈ cut, ratP n cut D1 p = ratP n cut D2 p) ↔ Like n D1 D2 := by
  have hw := C.w
  constructor
  · intro h
    have w2 := C.w2
    have gp : ∀ p ∈ t.all 0, 0 < D2 p.1 p.2 / D1 p.1 p.2 := fun p hp => by
      have b := Tr.bd hp
      exact rat_div_pos (M2.above (by omega) (by omega)) (M1.above (by omega) (by omega))
    have hA := Tr.ak_of (t := t) (g := fun p => D2 p.1 p.2 / D1 p.1 p.2) w2 (fun x y m o hr xm my h1 h2 ho => by
      obtain ⟨t', m', o', R, U⟩ := C.turn hr
      have F := U.four C
      obtain ⟨f1, f2, f3, f4, f5, f6, f7, f8, f9⟩ := F
      have inn := (ropes_bd hr)
      obtain ⟨ma, ⟨q1, q2⟩, q3, q4, quq⟩ := Tr.apex_in inn.1
      have em : m = m' := by rw [quq m xm my h1 h2, quq m' f5 f6 f1 f2]
      obtain ⟨oa, qo, quo⟩ := Tr.apex_out (t := t) (lo := 0) (a := x) (b := y) (Tr.inn_all inn.1) (by rw [Nat.zero_add]; exact inn.2)
      have eo : o = o' := by rw [quo o ho, quo o' U.F.out]
      subst em eo
      have hq := h (castP (x, y)) (C.mem.mpr ⟨_, hr, rfl⟩)
      rw [ratP_is C U, ratP_is C U] at hq
      unfold rat4 at hq
      have a1 := M1.above f6 f7
      have a2 : 0 < D1 (min o x) (max o x) := M1.above (by omega) (by omega)
      have a3 : 0 < D1 (min y o) (max y o) := M1.above (by omega) (by omega)
      have a4 := M1.above f5 (by omega)
      have b1 := M2.above f6 f7
      have b2 : 0 < D2 (min o x) (max o x) := M2.above (by omega) (by omega)
      have n1 : D1 m y ≠ 0 := by grind
      have n2 : D1 (min o x) (max o x) ≠ 0 := by grind
      have n3 : D1 (min y o) (max y o) ≠ 0 := by grind
      have n4 : D1 x m ≠ 0 := by grind
      have n5 : D2 m y ≠ 0 := by grind
      have n6 : D2 (min o x) (max o x) ≠ 0 := by grind
      simp only
      generalize D1 m y = d1 at *
      generalize D1 (min o x) (max o x) = d2 at *
      generalize D1 (min y o) (max y o) = d3 at *
      generalize D1 x m = d4 at *
      generalize D2 m y = c1 at *
      generalize D2 (min o x) (max o x) = c2 at *
      generalize D2 (min y o) (max y o) = c3 at *
      generalize D2 x m = c4 at *
      clear a1 a2 a3 a4 b1 b2
      grind) (s := t) (lo := 0) (fun _ h => h) (fun _ h => h)
    match t, hw, w2, gp, hA, C, M1, M2 with
    | .leaf, _, w2, _, _, _, _, _ => exact absurd w2 (by decide)
    | .node l r, hw, w2, gp, hA, C, M1, M2 =>
      have p0 := gp _ (Tr.mem_root (l := l) (r := r) (lo := 0))
      have p1 := gp _ (Tr.mem_l (r := r) (Tr.root_mem (t := l) (lo := 0)))
      have p2 := gp _ (Tr.mem_r (l := l) (Tr.root_mem (t := r) (lo := 0 + l.w)))
      simp only [Nat.zero_add] at p0 p1 p2
      have hww : (Tr.node l r).w = l.w + r.w := rfl
      generalize hg : (fun p : Nat × Nat => D2 p.1 p.2 / D1 p.1 p.2) = g at hA
      have e0 : D2 0 (l.w + r.w) / D1 0 (l.w + r.w) = g (0, l.w + r.w) := by rw [← hg]
      have e1 : D2 0 l.w / D1 0 l.w = g (0, l.w) := by rw [← hg]
      have e2 : D2 l.w (l.w + r.w) / D1 l.w (l.w + r.w) = g (l.w, l.w + r.w) := by rw [← hg]
      rw [e0] at p0
      rw [e1] at p1
      rw [e2] at p2
      generalize hc : g (0, l.w + r.w) * g (0, l.w) / g (l.w, l.w + r.w) = c
      have c0 : 0 < c := by rw [← hc]; exact rat_div_pos (rat_mul_pos p0 p1) p2
      have n2 : g (l.w, l.w + r.w) ≠ 0 := by grind
      have nc : c ≠ 0 := by grind
      obtain ⟨rho, r1, r2, r3, r4⟩ := Tr.ak_rho (g := g) c0 (t := .node l r) (lo := 0) (a := 1) (b := g (0, l.w + r.w) / c) hA (fun p hp => by rw [← hg]; exact gp p hp) (by decide) (rat_div_pos p0 c0) (by rw [Nat.zero_add, hww]; generalize g (0, l.w + r.w) = u; clear hc; grind) (fun l' r' e => by
        injection e with el er
        subst el er
        rw [Nat.zero_add, Nat.zero_add, hww, ← hc]
        generalize g (0, l.w + r.w) = u at *
        generalize g (0, l.w) = v at *
        generalize g (l.w, l.w + r.w) = x at *
        clear hc
        grind)
      refine ⟨c, rho, c0, fun i _ => r3 i, fun i k hi hk => ?_⟩
      obtain ⟨S, s1, s2⟩ := M1.ex
      have M' : Meas n (.node l r) L2 (fun i k => c * rho i * rho k * D1 i k) := by
        refine ⟨hw, M2.pos, fun i => ⟨c * rho i * (S i).p, rho i * (S i).q⟩, fun p hp => ?_, fun i k hi hk => ?_⟩
        · have b := Tr.bd hp
          rw [Nat.zero_add] at b
          have t2 := M2.tie (i := p.1) (k := p.2) hp
          have q := r4 p hp
          have d1 := M1.above (show p.1 < p.2 by omega) (by omega)
          have e3 : g p = D2 p.1 p.2 / D1 p.1 p.2 := by rw [← hg]
          rw [e3] at q
          have s3 := s2 p.1 p.2 (by omega) (by omega)
          have n1 : D1 p.1 p.2 ≠ 0 := by grind
          have e4 : D2 p.1 p.2 = c * rho p.1 * rho p.2 * D1 p.1 p.2 := by
            rw [← q]
            generalize D1 p.1 p.2 = u at *
            generalize D2 p.1 p.2 = v at *
            clear q e3 s3 d1 t2
            grind
          have e5 : L2 p = D2 p.1 p.2 := by rw [t2]
          rw [e5, e4, s3]
          unfold det
          grind
        · rw [s2 i k hi hk]
          unfold det
          grind
      exact M2.uniq M' hi hk
  · intro h p hp
    obtain ⟨⟨x, y⟩, hq, rfl⟩ := C.mem.mp hp
    obtain ⟨t', m, o, R, U⟩ := C.turn hq
    rw [ratP_is C U, ratP_is C U]
    obtain ⟨_, _, _, _, xm, my, yn, on, out⟩ := U.four C
    exact (rat4_like (by omega) (by omega) yn on h (M1.above my yn) (M1.above (by omega) (by omega))).symm
end Pm
/-! ### how great the numbers of lengths of any size are -/
namespace Pm
open PySem PySem.Spec PyProof.Rows L2
theorem meas_bdG {n N M b : Nat} {t : Tr} {L : Len} (hw : t.w + 1 = n) (hn : n ≤ 12) (hMN : M ≤ N) (hM : 1 ≤ M) (hb : N * (2 * (N * M * M)) ^ 10 ≤ 2 ^ b) (hL : ∀ p ∈ t.all 0, szd (L p) N M) : ∃ F, Bd n (Mt t L) F (2 * b + 2) := by
  have r0 := hL _ (Tr.root_mem (t := t) (lo := 0))
  rw [Nat.zero_add] at r0
  have q0 := rat_num_den (L (0, t.w))
  have dp := Nat.pos_of_ne_zero (L (0, t.w)).den_nz
  have d1 : ((L (0, t.w)).den : Rat) * 1 = (((L (0, t.w)).den : Int) : Rat) := by rw [Rat.mul_one]; rfl
  have nmm : 1 ≤ N * M * M := Nat.mul_pos (Nat.mul_pos (by omega) (by omega)) (by omega)
  obtain ⟨k, kp, kb, h⟩ := Tr.std_bd (t := t) (lo := 0) (L := L) (a := ⟨1, 0⟩) (b := ⟨0, L (0, t.w)⟩) (E := (L (0, t.w)).den) (B := N) hL
    ⟨(L (0, t.w)).den, 0, by simp only; rw [Rat.one_mul]; rfl, by simp only; rw [Rat.zero_mul]; rfl, by have := r0.2.2; omega, by omega⟩
    ⟨0, (L (0, t.w)).num, by simp only; rw [Rat.zero_mul]; rfl, q0, by omega, r0.2.1⟩
  generalize hE : (L (0, t.w)).den * k = E at h
  have pw : (2 * (N * M * M)) ^ (t.w - 1) ≤ (2 * (N * M * M)) ^ 10 := Nat.pow_le_pow_right (by omega) (by omega)
  have Eb : E ≤ 2 ^ b := by
    rw [← hE]
    have h1 : (N * M * M) ^ (t.w - 1) ≤ (2 * (N * M * M)) ^ (t.w - 1) := Nat.pow_le_pow_left (by omega) _
    exact Nat.le_trans (Nat.mul_le_mul (Nat.le_trans r0.2.2 hMN) (Nat.le_trans kb (Nat.le_trans h1 pw))) hb
  have E0 : 0 < E := by rw [← hE]; exact Nat.mul_pos dp kp
  have Bb : N * (2 * (N * M * M)) ^ (t.w - 1) ≤ 2 ^ b := Nat.le_trans (Nat.mul_le_mul (Nat.le_refl _) pw) hb
  have two : 2 ^ (2 * b + 2) = 4 * (2 ^ b * 2 ^ b) := by rw [Nat.pow_add, Nat.two_mul, Nat.pow_add, Nat.mul_comm]
  have one : 1 ≤ 2 ^ b * 2 ^ b := Nat.mul_pos (Nat.two_pow_pos b) (Nat.two_pow_pos b)
  have EE := Nat.mul_le_mul Eb Eb
  generalize hG : 2 ^ b * 2 ^ b = G at *
  refine ⟨E * E, Nat.mul_pos E0 E0, by rw [two]; omega, fun i k _ _ => ?_⟩
  obtain ⟨x, y, h1, h2, h3, h4⟩ := h i
  obtain ⟨z, u, g1, g2, g3, g4⟩ := h k
  refine ⟨x * u - z * y, ?_, ?_⟩
  · unfold Mt det
    rw [cast_mul_nat, Rat.intCast_sub, Rat.intCast_mul, Rat.intCast_mul, ← h1, ← h2, ← g1, ← g2]
    generalize (E : Rat) = W
    grind
  · have a1 : (x * u).natAbs ≤ 2 ^ b * 2 ^ b := by rw [Int.natAbs_mul]; exact Nat.mul_le_mul (Nat.le_trans h3 Bb) (Nat.le_trans g4 Bb)
    have a2 : (z * y).natAbs ≤ 2 ^ b * 2 ^ b := by rw [Int.natAbs_mul]; exact Nat.mul_le_mul (Nat.le_trans g3 Bb) (Nat.le_trans h4 Bb)
    have a3 := Int.natAbs_sub_le (x * u) (z * y)
    rw [hG] at a1 a2
    rw [two]
    omega
theorem szd_divG {a b : Int} {N M : Nat} (ha : 1 ≤ a ∧ a ≤ N) (hb : 1 ≤ b ∧ b ≤ M) : szd (Rat.divInt a b) N M := by
  have e := div_pos_num (a := a) (b := b) (by omega)
  have g : (0 : Int) < ((Int.gcd a b : Nat) : Int) := gcd_pos (by omega)
  have n1 : (Rat.divInt a b).num ≤ a := by
    rw [← e.1]
    exact Int.ediv_le_self _ (by omega)
  have d1 : ((Rat.divInt a b).den : Int) ≤ b := by
    rw [← e.2]
    exact Int.ediv_le_self _ (by omega)
  have p : 0 < Rat.divInt a b := by
    rw [Rat.divInt_eq_div]
    refine rat_div_pos ?_ ?_
    · exact Rat.intCast_pos.mpr (by omega)
    · exact Rat.intCast_pos.mpr (by omega)
  have := pos_num p
  exact ⟨p, by omega, by omega⟩
theorem szd_mul {a b : Rat} {N M N' M' : Nat} (ha : szd a N M) (hb : szd b N' M') : szd (a * b) (N * N') (M * M') := by
  obtain ⟨a0, a1, a2⟩ := ha
  obtain ⟨b0, b1, b2⟩ := hb
  have p := pos_num a0
  have q := pos_num b0
  have da := Nat.pos_of_ne_zero a.den_nz
  have db := Nat.pos_of_ne_zero b.den_nz
  rw [← times_is]
  have e1 : a.num = (a.num.natAbs : Int) := by omega
  have e2 : b.num = (b.num.natAbs : Int) := by omega
  have h1 := Nat.mul_le_mul a1 b1
  have h2 := Nat.mul_le_mul a2 b2
  have h3 : 0 < a.num.natAbs * b.num.natAbs := Nat.mul_pos (by omega) (by omega)
  have h4 := Nat.mul_pos da db
  refine szd_divG ?_ ?_
  · rw [e1, e2, ← Int.natCast_mul]
    omega
  · rw [← Int.natCast_mul]
    omega
theorem szd.mono {a : Rat} {N M N' M' : Nat} (h : szd a N M) (h1 : N ≤ N') (h2 : M ≤ M') : szd a N' M' := ⟨h.1, Nat.le_trans h.2.1 h1, Nat.le_trans h.2.2 h2⟩
theorem szd.rb {a : Rat} {N M m : Nat} (h : szd a N M) (h1 : N < 2 ^ m) (h2 : M < 2 ^ m) : rb a m := ⟨Nat.lt_of_le_of_lt h.2.1 h1, Nat.lt_of_le_of_lt h.2.2 h2⟩
/-- what lengths of a cutting measure -/
theorem drawn_lenG {n N M b : Nat} {cut : List IP} {t : Tr} (C : Cutting n cut t) (n12 : n ≤ 12) (hMN : M ≤ N) (hM : 1 ≤ M) (hb : N * (2 * (N * M * M)) ^ 10 ≤ 2 ^ b) {ks : List IP} {R : IP → Rat} (hks : ∀ p, p ∈ ks ↔ p ∈ tiesL n cut) (hsz : ∀ p ∈ tiesL n cut, szd (R p) N M) :
    ∃ (L : Len) (D : Nat → Nat → Rat) (F : Nat), Meas n t L D ∧ Bd n D F (2 * b + 2) ∧ (∀ p ∈ t.all 0, D p.1 p.2 = R (castP p)) ∧ ∀ (K : PySem.W.Frag) (H : Hp) (d : Addr), LD K H d ks (fun k => rp (R k)) → LenD K H d t D := by
  have hL : ∀ p ∈ t.all 0, szd (R (castP p)) N M := fun p hp => hsz _ (C.ties.mpr ⟨p, hp, rfl⟩)
  have Ms := meas_mt (L := fun p => R (castP p)) C.w (fun p hp => (hL p hp).1)
  obtain ⟨F, Z⟩ := meas_bdG (L := fun p => R (castP p)) C.w n12 hMN hM hb hL
  refine ⟨_, _, F, Ms, Z, fun p hp => Ms.tie hp, fun K H d h => ⟨ks, _, h, fun p => by rw [hks]; exact C.ties, fun q hq => ?_⟩⟩
  rw [Ms.tie hq]
theorem drawn_lenS {n : Nat} {cut : List IP} {t : Tr} (C : Cutting n cut t) (n12 : n ≤ 12) {ks : List IP} {R : IP → Rat} (hks : ∀ p, p ∈ ks ↔ p ∈ tiesL n cut) (hsz : ∀ p ∈ tiesL n cut, szd (R p) 1024 128) :
    ∃ (L : Len) (D : Nat → Nat → Rat) (F : Nat), Meas n t L D ∧ Bd n D F 522 ∧ (∀ p ∈ t.all 0, D p.1 p.2 = R (castP p)) ∧ ∀ (K : PySem.W.Frag) (H : Hp) (d : Addr), LD K H d ks (fun k => rp (R k)) → LenD K H d t D :=
  drawn_lenG (b := 260) C n12 (by decide) (by decide) (by decide) hks hsz
theorem drawn_lenB {n : Nat} {cut : List IP} {t : Tr} (C : Cutting n cut t) (n12 : n ≤ 12) {ks : List IP} {R : IP → Rat} (hks : ∀ p, p ∈ ks ↔ p ∈ tiesL n cut) (hsz : ∀ p ∈ tiesL n cut, szd (R p) (2 ^ 40) (2 ^ 28)) :
    ∃ (L : Len) (D : Nat → Nat → Rat) (F : Nat), Meas n t L D ∧ Bd n D F 2022 ∧ (∀ p ∈ t.all 0, D p.1 p.2 = R (castP p)) ∧ ∀ (K : PySem.W.Frag) (H : Hp) (d : Addr), LD K H d ks (fun k => rp (R k)) → LenD K H d t D :=
  drawn_lenG (b := 1010) C n12 (by decide) (by decide) (by decide) hks hsz
end Pm
/-! ### pairs that are a cutting -/
namespace Pm
open PySem PySem.Spec PyProof.Rows L2
def ropeOk (n : Int) (p : IP) : Prop := 0 ≤ p.1 ∧ p.2 < n ∧ 2 ≤ p.2 - p.1 ∧ p.2 - p.1 < n - 1
instance (n : Int) (p : IP) : Decidable (ropeOk n p) := by unfold ropeOk; exact inferInstance
def okPair (p q : IP) : Prop := p ≠ q ∧ ¬ crossP p.1 p.2 q.1 q.2
instance (p q : IP) : Decidable (okPair p q) := by unfold okPair; exact inferInstance
structure GoodP (n : Int) (l : List IP) : Prop where
  ok : ∀ p ∈ l, ropeOk n p
  pw : l.Pairwise okPair
theorem good_nil (n : Int) : GoodP n [] := ⟨fun _ h => absurd h List.not_mem_nil, List.Pairwise.nil⟩
theorem good_snoc {n : Int} {l : List IP} {x : IP} : GoodP n (l ++ [x]) ↔ GoodP n l ∧ ropeOk n x ∧ ∀ p ∈ l, okPair p x := by
  constructor
  · rintro ⟨h1, h2⟩
    have h2 := List.pairwise_append.mp h2
    exact ⟨⟨fun p hp => h1 p (List.mem_append_left _ hp), h2.1⟩, h1 x (List.mem_append_right _ (List.mem_singleton.mpr rfl)), fun p hp => h2.2.2 p hp x (List.mem_singleton.mpr rfl)⟩
  · rintro ⟨⟨h1, h2⟩, h3, h4⟩
    refine ⟨fun p hp => ?_, List.pairwise_append.mpr ⟨h2, List.pairwise_singleton _ _, fun a ha b hb => ?_⟩⟩
    · rcases List.mem_append.mp hp with h | h
      · exact h1 p h
      · rw [List.mem_singleton.mp h]; exact h3
    · rw [List.mem_singleton.mp hb]; exact h4 a ha
theorem good_take {n : Int} {l : List IP} {k : Nat} (h : GoodP n l) : GoodP n (l.take k) := ⟨fun p hp => h.ok p (List.mem_of_mem_take hp), h.pw.sublist (List.take_sublist k l)⟩
theorem okPair_symm {n : Int} {p q : IP} (hp : ropeOk n p) (hq : ropeOk n q) (h : okPair p q) : okPair q p := by
  unfold ropeOk at hp hq
  refine ⟨fun e => h.1 e.symm, fun c => h.2 ?_⟩
  rw [cross_iff (by omega) (by omega)] at c ⊢
  omega
theorem good_perm {n : Int} {l m : List IP} (e : l.Perm m) (h : GoodP n l) : GoodP n m := by
  have hok : ∀ p ∈ m, ropeOk n p := fun p hp => h.ok p (e.mem_iff.mpr hp)
  refine ⟨hok, ?_⟩
  have h1 : l.Pairwise (fun p q => (ropeOk n p ∧ ropeOk n q) ∧ okPair p q) := by
    have := h.pw
    refine List.pairwise_iff_getElem.mpr fun i j hi hj hij => ⟨⟨h.ok _ (List.getElem_mem hi), h.ok _ (List.getElem_mem hj)⟩, List.pairwise_iff_getElem.mp this i j hi hj hij⟩
  have sy : ∀ {p q : IP}, (ropeOk n p ∧ ropeOk n q) ∧ okPair p q → (ropeOk n q ∧ ropeOk n p) ∧ okPair q p := fun ⟨⟨a, b⟩, c⟩ => ⟨⟨b, a⟩, okPair_symm a b c⟩
  exact ((List.Perm.pairwise_iff sy e).mp h1).imp fun z => z.2
def tied (p : IP) : IP := tieOf p.1 p.2
/-- what kept lets by -/
def KeptOk (n : Int) (ps : List IP) : Prop := (3 ≤ n ∧ n ≤ 12) ∧ (ps.length : Int) = n - 3 ∧ GoodP n (sortP (ps.map tied))
theorem kept_iff (n : Int) (ps : List IP) : KeptOk n ps ↔ (3 ≤ n ∧ n ≤ 12) ∧ (ps.length : Int) = n - 3 ∧ GoodP n (ps.map tied) := by
  unfold KeptOk
  exact ⟨fun ⟨h1, h2, h3⟩ => ⟨h1, h2, good_perm (sortP_perm _) h3⟩, fun ⟨h1, h2, h3⟩ => ⟨h1, h2, good_perm (sortP_perm _).symm h3⟩⟩
theorem cross_tied (p : IP) (c d : Int) : crossP (tied p).1 (tied p).2 c d ↔ crossP p.1 p.2 c d := by
  unfold tied tieOf crossP
  have e1 : min (min p.1 p.2) (max p.1 p.2) = min p.1 p.2 := by omega
  have e2 : max (min p.1 p.2) (max p.1 p.2) = max p.1 p.2 := by omega
  simp only [e1, e2]
theorem prs_cut {H : Hp} {vs : List V} {ps : List IP} (lo hi : Option Int) (h : Prs H vs ps) : ∃ ps', Prs H (cutV vs lo hi) ps' ∧ ps'.length ≤ ps.length := by
  refine ⟨(ps.drop (HT.sIx vs.length 0 lo)).take (HT.sIx vs.length vs.length hi - HT.sIx vs.length 0 lo), (h.drop _).take _, ?_⟩
  rw [List.length_take, List.length_drop]
  omega
end Pm
/-! ### the numbers of cuttings -/
namespace Pm
open PySem PySem.Spec PyProof.Rows L2
abbrev partsN : List Nat := [1, 1, 2, 5, 14, 42, 132, 429, 1430, 4862, 16796]
def pc (w : Nat) : Nat := partsN.getD (w - 1) 0
/-- how many cuttings have their first post beside at one of the first k places -/
def ahead (W : Nat) : Nat → Nat
  | 0 => 0
  | k + 1 => ahead W k + pc (k + 1) * pc (W - (k + 1))
theorem ahead_all : ∀ W : Nat, W < 12 → 2 ≤ W → ahead W (W - 1) = pc W := by decide +kernel
theorem pc_pos : ∀ W : Nat, W < 12 → 1 ≤ W → 1 ≤ pc W := by decide +kernel
theorem pc_small : ∀ W : Nat, W < 12 → pc W ≤ 16796 := by decide +kernel
theorem ahead_mono (W : Nat) : ∀ {k j : Nat}, k ≤ j → ahead W k ≤ ahead W j := by
  intro k j h
  induction h with
  | refl => exact Nat.le_refl _
  | step _ ih => exact Nat.le_trans ih (Nat.le_add_right _ _)
theorem ahead_step {W k : Nat} (h : 1 ≤ k) : ahead W k = ahead W (k - 1) + pc k * pc (W - k) := by
  obtain ⟨j, rfl⟩ : ∃ j, k = j + 1 := ⟨k - 1, by omega⟩
  rfl
theorem two_digits {a b c d m : Nat} (h1 : b < m) (h2 : d < m) (h : a * m + b = c * m + d) : a = c ∧ b = d := by
  have key : ∀ {a b c d : Nat}, b < m → a < c → a * m + b < c * m + d := fun {a b c d} hb hac => by
    have : (a + 1) * m ≤ c * m := Nat.mul_le_mul_right _ hac
    rw [Nat.succ_mul] at this
    omega
  rcases Nat.lt_trichotomy a c with q | q | q
  · have := key (d := d) h1 q; omega
  · subst q; exact ⟨rfl, by omega⟩
  · have := key (d := b) h2 q; omega
theorem two_less {a b c d m : Nat} (hb : b < m) (hac : a < c) : a * m + b < c * m + d := by
  have : (a + 1) * m ≤ c * m := Nat.mul_le_mul_right _ hac
  rw [Nat.succ_mul] at this
  omega
namespace Tr
def num : Tr → Nat
  | leaf => 0
  | node l r => ahead (l.w + r.w) (l.w - 1) + (l.num * pc r.w + r.num)
theorem num_lt : ∀ {t : Tr}, t.w < 12 → t.num < pc t.w
  | leaf, _ => by decide
  | node l r, h => by
    have h : l.w + r.w < 12 := h
    have wl := l.w_pos
    have wr := r.w_pos
    have h1 := num_lt (t := l) (by omega)
    have h2 := num_lt (t := r) (by omega)
    have h3 : l.num * pc r.w + r.num < pc l.w * pc r.w + 0 := two_less h2 h1
    have h4 := ahead_step (W := l.w + r.w) wl
    have h5 := ahead_mono (l.w + r.w) (show l.w ≤ l.w + r.w - 1 by omega)
    rw [ahead_all _ h (by omega)] at h5
    rw [show l.w + r.w - l.w = r.w by omega] at h4
    show ahead (l.w + r.w) (l.w - 1) + (l.num * pc r.w + r.num) < pc (l.w + r.w)
    omega
/-- the number stands among those of its first post beside -/
theorem num_in {l r : Tr} (h : l.w + r.w < 12) : ahead (l.w + r.w) (l.w - 1) ≤ (node l r).num ∧ (node l r).num < ahead (l.w + r.w) l.w := by
  have wl := l.w_pos
  have wr := r.w_pos
  have h1 := num_lt (t := l) (by omega)
  have h2 := num_lt (t := r) (by omega)
  have h3 : l.num * pc r.w + r.num < pc l.w * pc r.w + 0 := two_less h2 h1
  have h4 := ahead_step (W := l.w + r.w) wl
  rw [show l.w + r.w - l.w = r.w by omega] at h4
  show ahead (l.w + r.w) (l.w - 1) ≤ ahead (l.w + r.w) (l.w - 1) + (l.num * pc r.w + r.num) ∧ ahead (l.w + r.w) (l.w - 1) + (l.num * pc r.w + r.num) < _
  omega
/-- the order of two cuttings of one ring -/
def ord : Tr → Tr → Int
  | node l r, node l' r' => if l.w ≠ l'.w then (l.w : Int) - l'.w else if ord l l' ≠ 0 then ord l l' else ord r r'
  | _, _ => 0
theorem ord_num : ∀ {t u : Tr}, t.w = u.w → t.w < 12 → (t.num < u.num ↔ ord t u < 0) ∧ (u.num < t.num ↔ 0 < ord t u) ∧ (t.num = u.num → t = u)
  | leaf, leaf, _, _ => by
    refine ⟨⟨fun h => absurd h (by decide), fun h => absurd h (by unfold ord; omega)⟩, ⟨fun h => absurd h (by decide), fun h => absurd h (by unfold ord; omega)⟩, fun _ => rfl⟩
  | leaf, node l r, h, _ => by
    have h : 1 = l.w + r.w := h
    have := l.w_pos
    have := r.w_pos
    omega
  | node l r, leaf, h, _ => by
    have h : l.w + r.w = 1 := h
    have := l.w_pos
    have := r.w_pos
    omega
  | node l r, node l' r', h, h12 => by
    have h : l.w + r.w = l'.w + r'.w := h
    have h12 : l.w + r.w < 12 := h12
    have n1 := num_in (l := l) (r := r) h12
    have n2 := num_in (l := l') (r := r') (by omega)
    have wl := l.w_pos
    have wl' := l'.w_pos
    have wr := r.w_pos
    have wr' := r'.w_pos
    rw [← h] at n2
    unfold ord
    by_cases c : l.w = l'.w
    · rw [if_neg (by omega)]
      have cr : r.w = r'.w := by omega
      obtain ⟨a1, a2, a3⟩ := ord_num (t := l) (u := l') c (by omega)
      obtain ⟨b1, b2, b3⟩ := ord_num (t := r) (u := r') cr (by omega)
      have m1 := num_lt (t := r) (by omega)
      have m2 := num_lt (t := r') (by omega)
      rw [← cr] at m2
      have e1 : (node l r).num = ahead (l.w + r.w) (l.w - 1) + (l.num * pc r.w + r.num) := rfl
      have e2 : (node l' r').num = ahead (l.w + r.w) (l.w - 1) + (l'.num * pc r.w + r'.num) := by rw [h, c, cr]; rfl
      rcases Nat.lt_trichotomy l.num l'.num with q | q | q
      · have z := two_less (d := r'.num) m1 q
        have := a1.mp q
        rw [if_pos (by omega)]
        refine ⟨⟨fun _ => this, fun _ => by omega⟩, ⟨fun _ => by omega, fun _ => by omega⟩, fun _ => by omega⟩
      · have el := a3 q
        have z : ord l l' = 0 := by
          have y1 := mt a1.mpr (by omega)
          have y2 := mt a2.mpr (by omega)
          omega
        rw [if_neg (by omega), e1, e2, q]
        refine ⟨⟨fun _ => b1.mp (by omega), fun y => ?_⟩, ⟨fun _ => b2.mp (by omega), fun y => ?_⟩, fun _ => ?_⟩
        · have := b1.mpr y; omega
        · have := b2.mpr y; omega
        · rw [el, b3 (by omega)]
      · have z := two_less (d := r.num) m2 q
        have := a2.mp q
        rw [if_pos (by omega)]
        refine ⟨⟨fun _ => by omega, fun _ => by omega⟩, ⟨fun _ => this, fun _ => by omega⟩, fun _ => by omega⟩
    · rw [if_pos c]
      by_cases d : l.w < l'.w
      · have := ahead_mono (l.w + r.w) (show l.w ≤ l'.w - 1 by omega)
        refine ⟨⟨fun _ => by omega, fun _ => by omega⟩, ⟨fun _ => by omega, fun _ => by omega⟩, fun _ => by omega⟩
      · have := ahead_mono (l.w + r.w) (show l'.w ≤ l.w - 1 by omega)
        refine ⟨⟨fun _ => by omega, fun _ => by omega⟩, ⟨fun _ => by omega, fun _ => by omega⟩, fun _ => by omega⟩
theorem num_inj {t u : Tr} (h : t.w = u.w) (h12 : t.w < 12) (e : t.num = u.num) : t = u := (ord_num h h12).2.2 e
end Tr
theorem Tr.inn_is (t : Tr) (lo : Nat) : t.inn lo = (if 1 < t.w then [(lo, lo + t.w)] else []) ++ t.ropes lo := by
  by_cases h : 1 < t.w
  · rw [if_pos h, Tr.inn_node h]
    rfl
  · rw [if_neg h]
    cases t with
    | leaf => rfl
    | node l r =>
      have := l.w_pos
      have := r.w_pos
      exact absurd (show 1 < l.w + r.w by omega) h
theorem Tr.inn_len : ∀ (t : Tr) (lo : Nat), (t.inn lo).length + 1 = t.w
  | .leaf, _ => rfl
  | .node l r, lo => by
    have h1 := inn_len l lo
    have h2 := inn_len r (lo + l.w)
    show (_ :: (_ ++ _)).length + 1 = l.w + r.w
    rw [List.length_cons, List.length_append]
    omega
theorem Tr.ropes_le (t : Tr) (lo : Nat) : (t.ropes lo).length ≤ t.w := by
  have h := t.inn_len lo
  rw [t.inn_is lo, List.length_append] at h
  omega
theorem ropes_grow {l r : Tr} {lo k : Nat} {q1 q2 : List IP} (e : l.w = k + 1) (h1 : q1.Perm ((l.ropes lo).map castP)) (h2 : q2.Perm ((r.ropes (lo + 1 + k)).map castP)) :
    (((q1 ++ q2) ++ (if 1 < l.w then [castP (lo, lo + 1 + k)] else [])) ++ (if 1 < r.w then [castP (lo + 1 + k, lo + 1 + k + r.w)] else [])).Perm (((Tr.node l r).ropes lo).map castP) := by
  have e0 : lo + 1 + k = lo + l.w := by omega
  show List.Perm _ ((l.inn lo ++ r.inn (lo + l.w)).map castP)
  rw [e0] at h2 ⊢
  rw [l.inn_is lo, r.inn_is (lo + l.w)]
  refine ((((h1.append h2).append_right _).append_right _).trans ?_)
  rw [List.map_append, List.map_append, List.map_append]
  have a1 : (if 1 < l.w then [(lo, lo + l.w)] else []).map castP = (if 1 < l.w then [castP (lo, lo + l.w)] else []) := by split <;> rfl
  have a2 : (if 1 < r.w then [(lo + l.w, lo + l.w + r.w)] else []).map castP = (if 1 < r.w then [castP (lo + l.w, lo + l.w + r.w)] else []) := by split <;> rfl
  rw [a1, a2]
  refine List.perm_iff_count.mpr fun a => ?_
  simp only [List.count_append]
  omega
/-- two cuttings of one tree are one list -/
theorem Cutting.same {n : Nat} {c d : List IP} {t : Tr} (C : Cutting n c t) (D : Cutting n d t) : c = d := by
  have e1 := sortP_self C.rise
  have e2 := sortP_self D.rise
  rw [← e1, ← e2]
  exact sortP_congr (C.perm.trans D.perm.symm)
theorem Cutting.good {n : Nat} {cut : List IP} {t : Tr} (C : Cutting n cut t) : GoodP n cut := by
  have hw := C.w
  have ok : ∀ p ∈ cut, ropeOk n p := fun p hp => by
    obtain ⟨q, hq, rfl⟩ := C.mem.mp hp
    have z := ropes_bd hq
    have w2 := Tr.inn_wide z.1
    have b := Tr.bd (Tr.inn_all z.1)
    unfold ropeOk castP
    simp only
    omega
  have nd : cut.Pairwise (· ≠ ·) := by
    refine (C.perm.nodup_iff).mpr (List.pairwise_map.mpr ?_)
    exact (Tr.ropes_nodup t 0).imp fun h e => h (castP_inj e)
  refine ⟨ok, nd.imp_of_mem fun {p q} hp hq h => ⟨h, C.nocross (mem_ties.mpr (.inr hp)) (mem_ties.mpr (.inr hq))⟩⟩
theorem Cutting.len {n : Nat} {cut : List IP} {t : Tr} (C : Cutting n cut t) : cut.length + 3 = n := by
  have h := C.perm.length_eq
  have h1 := t.inn_len 0
  have hw := C.w
  rw [Tr.inn_node C.w2, List.length_cons] at h1
  rw [List.length_map] at h
  omega
/-- a is tied with b, a < b, by a rope of cut or as a neighbour -/
def Tied (cut : List IP) (a b : Int) : Prop := b - a = 1 ∨ (a, b) ∈ cut
instance (cut : List IP) (a b : Int) : Decidable (Tied cut a b) := by unfold Tied; infer_instance
/-- within lo .. lo + t.w the ties of cut are those of t (but for the whole's) -/
def Within (cut : List IP) (lo : Nat) (t : Tr) : Prop := ∀ a b : Nat, lo ≤ a → a < b → b ≤ lo + t.w → ¬ (a = lo ∧ b = lo + t.w) → (Tied cut a b ↔ (a, b) ∈ t.all lo)
theorem Cutting.within {n : Nat} {cut : List IP} {t : Tr} (C : Cutting n cut t) : Within cut 0 t := fun a b _ hab hb hne => by
  have hw := C.w
  have h2 := C.w2
  unfold Tied
  rw [Tr.all_iff, inn_iff h2, C.mem]
  constructor
  · rintro (h | ⟨q, h, e⟩)
    · exact .inr ⟨by omega, by simp only; omega, by simp only; omega⟩
    · have e' : castP (a, b) = castP q := e
      rw [castP_inj e']
      exact .inl (.inr h)
  · rintro ((h | h) | h)
    · obtain ⟨h1, h2⟩ := Prod.mk.inj h
      exact absurd ⟨h1, by omega⟩ hne
    · exact .inr ⟨_, h, rfl⟩
    · simp only at h
      exact .inl (by omega)
theorem Within.left {cut : List IP} {lo : Nat} {l r : Tr} (h : Within cut lo (.node l r)) : Within cut lo l := fun a b h1 h2 h3 h4 => by
  have wr := r.w_pos
  rw [h a b h1 h2 (by show b ≤ lo + (l.w + r.w); omega) (by show ¬ (a = lo ∧ b = lo + (l.w + r.w)); omega), Tr.mem_node]
  constructor
  · rintro (e | e | e)
    · have := (Prod.mk.inj e).2; omega
    · exact e
    · have := (Tr.bd e).1; simp only at this; omega
  · exact fun e => .inr (.inl e)
theorem Within.right {cut : List IP} {lo : Nat} {l r : Tr} (h : Within cut lo (.node l r)) : Within cut (lo + l.w) r := fun a b h1 h2 h3 h4 => by
  have wl := l.w_pos
  rw [h a b (by omega) h2 (by show b ≤ lo + (l.w + r.w); omega) (by show ¬ (a = lo ∧ b = lo + (l.w + r.w)); omega), Tr.mem_node]
  constructor
  · rintro (e | e | e)
    · have := (Prod.mk.inj e).1; omega
    · have := (Tr.bd e).2.2; simp only at this; omega
    · exact e
  · exact fun e => .inr (.inr e)
/-- the one post beside the whole's tie -/
theorem Within.apex {cut : List IP} {lo : Nat} {l r : Tr} (h : Within cut lo (.node l r)) {m : Nat} (h1 : lo < m) (h2 : m < lo + (l.w + r.w)) : (Tied cut lo m ∧ Tied cut m ((lo + (l.w + r.w) : Nat) : Int)) ↔ m = lo + l.w := by
  have wl := l.w_pos
  have wr := r.w_pos
  rw [h lo m (Nat.le_refl _) h1 (by show m ≤ lo + (l.w + r.w); omega) (by show ¬ (lo = lo ∧ m = lo + (l.w + r.w)); omega), h m _ (by omega) h2 (by show lo + (l.w + r.w) ≤ lo + (l.w + r.w); omega) (by omega)]
  rw [Tr.mem_node, Tr.mem_node]
  constructor
  · rintro ⟨e | e | e, f⟩
    · have := (Prod.mk.inj e).2; omega
    · have q := (Tr.bd e).2.2
      simp only at q
      rcases f with f | f | f
      · have := (Prod.mk.inj f).1; omega
      · have := (Tr.bd f).2.2; simp only at this; omega
      · have := (Tr.bd f).1; simp only at this; omega
    · have := (Tr.bd e).1; simp only at this; omega
  · rintro rfl
    exact ⟨.inr (.inl Tr.root_mem), .inr (.inr (by rw [← Nat.add_assoc]; exact Tr.root_mem))⟩
theorem Within.unique {cut : List IP} : ∀ {t u : Tr} {lo : Nat}, t.w = u.w → Within cut lo t → Within cut lo u → t = u
  | .leaf, .leaf, _, _, _, _ => rfl
  | .leaf, .node l r, _, h, _, _ => by
    have h : 1 = l.w + r.w := h
    have := l.w_pos
    have := r.w_pos
    omega
  | .node l r, .leaf, _, h, _, _ => by
    have h : l.w + r.w = 1 := h
    have := l.w_pos
    have := r.w_pos
    omega
  | .node l r, .node l' r', lo, h, h1, h2 => by
    have h : l.w + r.w = l'.w + r'.w := h
    have wl := l.w_pos
    have wr := r.w_pos
    have wl' := l'.w_pos
    have wr' := r'.w_pos
    have a1 := (h1.apex (m := lo + l.w) (by omega) (by omega)).mpr rfl
    rw [h] at a1
    have e := (h2.apex (m := lo + l.w) (by omega) (by omega)).mp a1
    have el : l.w = l'.w := by omega
    have h2r := h2.right
    rw [← el] at h2r
    rw [Within.unique el h1.left h2.left, Within.unique (by omega) h1.right h2r]
theorem Cutting.unique {n : Nat} {c : List IP} {t u : Tr} (C : Cutting n c t) (D : Cutting n c u) : t = u := Within.unique (by have := C.w; have := D.w; omega) C.within D.within
end Pm
namespace Pm
open PySem PySem.Spec PyProof.Rows L2
/-! #### two lists of pairs in a list -/
section
variable {K : PySem.W.Frag} {H : Hp} {Q : VK} {a b : Addr} {vs ws vs' ws' : List V} {p1 p2 q1 q2 : Addr} {ps qs ps' qs' : List IP}
theorem shaped_two (ps qs : List IP) : SeqAt.shaped (.list [.list (ps.map pD), .list (qs.map pD)]) = true := by
  have h1 := depths_pD ps
  have h2 := depths_pD qs
  have h3 : PyData.depth (.list [.list (ps.map pD), .list (qs.map pD)]) ≤ 64 := by
    simp only [PyData.depth, PyData.depthAll]
    omega
  show (PyData.canLay0 (.list [.list (ps.map pD), .list (qs.map pD)]) && decide (PyData.depth (.list [.list (ps.map pD), .list (qs.map pD)]) ≤ 64)) = true
  rw [Bool.and_eq_true]
  refine ⟨?_, decide_eq_true h3⟩
  simp only [PyData.canLay0, PyData.canLayAll0, lays_pD, Bool.and_true]
theorem eqv_two (ps qs ps' qs' : List IP) : PyData.eqv (.list [.list (ps.map pD), .list (qs.map pD)]) (.list [.list (ps'.map pD), .list (qs'.map pD)]) = (decide (ps = ps') && decide (qs = qs')) := by
  rw [PyData.eqv, PyData.eqvAll, PyData.eqvAll, PyData.eqvAll, eqv_list, eqv_list, Bool.and_true]
theorem w_neTwo (h1 : SqL K H a [.ref p1, .ref p2]) (h2 : SqL K H b [.ref q1, .ref q2]) (a1 : SqL K H p1 vs) (a2 : SqL K H p2 ws) (b1 : SqL K H q1 vs') (b2 : SqL K H q2 ws') (c1 : Prs H vs ps) (c2 : Prs H ws qs) (d1 : Prs H vs' ps') (d2 : Prs H ws' qs')
    (h : Q (.bl (!(decide (ps = ps') && decide (qs = qs')))) H) : rNeD K (.ref a) (.ref b) H Q :=
  ⟨_, _, .lst h1 (.cons (.lst a1 (dp_prs c1)) (.cons (.lst a2 (dp_prs c2)) .nil)), .lst h2 (.cons (.lst b1 (dp_prs d1)) (.cons (.lst b2 (dp_prs d2)) .nil)), shaped_two _ _, shaped_two _ _, by rw [eqv_two]; exact h⟩
end
end Pm
local macro_rules | `(tactic| walk_at "s1") => `(tactic| first
  | with_reducible refine Pm.w_seq ?_ | with_reducible refine Pm.w_asg ?_ | with_reducible refine Pm.w_drop ?_ | with_reducible refine Pm.w_ret ?_ | with_reducible refine Pm.w_retN ?_
  | with_reducible refine Pm.w_next ?_ | with_reducible refine Pm.w_brk ?_ | with_reducible refine Pm.w_cont ?_ | with_reducible refine Pm.w_if ?_ | with_reducible refine Pm.w_gname ?_ | with_reducible refine Pm.w_gcons ?_ | with_reducible refine Pm.w_gsub ?_ | with_reducible refine Pm.w_gnil ?_
  | ((with_reducible show L2.tVar _ _ _ _); refine Pm.w_var rfl ?_) | with_reducible refine Pm.w_c ?_ | with_reducible refine Pm.w_op ?_ | with_reducible refine Pm.w_un ?_
  | with_reducible refine Pm.w_i0 ?_ | ((with_reducible refine Pm.w_i ?_ ?_); (walk_at "side")) | with_reducible refine Pm.w_u ?_ | with_reducible refine Pm.w_eqi ?_ | with_reducible refine Pm.w_nei ?_
  | with_reducible refine Pm.w_eqb ?_ | with_reducible refine Pm.w_neb ?_ | with_reducible refine Pm.w_eqs ?_
  | with_reducible refine Pm.w_cb ?_ | with_reducible refine Pm.w_nil ?_ | with_reducible refine Pm.w_cons ?_ | with_reducible refine Pm.w_call ?_ | with_reducible refine Pm.w_callS ?_ | with_reducible refine Pm.w_tup ?_ | with_reducible refine Pm.w_lst ?_
  | with_reducible refine Pm.w_test ?_ | with_reducible refine Pm.w_b ?_ | with_reducible refine Pm.w_bl ?_ | with_reducible refine Pm.w_and ?_ | with_reducible refine Pm.w_or ?_ | with_reducible refine Pm.w_not ?_
  | with_reducible refine Pm.w_andV ?_ | with_reducible refine Pm.w_orV ?_ | with_reducible refine Pm.w_notV ?_ | with_reducible refine Pm.w_ifE ?_ | with_reducible refine Pm.w_chain ?_ | with_reducible refine Pm.w_chain3 ?_ | with_reducible refine Pm.w_blx ?_
  | with_reducible refine Pm.w_par ?_ | with_reducible refine Pm.w_par2 ?_ | with_reducible refine Pm.w_max ?_ | with_reducible refine Pm.w_min ?_ | with_reducible refine Pm.w_abs ?_
  | with_reducible refine Pm.w_bm ?_ | with_reducible refine Pm.w_bm0 ?_ | with_reducible refine Pm.w_for ?_ | with_reducible refine Pm.w_iList ?_ | with_reducible refine Pm.w_iTup ?_ | with_reducible refine Pm.w_iRng1 ?_ | with_reducible refine Pm.w_iRng2 ?_
  | ((with_reducible refine Pm.w_rg1 ?_ ?_); (constructor <;> omega)) | ((with_reducible refine Pm.w_rg2 ?_ ?_); (refine ⟨⟨?_, ?_⟩, ?_, ?_⟩ <;> omega))
  | with_reducible refine Pm.w_pairs ?_ | with_reducible refine Pm.w_pairs0 ?_ | with_reducible refine Pm.w_dput ?_ | with_reducible refine Pm.w_din ?_ | with_reducible refine Pm.w_dnotin ?_ | with_reducible refine Pm.w_dget ?_
  | with_reducible refine Pm.w_int1 ?_ | with_reducible refine Pm.w_sl ?_ | with_reducible refine Pm.w_noPart ?_ | with_reducible refine Pm.w_part ?_ | with_reducible refine Pm.w_partK ?_
  | with_reducible refine Pm.w_lc ?_ | with_reducible refine Pm.w_yes ?_ | ((with_reducible show Pm.LcTurn _ _ _ _ _ _ _ _); refine Pm.w_turn rfl ?_)
  | with_reducible refine Pm.w_iteT ?_ | with_reducible refine Pm.w_iteF ?_ | with_reducible refine Pm.w_iteN1 ?_ | with_reducible refine Pm.w_iteN0 ?_)
local macro_rules | `(tactic| walk_at "side") => `(tactic| first | (refine Pm.w_mul1 ?_; constructor <;> omega) | (refine Pm.w_mul2 ?_; constructor <;> omega) | ((with_reducible show L2.CDiv _ _); refine ⟨?_, ?_⟩ <;> omega) | ((with_reducible show L2.CPow _ _); exact ⟨by decide, by decide, by decide⟩) | (show (0:Int) < _; omega))
local macro_rules | `(tactic| walk_at "st") => `(tactic| repeat (walk_at "s1"))
namespace Pm
open PySem PySem.Spec PyProof.Rows L2
/-! ### the text by places -/
def top (i : Nat) : Stmt := PySem.Challenge.pw_postmead_k35_likeness_turned.main.body.getD i (.Pass ⟨0, 0, 0, 0⟩)
abbrev s_tie_of : Stmt := top 6
abbrev N_tie_of : List Str := ["a", "b"]
theorem sc_tie_of : FnScope N_tie_of ["a", "b"] (defScope s_tie_of) := ⟨rfl, rfl, rfl, by decide +kernel, rfl, by decide +kernel, by decide +kernel⟩
abbrev s_sides : Stmt := top 7
abbrev N_sides : List Str := ["n", "k"]
theorem sc_sides : FnScope N_sides ["n"] (defScope s_sides) := ⟨rfl, rfl, rfl, by decide +kernel, rfl, by decide +kernel, by decide +kernel⟩
abbrev s_ties : Stmt := top 8
abbrev N_ties : List Str := ["n", "cut"]
theorem sc_ties : FnScope N_ties ["n", "cut"] (defScope s_ties) := ⟨rfl, rfl, rfl, by decide +kernel, rfl, by decide +kernel, by decide +kernel⟩
abbrev s_plots : Stmt := top 9
abbrev N_plots : List Str := ["n", "cut", "tied", "tie", "found", "a", "b", "c"]
theorem sc_plots : FnScope N_plots ["n", "cut"] (defScope s_plots) := ⟨rfl, rfl, rfl, by decide +kernel, rfl, by decide +kernel, by decide +kernel⟩
abbrev s_beside : Stmt := top 10
abbrev N_beside : List Str := ["n", "cut", "a", "b", "all_ties", "found", "post"]
theorem sc_beside : FnScope N_beside ["n", "cut", "a", "b"] (defScope s_beside) := ⟨rfl, rfl, rfl, by decide +kernel, rfl, by decide +kernel, by decide +kernel⟩
abbrev s_turned : Stmt := top 11
abbrev N_turned : List Str := ["n", "cut", "a", "b", "rope", "ends", "one"]
theorem sc_turned : FnScope N_turned ["n", "cut", "a", "b"] (defScope s_turned) := ⟨rfl, rfl, rfl, by decide +kernel, rfl, by decide +kernel, by decide +kernel⟩
abbrev s_measure : Stmt := top 15
abbrev N_measure : List Str := ["one", "other"]
theorem sc_measure : FnScope N_measure ["one", "other"] (defScope s_measure) := ⟨rfl, rfl, rfl, by decide +kernel, rfl, by decide +kernel, by decide +kernel⟩
abbrev s_lowest : Stmt := top 16
abbrev N_lowest : List Str := ["top", "bottom", "by"]
theorem sc_lowest : FnScope N_lowest ["top", "bottom"] (defScope s_lowest) := ⟨rfl, rfl, rfl, by decide +kernel, rfl, by decide +kernel, by decide +kernel⟩
abbrev s_plus : Stmt := top 17
abbrev N_plus : List Str := ["one", "other"]
theorem sc_plus : FnScope N_plus ["one", "other"] (defScope s_plus) := ⟨rfl, rfl, rfl, by decide +kernel, rfl, by decide +kernel, by decide +kernel⟩
abbrev s_less : Stmt := top 18
abbrev N_less : List Str := ["one", "other"]
theorem sc_less : FnScope N_less ["one", "other"] (defScope s_less) := ⟨rfl, rfl, rfl, by decide +kernel, rfl, by decide +kernel, by decide +kernel⟩
abbrev s_times : Stmt := top 19
abbrev N_times : List Str := ["one", "other"]
theorem sc_times : FnScope N_times ["one", "other"] (defScope s_times) := ⟨rfl, rfl, rfl, by decide +kernel, rfl, by decide +kernel, by decide +kernel⟩
abbrev s_over : Stmt := top 20
abbrev N_over : List Str := ["one", "other"]
theorem sc_over : FnScope N_over ["one", "other"] (defScope s_over) := ⟨rfl, rfl, rfl, by decide +kernel, rfl, by decide +kernel, by decide +kernel⟩
abbrev s_ring_of : Stmt := top 22
abbrev N_ring_of : List Str := ["n", "cut", "a", "b", "rope", "ends", "inner", "post", "outer"]
theorem sc_ring_of : FnScope N_ring_of ["n", "cut", "a", "b"] (defScope s_ring_of) := ⟨rfl, rfl, rfl, by decide +kernel, rfl, by decide +kernel, by decide +kernel⟩
abbrev s_ratio : Stmt := top 23
abbrev N_ratio : List Str := ["n", "cut", "lengths", "a", "b", "ring", "sized", "k"]
theorem sc_ratio : FnScope N_ratio ["n", "cut", "lengths", "a", "b"] (defScope s_ratio) := ⟨rfl, rfl, rfl, by decide +kernel, rfl, by decide +kernel, by decide +kernel⟩
abbrev s_ratios : Stmt := top 24
abbrev N_ratios : List Str := ["n", "cut", "lengths", "found", "a", "b"]
theorem sc_ratios : FnScope N_ratios ["n", "cut", "lengths"] (defScope s_ratios) := ⟨rfl, rfl, rfl, by decide +kernel, rfl, by decide +kernel, by decide +kernel⟩
abbrev s_alike : Stmt := top 25
abbrev N_alike : List Str := ["n", "cut", "one", "other"]
theorem sc_alike : FnScope N_alike ["n", "cut", "one", "other"] (defScope s_alike) := ⟨rfl, rfl, rfl, by decide +kernel, rfl, by decide +kernel, by decide +kernel⟩
abbrev s_growth : Stmt := top 26
abbrev N_growth : List Str := ["one", "other", "a", "b"]
theorem sc_growth : FnScope N_growth ["one", "other", "a", "b"] (defScope s_growth) := ⟨rfl, rfl, rfl, by decide +kernel, rfl, by decide +kernel, by decide +kernel⟩
abbrev s_stretches : Stmt := top 27
abbrev N_stretches : List Str := ["n", "cut", "one", "other", "found", "post", "a", "b", "both"]
theorem sc_stretches : FnScope N_stretches ["n", "cut", "one", "other"] (defScope s_stretches) := ⟨rfl, rfl, rfl, by decide +kernel, rfl, by decide +kernel, by decide +kernel⟩
abbrev s_two_posts : Stmt := top 29
abbrev N_two_posts : List Str := ["n", "a", "b"]
theorem sc_two_posts : FnScope N_two_posts ["n", "a", "b"] (defScope s_two_posts) := ⟨rfl, rfl, rfl, by decide +kernel, rfl, by decide +kernel, by decide +kernel⟩
abbrev s_between : Stmt := top 31
abbrev N_between : List Str := ["lengths", "a", "b", "found"]
theorem sc_between : FnScope N_between ["lengths", "a", "b"] (defScope s_between) := ⟨rfl, rfl, rfl, by decide +kernel, rfl, by decide +kernel, by decide +kernel⟩
abbrev s_spread : Stmt := top 32
abbrev N_spread : List Str := ["one", "other"]
theorem sc_spread : FnScope N_spread ["one", "other"] (defScope s_spread) := ⟨rfl, rfl, rfl, by decide +kernel, rfl, by decide +kernel, by decide +kernel⟩
abbrev s_pair_mixed : Stmt := top 33
abbrev N_pair_mixed : List Str := ["one", "part", "other", "share"]
theorem sc_pair_mixed : FnScope N_pair_mixed ["one", "part", "other", "share"] (defScope s_pair_mixed) := ⟨rfl, rfl, rfl, by decide +kernel, rfl, by decide +kernel, by decide +kernel⟩
abbrev s_third : Stmt := top 34
abbrev N_third : List Str := ["lengths", "stood", "a", "b", "c", "whole", "part", "share"]
theorem sc_third : FnScope N_third ["lengths", "stood", "a", "b", "c"] (defScope s_third) := ⟨rfl, rfl, rfl, by decide +kernel, rfl, by decide +kernel, by decide +kernel⟩
abbrev s_stands : Stmt := top 35
abbrev N_stands : List Str := ["n", "cut", "lengths", "all_plots", "a", "b", "c", "stood", "k"]
theorem sc_stands : FnScope N_stands ["n", "cut", "lengths"] (defScope s_stands) := ⟨rfl, rfl, rfl, by decide +kernel, rfl, by decide +kernel, by decide +kernel⟩
abbrev s_measured : Stmt := top 36
abbrev N_measured : List Str := ["n", "cut", "lengths", "a", "b", "stood"]
theorem sc_measured : FnScope N_measured ["n", "cut", "lengths", "a", "b"] (defScope s_measured) := ⟨rfl, rfl, rfl, by decide +kernel, rfl, by decide +kernel, by decide +kernel⟩
abbrev s_laid : Stmt := top 37
abbrev N_laid : List Str := ["n", "cut", "lengths", "a", "b", "rope", "fresh", "one", "found", "tie", "length"]
theorem sc_laid : FnScope N_laid ["n", "cut", "lengths", "a", "b"] (defScope s_laid) := ⟨rfl, rfl, rfl, by decide +kernel, rfl, by decide +kernel, by decide +kernel⟩
abbrev s_law_flow : Stmt := top 39
abbrev N_law_flow : List Str := ["_law_script", "_law_many", "_law_great", "_law_row", "_law_k", "_law_cell", "_law_mixed"]
theorem sc_law_flow : FnScope N_law_flow ["_law_script", "_law_many"] (defScope s_law_flow) := ⟨rfl, rfl, rfl, by decide +kernel, rfl, by decide +kernel, by decide +kernel⟩
abbrev s_law_whole : Stmt := top 40
abbrev N_law_whole : List Str := ["_law_found"]
theorem sc_law_whole : FnScope N_law_whole ["_law_found"] (defScope s_law_whole) := ⟨rfl, rfl, rfl, by decide +kernel, rfl, by decide +kernel, by decide +kernel⟩
abbrev s_law_low : Stmt := top 41
abbrev N_law_low : List Str := ["_law_top", "_law_bottom", "_law_one", "_law_other"]
theorem sc_law_low : FnScope N_law_low ["_law_top", "_law_bottom"] (defScope s_law_low) := ⟨rfl, rfl, rfl, by decide +kernel, rfl, by decide +kernel, by decide +kernel⟩
abbrev s_law_mul : Stmt := top 42
abbrev N_law_mul : List Str := ["_law_one", "_law_other"]
theorem sc_law_mul : FnScope N_law_mul ["_law_one", "_law_other"] (defScope s_law_mul) := ⟨rfl, rfl, rfl, by decide +kernel, rfl, by decide +kernel, by decide +kernel⟩
abbrev s_law_div : Stmt := top 43
abbrev N_law_div : List Str := ["_law_one", "_law_other"]
theorem sc_law_div : FnScope N_law_div ["_law_one", "_law_other"] (defScope s_law_div) := ⟨rfl, rfl, rfl, by decide +kernel, rfl, by decide +kernel, by decide +kernel⟩
abbrev s_law_part : Stmt := top 44
abbrev N_law_part : List Str := ["_law_found"]
theorem sc_law_part : FnScope N_law_part ["_law_found"] (defScope s_law_part) := ⟨rfl, rfl, rfl, by decide +kernel, rfl, by decide +kernel, by decide +kernel⟩
abbrev s_law_size : Stmt := top 45
abbrev N_law_size : List Str := ["_law_one"]
theorem sc_law_size : FnScope N_law_size ["_law_one"] (defScope s_law_size) := ⟨rfl, rfl, rfl, by decide +kernel, rfl, by decide +kernel, by decide +kernel⟩
abbrev s_law_pair : Stmt := top 46
abbrev N_law_pair : List Str := ["_law_a", "_law_b"]
theorem sc_law_pair : FnScope N_law_pair ["_law_a", "_law_b"] (defScope s_law_pair) := ⟨rfl, rfl, rfl, by decide +kernel, rfl, by decide +kernel, by decide +kernel⟩
abbrev s_law_ears : Stmt := top 47
abbrev N_law_ears : List Str := ["_law_n", "_law_row", "_law_left", "_law_k", "_law_ears_here"]
theorem sc_law_ears : FnScope N_law_ears ["_law_n", "_law_row"] (defScope s_law_ears) := ⟨rfl, rfl, rfl, by decide +kernel, rfl, by decide +kernel, by decide +kernel⟩
abbrev s_law_ropes : Stmt := top 48
abbrev N_law_ropes : List Str := ["_law_ears_here", "_law_ear"]
theorem sc_law_ropes : FnScope N_law_ropes ["_law_ears_here"] (defScope s_law_ropes) := ⟨rfl, rfl, rfl, by decide +kernel, rfl, by decide +kernel, by decide +kernel⟩
abbrev s_law_sides : Stmt := top 49
abbrev N_law_sides : List Str := ["_law_n", "_law_k"]
theorem sc_law_sides : FnScope N_law_sides ["_law_n"] (defScope s_law_sides) := ⟨rfl, rfl, rfl, by decide +kernel, rfl, by decide +kernel, by decide +kernel⟩
abbrev s_law_ties : Stmt := top 50
abbrev N_law_ties : List Str := ["_law_n", "_law_cut"]
theorem sc_law_ties : FnScope N_law_ties ["_law_n", "_law_cut"] (defScope s_law_ties) := ⟨rfl, rfl, rfl, by decide +kernel, rfl, by decide +kernel, by decide +kernel⟩
abbrev s_law_sized : Stmt := top 51
abbrev N_law_sized : List Str := ["_law_all_ties", "_law_row", "_law_sized_here", "_law_k", "_law_at"]
theorem sc_law_sized : FnScope N_law_sized ["_law_all_ties", "_law_row"] (defScope s_law_sized) := ⟨rfl, rfl, rfl, by decide +kernel, rfl, by decide +kernel, by decide +kernel⟩
abbrev s_law_beside : Stmt := top 52
abbrev N_law_beside : List Str := ["_law_n", "_law_all_ties", "_law_a", "_law_b", "_law_found", "_law_post"]
theorem sc_law_beside : FnScope N_law_beside ["_law_n", "_law_all_ties", "_law_a", "_law_b"] (defScope s_law_beside) := ⟨rfl, rfl, rfl, by decide +kernel, rfl, by decide +kernel, by decide +kernel⟩
abbrev s_law_parts : Stmt := top 53
abbrev N_law_parts : List Str := ["_law_found", "_law_due", "_law_k"]
theorem sc_law_parts : FnScope N_law_parts ["_law_found", "_law_due"] (defScope s_law_parts) := ⟨rfl, rfl, rfl, by decide +kernel, rfl, by decide +kernel, by decide +kernel⟩
abbrev s_law_ring : Stmt := top 54
abbrev N_law_ring : List Str := ["_law_n", "_law_cut", "_law_rope", "_law_ends"]
theorem sc_law_ring : FnScope N_law_ring ["_law_n", "_law_cut", "_law_rope"] (defScope s_law_ring) := ⟨rfl, rfl, rfl, by decide +kernel, rfl, by decide +kernel, by decide +kernel⟩
abbrev s_law_ratio : Stmt := top 55
abbrev N_law_ratio : List Str := ["_law_n", "_law_cut", "_law_sized_here", "_law_rope", "_law_ring_here", "_law_one", "_law_other"]
theorem sc_law_ratio : FnScope N_law_ratio ["_law_n", "_law_cut", "_law_sized_here", "_law_rope"] (defScope s_law_ratio) := ⟨rfl, rfl, rfl, by decide +kernel, rfl, by decide +kernel, by decide +kernel⟩
abbrev s_law_ratios : Stmt := top 56
abbrev N_law_ratios : List Str := ["_law_n", "_law_cut", "_law_sized_here", "_law_made", "_law_rope"]
theorem sc_law_ratios : FnScope N_law_ratios ["_law_n", "_law_cut", "_law_sized_here"] (defScope s_law_ratios) := ⟨rfl, rfl, rfl, by decide +kernel, rfl, by decide +kernel, by decide +kernel⟩
abbrev s_law_stretched : Stmt := top 57
abbrev N_law_stretched : List Str := ["_law_sized_here", "_law_post", "_law_factor", "_law_made", "_law_tie", "_law_length"]
theorem sc_law_stretched : FnScope N_law_stretched ["_law_sized_here", "_law_post", "_law_factor"] (defScope s_law_stretched) := ⟨rfl, rfl, rfl, by decide +kernel, rfl, by decide +kernel, by decide +kernel⟩
abbrev s_law_twofold : Stmt := top 58
abbrev N_law_twofold : List Str := ["_law_n", "_law_sized_here", "_law_row", "_law_way", "_law_other", "_law_post", "_law_all_ties", "_law_tie"]
theorem sc_law_twofold : FnScope N_law_twofold ["_law_n", "_law_sized_here", "_law_row", "_law_way"] (defScope s_law_twofold) := ⟨rfl, rfl, rfl, by decide +kernel, rfl, by decide +kernel, by decide +kernel⟩
abbrev s_law : Stmt := top 59
abbrev N_law : List Str := ["_law_script", "_law_row", "_law_n", "_law_cut", "_law_sized_here", "_law_other", "_law_due", "_law_first", "_law_k", "_law_a", "_law_b", "_law_told_so", "_law_last"]
theorem sc_law : FnScope N_law ["_law_script"] (defScope s_law) := ⟨rfl, rfl, rfl, by decide +kernel, rfl, by decide +kernel, by decide +kernel⟩
/-- what the top has written -/
structure Tx (K : PySem.W.Frag) (mg : Str → Option Value) : Type where
  a_tie_of : Addr
  fd_tie_of : FuncData
  F_tie_of : Fun K "tie_of" "tie_of" s_tie_of a_tie_of fd_tie_of
  g_tie_of : mg "tie_of" = some (.ref a_tie_of)
  b_tie_of : Binds K fd_tie_of ["a", "b"] []
  a_sides : Addr
  fd_sides : FuncData
  F_sides : Fun K "sides" "sides" s_sides a_sides fd_sides
  g_sides : mg "sides" = some (.ref a_sides)
  b_sides : Binds K fd_sides ["n"] []
  a_ties : Addr
  fd_ties : FuncData
  F_ties : Fun K "ties" "ties" s_ties a_ties fd_ties
  g_ties : mg "ties" = some (.ref a_ties)
  b_ties : Binds K fd_ties ["n", "cut"] []
  a_plots : Addr
  fd_plots : FuncData
  F_plots : Fun K "plots" "plots" s_plots a_plots fd_plots
  g_plots : mg "plots" = some (.ref a_plots)
  b_plots : Binds K fd_plots ["n", "cut"] []
  a_beside : Addr
  fd_beside : FuncData
  F_beside : Fun K "beside" "beside" s_beside a_beside fd_beside
  g_beside : mg "beside" = some (.ref a_beside)
  b_beside : Binds K fd_beside ["n", "cut", "a", "b"] []
  a_turned : Addr
  fd_turned : FuncData
  F_turned : Fun K "turned" "turned" s_turned a_turned fd_turned
  g_turned : mg "turned" = some (.ref a_turned)
  b_turned : Binds K fd_turned ["n", "cut", "a", "b"] []
  a_measure : Addr
  fd_measure : FuncData
  F_measure : Fun K "measure" "measure" s_measure a_measure fd_measure
  g_measure : mg "measure" = some (.ref a_measure)
  b_measure : Binds K fd_measure ["one", "other"] []
  a_lowest : Addr
  fd_lowest : FuncData
  F_lowest : Fun K "lowest" "lowest" s_lowest a_lowest fd_lowest
  g_lowest : mg "lowest" = some (.ref a_lowest)
  b_lowest : Binds K fd_lowest ["top", "bottom"] []
  a_plus : Addr
  fd_plus : FuncData
  F_plus : Fun K "plus" "plus" s_plus a_plus fd_plus
  g_plus : mg "plus" = some (.ref a_plus)
  b_plus : Binds K fd_plus ["one", "other"] []
  a_less : Addr
  fd_less : FuncData
  F_less : Fun K "less" "less" s_less a_less fd_less
  g_less : mg "less" = some (.ref a_less)
  b_less : Binds K fd_less ["one", "other"] []
  a_times : Addr
  fd_times : FuncData
  F_times : Fun K "times" "times" s_times a_times fd_times
  g_times : mg "times" = some (.ref a_times)
  b_times : Binds K fd_times ["one", "other"] []
  a_over : Addr
  fd_over : FuncData
  F_over : Fun K "over" "over" s_over a_over fd_over
  g_over : mg "over" = some (.ref a_over)
  b_over : Binds K fd_over ["one", "other"] []
  a_ring_of : Addr
  fd_ring_of : FuncData
  F_ring_of : Fun K "ring_of" "ring_of" s_ring_of a_ring_of fd_ring_of
  g_ring_of : mg "ring_of" = some (.ref a_ring_of)
  b_ring_of : Binds K fd_ring_of ["n", "cut", "a", "b"] []
  a_ratio : Addr
  fd_ratio : FuncData
  F_ratio : Fun K "ratio" "ratio" s_ratio a_ratio fd_ratio
  g_ratio : mg "ratio" = some (.ref a_ratio)
  b_ratio : Binds K fd_ratio ["n", "cut", "lengths", "a", "b"] []
  a_ratios : Addr
  fd_ratios : FuncData
  F_ratios : Fun K "ratios" "ratios" s_ratios a_ratios fd_ratios
  g_ratios : mg "ratios" = some (.ref a_ratios)
  b_ratios : Binds K fd_ratios ["n", "cut", "lengths"] []
  a_alike : Addr
  fd_alike : FuncData
  F_alike : Fun K "alike" "alike" s_alike a_alike fd_alike
  g_alike : mg "alike" = some (.ref a_alike)
  b_alike : Binds K fd_alike ["n", "cut", "one", "other"] []
  a_growth : Addr
  fd_growth : FuncData
  F_growth : Fun K "growth" "growth" s_growth a_growth fd_growth
  g_growth : mg "growth" = some (.ref a_growth)
  b_growth : Binds K fd_growth ["one", "other", "a", "b"] []
  a_stretches : Addr
  fd_stretches : FuncData
  F_stretches : Fun K "stretches" "stretches" s_stretches a_stretches fd_stretches
  g_stretches : mg "stretches" = some (.ref a_stretches)
  b_stretches : Binds K fd_stretches ["n", "cut", "one", "other"] []
  a_two_posts : Addr
  fd_two_posts : FuncData
  F_two_posts : Fun K "two_posts" "two_posts" s_two_posts a_two_posts fd_two_posts
  g_two_posts : mg "two_posts" = some (.ref a_two_posts)
  b_two_posts : Binds K fd_two_posts ["n", "a", "b"] []
  a_between : Addr
  fd_between : FuncData
  F_between : Fun K "between" "between" s_between a_between fd_between
  g_between : mg "between" = some (.ref a_between)
  b_between : Binds K fd_between ["lengths", "a", "b"] []
  a_spread : Addr
  fd_spread : FuncData
  F_spread : Fun K "spread" "spread" s_spread a_spread fd_spread
  g_spread : mg "spread" = some (.ref a_spread)
  b_spread : Binds K fd_spread ["one", "other"] []
  a_pair_mixed : Addr
  fd_pair_mixed : FuncData
  F_pair_mixed : Fun K "pair_mixed" "pair_mixed" s_pair_mixed a_pair_mixed fd_pair_mixed
  g_pair_mixed : mg "pair_mixed" = some (.ref a_pair_mixed)
  b_pair_mixed : Binds K fd_pair_mixed ["one", "part", "other", "share"] []
  a_third : Addr
  fd_third : FuncData
  F_third : Fun K "third" "third" s_third a_third fd_third
  g_third : mg "third" = some (.ref a_third)
  b_third : Binds K fd_third ["lengths", "stood", "a", "b", "c"] []
  a_stands : Addr
  fd_stands : FuncData
  F_stands : Fun K "stands" "stands" s_stands a_stands fd_stands
  g_stands : mg "stands" = some (.ref a_stands)
  b_stands : Binds K fd_stands ["n", "cut", "lengths"] []
  a_measured : Addr
  fd_measured : FuncData
  F_measured : Fun K "measured" "measured" s_measured a_measured fd_measured
  g_measured : mg "measured" = some (.ref a_measured)
  b_measured : Binds K fd_measured ["n", "cut", "lengths", "a", "b"] []
  a_laid : Addr
  fd_laid : FuncData
  F_laid : Fun K "laid" "laid" s_laid a_laid fd_laid
  g_laid : mg "laid" = some (.ref a_laid)
  b_laid : Binds K fd_laid ["n", "cut", "lengths", "a", "b"] []
  a_law_flow : Addr
  fd_law_flow : FuncData
  F_law_flow : Fun K "_law_flow" "_law_flow" s_law_flow a_law_flow fd_law_flow
  g_law_flow : mg "_law_flow" = some (.ref a_law_flow)
  b_law_flow : Binds K fd_law_flow ["_law_script", "_law_many"] []
  a_law_whole : Addr
  fd_law_whole : FuncData
  F_law_whole : Fun K "_law_whole" "_law_whole" s_law_whole a_law_whole fd_law_whole
  g_law_whole : mg "_law_whole" = some (.ref a_law_whole)
  b_law_whole : Binds K fd_law_whole ["_law_found"] []
  a_law_low : Addr
  fd_law_low : FuncData
  F_law_low : Fun K "_law_low" "_law_low" s_law_low a_law_low fd_law_low
  g_law_low : mg "_law_low" = some (.ref a_law_low)
  b_law_low : Binds K fd_law_low ["_law_top", "_law_bottom"] []
  a_law_mul : Addr
  fd_law_mul : FuncData
  F_law_mul : Fun K "_law_mul" "_law_mul" s_law_mul a_law_mul fd_law_mul
  g_law_mul : mg "_law_mul" = some (.ref a_law_mul)
  b_law_mul : Binds K fd_law_mul ["_law_one", "_law_other"] []
  a_law_div : Addr
  fd_law_div : FuncData
  F_law_div : Fun K "_law_div" "_law_div" s_law_div a_law_div fd_law_div
  g_law_div : mg "_law_div" = some (.ref a_law_div)
  b_law_div : Binds K fd_law_div ["_law_one", "_law_other"] []
  a_law_part : Addr
  fd_law_part : FuncData
  F_law_part : Fun K "_law_part" "_law_part" s_law_part a_law_part fd_law_part
  g_law_part : mg "_law_part" = some (.ref a_law_part)
  b_law_part : Binds K fd_law_part ["_law_found"] []
  a_law_size : Addr
  fd_law_size : FuncData
  F_law_size : Fun K "_law_size" "_law_size" s_law_size a_law_size fd_law_size
  g_law_size : mg "_law_size" = some (.ref a_law_size)
  b_law_size : Binds K fd_law_size ["_law_one"] []
  a_law_pair : Addr
  fd_law_pair : FuncData
  F_law_pair : Fun K "_law_pair" "_law_pair" s_law_pair a_law_pair fd_law_pair
  g_law_pair : mg "_law_pair" = some (.ref a_law_pair)
  b_law_pair : Binds K fd_law_pair ["_law_a", "_law_b"] []
  a_law_ears : Addr
  fd_law_ears : FuncData
  F_law_ears : Fun K "_law_ears" "_law_ears" s_law_ears a_law_ears fd_law_ears
  g_law_ears : mg "_law_ears" = some (.ref a_law_ears)
  b_law_ears : Binds K fd_law_ears ["_law_n", "_law_row"] []
  a_law_ropes : Addr
  fd_law_ropes : FuncData
  F_law_ropes : Fun K "_law_ropes" "_law_ropes" s_law_ropes a_law_ropes fd_law_ropes
  g_law_ropes : mg "_law_ropes" = some (.ref a_law_ropes)
  b_law_ropes : Binds K fd_law_ropes ["_law_ears_here"] []
  a_law_sides : Addr
  fd_law_sides : FuncData
  F_law_sides : Fun K "_law_sides" "_law_sides" s_law_sides a_law_sides fd_law_sides
  g_law_sides : mg "_law_sides" = some (.ref a_law_sides)
  b_law_sides : Binds K fd_law_sides ["_law_n"] []
  a_law_ties : Addr
  fd_law_ties : FuncData
  F_law_ties : Fun K "_law_ties" "_law_ties" s_law_ties a_law_ties fd_law_ties
  g_law_ties : mg "_law_ties" = some (.ref a_law_ties)
  b_law_ties : Binds K fd_law_ties ["_law_n", "_law_cut"] []
  a_law_sized : Addr
  fd_law_sized : FuncData
  F_law_sized : Fun K "_law_sized" "_law_sized" s_law_sized a_law_sized fd_law_sized
  g_law_sized : mg "_law_sized" = some (.ref a_law_sized)
  b_law_sized : Binds K fd_law_sized ["_law_all_ties", "_law_row"] []
  a_law_beside : Addr
  fd_law_beside : FuncData
  F_law_beside : Fun K "_law_beside" "_law_beside" s_law_beside a_law_beside fd_law_beside
  g_law_beside : mg "_law_beside" = some (.ref a_law_beside)
  b_law_beside : Binds K fd_law_beside ["_law_n", "_law_all_ties", "_law_a", "_law_b"] []
  a_law_parts : Addr
  fd_law_parts : FuncData
  F_law_parts : Fun K "_law_parts" "_law_parts" s_law_parts a_law_parts fd_law_parts
  g_law_parts : mg "_law_parts" = some (.ref a_law_parts)
  b_law_parts : Binds K fd_law_parts ["_law_found", "_law_due"] []
  a_law_ring : Addr
  fd_law_ring : FuncData
  F_law_ring : Fun K "_law_ring" "_law_ring" s_law_ring a_law_ring fd_law_ring
  g_law_ring : mg "_law_ring" = some (.ref a_law_ring)
  b_law_ring : Binds K fd_law_ring ["_law_n", "_law_cut", "_law_rope"] []
  a_law_ratio : Addr
  fd_law_ratio : FuncData
  F_law_ratio : Fun K "_law_ratio" "_law_ratio" s_law_ratio a_law_ratio fd_law_ratio
  g_law_ratio : mg "_law_ratio" = some (.ref a_law_ratio)
  b_law_ratio : Binds K fd_law_ratio ["_law_n", "_law_cut", "_law_sized_here", "_law_rope"] []
  a_law_ratios : Addr
  fd_law_ratios : FuncData
  F_law_ratios : Fun K "_law_ratios" "_law_ratios" s_law_ratios a_law_ratios fd_law_ratios
  g_law_ratios : mg "_law_ratios" = some (.ref a_law_ratios)
  b_law_ratios : Binds K fd_law_ratios ["_law_n", "_law_cut", "_law_sized_here"] []
  a_law_stretched : Addr
  fd_law_stretched : FuncData
  F_law_stretched : Fun K "_law_stretched" "_law_stretched" s_law_stretched a_law_stretched fd_law_stretched
  g_law_stretched : mg "_law_stretched" = some (.ref a_law_stretched)
  b_law_stretched : Binds K fd_law_stretched ["_law_sized_here", "_law_post", "_law_factor"] []
  a_law_twofold : Addr
  fd_law_twofold : FuncData
  F_law_twofold : Fun K "_law_twofold" "_law_twofold" s_law_twofold a_law_twofold fd_law_twofold
  g_law_twofold : mg "_law_twofold" = some (.ref a_law_twofold)
  b_law_twofold : Binds K fd_law_twofold ["_law_n", "_law_sized_here", "_law_row", "_law_way"] []
  a_law : Addr
  fd_law : FuncData
  F_law : Fun K "law" "law" s_law a_law fd_law
  g_law : mg "law" = some (.ref a_law)
  b_law : Binds K fd_law ["_law_script"] []
  m_min : mg "min" = none
  m_max : mg "max" = none
  m_sorted : mg "sorted" = none
  m_range : mg "range" = none
  m_abs : mg "abs" = none
  m_len : mg "len" = none
  m_isinstance : mg "isinstance" = none
  m_int : mg "int" = none
  m_bool : mg "bool" = none
  m_tuple : mg "tuple" = none
  m_list : mg "list" = none
  m_dict : mg "dict" = none
  c_NoRope : Addr
  g_NoRope : mg "NoRope" = some (.ref c_NoRope)
  x_NoRope : PySem.W.excIn K c_NoRope [.type "ValueError", .type "Exception", .type "BaseException", .type "object"] "ValueError.__new__" = true
  k_NoRope : PySem.W.keepIn K (.ref c_NoRope) = true
  b_NoRope : PySem.W.subIn K (.ref c_NoRope) (.type "BaseException") = some true
  t_NoRope : PySem.W.typeIn K (.ref c_NoRope) = some (.type "type")
  i_NoRope : PySem.W.isClsIn K c_NoRope = true
  z_NoRope : PySem.W.subIn K (.ref c_NoRope) (.ref c_NoRope) = some true
  c_NoFraction : Addr
  g_NoFraction : mg "NoFraction" = some (.ref c_NoFraction)
  x_NoFraction : PySem.W.excIn K c_NoFraction [.type "ValueError", .type "Exception", .type "BaseException", .type "object"] "ValueError.__new__" = true
  k_NoFraction : PySem.W.keepIn K (.ref c_NoFraction) = true
  b_NoFraction : PySem.W.subIn K (.ref c_NoFraction) (.type "BaseException") = some true
  t_NoFraction : PySem.W.typeIn K (.ref c_NoFraction) = some (.type "type")
  i_NoFraction : PySem.W.isClsIn K c_NoFraction = true
  z_NoFraction : PySem.W.subIn K (.ref c_NoFraction) (.ref c_NoFraction) = some true
  c_NoPost : Addr
  g_NoPost : mg "NoPost" = some (.ref c_NoPost)
  x_NoPost : PySem.W.excIn K c_NoPost [.type "ValueError", .type "Exception", .type "BaseException", .type "object"] "ValueError.__new__" = true
  k_NoPost : PySem.W.keepIn K (.ref c_NoPost) = true
  b_NoPost : PySem.W.subIn K (.ref c_NoPost) (.type "BaseException") = some true
  t_NoPost : PySem.W.typeIn K (.ref c_NoPost) = some (.type "type")
  i_NoPost : PySem.W.isClsIn K c_NoPost = true
  z_NoPost : PySem.W.subIn K (.ref c_NoPost) (.ref c_NoPost) = some true
  c_ONE : Addr
  g_ONE : mg "ONE" = some (.ref c_ONE)
  r_ONE : RelV (.ref c_ONE) (.ref c_ONE)
  v_ONE : ∀ H, SqT K H c_ONE [.int 1, .int 1]
  c_NOUGHT : Addr
  g_NOUGHT : mg "NOUGHT" = some (.ref c_NOUGHT)
  r_NOUGHT : RelV (.ref c_NOUGHT) (.ref c_NOUGHT)
  v_NOUGHT : ∀ H, SqT K H c_NOUGHT [.int 0, .int 1]
/-! ### the draws: a new list of so many numbers below a million -/
def spFlow (K : PySem.W.Frag) : Sp := fun vs H Q _ => ∃ (a : Addr) (ns : List Int) (m : Nat), vs = [.ref a, .int m] ∧ SqL K H a (ns.map V.int) ∧ m ≤ 100000 ∧
  ∀ (row : List Int) (H' : Hp) (p : Addr), row.length = m → (∀ x ∈ row, 0 ≤ x ∧ x < 1000000) → Same H H' → H p = none → H' p = some (.lst (row.map V.int)) → Q (.ref p) H'
theorem flow_more {row : List Int} {x : Int} (h : ∀ x ∈ row, 0 ≤ x ∧ x < 1000000) (h0 : 0 ≤ x) (h1 : x < 1000000) : ∀ y ∈ row ++ [x], 0 ≤ y ∧ y < 1000000 := fun y hy => by
  rcases List.mem_append.mp hy with q | q
  · exact h y q
  · rw [List.mem_singleton.mp q]; exact ⟨h0, h1⟩
theorem flow_get {row : List Int} (h : ∀ x ∈ row, 0 ≤ x ∧ x < 1000000) (i : Nat) : 0 ≤ row.getD i 0 ∧ row.getD i 0 < 1000000 := by
  rw [List.getD_eq_getElem?_getD]
  cases e : row[i]? with
  | none => exact ⟨by decide, by decide⟩
  | some x => exact h x (List.mem_of_getElem? e)
section
variable {P : Program} {w : World} {K : PySem.W.Frag} {mg : Str → Option Value} {base : Heap}
theorem ok_law_flow (T : Tx K mg) : FnOk P w K mg base CX0 1 T.a_law_flow T.fd_law_flow ["_law_script", "_law_many"] (spFlow K) := by
  refine T.F_law_flow.ok sc_law_flow (fun vs H Q E h => ?_) (fun cdv A outer s H vs Q E hr h => ?_)
  · obtain ⟨a, ns, m, rfl, _⟩ := h
    rfl
  obtain ⟨a, ns, m, rfl, hS, hm, q⟩ := h
  refine ⟨_, (pss_cons (ps_set (i := 2) sc_law_flow.nd rfl (.inl rfl) (pe_int))
      (C8.pss_cut (ps_if (PW.pt (pw_and (pt_cmpR op_gt (pe_callB (c_len (K := K)) (by rfl) T.m_len PySem.boot_len (pa_cons (pv 0) pa_nil)) (pe_int) (nomark _)) (pw_and1 (pt_cmpR op_ge (pe_callB c_abs (by rfl) T.m_abs (by decide +kernel) (pa_cons (pe_ix (ix_listK (K := K)) (pv 0) (pe_int) (fun _ _ => rfl)) pa_nil)) (pe_op op_pow (pe_int) (pe_int)) (nomark _))))) (pss_one (ps_set (i := 2) sc_law_flow.nd rfl (.inl rfl) (pe_op op_sub (pe_callB c_abs (by rfl) T.m_abs (by decide +kernel) (pa_cons (pe_ix (ix_listK (K := K)) (pv 0) (pe_int) (fun _ _ => rfl)) pa_nil)) (pe_op op_pow (pe_int) (pe_int))))) pss_nil)
      (pss_cons (ps_set (i := 3) sc_law_flow.nd rfl (.inl rfl) (pe_lst pa_nil))
      (pss_cons (ps_for PassesOwn.never rfl (pi_range1 (by rfl) T.m_range (pa_cons (pv 1) pa_nil)) (pg_name (i := 4) sc_law_flow.nd rfl (.inl rfl)) (pss_one (ps_if (pt_cmpR op_gt (pv 2) (pe_int) (nomark _)) (pss_cons (ps_expr (k_bm (K := K) (pe_bm PySem.F.plainAttrs_list PySem.F.slot_list_append PySem.F.type_list_append mt_append (pv 3) (pa_cons (pe_op op_mod (pv 2) (pe_int)) pa_nil))))
      (pss_one (ps_set (i := 2) sc_law_flow.nd rfl (.inl rfl) (pe_op op_fdiv (pv 2) (pe_int))))) (pss_cons (ps_set (i := 5) sc_law_flow.nd rfl (.inl rfl) (pe_op op_add (pv 4) (pe_int)))
      (C8.pss_cut (ps_if (pt_cmpR op_gt (pe_callB (c_len (K := K)) (by rfl) T.m_len PySem.boot_len (pa_cons (pv 0) pa_nil)) (pe_int) (nomark _)) (pss_one (ps_set (i := 5) sc_law_flow.nd rfl (.inl rfl) (pe_ix (ix_listK (K := K)) (pv 0) (pe_op op_mod (pv 4) (pe_callB (c_len (K := K)) (by rfl) T.m_len PySem.boot_len (pa_cons (pv 0) pa_nil))) (fun _ _ => rfl)))) pss_nil)
      (pss_cons (ps_set (i := 6) sc_law_flow.nd rfl (.inl rfl) (pe_op op_mod (pe_op op_add (pe_op op_add (pe_op op_mul (pv 5) (pe_int)) (pe_op op_mul (pv 4) (pe_int))) (pe_int)) (pe_int)))
      (pss_cons (ps_set (i := 6) sc_law_flow.nd rfl (.inl rfl) (pe_op op_mod (pe_op op_add (pe_op op_add (pe_op op_mul (pv 6) (pe_int)) (pe_op op_mul (pv 4) (pe_int))) (pe_callB (c_len (K := K)) (by rfl) T.m_len PySem.boot_len (pa_cons (pv 0) pa_nil))) (pe_int)))
      (pss_one (ps_expr (k_bm (K := K) (pe_bm PySem.F.plainAttrs_list PySem.F.slot_list_append PySem.F.type_list_append mt_append (pv 3) (pa_cons (pe_op op_mod (pe_op op_fdiv (pv 6) (pe_int)) (pe_int)) pa_nil))))))))))))
      (pss_one (ps_ret (pv 3))))))), ?_⟩
  walk_at "st"
  have hl : (ns.map V.int).length = ns.length := List.length_map _
  refine Pm.w_cut (fun σ' H' => ∃ g : Int, σ' = [some (.ref a), some (.int m), some (.int g), none, none, none, none] ∧ H' = H) ?_ ?_
  · walk_at "st"
    refine Pm.w_len (.inl hS) ?_
    walk_at "st"
    refine Pm.w_ite (fun c => ?_) (fun c => ?_)
    · rw [hl] at c
      walk_at "st"
      refine Pm.w_ixL hS (atI_int (by omega) (by omega)) ?_
      walk_at "st"
      refine Pm.w_ite (fun c => ?_) (fun c => ?_)
      · walk_at "st"
        refine Pm.w_ixL hS (atI_int (by omega) (by omega)) ?_
        walk_at "st"
        exact ⟨_, rfl, rfl⟩
      · walk_at "st"
        exact ⟨_, rfl, rfl⟩
    · walk_at "st"
      exact ⟨_, rfl, rfl⟩
  rintro σ H' ⟨g, rfl, rfl⟩
  walk_at "st"
  refine Pm.w_newL (fun p hp => ?_)
  walk_at "st"
  rw [Int.toNat_natCast]
  refine Pm.w_forR (fun i σ H2 => ∃ (g : Int) (row : List Int) (x4 x5 x6 : Option V), σ = [some (.ref a), some (.int m), some (.int g), some (.ref p), x4, x5, x6] ∧
    row.length = i ∧ (∀ x ∈ row, 0 ≤ x ∧ x < 1000000) ∧ H2 = upd H' p (.lst (row.map V.int))) ?_ ?_ ?_
  · exact ⟨g, [], none, none, none, rfl, rfl, fun x hx => absurd hx (List.not_mem_nil), rfl⟩
  · rintro i σ H2 hi ⟨g, row, x4, x5, x6, rfl, hrow, hb, rfl⟩
    have hS2 : SqL K (upd H' p (.lst (row.map V.int))) a (ns.map V.int) := (same_new hp _).seq hS
    have hz : (row.map V.int).length < sizeLine := by rw [List.length_map]; exact size_lt (by omega)
    have fin : ∀ x : Int, upd (upd H' p (.lst (row.map V.int))) p (.lst (row.map V.int ++ [.int x])) = upd H' p (.lst ((row ++ [x]).map V.int)) := fun x => by rw [upd_upd, List.map_append] <;> rfl
    walk_at "st"
    refine Pm.w_ite (fun c => ?_) (fun c => ?_)
    · walk_at "st"
      refine ⟨.inl ⟨rfl, _, SqL.of upd_same⟩, ?_⟩
      walk_at "st"
      refine Pm.w_append upd_same hz ?_
      walk_at "st"
      refine ⟨_, row ++ [g % 1000000], _, _, _, rfl, by rw [List.length_append, hrow] <;> rfl, flow_more hb (by omega) (by omega), fin _⟩
    · walk_at "st"
      refine Pm.w_cut (fun σ' H3 => ∃ cell : Int, σ' = [some (.ref a), some (.int m), some (.int g), some (.ref p), some (.int (0 + (i : Nat))), some (.int cell), x6] ∧ H3 = upd H' p (.lst (row.map V.int))) ?_ ?_
      · walk_at "st"
        refine Pm.w_len (.inl hS2) ?_
        walk_at "st"
        refine Pm.w_ite (fun c => ?_) (fun c => ?_)
        · rw [hl] at c
          walk_at "st"
          refine Pm.w_len (.inl hS2) ?_
          rw [hl]
          walk_at "st"
          refine Pm.w_ixL hS2 (atI_int (Int.emod_nonneg _ (by omega)) (Int.emod_lt_of_pos _ (by omega))) ?_
          walk_at "st"
          exact ⟨_, rfl, rfl⟩
        · walk_at "st"
          exact ⟨_, rfl, rfl⟩
      · rintro σ H3 ⟨cell, rfl, rfl⟩
        walk_at "st"
        refine Pm.w_len (.inl hS2) ?_
        walk_at "st"
        refine ⟨.inl ⟨rfl, _, SqL.of upd_same⟩, ?_⟩
        walk_at "st"
        refine Pm.w_append upd_same hz ?_
        walk_at "st"
        refine ⟨_, row ++ [_], _, _, _, rfl, by rw [List.length_append, hrow] <;> rfl, flow_more hb (Int.emod_nonneg _ (by decide)) (Int.emod_lt_of_pos _ (by decide)), fin _⟩
  · rintro σ H2 ⟨g, row, x4, x5, x6, rfl, hrow, hb, rfl⟩
    walk_at "st"
    exact q row _ p hrow hb (same_new hp _) hp upd_same
end
/-! ### is it an int -/
section
variable {P : Program} {w : World} {K : PySem.W.Frag} {mg : Str → Option Value} {base : Heap}
def spWhole : Sp := fun vs H Q _ => ∃ i : Int, vs = [.int i] ∧ Q (.bl true) H
theorem ok_law_whole (T : Tx K mg) : FnOk P w K mg base CX0 1 T.a_law_whole T.fd_law_whole ["_law_found"] spWhole := by
  refine T.F_law_whole.ok sc_law_whole (fun vs H Q E h => ?_) (fun cdv A outer s H vs Q E hr h => ?_)
  · obtain ⟨i, rfl, _⟩ := h
    rfl
  obtain ⟨i, rfl, q⟩ := h
  refine ⟨_, (pss_one (ps_ret ((pe_and (pe_callB (call_isK (K := K)) (by rfl) T.m_isinstance (by decide +kernel) (pa_cons (pv 0) (pa_cons (pe_bltn (v := .ty "int") (by rfl) T.m_int (by decide +kernel) rfl) pa_nil))) (pe_one (pe_not (pe_callB (call_isK (K := K)) (by rfl) T.m_isinstance (by decide +kernel) (pa_cons (pv 0) (pa_cons (pe_bltn (v := .ty "bool") (by rfl) T.m_bool (by decide +kernel) rfl) pa_nil))))))))), ?_⟩
  walk_at "st"
  refine Pm.w_isiInt (b := true) (by decide +kernel) ?_
  walk_at "st"
  refine Pm.w_isiInt (b := false) (by decide +kernel) ?_
  walk_at "st"
  exact q
end
/-! ### the drawn cutting -/
/-- a new pair -/
def PrNew (H : Hp) (p : IP) (Q : VK) : Prop := ∀ (t : Addr) (H' : Hp), Same H H' → H t = none → Pr H' (.ref t) p → Q (.ref t) H'
def spPair : Sp := fun vs H Q _ => ∃ a b : Int, vs = [.int a, .int b] ∧ PrNew H (tieOf a b) Q
theorem atI_prev {ns : List Int} {k : Int} (h0 : 0 ≤ k) (h : k < (ns.length : Int)) : atI (ns.map V.int) (k - 1) = some (.int (ns.getD ((k.toNat + ns.length - 1) % ns.length) 0)) := by
  by_cases c : k = 0
  · subst c
    have e : ((0 : Int).toNat + ns.length - 1) % ns.length = ns.length - 1 := by
      rw [show (0 : Int).toNat + ns.length - 1 = ns.length - 1 by omega]
      exact Nat.mod_eq_of_lt (by omega)
    rw [e]
    unfold atI ixN
    rw [if_neg (by omega), if_pos (by rw [List.length_map]; omega)]
    show (ns.map V.int)[(0 - 1 + ((ns.map V.int).length : Int)).toNat]? = _
    rw [show (0 - 1 + ((ns.map V.int).length : Int)).toNat = ns.length - 1 by rw [List.length_map]; omega, List.getElem?_map, List.getElem?_eq_getElem (by omega), List.getD_eq_getElem?_getD, List.getElem?_eq_getElem (by omega)] <;> rfl
  · have e : (k.toNat + ns.length - 1) % ns.length = (k - 1).toNat := by
      rw [show k.toNat + ns.length - 1 = (k - 1).toNat + ns.length by omega, Nat.add_mod_right]
      exact Nat.mod_eq_of_lt (by omega)
    rw [e]
    exact atI_int (by omega) (by omega)
section
variable {P : Program} {w : World} {K : PySem.W.Frag} {mg : Str → Option Value} {base : Heap}
theorem ok_law_pair (T : Tx K mg) : FnOk P w K mg base CX0 1 T.a_law_pair T.fd_law_pair ["_law_a", "_law_b"] spPair := by
  refine T.F_law_pair.ok sc_law_pair (fun vs H Q E h => ?_) (fun cdv A outer s H vs Q E hr h => ?_)
  · obtain ⟨a, b, rfl, _⟩ := h
    rfl
  obtain ⟨a, b, rfl, q⟩ := h
  refine ⟨_, (pss_one (ps_ret (pe_tup (pa_cons (pe_callB (c_min rfl) (by rfl) T.m_min (by decide +kernel) (pa_cons (pv 0) (pa_cons (pv 1) pa_nil))) (pa_cons (pe_callB (c_max rfl) (by rfl) T.m_max (by decide +kernel) (pa_cons (pv 0) (pa_cons (pv 1) pa_nil))) pa_nil))))), ?_⟩
  walk_at "st"
  refine Pm.w_newT (fun t ht => ?_)
  exact q t _ (same_new ht _) ht (pr_new upd_same)
def spEars (K : PySem.W.Frag) : Sp := fun vs H Q _ => ∃ (n : Nat) (r : Addr) (row : List Int), vs = [.int n, .ref r] ∧ SqL K H r (row.map V.int) ∧ 3 ≤ n ∧ n ≤ 12 ∧ n ≤ row.length + 3 ∧
  ∀ (p : Addr) (H' : Hp) (evs : List V) (es : List Ear), Same H H' → H p = none → H' p = some (.lst evs) → All2 (Er H') evs es → Ears (posts n) es → es.length + 3 = n → Q (.ref p) H'
theorem ok_law_ears (T : Tx K mg) : FnOk P w K mg base CX0 1 T.a_law_ears T.fd_law_ears ["_law_n", "_law_row"] (spEars K) := by
  refine T.F_law_ears.ok sc_law_ears (fun vs H Q E h => ?_) (fun cdv A outer s H vs Q E hr h => ?_)
  · obtain ⟨n, r, row, rfl, _⟩ := h
    rfl
  obtain ⟨n, r, row, rfl, hR, n3, n12, hrow, q⟩ := h
  refine ⟨_, (pss_cons (ps_setLc (i := 2) (own := [("_law_k", 3)]) (g := gName 3) (tt := tYes) rfl sc_law_ears.nd rfl rfl (sw_true rfl rfl rfl (by decide +kernel)) (pi_range1 (by rfl) T.m_range (pa_cons (pv 0) pa_nil)) (blkOk_by (N := N_law_ears) (sc := defScope s_law_ears) (by decide +kernel)) (fun _ _ _ _ _ => (pg_name (i := 3) sc_law_ears.nd rfl (.inl rfl))) (fun _ _ _ _ _ => pts_nil) (fun _ _ _ _ _ => (pv 3)))
      (pss_cons (ps_set (i := 4) sc_law_ears.nd rfl (.inl rfl) (pe_lst pa_nil))
      (pss_cons (ps_while PassesOwn.never (pt_cmpR op_gt (pe_callB (c_len (K := K)) (by rfl) T.m_len PySem.boot_len (pa_cons (pv 2) pa_nil)) (pe_int) (nomark _)) (pss_cons (ps_set (i := 3) sc_law_ears.nd rfl (.inl rfl) (pe_op op_mod (pe_ix (ix_listK (K := K)) (pv 1) (pe_callB (c_len (K := K)) (by rfl) T.m_len PySem.boot_len (pa_cons (pv 4) pa_nil)) (fun _ _ => rfl)) (pe_callB (c_len (K := K)) (by rfl) T.m_len PySem.boot_len (pa_cons (pv 2) pa_nil))))
      (pss_cons (ps_expr (k_bm (K := K) (pe_bm PySem.F.plainAttrs_list PySem.F.slot_list_append PySem.F.type_list_append mt_append (pv 4) (pa_cons (pe_tup (pa_cons (pe_ix (ix_listK (K := K)) (pv 2) (pv 3) (fun _ _ => rfl)) (pa_cons (pe_ix (ix_listK (K := K)) (pv 2) (pe_op op_sub (pv 3) (pe_int)) (fun _ _ => rfl)) (pa_cons (pe_ix (ix_listK (K := K)) (pv 2) (pe_op op_mod (pe_op op_add (pv 3) (pe_int)) (pe_callB (c_len (K := K)) (by rfl) T.m_len PySem.boot_len (pa_cons (pv 2) pa_nil))) (fun _ _ => rfl)) pa_nil)))) pa_nil))))
      (pss_one (ps_set (i := 2) sc_law_ears.nd rfl (.inl rfl) (pe_op op_cat (pe_slice (sl_listK (K := K)) (pv 2) po_none (po_some (pv 3))) (pe_slice (sl_listK (K := K)) (pv 2) (po_some (pe_op op_add (pv 3) (pe_int))) po_none)))))))
      (pss_one (ps_ret (pv 4)))))), ?_⟩
  walk_at "st"
  rw [Int.toNat_natCast]
  refine Pm.w_lcRm (R := In) in_mono (fun i : Nat => (i : Int)) (by omega) (fun D i H1 Nx hD hi s1 put => ?_) (fun D H1 ws hD s1 hd ha => ?_)
  · walk_at "st"
    exact put _ _ (Same.refl _) (by show V.int (0 + (i : Int)) = _; rw [Int.zero_add])
  have ew := ins_map ha
  subst ew
  walk_at "st"
  refine Pm.w_newL (fun e he => ?_)
  walk_at "st"
  have nD : e ≠ D := fun z => by subst z; rw [hd] at he; cases he
  have hD2 : (upd H1 e (.lst [])) D = some (.lst ((posts n).map V.int)) := by rw [upd_ne nD.symm]; exact hd
  have sE : Same H (upd H1 e (.lst [])) := s1.trans (same_new he _)
  have hHe : H e = none := s1.free he
  refine Pm.w_while (fun m σ H2 => ∃ (l : Addr) (L : List Int) (x : Option V) (evs : List V) (es : List Ear), σ = [some (.int n), some (.ref r), some (.ref l), x, some (.ref e)] ∧ H2 l = some (.lst (L.map V.int)) ∧ H2 e = some (.lst evs) ∧ All2 (Er H2) evs es ∧
    L.length + es.length = n ∧ 3 ≤ L.length ∧ (∀ es', Ears L es' → Ears (posts n) (es ++ es')) ∧ Same H H2 ∧ l ≠ e ∧ m = L.length) n ⟨D, posts n, _, [], [], rfl, hD2, upd_same, trivial, by rw [posts_len] <;> rfl, by rw [posts_len]; exact n3, fun _ h => h, sE, nD.symm, (posts_len n).symm⟩ ?_
  rintro m σ H2 ⟨l, L, x, evs, es, rfl, hl, hE, hA, hlen, hL3, hears, s2, nle, rfl⟩
  have hlL : (L.map V.int).length = L.length := List.length_map _
  have hR2 : SqL K H2 r (row.map V.int) := s2.seq hR
  have ale := hA.length
  walk_at "st"
  refine Pm.w_lenL (SqL.of hl) ?_
  walk_at "st"
  refine Pm.w_wh (fun c => ?_) (fun c => ?_)
  · rw [hlL] at c
    walk_at "st"
    refine Pm.w_lenL (SqL.of hE) ?_
    walk_at "st"
    refine Pm.w_ixL hR2 (atI_int (by omega) (by omega)) ?_
    walk_at "st"
    refine Pm.w_lenL (SqL.of hl) ?_
    rw [hlL]
    walk_at "st"
    generalize hk : row.getD (evs.length : Int).toNat 0 % (L.length : Int) = k
    have k0 : 0 ≤ k := by rw [← hk]; exact Int.emod_nonneg _ (by omega)
    have k1 : k < (L.length : Int) := by rw [← hk]; exact Int.emod_lt_of_pos _ (by omega)
    refine ⟨.inl ⟨rfl, _, SqL.of hE⟩, ?_⟩
    walk_at "st"
    refine Pm.w_ixL (SqL.of hl) (atI_int k0 k1) ?_
    walk_at "st"
    refine Pm.w_ixL (SqL.of hl) (atI_prev k0 k1) ?_
    walk_at "st"
    refine Pm.w_lenL (SqL.of hl) ?_
    rw [hlL]
    walk_at "st"
    refine Pm.w_ixL (SqL.of hl) (atI_int (Int.emod_nonneg _ (by omega)) (Int.emod_lt_of_pos _ (by omega))) ?_
    walk_at "st"
    refine Pm.w_newT (fun t ht => ?_)
    walk_at "st"
    have ek : ((k + 1) % (L.length : Int)).toNat = (k.toNat + 1) % L.length := by
      have e1 : k + 1 = ((k.toNat + 1 : Nat) : Int) := by omega
      rw [e1, ← Int.natCast_emod, Int.toNat_natCast]
    rw [ek]
    have nte : e ≠ t := ne_of_none hE ht
    have ntl : l ≠ t := ne_of_none hl ht
    refine Pm.w_append (by rw [upd_ne nte]; exact hE) (size_lt (by omega)) ?_
    walk_at "st"
    generalize hT : (V.ref t) = tv
    have hl3 : (upd (upd H2 t (.tup [.int (L.getD k.toNat 0), .int (L.getD ((k.toNat + L.length - 1) % L.length) 0), .int (L.getD ((k.toNat + 1) % L.length) 0)])) e (.lst (evs ++ [tv]))) l = some (.lst (L.map V.int)) := by
      rw [upd_ne nle, upd_ne ntl]; exact hl
    refine Pm.w_slL (SqL.of hl3) (fun p1 hp1 => ?_)
    rw [cut_take k0 (by rw [hlL]; omega)]
    walk_at "st"
    have np1 : l ≠ p1 := ne_of_none hl3 hp1
    refine Pm.w_slL (SqL.of (by rw [upd_ne np1]; exact hl3)) (fun p2 hp2 => ?_)
    have np12 : p1 ≠ p2 := ne_of_none upd_same hp2
    rw [cut_drop (by omega) (by rw [hlL]; omega)]
    refine Pm.w_cat (by rw [upd_ne np12]; exact upd_same) upd_same (size_ok (by rw [List.length_take, List.length_drop, hlL]; omega)) (fun p3 hp3 => ?_)
    walk_at "st"
    have eL : (L.map V.int).take k.toNat ++ (L.map V.int).drop (k + 1).toNat = (L.eraseIdx k.toNat).map V.int := by
      rw [List.eraseIdx_eq_take_drop_succ, List.map_append, List.map_take, List.map_drop, show (k + 1).toNat = k.toNat + 1 by omega]
    have hkL : k.toNat < L.length := by omega
    have leL : (L.eraseIdx k.toNat).length = L.length - 1 := List.length_eraseIdx_of_lt hkL
    have kk : Keeps H2 (upd (upd H2 t (.tup [.int (L.getD k.toNat 0), .int (L.getD ((k.toNat + L.length - 1) % L.length) 0), .int (L.getD ((k.toNat + 1) % L.length) 0)])) e (.lst (evs ++ [tv]))) := (keeps (same_new ht _)).trans (keeps_lst (xs := evs) (by rw [upd_ne nte]; exact hE))
    have sF : Same (upd (upd H2 t (.tup [.int (L.getD k.toNat 0), .int (L.getD ((k.toNat + L.length - 1) % L.length) 0), .int (L.getD ((k.toNat + 1) % L.length) 0)])) e (.lst (evs ++ [tv]))) (upd (upd (upd (upd (upd H2 t (.tup [.int (L.getD k.toNat 0), .int (L.getD ((k.toNat + L.length - 1) % L.length) 0), .int (L.getD ((k.toNat + 1) % L.length) 0)])) e (.lst (evs ++ [tv]))) p1 (.lst (List.take k.toNat (List.map V.int L)))) p2 (.lst (List.drop (k + 1).toNat (List.map V.int L)))) p3 (.lst (List.take k.toNat (List.map V.int L) ++ List.drop (k + 1).toNat (List.map V.int L)))) :=
      (same_new hp1 _).trans ((same_new hp2 _).trans (same_new hp3 _))
    refine ⟨L.length - 1, by omega, p3, L.eraseIdx k.toNat, _, evs ++ [tv], es ++ [(L.getD k.toNat 0, L.getD ((k.toNat + L.length - 1) % L.length) 0, L.getD ((k.toNat + 1) % L.length) 0)], rfl, by rw [upd_same, eL], sF _ _ upd_same, ?_, ?_, by omega, fun es' h' => ?_, ?_, ?_, leL.symm⟩
    · refine (hA.mono fun _ _ r => er_mono _ _ _ _ (kk.trans (keeps sF)) r).snoc (er_mono _ _ _ _ (keeps sF) ⟨t, hT.symm, ?_⟩)
      rw [upd_ne nte.symm, upd_same]
    · rw [leL, List.length_append, List.length_singleton]; omega
    · rw [List.append_assoc]
      exact hears _ (Ears.step k.toNat (by omega) hkL h')
    · exact (same_but hHe (s2.trans (same_new ht _))).trans sF
    · exact fun z => by
        have : e ≠ p3 := ne_of_none (o := .lst (evs ++ [tv])) (((same_new hp1 _).trans (same_new hp2 _)) _ _ upd_same) hp3
        exact this z.symm
  · rw [hlL] at c
    walk_at "st"
    have h0 : Ears L [] := .done (by omega)
    have h1 := hears _ h0
    rw [List.append_nil] at h1
    exact q e H2 evs es s2 hHe hE hA h1 (by omega)
def spRopes (K : PySem.W.Frag) : Sp := fun vs H Q _ => ∃ (r : Addr) (evs : List V) (es : List Ear), vs = [.ref r] ∧ SqL K H r evs ∧ All2 (Er H) evs es ∧ es.length ≤ 1000 ∧ PLNew H (sortP (es.map ropeOf)) Q
theorem ok_law_ropes (T : Tx K mg) : FnOk P w K mg base CX0 2 T.a_law_ropes T.fd_law_ropes ["_law_ears_here"] (spRopes K) := by
  refine T.F_law_ropes.ok sc_law_ropes (fun vs H Q E h => ?_) (fun cdv A outer s H vs Q E hr h => ?_)
  · obtain ⟨r, evs, es, rfl, _⟩ := h
    rfl
  obtain ⟨r, evs, es, rfl, hR, hA, hn, q⟩ := h
  refine ⟨_, (pss_one (ps_ret (pe_callB (cr_sortK (K := K)) (by rfl) T.m_sorted (by decide +kernel) (pa_cons (pe_lc (own := [("_law_ear", 1)]) (g := gName 1) (tt := tYes) rfl sc_law_ropes.nd (k_il (K := K) (pi_list (pv 0))) (blkOk_by (N := N_law_ropes) (sc := defScope s_law_ropes) (by decide +kernel)) (fun _ _ _ _ _ => (pg_name (i := 1) sc_law_ropes.nd rfl (.inl rfl))) (fun _ _ _ _ _ => pts_nil) (fun _ _ _ _ _ => (pe_call (ok_law_pair T) (hr.mono (by decide)) (by rfl) T.g_law_pair T.F_law_pair.kp T.b_law_pair .nil pass0 (pa_cons (pe_ix (ix_tupK (K := K)) (pv 1) (pe_int) (fun _ _ => rfl)) (pa_cons (pe_ix (ix_tupK (K := K)) (pv 1) (pe_int) (fun _ _ => rfl)) pa_nil))))) pa_nil)))), ?_⟩
  walk_at "st"
  refine Pm.w_rdL hR ?_
  refine Pm.w_lcLf (R := Pr) pr_mono (S := Er) er_mono hR hA ropeOf (fun _ => true) (by omega) (fun D x c H1 Nx hD hc hs s1 put skip => ?_) (fun D H1 ws hD s1 hd ha => ?_)
  · obtain ⟨t, rfl, ht⟩ := hs
    walk_at "st"
    refine Pm.w_ixT (SqT.of ht) (show atI [V.int c.1, V.int c.2.1, V.int c.2.2] 1 = some (V.int c.2.1) from rfl) ?_
    walk_at "st"
    refine Pm.w_ixT (SqT.of ht) (show atI [V.int c.1, V.int c.2.1, V.int c.2.2] 2 = some (V.int c.2.2) from rfl) ?_
    walk_at "st"
    exact ⟨_, _, rfl, fun u H2 s2 nu hu => put _ _ rfl s2 hu⟩
  · rw [List.filter_eq_self.mpr (fun _ _ => rfl)] at ha
    walk_at "st"
    refine Pm.w_sortP (SqL.of hd) ha (fun ys p hp hy => ?_)
    exact q p _ ys (s1.trans (same_new hp _)) (s1.free hp) upd_same (prs_keep (keeps (same_new hp _)) hy)
end
/-! ### ties -/
section
variable {P : Program} {w : World} {K : PySem.W.Frag} {mg : Str → Option Value} {base : Heap}
theorem ok_tie_of (T : Tx K mg) : FnOk P w K mg base CX0 1 T.a_tie_of T.fd_tie_of ["a", "b"] spPair := by
  refine T.F_tie_of.ok sc_tie_of (fun vs H Q E h => ?_) (fun cdv A outer s H vs Q E hr h => ?_)
  · obtain ⟨a, b, rfl, _⟩ := h
    rfl
  obtain ⟨a, b, rfl, q⟩ := h
  refine ⟨_, (pss_one (ps_ret (pe_tup (pa_cons (pe_callB (c_min rfl) (by rfl) T.m_min (by decide +kernel) (pa_cons (pv 0) (pa_cons (pv 1) pa_nil))) (pa_cons (pe_callB (c_max rfl) (by rfl) T.m_max (by decide +kernel) (pa_cons (pv 0) (pa_cons (pv 1) pa_nil))) pa_nil))))), ?_⟩
  walk_at "st"
  refine Pm.w_newT (fun t ht => ?_)
  exact q t _ (same_new ht _) ht (pr_new upd_same)
end
section
variable {P : Program} {w : World} {K : PySem.W.Frag} {mg : Str → Option Value} {base : Heap}
def spSides : Sp := fun vs H Q _ => ∃ n : Nat, vs = [.int n] ∧ 1 ≤ n ∧ n ≤ 1000 ∧ PLNew H (sidesL n) Q
theorem ok_sides (T : Tx K mg) : FnOk P w K mg base CX0 1 T.a_sides T.fd_sides ["n"] spSides := by
  refine T.F_sides.ok sc_sides (fun vs H Q E h => ?_) (fun cdv A outer s H vs Q E hr h => ?_)
  · obtain ⟨n, rfl, _⟩ := h
    rfl
  obtain ⟨n, rfl, n1, n2, q⟩ := h
  refine ⟨_, (pss_one (ps_ret (pe_callB (cr_sortK (K := K)) (by rfl) T.m_sorted (by decide +kernel) (pa_cons (pe_op op_cat (pe_lc (own := [("k", 1)]) (g := gName 1) (tt := tYes) rfl sc_sides.nd (pi_range1 (by rfl) T.m_range (pa_cons (pe_op op_sub (pv 0) (pe_int)) pa_nil)) (blkOk_by (N := N_sides) (sc := defScope s_sides) (by decide +kernel)) (fun _ _ _ _ _ => (pg_name (i := 1) sc_sides.nd rfl (.inl rfl))) (fun _ _ _ _ _ => pts_nil) (fun _ _ _ _ _ => (pe_tup (pa_cons (pv 1) (pa_cons (pe_op op_add (pv 1) (pe_int)) pa_nil))))) (pe_lst (pa_cons (pe_tup (pa_cons (pe_int) (pa_cons (pe_op op_sub (pv 0) (pe_int)) pa_nil))) pa_nil))) pa_nil)))), ?_⟩
  walk_at "st"
  have en : ((n : Int) - 1).toNat = n - 1 := by omega
  rw [en]
  refine Pm.w_lcRm (R := Pr) pr_mono (fun k : Nat => ((k : Int), (k : Int) + 1)) (by omega) (fun D i H1 Nx hD hi s1 put => ?_) (fun D H1 ws hD s1 hd ha => ?_)
  · walk_at "st"
    refine Pm.w_newT (fun t ht => ?_)
    refine put _ _ (same_new ht _) ⟨t, rfl, ?_⟩
    rw [upd_same, Int.zero_add]
  · walk_at "st"
    refine Pm.w_newT (fun t ht => ?_)
    walk_at "st"
    refine Pm.w_newL (fun l hl => ?_)
    have nD : D ≠ l := ne_of_none (o := .lst ws) ((same_new ht _) _ _ hd) hl
    have hlen := ha.length
    rw [List.length_map, List.length_range] at hlen
    refine Pm.w_cat (by rw [upd_ne nD, upd_ne (ne_of_none hd ht)]; exact hd) upd_same (size_ok (by rw [hlen, List.length_singleton]; omega)) (fun p hp => ?_)
    have k1 : Keeps H1 (upd (upd (upd H1 t (.tup [.int 0, .int ((n : Int) - 1)])) l (.lst [.ref t])) p (.lst (ws ++ [.ref t]))) := keeps ((same_new ht _).trans ((same_new hl _).trans (same_new hp _)))
    refine Pm.w_sortP (ps := sides0 n) (SqL.of upd_same) ((prs_keep k1 ha).append ⟨⟨t, rfl, ?_⟩, trivial⟩) (fun ys p2 hp2 hy => ?_)
    · exact ((same_new hl _).trans (same_new hp _)) _ _ upd_same
    · have s2 := s1.trans ((same_new ht _).trans ((same_new hl _).trans (same_new hp (.lst (ws ++ [.ref t])))))
      exact q p2 _ ys (s2.trans (same_new hp2 _)) (s2.free hp2) upd_same (prs_keep (keeps (same_new hp2 _)) hy)
end
section
variable {P : Program} {w : World} {K : PySem.W.Frag} {mg : Str → Option Value} {base : Heap}
def spTies : Sp := fun vs H Q _ => ∃ (n : Nat) (c : Addr) (cut : List IP), vs = [.int n, .ref c] ∧ 1 ≤ n ∧ n ≤ 1000 ∧ PLt H c cut ∧ cut.length ≤ 1000 ∧ PLNew H (tiesL n cut) Q
theorem ok_ties (T : Tx K mg) : FnOk P w K mg base CX0 2 T.a_ties T.fd_ties ["n", "cut"] spTies := by
  refine T.F_ties.ok sc_ties (fun vs H Q E h => ?_) (fun cdv A outer s H vs Q E hr h => ?_)
  · obtain ⟨n, c, cut, rfl, _⟩ := h
    rfl
  obtain ⟨n, c, cut, rfl, n1, n2, ⟨cvs, hc, pc⟩, cl, q⟩ := h
  refine ⟨_, (pss_one (ps_ret (pe_callB (cr_sortK (K := K)) (by rfl) T.m_sorted (by decide +kernel) (pa_cons (pe_op op_cat (pe_call (ok_sides T) (hr.mono (by decide)) (by rfl) T.g_sides T.F_sides.kp T.b_sides .nil pass0 (pa_cons (pv 0) pa_nil)) (pv 1)) pa_nil)))), ?_⟩
  walk_at "st"
  refine ⟨n, rfl, n1, n2, fun p H1 ws s1 np hp ha => ?_⟩
  walk_at "st"
  have l1 := ha.length
  rw [sidesL, sortP_len, sides0_len n1] at l1
  have l2 := pc.length
  refine Pm.w_cat hp (s1 _ _ hc) (size_ok (by omega)) (fun l hl => ?_)
  have k1 := keeps (same_new hl (.lst (ws ++ cvs)))
  refine Pm.w_sortP (SqL.of upd_same) ((prs_keep k1 ha).append (prs_keep ((keeps s1).trans k1) pc)) (fun ys p2 hp2 hy => ?_)
  rw [tiesL_eq] at hy
  have s2 := s1.trans (same_new hl (.lst (ws ++ cvs)))
  exact q p2 _ ys (s2.trans (same_new hp2 _)) (s2.free hp2) upd_same (prs_keep (keeps (same_new hp2 _)) hy)
end
/-- a pair as a key -/
def pk (p : IP) : List L2.Key := [Sum.inl p.1, Sum.inl p.2]
theorem pk_inj {p q : IP} (h : pk p = pk q) : p = q := by
  obtain ⟨a, b⟩ := p
  obtain ⟨c, d⟩ := q
  unfold pk at h
  injection h with h1 h2
  injection h2 with h2 _
  simp only at h1 h2
  rw [Sum.inl.inj h1, Sum.inl.inj h2]
theorem Pr.key {H : Hp} {t : Addr} {p : IP} (h : Pr H (.ref t) p) : H t = some (.tup ((pk p).map kV)) := by
  obtain ⟨u, e, hu⟩ := h
  cases e
  exact hu
section
variable {P : Program} {w : World} {K : PySem.W.Frag} {mg : Str → Option Value} {base : Heap}
def spPlots : Sp := fun vs H Q _ => ∃ (n : Nat) (c : Addr) (cut : List IP), vs = [.int n, .ref c] ∧ 1 ≤ n ∧ n ≤ 1000 ∧ PLt H c cut ∧ cut.length ≤ 1000 ∧ (∀ p ∈ tiesL n cut, -1000 ≤ p.2 ∧ p.2 ≤ 1000) ∧ (plots0 n (tiesL n cut) (tiesL n cut)).length ≤ 1000 ∧
  ∀ (p : Addr) (H' : Hp) (ws : List V), Same H H' → H p = none → H' p = some (.lst ws) → All2 (Er H') ws (plotsL n cut) → Q (.ref p) H'
theorem above_more (n : Nat) (T : List IP) (p : IP) (i : Nat) : ((List.range (i + 1)).filter fun i : Nat => decide ((p.1, p.2 + 1 + (i : Int)) ∈ T) && decide ((p.2, p.2 + 1 + (i : Int)) ∈ T)) = ((List.range i).filter fun i : Nat => decide ((p.1, p.2 + 1 + (i : Int)) ∈ T) && decide ((p.2, p.2 + 1 + (i : Int)) ∈ T)) ++ (if (p.1, p.2 + 1 + (i : Int)) ∈ T ∧ (p.2, p.2 + 1 + (i : Int)) ∈ T then [i] else []) := by
  rw [List.range_succ, List.filter_append]
  congr 1
  by_cases h1 : (p.1, p.2 + 1 + (i : Int)) ∈ T <;> by_cases h2 : (p.2, p.2 + 1 + (i : Int)) ∈ T <;> simp [h1, h2]
theorem plots0_app (n : Nat) (T S R : List IP) : plots0 n T (S ++ R) = plots0 n T S ++ plots0 n T R := by unfold plots0; rw [List.flatMap_append]
theorem plots0_one (n : Nat) (T : List IP) (p : IP) : plots0 n T [p] = (above n T p).map fun i : Nat => (p.1, p.2, p.2 + 1 + (i : Int)) := by unfold plots0; rw [List.flatMap_singleton]
theorem plots0_le (n : Nat) (T S R : List IP) : (plots0 n T S).length ≤ (plots0 n T (S ++ R)).length := by rw [plots0_app, List.length_append]; omega
theorem ok_plots (T : Tx K mg) : FnOk P w K mg base CX0 3 T.a_plots T.fd_plots ["n", "cut"] spPlots := by
  refine T.F_plots.ok sc_plots (fun vs H Q E h => ?_) (fun cdv A outer s H vs Q E hr h => ?_)
  · obtain ⟨n, c, cut, rfl, _⟩ := h
    rfl
  obtain ⟨n, c, cut, rfl, n1, n2, hc, cl, hbd, hpl, q⟩ := h
  refine ⟨_, (pss_cons (ps_set (i := 2) sc_plots.nd rfl (.inl rfl) (pe_dnewT))
      (pss_cons (ps_for PassesOwn.never rfl (k_il (K := K) (pi_list (pe_call (ok_ties T) (hr.mono (by decide)) (by rfl) T.g_ties T.F_ties.kp T.b_ties .nil pass0 (pa_cons (pv 0) (pa_cons (pv 1) pa_nil))))) (pg_name (i := 3) sc_plots.nd rfl (.inl rfl)) (pss_one (ps_dput (hu_of hr) (pv 2) (pv 3) (pe_bl) rfl)))
      (pss_cons (ps_set (i := 4) sc_plots.nd rfl (.inl rfl) (pe_lst pa_nil))
      (pss_cons (ps_for PassesOwn.never rfl (k_il (K := K) (pi_list (pe_call (ok_ties T) (hr.mono (by decide)) (by rfl) T.g_ties T.F_ties.kp T.b_ties .nil pass0 (pa_cons (pv 0) (pa_cons (pv 1) pa_nil))))) (k_gt (K := K) (pg_tup (by rfl) (pgs_cons (pg_name (i := 5) sc_plots.nd rfl (.inl rfl)) (pgs_cons (pg_name (i := 6) sc_plots.nd rfl (.inl rfl)) pgs_nil)))) (pss_one (ps_for PassesOwn.never rfl (pi_range2 (by rfl) T.m_range (pa_cons (pe_op op_add (pv 6) (pe_int)) (pa_cons (pv 0) pa_nil))) (pg_name (i := 7) sc_plots.nd rfl (.inl rfl)) (pss_one (ps_if (PW.pt (pw_and (pt_cmp (pc_din (hu_of hr) (pe_tup (pa_cons (pv 5) (pa_cons (pv 7) pa_nil))) (pv 2))) (pw_and1 (pt_cmp (pc_din (hu_of hr) (pe_tup (pa_cons (pv 6) (pa_cons (pv 7) pa_nil))) (pv 2)))))) (pss_one (ps_expr (k_bm (K := K) (pe_bm PySem.F.plainAttrs_list PySem.F.slot_list_append PySem.F.type_list_append mt_append (pv 4) (pa_cons (pe_tup (pa_cons (pv 5) (pa_cons (pv 6) (pa_cons (pv 7) pa_nil)))) pa_nil))))) pss_nil)))))
      (pss_one (ps_ret (pe_callB (cr_sortN (K := K) hr.u40) (by rfl) T.m_sorted (by decide +kernel) (pa_cons (pv 4) pa_nil)))))))), ?_⟩
  walk_at "st"
  refine Pm.w_dnewT (fun d hd => ?_)
  walk_at "st"
  have s1 := same_new hd (.dT [])
  have tlen : (tiesL n cut).length ≤ 3000 := by rw [tiesL, sortP_len, List.length_append, sides0_len n1]; omega
  refine ⟨n, c, cut, rfl, n1, n2, hc.same s1, cl, fun l H1 tvs s2 nl hl ha => ?_⟩
  walk_at "st"
  refine Pm.w_rdL (SqL.of hl) ?_
  have hd1 : H1 d = some (.dT []) := s2 _ _ upd_same
  refine Pm.w_forL (xs := tvs) (fun i σ H2 => ∃ x kvs, σ = [some (.int n), some (.ref c), some (.ref d), x, none, none, none, none] ∧ Same H H2 ∧ H2 l = some (.lst tvs) ∧ Prs H2 tvs (tiesL n cut) ∧ H2 d = some (.dT kvs) ∧ kvs.length ≤ i ∧ ∀ p : IP, (valV kvs (pk p)).isSome = decide (p ∈ (tiesL n cut).take i)) ?_ (fun i σ H2 _ ⟨x, kvs, _, _, h2, _⟩ => SqL.of h2) ?_ ?_
  · exact ⟨_, [], rfl, s1.trans s2, hl, ha, hd1, Nat.le_refl _, fun p => by rw [List.take_zero]; rfl⟩
  · rintro i x σ H2 hx ⟨y, kvs, rfl, sm, hl2, ha2, hd2, hk, hv⟩
    obtain ⟨p, hp, t, rfl, ht⟩ := ha2.get hx
    have hi : i < (tiesL n cut).length := (List.getElem?_eq_some_iff.mp hp).1
    walk_at "st"
    refine Pm.w_dpT hd2 (Pr.key ⟨t, rfl, ht⟩) (size_lt (by omega)) ?_
    have kd := keeps_dT (ys := putK kvs (pk p) (.bl true)) hd2
    have nld : l ≠ d := fun z => by subst z; rw [hl2] at hd2; cases hd2
    refine ⟨_, _, rfl, same_but hd sm, by rw [upd_ne nld]; exact hl2, prs_keep kd ha2, upd_same, Nat.le_trans (putK_len _ _ _) (by omega), fun p' => ?_⟩
    rw [valV_put, take_snoc hp]
    by_cases e : pk p' = pk p
    · rw [if_pos e, pk_inj e]
      simp
    · rw [if_neg e, hv]
      have : p' ≠ p := fun z => e (by rw [z])
      simp [this]
  · rintro σ H2 ⟨y, kvs, rfl, sm, hl2, ha2, hd2, hk, hv⟩
    rw [ha2.length, List.take_length] at hv
    clear hk
    walk_at "st"
    refine Pm.w_newL (fun f hf => ?_)
    walk_at "st"
    have s3 := same_new hf (.lst [])
    have hHf : H f = none := sm.free hf
    have hHd : H d = none := hd
    refine ⟨n, c, cut, rfl, n1, n2, hc.same (sm.trans s3), cl, fun l' H3 tvs' s4 nl' hl' ha' => ?_⟩
    walk_at "st"
    refine Pm.w_rdL (SqL.of hl') ?_
    have nlf : l' ≠ f := fun z => by subst z; rw [upd_same] at nl'; cases nl'
    have ndf : d ≠ f := ne_of_none hd2 hf
    have hlen' := ha'.length
    refine Pm.w_forL (xs := tvs') (fun i σ H4 => ∃ x a b c', σ = [some (.int n), some (.ref c), some (.ref d), x, some (.ref f), a, b, c'] ∧ Same H H4 ∧ H4 l' = some (.lst tvs') ∧ Prs H4 tvs' (tiesL n cut) ∧ H4 d = some (.dT kvs) ∧ ∃ fvs, H4 f = some (.lst fvs) ∧ All2 (Er H4) fvs (plots0 n (tiesL n cut) ((tiesL n cut).take i))) ?_ (fun i σ H4 _ ⟨x, a, b, c', _, _, h2, _⟩ => SqL.of h2) ?_ ?_
    · exact ⟨_, _, _, _, rfl, sm.trans (s3.trans s4), hl', ha', s4 _ _ (s3 _ _ hd2), [], s4 _ _ upd_same, trivial⟩
    · rintro i x σ H4 hx ⟨y1, y2, y3, y4, rfl, sm4, hl4, ha4, hd4, fvs, hf4, hA4⟩
      obtain ⟨p, hp, t, rfl, ht⟩ := ha4.get hx
      have hpm : p ∈ tiesL n cut := List.mem_of_getElem? hp
      have pb := hbd p hpm
      walk_at "st"
      refine Pm.w_gtup (SqT.of ht) rfl ?_
      walk_at "st"
      refine Pm.w_forR (fun j σ H5 => ∃ z, σ = [some (.int n), some (.ref c), some (.ref d), y1, some (.ref f), some (.int p.1), some (.int p.2), z] ∧ Same H H5 ∧ H5 l' = some (.lst tvs') ∧ Prs H5 tvs' (tiesL n cut) ∧ H5 d = some (.dT kvs) ∧ ∃ fvs, H5 f = some (.lst fvs) ∧ All2 (Er H5) fvs (plots0 n (tiesL n cut) ((tiesL n cut).take i) ++
        ((List.range j).filter fun i : Nat => decide ((p.1, p.2 + 1 + (i : Int)) ∈ tiesL n cut) && decide ((p.2, p.2 + 1 + (i : Int)) ∈ tiesL n cut)).map fun i : Nat => (p.1, p.2, p.2 + 1 + (i : Int)))) ?_ ?_ ?_
      · exact ⟨_, rfl, sm4, hl4, ha4, hd4, fvs, hf4, by rw [List.range_zero, List.filter_nil, List.map_nil, List.append_nil]; exact hA4⟩
      · rintro j σ H5 hj ⟨z, rfl, sm5, hl5, ha5, hd5, fvs5, hf5, hA5⟩
        have fin : ∀ H6, Same H5 H6 → ¬ ((p.1, p.2 + 1 + (j : Int)) ∈ tiesL n cut ∧ (p.2, p.2 + 1 + (j : Int)) ∈ tiesL n cut) → ∃ z, ([some (.int n), some (.ref c), some (.ref d), y1, some (.ref f), some (.int p.1), some (.int p.2), some (.int (p.2 + 1 + (j : Int)))] : L2.St) = [some (.int n), some (.ref c), some (.ref d), y1, some (.ref f), some (.int p.1), some (.int p.2), z] ∧ Same H H6 ∧ H6 l' = some (.lst tvs') ∧ Prs H6 tvs' (tiesL n cut) ∧ H6 d = some (.dT kvs) ∧ ∃ fvs, H6 f = some (.lst fvs) ∧ All2 (Er H6) fvs (plots0 n (tiesL n cut) ((tiesL n cut).take i) ++
        ((List.range (j + 1)).filter fun i : Nat => decide ((p.1, p.2 + 1 + (i : Int)) ∈ tiesL n cut) && decide ((p.2, p.2 + 1 + (i : Int)) ∈ tiesL n cut)).map fun i : Nat => (p.1, p.2, p.2 + 1 + (i : Int))) := fun H6 s6 hno => by
          refine ⟨_, rfl, sm5.trans s6, s6 _ _ hl5, prs_keep (keeps s6) ha5, s6 _ _ hd5, fvs5, s6 _ _ hf5, ?_⟩
          rw [above_more n, if_neg hno, List.append_nil]
          exact hA5.mono fun _ _ r => er_mono _ _ _ _ (keeps s6) r
        walk_at "st"
        refine Pm.w_newT (fun u hu => ?_)
        walk_at "st"
        have s6 := same_new hu (.tup [.int p.1, .int (p.2 + 1 + (j : Int))])
        refine Pm.w_diT (k := pk (p.1, p.2 + 1 + (j : Int))) (s6 _ _ hd5) upd_same ?_
        rw [hv]
        walk_at "st"
        refine Pm.w_ite (fun e1 => ?_) (fun e1 => ?_)
        · walk_at "st"
          refine Pm.w_newT (fun u2 hu2 => ?_)
          walk_at "st"
          have s7 := same_new hu2 (.tup [.int p.2, .int (p.2 + 1 + (j : Int))])
          have s67 := s6.trans s7
          refine Pm.w_diT (k := pk (p.2, p.2 + 1 + (j : Int))) (s67 _ _ hd5) upd_same ?_
          rw [hv]
          walk_at "st"
          refine Pm.w_ite (fun e2 => ?_) (fun e2 => ?_)
          · walk_at "st"
            refine ⟨.inl ⟨rfl, _, SqL.of (s67 _ _ hf5)⟩, ?_⟩
            walk_at "st"
            refine Pm.w_newT (fun u3 hu3 => ?_)
            have s8 := same_new hu3 (.tup [.int p.1, .int p.2, .int (p.2 + 1 + (j : Int))])
            have s58 := s67.trans s8
            have lA := hA5.length
            have lz : fvs5.length < 16777216 := by
              rw [lA, List.length_append, List.length_map]
              have l1 := plots0_le n (tiesL n cut) ((tiesL n cut).take i) ((tiesL n cut).drop i)
              rw [List.take_append_drop] at l1
              have l2 := List.length_filter_le (fun i : Nat => decide ((p.1, p.2 + 1 + (i : Int)) ∈ tiesL n cut) && decide ((p.2, p.2 + 1 + (i : Int)) ∈ tiesL n cut)) (List.range j)
              rw [List.length_range] at l2
              omega
            walk_at "st"
            refine Pm.w_append (s58 _ _ hf5) (size_lt lz) ?_
            have k9 := (keeps s58).trans (keeps_lst (ys := fvs5 ++ [.ref u3]) (s58 _ _ hf5))
            have nuf : u3 ≠ f := fun z => by subst z; rw [s67 _ _ hf5] at hu3; cases hu3
            walk_at "st"
            refine ⟨_, rfl, same_but hHf (sm5.trans s58), by rw [upd_ne nlf]; exact s58 _ _ hl5, prs_keep k9 ha5, by rw [upd_ne ndf]; exact s58 _ _ hd5, _, upd_same, ?_⟩
            rw [above_more n, if_pos ⟨e1, e2⟩, List.map_append, ← List.append_assoc]
            refine (hA5.mono fun _ _ r => er_mono _ _ _ _ k9 r).snoc ⟨u3, rfl, ?_⟩
            rw [upd_ne nuf, upd_same]
          · walk_at "st"
            exact fin _ s67 (fun z => e2 z.2)
        · walk_at "st"
          exact fin _ s6 (fun z => e1 z.1)
      · rintro σ H5 ⟨z, rfl, sm5, hl5, ha5, hd5, fvs5, hf5, hA5⟩
        refine ⟨_, _, _, _, rfl, sm5, hl5, ha5, hd5, fvs5, hf5, ?_⟩
        rw [take_snoc hp, plots0_app, plots0_one]
        exact hA5
    · rintro σ H4 ⟨y1, y2, y3, y4, rfl, sm4, hl4, ha4, hd4, fvs, hf4, hA4⟩
      rw [hlen', List.take_length] at hA4
      walk_at "st"
      refine Pm.w_sort3 (SqL.of hf4) hA4 (fun ys p hp hy => ?_)
      exact q p _ ys (sm4.trans (same_new hp _)) (sm4.free hp) upd_same (hy.mono fun _ _ r => er_mono _ _ _ _ (keeps (same_new hp _)) r)
end
/-! ### the greatest measure, the fraction of two numbers -/
section
variable {P : Program} {w : World} {K : PySem.W.Frag} {mg : Str → Option Value} {base : Heap}
def spMeasure : Sp := fun vs H Q _ => ∃ a b : Int, vs = [.int a, .int b] ∧ Q (.int ((Int.gcd a b : Nat) : Int)) H
theorem ok_measure (T : Tx K mg) : FnOk P w K mg base CX0 1 T.a_measure T.fd_measure ["one", "other"] spMeasure := by
  refine T.F_measure.ok sc_measure (fun vs H Q E h => ?_) (fun cdv A outer s H vs Q E hr h => ?_)
  · obtain ⟨a, b, rfl, _⟩ := h
    rfl
  obtain ⟨a, b, rfl, q⟩ := h
  refine ⟨_, (pss_cons (ps_set (i := 0) sc_measure.nd rfl (.inl rfl) (pe_callB c_abs (by rfl) T.m_abs (by decide +kernel) (pa_cons (pv 0) pa_nil)))
      (pss_cons (ps_set (i := 1) sc_measure.nd rfl (.inl rfl) (pe_callB c_abs (by rfl) T.m_abs (by decide +kernel) (pa_cons (pv 1) pa_nil)))
      (pss_cons (ps_while PassesOwn.never (pt_cmpR op_gt (pv 1) (pe_int) (nomark _)) (pss_one (ps_par (i := 0) (j := 1) (by rfl) sc_measure.nd rfl rfl (by decide) rfl rfl (pa_cons (pv 1) (pa_cons (pe_op op_mod (pv 0) (pv 1)) pa_nil)) (by rfl))))
      (pss_one (ps_ret (pv 0)))))), ?_⟩
  walk_at "st"
  refine Pm.w_while (fun m σ H' => ∃ x y : Nat, σ = [some (.int x), some (.int y)] ∧ m = y ∧ Nat.gcd x y = Int.gcd a b ∧ H' = H) _ ⟨(if a < 0 then -a else a).natAbs, (if b < 0 then -b else b).natAbs, ?_, rfl, gcd_abs a b, rfl⟩ ?_
  · have e : ∀ c : Int, (if c < 0 then -c else c) = (((if c < 0 then -c else c).natAbs : Nat) : Int) := fun c => by split <;> omega
    show [some (V.int (if a < 0 then -a else a)), some (V.int (if b < 0 then -b else b))] = _
    rw [← e a, ← e b]
  · rintro m σ H' ⟨x, y, rfl, rfl, hg, rfl⟩
    walk_at "st"
    refine Pm.w_wh (fun c => ?_) (fun c => ?_)
    · walk_at "st"
      exact ⟨_, Nat.mod_lt x (by omega), m, x % m, rfl, rfl, by rw [gcd_turn x m (by omega)]; exact hg, rfl⟩
    · have e : m = 0 := by omega
      subst e
      rw [Nat.gcd_zero_right] at hg
      rw [hg]
      walk_at "st"
      exact q
def spLowest (C : Addr) : Sp := fun vs H Q E => ∃ (a b : Int) (n : Nat), vs = [.int a, .int b] ∧ b.natAbs < 2 ^ n ∧ n ≤ 9000 ∧ (b = 0 → E (.ref C) none H) ∧ (b ≠ 0 → FrNew H (Rat.divInt a b) Q)
theorem ok_lowest (T : Tx K mg) : FnOk P w K mg base (L2.CX P w) 2 T.a_lowest T.fd_lowest ["top", "bottom"] (spLowest T.c_NoFraction) := by
  refine T.F_lowest.okX sc_lowest (fun vs H Q E h => ?_) (fun cdv A outer s H vs Q E hr h => ?_)
  · obtain ⟨a, b, n, rfl, _⟩ := h
    rfl
  obtain ⟨a, b, n, rfl, hn, hn9, hE, q⟩ := h
  refine ⟨_, (pss_cons (ps_if (pt_cmpR op_eq (pv 1) (pe_int) (nomark _)) (pss_one (ps_raise rfl (takes_of rfl rfl rfl rfl) (pmk_own PySem.F.excBase_ValueError T.x_NoFraction T.g_NoFraction T.k_NoFraction (raises_own T.b_NoFraction T.t_NoFraction) rfl))) pss_nil)
      (C8.pss_cut (ps_if (pt_cmpR op_lt (pv 1) (pe_int) (nomark _)) (pss_cons (ps_set (i := 0) sc_lowest.nd rfl (.inl rfl) (pe_un un_neg (pv 0)))
      (pss_one (ps_set (i := 1) sc_lowest.nd rfl (.inl rfl) (pe_un un_neg (pv 1))))) pss_nil)
      (pss_cons (ps_set (i := 2) sc_lowest.nd rfl (.inl rfl) (pe_call (ok_measure T) (hr.mono (by decide)) (by rfl) T.g_measure T.F_measure.kp T.b_measure .nil pass0 (pa_cons (pv 0) (pa_cons (pv 1) pa_nil))))
      (pss_one (ps_ret (pe_tup (pa_cons (pe_op op_fdivW (pv 0) (pv 2)) (pa_cons (pe_op op_fdivW (pv 1) (pv 2)) pa_nil)))))))), ?_⟩
  walk_at "st"
  refine Pm.w_ite (fun c => ?_) (fun c => ?_)
  · exact hE c
  · walk_at "st"
    refine Pm.w_cut (fun σ' H' => ∃ a' b' : Int, σ' = [some (.int a'), some (.int b'), none] ∧ H' = H ∧ 0 < b' ∧ b'.natAbs < 2 ^ n ∧ Rat.divInt a' b' = Rat.divInt a b) ?_ ?_
    · walk_at "st"
      refine Pm.w_ite (fun d => ?_) (fun d => ?_)
      · walk_at "st"
        exact ⟨-a, -b, rfl, rfl, by omega, by omega, Rat.neg_divInt_neg a b⟩
      · walk_at "st"
        exact ⟨a, b, rfl, rfl, by omega, hn, rfl⟩
    · rintro σ H' ⟨a', b', rfl, rfl, hb, hn, e⟩
      have g0 : 0 < ((Int.gcd a' b' : Nat) : Int) := gcd_pos (by omega)
      have g1 := gcd_le_right (a := a') hb
      have n0 : 0 < n := by
        rcases Nat.eq_zero_or_pos n with z | z
        · subst z
          exact absurd hn (by omega)
        · exact z
      have hd : ∀ i : Int, CDivW i ((Int.gcd a' b' : Nat) : Int) := fun i => wide_div g0 (Nat.lt_of_le_of_lt (by omega) hn) n0 hn9
      walk_at "st"
      refine ⟨a', b', rfl, ?_⟩
      walk_at "st"
      refine Pm.w_i (hd _) ?_
      walk_at "st"
      refine Pm.w_i (hd _) ?_
      walk_at "st"
      refine Pm.w_newT (fun t ht => ?_)
      have z := div_pos_num (a := a') hb
      rw [z.1, z.2, e]
      exact q c t _ (same_new ht _) ht upd_same
end
section
variable {P : Program} {w : World} {K : PySem.W.Frag} {mg : Str → Option Value} {base : Heap}
def spPlus (K : PySem.W.Frag) : Sp := fun vs H Q _ => ∃ (t u : Addr) (x y : Rat) (n m : Nat), vs = [.ref t, .ref u] ∧ SqT K H t [.int x.num, .int x.den] ∧ SqT K H u [.int y.num, .int y.den] ∧ rb x n ∧ rb y m ∧ n + m ≤ 9000 ∧ FrNew H (x + y) Q
theorem ok_plus (T : Tx K mg) : FnOk P w K mg base CX0 3 T.a_plus T.fd_plus ["one", "other"] (spPlus K) := by
  refine T.F_plus.ok sc_plus (fun vs H Q E h => ?_) (fun cdv A outer s H vs Q E hr h => ?_)
  · obtain ⟨t, u, x, y, n, m, rfl, _⟩ := h
    rfl
  obtain ⟨t, u, x, y, n, m, rfl, ht, hu, bx, byy, hnm, q⟩ := h
  refine ⟨_, (pss_one (ps_ret (pe_call (ok_lowest T) (hr.mono (by decide)) (by rfl) T.g_lowest T.F_lowest.kp T.b_lowest .nil passL (pa_cons (pe_op op_add (pe_op op_mulW (pe_ix (ix_tupK (K := K)) (pv 0) (pe_int) (fun _ _ => rfl)) (pe_ix (ix_tupK (K := K)) (pv 1) (pe_int) (fun _ _ => rfl))) (pe_op op_mulW (pe_ix (ix_tupK (K := K)) (pv 1) (pe_int) (fun _ _ => rfl)) (pe_ix (ix_tupK (K := K)) (pv 0) (pe_int) (fun _ _ => rfl)))) (pa_cons (pe_op op_mulW (pe_ix (ix_tupK (K := K)) (pv 0) (pe_int) (fun _ _ => rfl)) (pe_ix (ix_tupK (K := K)) (pv 1) (pe_int) (fun _ _ => rfl))) pa_nil))))), ?_⟩
  have n0 := rb_pos bx
  have m0 := rb_pos byy
  walk_at "st"
  refine Pm.w_ixT ht (atI2 _ _).1 ?_
  walk_at "st"
  refine Pm.w_ixT hu (atI2 _ _).2 ?_
  walk_at "st"
  refine Pm.w_i (wide_mul bx.1 (rb_den byy) n0 m0 (by omega)) ?_
  walk_at "st"
  refine Pm.w_ixT hu (atI2 _ _).1 ?_
  walk_at "st"
  refine Pm.w_ixT ht (atI2 _ _).2 ?_
  walk_at "st"
  refine Pm.w_i (wide_mul byy.1 (rb_den bx) m0 n0 (by omega)) ?_
  walk_at "st"
  refine Pm.w_ixT ht (atI2 _ _).2 ?_
  walk_at "st"
  refine Pm.w_ixT hu (atI2 _ _).2 ?_
  walk_at "st"
  refine Pm.w_i (wide_mul (rb_den bx) (rb_den byy) n0 m0 (by omega)) ?_
  walk_at "st"
  refine ⟨_, _, n + m, rfl, wide_lt (rb_den bx) (rb_den byy), hnm, fun z => absurd z (den_mul x y), fun _ => ?_⟩
  rw [plus_is]
  exact q
end
section
variable {P : Program} {w : World} {K : PySem.W.Frag} {mg : Str → Option Value} {base : Heap}
def spLess (K : PySem.W.Frag) : Sp := fun vs H Q _ => ∃ (t u : Addr) (x y : Rat) (n m : Nat), vs = [.ref t, .ref u] ∧ SqT K H t [.int x.num, .int x.den] ∧ SqT K H u [.int y.num, .int y.den] ∧ rb x n ∧ rb y m ∧ n + m ≤ 9000 ∧ FrNew H (x - y) Q
theorem ok_less (T : Tx K mg) : FnOk P w K mg base CX0 3 T.a_less T.fd_less ["one", "other"] (spLess K) := by
  refine T.F_less.ok sc_less (fun vs H Q E h => ?_) (fun cdv A outer s H vs Q E hr h => ?_)
  · obtain ⟨t, u, x, y, n, m, rfl, _⟩ := h
    rfl
  obtain ⟨t, u, x, y, n, m, rfl, ht, hu, bx, byy, hnm, q⟩ := h
  refine ⟨_, (pss_one (ps_ret (pe_call (ok_lowest T) (hr.mono (by decide)) (by rfl) T.g_lowest T.F_lowest.kp T.b_lowest .nil passL (pa_cons (pe_op op_sub (pe_op op_mulW (pe_ix (ix_tupK (K := K)) (pv 0) (pe_int) (fun _ _ => rfl)) (pe_ix (ix_tupK (K := K)) (pv 1) (pe_int) (fun _ _ => rfl))) (pe_op op_mulW (pe_ix (ix_tupK (K := K)) (pv 1) (pe_int) (fun _ _ => rfl)) (pe_ix (ix_tupK (K := K)) (pv 0) (pe_int) (fun _ _ => rfl)))) (pa_cons (pe_op op_mulW (pe_ix (ix_tupK (K := K)) (pv 0) (pe_int) (fun _ _ => rfl)) (pe_ix (ix_tupK (K := K)) (pv 1) (pe_int) (fun _ _ => rfl))) pa_nil))))), ?_⟩
  have n0 := rb_pos bx
  have m0 := rb_pos byy
  walk_at "st"
  refine Pm.w_ixT ht (atI2 _ _).1 ?_
  walk_at "st"
  refine Pm.w_ixT hu (atI2 _ _).2 ?_
  walk_at "st"
  refine Pm.w_i (wide_mul bx.1 (rb_den byy) n0 m0 (by omega)) ?_
  walk_at "st"
  refine Pm.w_ixT hu (atI2 _ _).1 ?_
  walk_at "st"
  refine Pm.w_ixT ht (atI2 _ _).2 ?_
  walk_at "st"
  refine Pm.w_i (wide_mul byy.1 (rb_den bx) m0 n0 (by omega)) ?_
  walk_at "st"
  refine Pm.w_ixT ht (atI2 _ _).2 ?_
  walk_at "st"
  refine Pm.w_ixT hu (atI2 _ _).2 ?_
  walk_at "st"
  refine Pm.w_i (wide_mul (rb_den bx) (rb_den byy) n0 m0 (by omega)) ?_
  walk_at "st"
  refine ⟨_, _, n + m, rfl, wide_lt (rb_den bx) (rb_den byy), hnm, fun z => absurd z (den_mul x y), fun _ => ?_⟩
  rw [less_is]
  exact q
end
section
variable {P : Program} {w : World} {K : PySem.W.Frag} {mg : Str → Option Value} {base : Heap}
def spTimes (K : PySem.W.Frag) : Sp := fun vs H Q _ => ∃ (t u : Addr) (x y : Rat) (n m : Nat), vs = [.ref t, .ref u] ∧ SqT K H t [.int x.num, .int x.den] ∧ SqT K H u [.int y.num, .int y.den] ∧ rb x n ∧ rb y m ∧ n + m ≤ 9000 ∧ FrNew H (x * y) Q
theorem ok_times (T : Tx K mg) : FnOk P w K mg base CX0 3 T.a_times T.fd_times ["one", "other"] (spTimes K) := by
  refine T.F_times.ok sc_times (fun vs H Q E h => ?_) (fun cdv A outer s H vs Q E hr h => ?_)
  · obtain ⟨t, u, x, y, n, m, rfl, _⟩ := h
    rfl
  obtain ⟨t, u, x, y, n, m, rfl, ht, hu, bx, byy, hnm, q⟩ := h
  refine ⟨_, (pss_one (ps_ret (pe_call (ok_lowest T) (hr.mono (by decide)) (by rfl) T.g_lowest T.F_lowest.kp T.b_lowest .nil passL (pa_cons (pe_op op_mulW (pe_ix (ix_tupK (K := K)) (pv 0) (pe_int) (fun _ _ => rfl)) (pe_ix (ix_tupK (K := K)) (pv 1) (pe_int) (fun _ _ => rfl))) (pa_cons (pe_op op_mulW (pe_ix (ix_tupK (K := K)) (pv 0) (pe_int) (fun _ _ => rfl)) (pe_ix (ix_tupK (K := K)) (pv 1) (pe_int) (fun _ _ => rfl))) pa_nil))))), ?_⟩
  have n0 := rb_pos bx
  have m0 := rb_pos byy
  walk_at "st"
  refine Pm.w_ixT ht (atI2 _ _).1 ?_
  walk_at "st"
  refine Pm.w_ixT hu (atI2 _ _).1 ?_
  walk_at "st"
  refine Pm.w_i (wide_mul bx.1 byy.1 n0 m0 (by omega)) ?_
  walk_at "st"
  refine Pm.w_ixT ht (atI2 _ _).2 ?_
  walk_at "st"
  refine Pm.w_ixT hu (atI2 _ _).2 ?_
  walk_at "st"
  refine Pm.w_i (wide_mul (rb_den bx) (rb_den byy) n0 m0 (by omega)) ?_
  walk_at "st"
  refine ⟨_, _, n + m, rfl, wide_lt (rb_den bx) (rb_den byy), hnm, fun z => absurd z (den_mul x y), fun _ => ?_⟩
  rw [times_is]
  exact q
end
section
variable {P : Program} {w : World} {K : PySem.W.Frag} {mg : Str → Option Value} {base : Heap}
def spOver (K : PySem.W.Frag) (C : Addr) : Sp := fun vs H Q E => ∃ (t u : Addr) (x y : Rat) (n m : Nat), vs = [.ref t, .ref u] ∧ SqT K H t [.int x.num, .int x.den] ∧ SqT K H u [.int y.num, .int y.den] ∧ rb x n ∧ rb y m ∧ n + m ≤ 9000 ∧
  (y = 0 → E (.ref C) none H) ∧ (y ≠ 0 → FrNew H (x / y) Q)
theorem ok_over (T : Tx K mg) : FnOk P w K mg base (L2.CX P w) 3 T.a_over T.fd_over ["one", "other"] (spOver K T.c_NoFraction) := by
  refine T.F_over.okX sc_over (fun vs H Q E h => ?_) (fun cdv A outer s H vs Q E hr h => ?_)
  · obtain ⟨t, u, x, y, n, m, rfl, _⟩ := h
    rfl
  obtain ⟨t, u, x, y, n, m, rfl, ht, hu, bx, byy, hnm, hE, q⟩ := h
  refine ⟨_, (pss_cons (ps_if (pt_cmpR op_eq (pe_ix (ix_tupK (K := K)) (pv 1) (pe_int) (fun _ _ => rfl)) (pe_int) (nomark _)) (pss_one (ps_raise rfl (takes_of rfl rfl rfl rfl) (pmk_own PySem.F.excBase_ValueError T.x_NoFraction T.g_NoFraction T.k_NoFraction (raises_own T.b_NoFraction T.t_NoFraction) rfl))) pss_nil)
      (pss_one (ps_ret (pe_call (ok_lowest T) (hr.mono (by decide)) (by rfl) T.g_lowest T.F_lowest.kp T.b_lowest .nil (passes_call (takes_of rfl rfl rfl rfl) (fun _ _ _ _ h => h)) (pa_cons (pe_op op_mulW (pe_ix (ix_tupK (K := K)) (pv 0) (pe_int) (fun _ _ => rfl)) (pe_ix (ix_tupK (K := K)) (pv 1) (pe_int) (fun _ _ => rfl))) (pa_cons (pe_op op_mulW (pe_ix (ix_tupK (K := K)) (pv 0) (pe_int) (fun _ _ => rfl)) (pe_ix (ix_tupK (K := K)) (pv 1) (pe_int) (fun _ _ => rfl))) pa_nil)))))), ?_⟩
  have n0 := rb_pos bx
  have m0 := rb_pos byy
  walk_at "st"
  refine Pm.w_ixT hu (atI2 _ _).1 ?_
  walk_at "st"
  refine Pm.w_ite (fun e => ?_) (fun e => ?_)
  · exact hE (Rat.num_eq_zero.mp e)
  have e2 : y ≠ 0 := fun z => e (Rat.num_eq_zero.mpr z)
  walk_at "st"
  refine Pm.w_ixT ht (atI2 _ _).1 ?_
  walk_at "st"
  refine Pm.w_ixT hu (atI2 _ _).2 ?_
  walk_at "st"
  refine Pm.w_i (wide_mul bx.1 (rb_den byy) n0 m0 (by omega)) ?_
  walk_at "st"
  refine Pm.w_ixT ht (atI2 _ _).2 ?_
  walk_at "st"
  refine Pm.w_ixT hu (atI2 _ _).1 ?_
  walk_at "st"
  refine Pm.w_i (wide_mul (rb_den bx) byy.1 n0 m0 (by omega)) ?_
  walk_at "st"
  refine ⟨_, _, n + m, rfl, wide_lt (rb_den bx) byy.1, hnm, fun z => absurd z (Int.mul_ne_zero (den_ne x) e), fun _ => ?_⟩
  rw [over_is]
  exact q e2
end
/-! ### lengths between posts -/
section
variable {P : Program} {w : World} {K : PySem.W.Frag} {mg : Str → Option Value} {base : Heap}
theorem ok_between (T : Tx K mg) : FnOk P w K mg base CX0 2 T.a_between T.fd_between ["lengths", "a", "b"] (spBetween K) := by
  refine T.F_between.ok sc_between (fun vs H Q E h => ?_) (fun cdv A outer s H vs Q E hr h => ?_)
  · obtain ⟨d, t, D, a, b, rfl, _⟩ := h
    rfl
  obtain ⟨d, t, D, a, b, rfl, hd, hm, ne, an, q⟩ := h
  refine ⟨_, (pss_cons (ps_set (i := 3) sc_between.nd rfl (.inl rfl) (pe_dget (hu_of hr) (pv 0) (pe_call (ok_tie_of T) (hr.mono (by decide)) (by rfl) T.g_tie_of T.F_tie_of.kp T.b_tie_of .nil pass0 (pa_cons (pv 1) (pa_cons (pv 2) pa_nil))) (fun _ _ => rfl)))
      (pss_cons (ps_if (pt_cmpR op_lt (pv 1) (pv 2) (nomark _)) (pss_one (ps_ret (pv 3))) pss_nil)
      (pss_one (ps_ret (pe_tup (pa_cons (pe_un un_neg (pe_ix (ix_tupK (K := K)) (pv 3) (pe_int) (fun _ _ => rfl))) (pa_cons (pe_ix (ix_tupK (K := K)) (pv 3) (pe_int) (fun _ _ => rfl)) pa_nil))))))), ?_⟩
  walk_at "st"
  refine ⟨_, _, rfl, fun p H1 s1 np hp => ?_⟩
  rw [tie_cast] at hp
  refine w_lenGet (hd.same s1) hp hm (fun u hu => ?_)
  walk_at "st"
  refine Pm.w_ite (fun e => ?_) (fun e => ?_)
  · walk_at "st"
    rw [show min a b = a by omega, show max a b = b by omega] at hu
    exact q u _ s1 hu
  · rw [show min a b = b by omega, show max a b = a by omega] at hu
    walk_at "st"
    refine Pm.w_ixT hu.rat (atI2 _ _).1 ?_
    walk_at "st"
    refine Pm.w_ixT hu.rat (atI2 _ _).2 ?_
    walk_at "st"
    refine Pm.w_newT (fun v hv => ?_)
    have s2 := same_new hv (.tup [.int (-(D b a).num), .int ((D b a).den : Int)])
    refine q v _ (s1.trans s2) ?_
    rw [an]
    refine frv_new ?_
    rw [Rat.neg_num, Rat.neg_den]
    exact upd_same
theorem ok_spread (T : Tx K mg) : FnOk P w K mg base CX0 4 T.a_spread T.fd_spread ["one", "other"] (spSpread K) := by
  refine T.F_spread.ok sc_spread (fun vs H Q E h => ?_) (fun cdv A outer s H vs Q E hr h => ?_)
  · obtain ⟨x, y, s, r, n, rfl, _⟩ := h
    rfl
  obtain ⟨x, y, s, r, n, rfl, hx, hy, b1, b2, b3, b4, hn, q⟩ := h
  refine ⟨_, (pss_one (ps_ret (pe_call (ok_less T) (hr.mono (by decide)) (by rfl) T.g_less T.F_less.kp T.b_less .nil pass0 (pa_cons (pe_call (ok_times T) (hr.mono (by decide)) (by rfl) T.g_times T.F_times.kp T.b_times .nil pass0 (pa_cons (pe_ix (ix_tupK (K := K)) (pv 0) (pe_int) (fun _ _ => rfl)) (pa_cons (pe_ix (ix_tupK (K := K)) (pv 1) (pe_int) (fun _ _ => rfl)) pa_nil))) (pa_cons (pe_call (ok_times T) (hr.mono (by decide)) (by rfl) T.g_times T.F_times.kp T.b_times .nil pass0 (pa_cons (pe_ix (ix_tupK (K := K)) (pv 1) (pe_int) (fun _ _ => rfl)) (pa_cons (pe_ix (ix_tupK (K := K)) (pv 0) (pe_int) (fun _ _ => rfl)) pa_nil))) pa_nil))))), ?_⟩
  obtain ⟨_, x1, x2, ex, hxt, hx1, hx2⟩ := hx
  cases ex
  obtain ⟨_, y1, y2, ey, hyt, hy1, hy2⟩ := hy
  cases ey
  walk_at "st"
  refine Pm.w_ixT (SqT.of hxt) (atI2 _ _).1 ?_
  walk_at "st"
  refine Pm.w_ixT (SqT.of hyt) (atI2 _ _).2 ?_
  walk_at "st"
  refine ⟨_, _, _, _, n, n, rfl, hx1.rat, hy2.rat, b1, b4, by omega, fun u H1 s1 nu hu => ?_⟩
  have k1 := keeps s1
  walk_at "st"
  refine Pm.w_ixT (SqT.of (s1 _ _ hyt)) (atI2 _ _).1 ?_
  walk_at "st"
  refine Pm.w_ixT (SqT.of (s1 _ _ hxt)) (atI2 _ _).2 ?_
  walk_at "st"
  refine ⟨_, _, _, _, n, n, rfl, (hy1.keep k1).rat, (hx2.keep k1).rat, b3, b2, by omega, fun u2 H2 s2 nu2 hu2 => ?_⟩
  walk_at "st"
  refine ⟨_, _, _, _, n + n, n + n, rfl, SqT.of (s2 _ _ hu), SqT.of hu2, rb_mul b1 b4, rb_mul b3 b2, by omega, fun v H3 s3 nv hv => ?_⟩
  exact q v H3 ((s1.trans s2).trans s3) ((s1.trans s2).free nv) hv
/-- a new pair of fractions -/
def P2New (K : PySem.W.Frag) (H : Hp) (s : V2) (Q : VK) : Prop := ∀ (t : Addr) (H' : Hp), Same H H' → H t = none → PrV K H' (.ref t) s → Q (.ref t) H'
def spMixed (K : PySem.W.Frag) : Sp := fun vs H Q _ => ∃ (x p y r : Addr) (s s' : V2) (a b : Rat) (n : Nat), vs = [.ref x, .ref p, .ref y, .ref r] ∧ PrV K H (.ref x) s ∧ FrV K H (.ref p) (rp a) ∧ PrV K H (.ref y) s' ∧ FrV K H (.ref r) (rp b) ∧
  rb s.p n ∧ rb s.q n ∧ rb s'.p n ∧ rb s'.q n ∧ rb a n ∧ rb b n ∧ 4 * n ≤ 9000 ∧ P2New K H (mix s a s' b) Q
theorem ok_pair_mixed (T : Tx K mg) : FnOk P w K mg base CX0 4 T.a_pair_mixed T.fd_pair_mixed ["one", "part", "other", "share"] (spMixed K) := by
  refine T.F_pair_mixed.ok sc_pair_mixed (fun vs H Q E h => ?_) (fun cdv A outer s H vs Q E hr h => ?_)
  · obtain ⟨x, p, y, r, s, s', a, b, n, rfl, _⟩ := h
    rfl
  obtain ⟨x, p, y, r, s, s', a, b, n, rfl, hx, hp, hy, hr', b1, b2, b3, b4, b5, b6, hn, q⟩ := h
  refine ⟨_, (pss_one (ps_ret (pe_tup (pa_cons (pe_call (ok_plus T) (hr.mono (by decide)) (by rfl) T.g_plus T.F_plus.kp T.b_plus .nil pass0 (pa_cons (pe_call (ok_times T) (hr.mono (by decide)) (by rfl) T.g_times T.F_times.kp T.b_times .nil pass0 (pa_cons (pe_ix (ix_tupK (K := K)) (pv 0) (pe_int) (fun _ _ => rfl)) (pa_cons (pv 1) pa_nil))) (pa_cons (pe_call (ok_times T) (hr.mono (by decide)) (by rfl) T.g_times T.F_times.kp T.b_times .nil pass0 (pa_cons (pe_ix (ix_tupK (K := K)) (pv 2) (pe_int) (fun _ _ => rfl)) (pa_cons (pv 3) pa_nil))) pa_nil))) (pa_cons (pe_call (ok_plus T) (hr.mono (by decide)) (by rfl) T.g_plus T.F_plus.kp T.b_plus .nil pass0 (pa_cons (pe_call (ok_times T) (hr.mono (by decide)) (by rfl) T.g_times T.F_times.kp T.b_times .nil pass0 (pa_cons (pe_ix (ix_tupK (K := K)) (pv 0) (pe_int) (fun _ _ => rfl)) (pa_cons (pv 1) pa_nil))) (pa_cons (pe_call (ok_times T) (hr.mono (by decide)) (by rfl) T.g_times T.F_times.kp T.b_times .nil pass0 (pa_cons (pe_ix (ix_tupK (K := K)) (pv 2) (pe_int) (fun _ _ => rfl)) (pa_cons (pv 3) pa_nil))) pa_nil))) pa_nil))))), ?_⟩
  obtain ⟨_, x1, x2, ex, hxt, hx1, hx2⟩ := hx
  cases ex
  obtain ⟨_, y1, y2, ey, hyt, hy1, hy2⟩ := hy
  cases ey
  walk_at "st"
  refine Pm.w_ixT (SqT.of hxt) (atI2 _ _).1 ?_
  walk_at "st"
  refine ⟨_, _, _, _, n, n, rfl, hx1.rat, hp.rat, b1, b5, by omega, fun u1 H1 s1 n1 hu1 => ?_⟩
  have k1 := keeps s1
  walk_at "st"
  refine Pm.w_ixT (SqT.of (s1 _ _ hyt)) (atI2 _ _).1 ?_
  walk_at "st"
  refine ⟨_, _, _, _, n, n, rfl, (hy1.keep k1).rat, (hr'.keep k1).rat, b3, b6, by omega, fun u2 H2 s2 n2 hu2 => ?_⟩
  walk_at "st"
  refine ⟨_, _, _, _, n + n, n + n, rfl, SqT.of (s2 _ _ hu1), SqT.of hu2, rb_mul b1 b5, rb_mul b3 b6, by omega, fun v1 H3 s3 n3 hv1 => ?_⟩
  have s03 := (s1.trans s2).trans s3
  have k3 := keeps s03
  walk_at "st"
  refine Pm.w_ixT (SqT.of (s03 _ _ hxt)) (atI2 _ _).2 ?_
  walk_at "st"
  refine ⟨_, _, _, _, n, n, rfl, (hx2.keep k3).rat, (hp.keep k3).rat, b2, b5, by omega, fun u4 H4 s4 n4 hu4 => ?_⟩
  have s04 := s03.trans s4
  have k4 := keeps s04
  walk_at "st"
  refine Pm.w_ixT (SqT.of (s04 _ _ hyt)) (atI2 _ _).2 ?_
  walk_at "st"
  refine ⟨_, _, _, _, n, n, rfl, (hy2.keep k4).rat, (hr'.keep k4).rat, b4, b6, by omega, fun u5 H5 s5 n5 hu5 => ?_⟩
  walk_at "st"
  refine ⟨_, _, _, _, n + n, n + n, rfl, SqT.of (s5 _ _ hu4), SqT.of hu5, rb_mul b2 b5, rb_mul b4 b6, by omega, fun v2 H6 s6 n6 hv2 => ?_⟩
  have s36 := (s4.trans s5).trans s6
  walk_at "st"
  refine Pm.w_newT (fun v hv => ?_)
  have s7 := same_new hv (.tup [.ref v1, .ref v2])
  have s37 := s36.trans s7
  exact q v _ (s03.trans s37) ((s03.trans s36).free hv) ⟨v, v1, v2, rfl, upd_same, frv_new (s37 _ _ hv1), frv_new (s7 _ _ hv2)⟩
def spThird (K : PySem.W.Frag) : Sp := fun vs H Q _ => ∃ (d e : Addr) (a b c n B F : Nat) (t : Tr) (L : Len) (D : Nat → Nat → Rat) (S : Nat → V2) (ks : List Nat), vs = [.ref d, .ref e, .int a, .int b, .int c] ∧ LenD K H d t D ∧ SD K H e ks S ∧
  a ∈ ks ∧ b ∈ ks ∧ Meas n t L D ∧ Bd n D F B ∧ 4 * B ≤ 9000 ∧ (∀ i, i < n → rb (S i).p B ∧ rb (S i).q B) ∧ (min a b, max a b) ∈ t.all 0 ∧ (min c b, max c b) ∈ t.all 0 ∧ (min a c, max a c) ∈ t.all 0 ∧ P2New K H (mix (S a) (D c b / D a b) (S b) (D a c / D a b)) Q
theorem ok_third (T : Tx K mg) : FnOk P w K mg base CX0 5 T.a_third T.fd_third ["lengths", "stood", "a", "b", "c"] (spThird K) := by
  refine T.F_third.ok sc_third (fun vs H Q E h => ?_) (fun cdv A outer s H vs Q E hr h => ?_)
  · obtain ⟨d, e, a, b, c, n, B, F, t, L, D, S, ks, rfl, _⟩ := h
    rfl
  obtain ⟨d, e, a, b, c, n, B, F, t, L, D, S, ks, rfl, hd, he, ma, mb, M, Z, hB, hS, tab, tcb, tac, q⟩ := h
  have hw := M.w
  have b1 := Tr.bd tab
  have b2 := Tr.bd tcb
  have b3 := Tr.bd tac
  simp only at b1 b2 b3
  have an : a < n := by omega
  have bn : b < n := by omega
  have cn : c < n := by omega
  have n0 := M.ne (show a ≠ b by omega) an bn
  refine ⟨_, (pss_cons (ps_set (i := 5) sc_third.nd rfl (.inl rfl) (pe_call (ok_between T) (hr.mono (by decide)) (by rfl) T.g_between T.F_between.kp T.b_between .nil pass0 (pa_cons (pv 0) (pa_cons (pv 2) (pa_cons (pv 3) pa_nil)))))
      (pss_cons (ps_set (i := 6) sc_third.nd rfl (.inl rfl) (pe_call (ok_over T) (hr.mono (by decide)) (by rfl) T.g_over T.F_over.kp T.b_over .nil passL (pa_cons (pe_call (ok_between T) (hr.mono (by decide)) (by rfl) T.g_between T.F_between.kp T.b_between .nil pass0 (pa_cons (pv 0) (pa_cons (pv 4) (pa_cons (pv 3) pa_nil)))) (pa_cons (pv 5) pa_nil))))
      (pss_cons (ps_set (i := 7) sc_third.nd rfl (.inl rfl) (pe_call (ok_over T) (hr.mono (by decide)) (by rfl) T.g_over T.F_over.kp T.b_over .nil passL (pa_cons (pe_call (ok_between T) (hr.mono (by decide)) (by rfl) T.g_between T.F_between.kp T.b_between .nil pass0 (pa_cons (pv 0) (pa_cons (pv 2) (pa_cons (pv 4) pa_nil)))) (pa_cons (pv 5) pa_nil))))
      (pss_one (ps_ret (pe_call (ok_pair_mixed T) (hr.mono (by decide)) (by rfl) T.g_pair_mixed T.F_pair_mixed.kp T.b_pair_mixed .nil pass0 (pa_cons (pe_dget (hu_of hr) (pv 1) (pv 2) (fun _ _ => rfl)) (pa_cons (pv 6) (pa_cons (pe_dget (hu_of hr) (pv 1) (pv 3) (fun _ _ => rfl)) (pa_cons (pv 7) pa_nil)))))))))), ?_⟩
  walk_at "st"
  refine ⟨d, t, D, a, b, rfl, hd, tab, by omega, M.anti bn an, fun w1 H1 s1 h1 => ?_⟩
  walk_at "st"
  refine ⟨d, t, D, c, b, rfl, hd.same s1, tcb, by omega, M.anti bn cn, fun w2 H2 s2 h2 => ?_⟩
  walk_at "st"
  refine ⟨_, _, _, _, B, B, rfl, h2.rat, (h1.keep (keeps s2)).rat, Z.rb cn bn, Z.rb an bn, by omega, fun z => absurd z n0, fun _ w3 H3 s3 n3 h3 => ?_⟩
  have s13 := s2.trans s3
  walk_at "st"
  refine ⟨d, t, D, a, c, rfl, hd.same (s1.trans s13), tac, by omega, M.anti cn an, fun w4 H4 s4 h4 => ?_⟩
  have s14 := s13.trans s4
  walk_at "st"
  refine ⟨_, _, _, _, B, B, rfl, h4.rat, (h1.keep (keeps s14)).rat, Z.rb an cn, Z.rb an bn, by omega, fun z => absurd z n0, fun _ w5 H5 s5 n5 h5 => ?_⟩
  have s05 := (s1.trans s14).trans s5
  have he5 := he.same s05
  walk_at "st"
  refine w_sdGet he5 ma (fun x hx => ?_)
  walk_at "st"
  refine w_sdGet he5 mb (fun y hy => ?_)
  walk_at "st"
  refine ⟨_, _, _, _, _, _, _, _, B, rfl, hx, frv_new ((s4.trans s5) _ _ h3), hy, frv_new h5, (hS a an).1, (hS a an).2, (hS b bn).1, (hS b bn).2, Z.quot cn bn an bn n0, Z.quot an cn an bn n0, hB, fun v H6 s6 nv hv => ?_⟩
  exact q v H6 (s05.trans s6) (s05.free nv) hv
end
section
variable {P : Program} {w : World} {K : PySem.W.Frag} {mg : Str → Option Value} {base : Heap}
def spStands (K : PySem.W.Frag) : Sp := fun vs H Q _ => ∃ (n : Nat) (c d : Addr) (cut : List IP) (t : Tr) (L : Len) (D : Nat → Nat → Rat) (F B : Nat), vs = [.int n, .ref c, .ref d] ∧ n ≤ 1000 ∧ PLt H c cut ∧ Cutting n cut t ∧ LenD K H d t D ∧ Meas n t L D ∧ Bd n D F B ∧ 4 * B ≤ 9000 ∧
  ∀ (l : Addr) (H' : Hp) (ws : List V) (S : Nat → V2), Same H H' → H l = none → H' l = some (.lst ws) → All2 (PrV K H') ws ((List.range n).map S) → (∀ i k, i < n → k < n → det (S i) (S k) = D i k) → (∀ i, i < n → rb (S i).p B ∧ rb (S i).q B) → Q (.ref l) H'
theorem plots_bd2 {n : Nat} {cut : List IP} {t : Tr} (C : Cutting n cut t) (n2 : n ≤ 1000) : (∀ p ∈ tiesL n cut, -1000 ≤ p.2 ∧ p.2 ≤ 1000) ∧ (plots0 n (tiesL n cut) (tiesL n cut)).length ≤ 1000 := by
  refine ⟨fun p hp => ?_, ?_⟩
  · obtain ⟨q, hq, rfl⟩ := C.ties.mp hp
    have := Tr.bd hq
    have := C.w
    simp only [castP]
    omega
  · have := C.plots_len
    unfold plotsL at this
    rw [(sort3_perm _).length_eq] at this
    omega
theorem one_is : rp 1 = (1, 1) := rfl
theorem nought_is : rp 0 = (0, 1) := rfl
theorem ok_stands (T : Tx K mg) : FnOk P w K mg base CX0 6 T.a_stands T.fd_stands ["n", "cut", "lengths"] (spStands K) := by
  refine T.F_stands.ok sc_stands (fun vs H Q E h => ?_) (fun cdv A outer s H vs Q E hr h => ?_)
  · obtain ⟨n, c, d, cut, t, L, D, F, B, rfl, _⟩ := h
    rfl
  obtain ⟨n, c, d, cut, t, L, D, F, B, rfl, n2, hc, C, hd, M, Z, hB, q⟩ := h
  have n3 := C.n3
  have cl := C.cut_len
  obtain ⟨pb1, pb2⟩ := plots_bd2 C n2
  refine ⟨_, (pss_cons (ps_set (i := 3) sc_stands.nd rfl (.inl rfl) (pe_call (ok_plots T) (hr.mono (by decide)) (by rfl) T.g_plots T.F_plots.kp T.b_plots .nil pass0 (pa_cons (pv 0) (pa_cons (pv 1) pa_nil))))
      (pss_cons (ps_asg (pe_ix (ix_listK (K := K)) (pv 3) (pe_int) (fun _ _ => rfl)) (k_gt (K := K) (pg_tup (by rfl) (pgs_cons (pg_name (i := 4) sc_stands.nd rfl (.inl rfl)) (pgs_cons (pg_name (i := 5) sc_stands.nd rfl (.inl rfl)) (pgs_cons (pg_name (i := 6) sc_stands.nd rfl (.inl rfl)) pgs_nil))))))
      (pss_cons (ps_set (i := 7) sc_stands.nd rfl (.inr rfl) (pe_disp (pps_cons (pv 4) (pe_tup (pa_cons (pe_glob (by rfl) T.g_ONE T.r_ONE) (pa_cons (pe_glob (by rfl) T.g_NOUGHT T.r_NOUGHT) pa_nil))) (pps_cons (pv 5) (pe_tup (pa_cons (pe_glob (by rfl) T.g_NOUGHT T.r_NOUGHT) (pa_cons (pe_dget (hu_of hr) (pv 2) (pe_tup (pa_cons (pv 4) (pa_cons (pv 5) pa_nil))) (fun _ _ => rfl)) pa_nil))) pps_nil)) rfl rfl (by simp) (by decide)))
      (pss_cons (ps_while PassesOwn.never (pt_cmpR op_lt (pe_callB c_lenD (by rfl) T.m_len PySem.boot_len (pa_cons (pv 7) pa_nil)) (pv 0) (nomark _)) (pss_one (ps_for PassesOwn.never rfl (k_il (K := K) (pi_list (pv 3))) (k_gt (K := K) (pg_tup (by rfl) (pgs_cons (pg_name (i := 4) sc_stands.nd rfl (.inl rfl)) (pgs_cons (pg_name (i := 5) sc_stands.nd rfl (.inl rfl)) (pgs_cons (pg_name (i := 6) sc_stands.nd rfl (.inl rfl)) pgs_nil))))) (C8.pss_cut (ps_if (PW.pt (pw_and (pt_cmp (pc_din (hu_of hr) (pv 4) (pv 7))) (pw_and (pt_cmp (pc_din (hu_of hr) (pv 5) (pv 7))) (pw_and1 (pt_cmp (pc_dnotin (hu_of hr) (pv 6) (pv 7))))))) (pss_one (ps_dput (hu_of hr) (pv 7) (pv 6) (pe_call (ok_third T) (hr.mono (by decide)) (by rfl) T.g_third T.F_third.kp T.b_third .nil pass0 (pa_cons (pv 2) (pa_cons (pv 7) (pa_cons (pv 4) (pa_cons (pv 5) (pa_cons (pv 6) pa_nil)))))) rfl)) pss_nil)
      (C8.pss_cut (ps_if (PW.pt (pw_and (pt_cmp (pc_din (hu_of hr) (pv 4) (pv 7))) (pw_and (pt_cmp (pc_din (hu_of hr) (pv 6) (pv 7))) (pw_and1 (pt_cmp (pc_dnotin (hu_of hr) (pv 5) (pv 7))))))) (pss_one (ps_dput (hu_of hr) (pv 7) (pv 5) (pe_call (ok_third T) (hr.mono (by decide)) (by rfl) T.g_third T.F_third.kp T.b_third .nil pass0 (pa_cons (pv 2) (pa_cons (pv 7) (pa_cons (pv 4) (pa_cons (pv 6) (pa_cons (pv 5) pa_nil)))))) rfl)) pss_nil)
      (pss_one (ps_if (PW.pt (pw_and (pt_cmp (pc_din (hu_of hr) (pv 5) (pv 7))) (pw_and (pt_cmp (pc_din (hu_of hr) (pv 6) (pv 7))) (pw_and1 (pt_cmp (pc_dnotin (hu_of hr) (pv 4) (pv 7))))))) (pss_one (ps_dput (hu_of hr) (pv 7) (pv 4) (pe_call (ok_third T) (hr.mono (by decide)) (by rfl) T.g_third T.F_third.kp T.b_third .nil pass0 (pa_cons (pv 2) (pa_cons (pv 7) (pa_cons (pv 5) (pa_cons (pv 6) (pa_cons (pv 4) pa_nil)))))) rfl)) pss_nil)))))))
      (pss_one (ps_ret (pe_lc (own := [("k", 8)]) (g := gName 8) (tt := tYes) rfl sc_stands.nd (pi_range1 (by rfl) T.m_range (pa_cons (pv 0) pa_nil)) (blkOk_by (N := N_stands) (sc := defScope s_stands) (by decide +kernel)) (fun _ _ _ _ _ => (pg_name (i := 8) sc_stands.nd rfl (.inl rfl))) (fun _ _ _ _ _ => pts_nil) (fun _ _ _ _ _ => (pe_dget (hu_of hr) (pv 7) (pv 8) (fun _ _ => rfl)))))))))), ?_⟩
  walk_at "st"
  refine ⟨n, c, cut, rfl, by omega, n2, hc, by omega, pb1, pb2, fun l H1 ws s1 nl hl ha => ?_⟩
  have pl := C.plots_len
  have wl := ha.length
  obtain ⟨e0, he0⟩ : ∃ e, ws[0]? = some e := ⟨ws[0], List.getElem?_eq_getElem (by omega)⟩
  obtain ⟨q0, hq0, u0, rfl, hu0⟩ := ha.get he0
  obtain ⟨⟨a, b, c0⟩, hp0, rfl⟩ := C.mem_plots.mp (List.mem_of_getElem? hq0)
  obtain ⟨⟨ab, bc⟩, tab, tbc, tac⟩ := Tr.plots_iff.mp hp0
  have hw := M.w
  have bn : b < n := by have := Tr.bd tab; simp only at this; omega
  have an : a < n := by omega
  walk_at "st"
  refine Pm.w_ixL (SqL.of hl) (v := .ref u0) (atI_nat (j := 0) he0) ?_
  walk_at "st"
  refine Pm.w_gtup (SqT.of hu0) rfl ?_
  walk_at "st"
  refine w_disp (fun e he => ?_)
  walk_at "st"
  have h1T : FrV K (upd H1 e (.dK [])) (.ref T.c_ONE) (rp 1) := ⟨_, rfl, .inr T.v_ONE⟩
  have h0T : ∀ H', FrV K H' (.ref T.c_NOUGHT) (rp 0) := fun H' => ⟨_, rfl, .inr T.v_NOUGHT⟩
  have h1T' : ∀ H', FrV K H' (.ref T.c_ONE) (rp 1) := fun H' => ⟨_, rfl, .inr T.v_ONE⟩
  have nab : a ≠ b := by omega
  refine Pm.w_newT (fun v1 hv1 => ?_)
  have s2 := same_new he (.dK [])
  have s3 := same_new hv1 (.tup [.ref T.c_ONE, .ref T.c_NOUGHT])
  walk_at "st"
  refine Pm.w_newT (fun v2 hv2 => ?_)
  have s4 := same_new hv2 (.tup [.int (cast3 (a, b, c0)).1, .int (cast3 (a, b, c0)).2.1])
  have s14 := (s1.trans s2).trans (s3.trans s4)
  refine w_lenGet (hd.same s14) (i := a) (k := b) (pr_new upd_same) tab (fun u hu => ?_)
  walk_at "st"
  refine Pm.w_newT (fun v3 hv3 => ?_)
  have s5 := same_new hv3 (.tup [.ref T.c_NOUGHT, .ref u])
  have s25 := (s3.trans s4).trans s5
  generalize hS : tgt D a b = S
  have Sa : S a = ⟨1, 0⟩ := by rw [← hS]; exact tgt_a M an bn nab
  have Sb : S b = ⟨0, D a b⟩ := by rw [← hS]; exact tgt_b M an bn nab
  have Srb : ∀ i, i < n → rb (S i).p B ∧ rb (S i).q B := fun i hi => by rw [← hS]; exact tgt_rb M Z an bn nab hi
  have Sdet : ∀ i k, i < n → k < n → det (S i) (S k) = D i k := fun i k hi hk => by rw [← hS]; exact tgt_det M an bn nab hi hk
  have Smix : ∀ x y z, x < n → y < n → z < n → x ≠ y → mix (S x) (D z y / D x y) (S y) (D x z / D x y) = S z := fun x y z hx hy hz ne => by rw [← hS]; exact tgt_mix M an bn nab hx hy hz ne
  walk_at "st"
  refine w_sdDisp (K := K) (S := S) (s25 _ _ upd_same) nab ?_ ?_ (fun es hSD kp => ?_)
  · rw [Sa]
    exact ⟨v1, _, _, rfl, (s4.trans s5) _ _ upd_same, h1T' _, h0T _⟩
  · rw [Sb]
    exact ⟨v3, _, _, rfl, upd_same, h0T _, hu.keep (keeps s5)⟩
  have He : H1 e = none := he
  have se : Same H1 (upd (upd (upd (upd (upd H1 e (.dK [])) v1 (.tup [.ref T.c_ONE, .ref T.c_NOUGHT])) v2 (.tup [.int (cast3 (a, b, c0)).1, .int (cast3 (a, b, c0)).2.1])) v3 (.tup [.ref T.c_NOUGHT, .ref u])) e (.dK es)) := same_but He (s2.trans s25)
  generalize (upd (upd (upd (upd (upd H1 e (.dK [])) v1 (.tup [.ref T.c_ONE, .ref T.c_NOUGHT])) v2 (.tup [.int (cast3 (a, b, c0)).1, .int (cast3 (a, b, c0)).2.1])) v3 (.tup [.ref T.c_NOUGHT, .ref u])) e (.dK es)) = H2 at se hSD
  walk_at "st"
  obtain ⟨qs, hqs⟩ : ∃ qs : List (Nat × Nat × Nat), plotsL n cut = qs.map cast3 := by
    have e : ∀ l : List I3, (∀ x ∈ l, ∃ y, x = cast3 y) → ∃ qs : List (Nat × Nat × Nat), l = qs.map cast3 := by
      intro l
      induction l with
      | nil => intro _; exact ⟨[], rfl⟩
      | cons x l ih =>
        intro h
        obtain ⟨y, rfl⟩ := h x List.mem_cons_self
        obtain ⟨qs, rfl⟩ := ih fun z hz => h z (List.mem_cons_of_mem _ hz)
        exact ⟨y :: qs, rfl⟩
    exact e _ fun x hx => let ⟨y, _, h⟩ := C.mem_plots.mp hx; ⟨y, h⟩
  have hall : ∀ q, q ∈ t.plots 0 → q ∈ qs := fun q hq => by
    have := C.mem_plots.mpr ⟨q, hq, rfl⟩
    rw [hqs] at this
    obtain ⟨p, hp, e⟩ := List.mem_map.mp this
    rw [← cast3_inj e]; exact hp
  have hmem : ∀ q, q ∈ qs → q ∈ t.plots 0 := fun q hq => by
    obtain ⟨p, hp, e⟩ := C.mem_plots.mp (by rw [hqs]; exact List.mem_map.mpr ⟨q, hq, rfl⟩)
    rw [cast3_inj e]; exact hp
  rw [hqs] at ha wl
  rw [List.length_map] at wl
  have stand : ∀ (H3 : Hp) (ks : List Nat), Same H1 H3 → SD K H3 e ks S → ∀ x y z, x < n → y < n → z < n → x ≠ y → x ∈ ks → y ∈ ks → (min x y, max x y) ∈ t.all 0 → (min z y, max z y) ∈ t.all 0 → (min x z, max x z) ∈ t.all 0 → ∀ QQ EE,
      (∀ (v : Addr) H4, Same H3 H4 → PrV K H4 (.ref v) (S z) → QQ (.ref v) H4) → spThird K [.ref d, .ref e, .int x, .int y, .int z] H3 QQ EE := by
    intro H3 ks s3 h3 x y z hx hy hz nxy mx my t1 t2 t3 QQ EE q3
    refine ⟨d, e, x, y, z, n, B, F, t, L, D, S, ks, rfl, hd.same (s1.trans s3), h3, mx, my, M, Z, hB, Srb, t1, t2, t3, fun v H4 s4 nv hv => ?_⟩
    rw [Smix x y z hx hy hz nxy] at hv
    exact q3 v H4 s4 hv
  refine Pm.w_while (fun m σ H3 => ∃ (ks : List Nat) (x y z : Option V), σ = [some (.int n), some (.ref c), some (.ref d), some (.ref l), x, y, z, some (.ref e), none] ∧ m = n - ks.length ∧ Same H1 H3 ∧ SD K H3 e ks S ∧ a ∈ ks ∧ b ∈ ks ∧ ∀ k ∈ ks, k < n) _ ⟨[a, b], _, _, _, rfl, rfl, se, hSD, by simp, by simp, by simp [an, bn]⟩ ?_
  rintro m σ H3 ⟨ks, x, y, z, rfl, rfl, s3, hSD, ma, mb, hk⟩
  have kl := nodup_bd hSD.nd hk
  walk_at "st"
  refine w_sdLen hSD ?_
  walk_at "st"
  refine Pm.w_wh (fun e1 => ?_) (fun e1 => ?_)
  · walk_at "st"
    refine Pm.w_rdL (SqL.of (s3 _ _ hl)) ?_
    refine Pm.w_forL (xs := ws) (fun i σ H4 => ∃ (x y z : Option V), σ = [some (.int n), some (.ref c), some (.ref d), some (.ref l), x, y, z, some (.ref e), none] ∧ Same H1 H4 ∧ SD K H4 e (runs ks (qs.take i)) S ∧ ∀ k ∈ runs ks (qs.take i), k < n) ⟨_, _, _, rfl, s3, by rw [List.take_zero]; exact hSD, by rw [List.take_zero]; exact hk⟩ (fun i σ H4 _ ⟨_, _, _, _, s4, _⟩ => SqL.of (s4 _ _ hl)) ?_ ?_
    · rintro i v σ H4 hi ⟨x, y, z, rfl, s3, hSD, hk⟩
      obtain ⟨q', hq', u', rfl, hu'⟩ := ha.get hi
      rw [List.getElem?_map] at hq'
      obtain ⟨⟨x1, y1, z1⟩, hqi, rfl⟩ := Option.map_eq_some_iff.mp hq'
      obtain ⟨⟨xy, yz⟩, txy, tyz, txz⟩ := Tr.plots_iff.mp (hmem _ (List.mem_of_getElem? hqi))
      have zn : z1 < n := by have := Tr.bd txz; simp only at this; omega
      have tk : runs ks (qs.take (i + 1)) = st3 (st3 (st3 (runs ks (qs.take i)) x1 y1 z1) x1 z1 y1) y1 z1 x1 := by rw [take_snoc hqi, runs_snoc]; rfl
      generalize runs ks (qs.take i) = k0 at tk hSD hk
      have k0l := nodup_bd hSD.nd hk
      walk_at "st"
      refine Pm.w_gtup (SqT.of (s3 _ _ hu')) rfl ?_
      walk_at "st"
      refine Pm.w_cut (fun σ' H' => σ' = [some (.int n), some (.ref c), some (.ref d), some (.ref l), some (.int x1), some (.int y1), some (.int z1), some (.ref e), none] ∧ Same H1 H' ∧ SD K H' e (st3 k0 x1 y1 z1) S) ?_ ?_
      · walk_at "st"
        refine w_sdIn hSD ?_
        walk_at "st"
        refine Pm.w_ite (fun m1 => ?_) (fun m1 => ?_)
        rotate_left
        · walk_at "st"
          have e9 : st3 (k0) x1 y1 z1 = k0 := if_neg (fun q => m1 q.1)
          exact ⟨rfl, s3, by rw [e9]; exact hSD⟩
        walk_at "st"
        refine w_sdIn hSD ?_
        walk_at "st"
        refine Pm.w_ite (fun m2 => ?_) (fun m2 => ?_)
        rotate_left
        · walk_at "st"
          have e9 : st3 (k0) x1 y1 z1 = k0 := if_neg (fun q => m2 q.2.1)
          exact ⟨rfl, s3, by rw [e9]; exact hSD⟩
        walk_at "st"
        refine w_sdNotIn hSD ?_
        walk_at "st"
        refine Pm.w_iteN (fun m3 => ?_) (fun m3 => ?_)
        rotate_left
        · walk_at "st"
          have e9 : st3 (k0) x1 y1 z1 = k0 := if_neg (fun q => q.2.2 m3)
          exact ⟨rfl, s3, by rw [e9]; exact hSD⟩
        walk_at "st"
        refine stand _ _ s3 hSD x1 y1 z1 (by omega) (by omega) zn (by omega) m1 m2 (by rw [Nat.min_eq_left (by omega), Nat.max_eq_right (by omega)]; exact txy) (by rw [Nat.min_eq_right (by omega), Nat.max_eq_left (by omega)]; exact tyz) (by rw [Nat.min_eq_left (by omega), Nat.max_eq_right (by omega)]; exact txz) _ _ (fun v H4 s4 hv => ?_)
        walk_at "st"
        refine w_sdPut (hSD.same s4) m3 hv (by omega) (fun es hSD kp => ?_)
        have e9 : st3 (k0) x1 y1 z1 = k0 ++ [z1] := if_pos ⟨m1, m2, m3⟩
        have s3 := same_but (o := .dK es) he (s3.trans s4)
        exact ⟨rfl, s3, by rw [e9]; exact hSD⟩
      rintro σ H4 ⟨rfl, s3, hSD⟩
      have hk1 := st3_mem (x := x1) (y := y1) hk zn
      generalize st3 k0 x1 y1 z1 = k1 at hSD hk1 tk
      have k1l := nodup_bd hSD.nd hk1
      refine Pm.w_cut (fun σ' H' => σ' = [some (.int n), some (.ref c), some (.ref d), some (.ref l), some (.int x1), some (.int y1), some (.int z1), some (.ref e), none] ∧ Same H1 H' ∧ SD K H' e (st3 k1 x1 z1 y1) S) ?_ ?_
      · walk_at "st"
        refine w_sdIn hSD ?_
        walk_at "st"
        refine Pm.w_ite (fun m1 => ?_) (fun m1 => ?_)
        rotate_left
        · walk_at "st"
          have e9 : st3 (k1) x1 z1 y1 = k1 := if_neg (fun q => m1 q.1)
          exact ⟨rfl, s3, by rw [e9]; exact hSD⟩
        walk_at "st"
        refine w_sdIn hSD ?_
        walk_at "st"
        refine Pm.w_ite (fun m2 => ?_) (fun m2 => ?_)
        rotate_left
        · walk_at "st"
          have e9 : st3 (k1) x1 z1 y1 = k1 := if_neg (fun q => m2 q.2.1)
          exact ⟨rfl, s3, by rw [e9]; exact hSD⟩
        walk_at "st"
        refine w_sdNotIn hSD ?_
        walk_at "st"
        refine Pm.w_iteN (fun m3 => ?_) (fun m3 => ?_)
        rotate_left
        · walk_at "st"
          have e9 : st3 (k1) x1 z1 y1 = k1 := if_neg (fun q => q.2.2 m3)
          exact ⟨rfl, s3, by rw [e9]; exact hSD⟩
        walk_at "st"
        refine stand _ _ s3 hSD x1 z1 y1 (by omega) zn (by omega) (by omega) m1 m2 (by rw [Nat.min_eq_left (by omega), Nat.max_eq_right (by omega)]; exact txz) (by rw [Nat.min_eq_left (by omega), Nat.max_eq_right (by omega)]; exact tyz) (by rw [Nat.min_eq_left (by omega), Nat.max_eq_right (by omega)]; exact txy) _ _ (fun v H4 s4 hv => ?_)
        walk_at "st"
        refine w_sdPut (hSD.same s4) m3 hv (by omega) (fun es hSD kp => ?_)
        have e9 : st3 (k1) x1 z1 y1 = k1 ++ [y1] := if_pos ⟨m1, m2, m3⟩
        have s3 := same_but (o := .dK es) he (s3.trans s4)
        exact ⟨rfl, s3, by rw [e9]; exact hSD⟩
      rintro σ H4 ⟨rfl, s3, hSD⟩
      have hk2 := st3_mem (x := x1) (y := z1) (z := y1) hk1 (by omega)
      generalize st3 k1 x1 z1 y1 = k2 at hSD hk2 tk
      have k2l := nodup_bd hSD.nd hk2
      have hk3 := st3_mem (x := y1) (y := z1) (z := x1) hk2 (by omega)
      have tk' : runs ks (qs.take (i + 1)) = st3 k2 y1 z1 x1 := tk
      rw [← tk'] at hk3
      walk_at "st"
      refine w_sdIn hSD ?_
      walk_at "st"
      refine Pm.w_ite (fun m1 => ?_) (fun m1 => ?_)
      rotate_left
      · walk_at "st"
        have e9 : st3 (k2) y1 z1 x1 = k2 := if_neg (fun q => m1 q.1)
        exact ⟨_, _, _, rfl, s3, by rw [tk', e9]; exact hSD, hk3⟩
      walk_at "st"
      refine w_sdIn hSD ?_
      walk_at "st"
      refine Pm.w_ite (fun m2 => ?_) (fun m2 => ?_)
      rotate_left
      · walk_at "st"
        have e9 : st3 (k2) y1 z1 x1 = k2 := if_neg (fun q => m2 q.2.1)
        exact ⟨_, _, _, rfl, s3, by rw [tk', e9]; exact hSD, hk3⟩
      walk_at "st"
      refine w_sdNotIn hSD ?_
      walk_at "st"
      refine Pm.w_iteN (fun m3 => ?_) (fun m3 => ?_)
      rotate_left
      · walk_at "st"
        have e9 : st3 (k2) y1 z1 x1 = k2 := if_neg (fun q => q.2.2 m3)
        exact ⟨_, _, _, rfl, s3, by rw [tk', e9]; exact hSD, hk3⟩
      walk_at "st"
      refine stand _ _ s3 hSD y1 z1 x1 (by omega) zn (by omega) (by omega) m1 m2 (by rw [Nat.min_eq_left (by omega), Nat.max_eq_right (by omega)]; exact tyz) (by rw [Nat.min_eq_left (by omega), Nat.max_eq_right (by omega)]; exact txz) (by rw [Nat.min_eq_right (by omega), Nat.max_eq_left (by omega)]; exact txy) _ _ (fun v H4 s4 hv => ?_)
      walk_at "st"
      refine w_sdPut (hSD.same s4) m3 hv (by omega) (fun es hSD kp => ?_)
      have e9 : st3 (k2) y1 z1 x1 = k2 ++ [x1] := if_pos ⟨m1, m2, m3⟩
      have s3 := same_but (o := .dK es) he (s3.trans s4)
      exact ⟨_, _, _, rfl, s3, by rw [tk', e9]; exact hSD, hk3⟩
    · rintro σ H4 ⟨x, y, z, rfl, s4, hSD4, hk4⟩
      rw [List.take_of_length_le (by omega)] at hSD4 hk4
      refine ⟨n - (runs ks qs).length, ?_, _, _, _, _, rfl, rfl, s4, hSD4, runs_sub ma, runs_sub mb, hk4⟩
      have := runs_more C hall hSD.nd tab ma mb (by omega) hk
      omega
  · walk_at "st"
    rw [Int.toNat_natCast]
    refine Pm.w_lcRm (R := PrV K) prv_mono S (by omega) (fun Dl i H4 Nx hD hi s4 put => ?_) (fun Dl H4 ws2 hD s4 hd4 ha4 => ?_)
    · walk_at "st"
      rw [Int.zero_add]
      refine w_sdGet (hSD.same s4) (all_in hSD.nd hk (by omega) hi) (fun u hu => ?_)
      exact put _ _ (Same.refl _) hu
    · exact q Dl H4 ws2 S ((s1.trans s3).trans s4) (s1.free (s3.free hD)) hd4 ha4 Sdet Srb
end
theorem besides_snoc (T : List IP) (a b : Int) (i : Nat) : ((List.range (i + 1)).filter (isBeside T a b)).map (fun c : Nat => (c : Int)) = ((List.range i).filter (isBeside T a b)).map (fun c : Nat => (c : Int)) ++ (if isBeside T a b i = true then [(i : Int)] else []) := by
  rw [List.range_succ, List.filter_append, List.map_append]
  congr 1
  by_cases h : isBeside T a b i = true
  · simp [h]
  · simp [h]
/-- a new list of numbers -/
def ILNew (H : Hp) (ns : List Int) (Q : VK) : Prop := ∀ (p : Addr) (H' : Hp), Same H H' → H p = none → H' p = some (.lst (ns.map V.int)) → Q (.ref p) H'
section
variable {P : Program} {w : World} {K : PySem.W.Frag} {mg : Str → Option Value} {base : Heap}
def spBeside (C : Addr) : Sp := fun vs H Q E => ∃ (n : Nat) (c : Addr) (cut : List IP) (a b : Int), vs = [.int n, .ref c, .int a, .int b] ∧ 1 ≤ n ∧ n ≤ 1000 ∧ PLt H c cut ∧ cut.length ≤ 1000 ∧
  (tieOf a b ∉ tiesL n cut → ∀ H', Same H H' → E (.ref C) none H') ∧ (tieOf a b ∈ tiesL n cut → ILNew H (besideL n (tiesL n cut) a b) Q)
theorem ok_beside (T : Tx K mg) : FnOk P w K mg base (L2.CX P w) 3 T.a_beside T.fd_beside ["n", "cut", "a", "b"] (spBeside T.c_NoRope) := by
  refine T.F_beside.okX sc_beside (fun vs H Q E h => ?_) (fun cdv A outer s H vs Q E hr h => ?_)
  · obtain ⟨n, c, cut, a, b, rfl, _⟩ := h
    rfl
  obtain ⟨n, c, cut, a, b, rfl, n1, n2, hc, cl, hE, q⟩ := h
  refine ⟨_, (pss_cons (ps_set (i := 4) sc_beside.nd rfl (.inl rfl) (pe_call (ok_ties T) (hr.mono (by decide)) (by rfl) T.g_ties T.F_ties.kp T.b_ties .nil pass0 (pa_cons (pv 0) (pa_cons (pv 1) pa_nil))))
      (pss_cons (ps_if (pt_cmpR (op_notInDK (K := K) hr.u65) (pe_call (ok_tie_of T) (hr.mono (by decide)) (by rfl) T.g_tie_of T.F_tie_of.kp T.b_tie_of .nil pass0 (pa_cons (pv 2) (pa_cons (pv 3) pa_nil))) (pv 4) (by rfl)) (pss_one (ps_raise rfl (takes_of rfl rfl rfl rfl) (pmk_own PySem.F.excBase_ValueError T.x_NoRope T.g_NoRope T.k_NoRope (raises_own T.b_NoRope T.t_NoRope) rfl))) pss_nil)
      (pss_cons (ps_set (i := 5) sc_beside.nd rfl (.inl rfl) (pe_lst pa_nil))
      (pss_cons (ps_for (passes_of rfl) rfl (pi_range1 (by rfl) T.m_range (pa_cons (pv 0) pa_nil)) (pg_name (i := 6) sc_beside.nd rfl (.inl rfl)) (pss_one (ps_if (PW.pt (pw_and (pt_cmpR (op_inDK (K := K) hr.u65) (pe_call (ok_tie_of T) (hr.mono (by decide)) (by rfl) T.g_tie_of T.F_tie_of.kp T.b_tie_of .nil pass0 (pa_cons (pv 2) (pa_cons (pv 6) pa_nil))) (pv 4) (by rfl)) (pw_and1 (pt_cmpR (op_inDK (K := K) hr.u65) (pe_call (ok_tie_of T) (hr.mono (by decide)) (by rfl) T.g_tie_of T.F_tie_of.kp T.b_tie_of .nil pass0 (pa_cons (pv 3) (pa_cons (pv 6) pa_nil))) (pv 4) (by rfl))))) (pss_one (ps_expr (k_bm (K := K) (pe_bm PySem.F.plainAttrs_list PySem.F.slot_list_append PySem.F.type_list_append mt_append (pv 5) (pa_cons (pv 6) pa_nil))))) pss_nil)))
      (pss_one (ps_ret (pv 5))))))), ?_⟩
  walk_at "st"
  refine ⟨n, c, cut, rfl, n1, n2, hc, cl, fun l H1 ws s1 nl hl ha => ?_⟩
  walk_at "st"
  refine ⟨a, b, rfl, fun t H2 s2 nt ht => ?_⟩
  walk_at "st"
  refine Pm.w_ninPL ht (SqL.of (s2 _ _ hl)) (prs_keep (keeps s2) ha) ?_
  walk_at "st"
  refine Pm.w_iteN (fun e => ?_) (fun e => ?_)
  · exact hE e _ (s1.trans s2)
  walk_at "st"
  refine Pm.w_newL (fun f hf => ?_)
  walk_at "st"
  rw [Int.toNat_natCast]
  have s3 : Same H2 (upd H2 f (.lst [])) := same_new hf _
  have nlf : l ≠ f := ne_of_none (s2 _ _ hl) hf
  have hHf : H f = none := (s1.trans s2).free hf
  refine Pm.w_forR (fun i σ H3 => ∃ x, σ = [some (.int n), some (.ref c), some (.int a), some (.int b), some (.ref l), some (.ref f), x] ∧ Same H H3 ∧ H3 l = some (.lst ws) ∧ Prs H3 ws (tiesL n cut) ∧ H3 f = some (.lst ((((List.range i).filter (isBeside (tiesL n cut) a b)).map fun c : Nat => (c : Int)).map V.int))) ?_ ?_ ?_
  · exact ⟨_, rfl, same_but hHf (s1.trans s2), s3 _ _ (s2 _ _ hl), prs_keep (keeps (s2.trans s3)) ha, upd_same⟩
  · rintro i σ H3 hi ⟨x, rfl, sm, hl3, ha3, hf3⟩
    have hz : ((((List.range i).filter (isBeside (tiesL n cut) a b)).map fun c : Nat => (c : Int)).map V.int).length < sizeLine := by
      rw [List.length_map, List.length_map]
      have := List.length_filter_le (isBeside (tiesL n cut) a b) (List.range i)
      rw [List.length_range] at this
      exact size_lt (by omega)
    have fin : ∀ H5 : Hp, Same H3 H5 → isBeside (tiesL n cut) a b i = false → ∃ x, ([some (.int n), some (.ref c), some (.int a), some (.int b), some (.ref l), some (.ref f), some (.int (0 + (i : Nat)))] : L2.St) = [some (.int n), some (.ref c), some (.int a), some (.int b), some (.ref l), some (.ref f), x] ∧ Same H H5 ∧ H5 l = some (.lst ws) ∧ Prs H5 ws (tiesL n cut) ∧ H5 f = some (.lst ((((List.range (i + 1)).filter (isBeside (tiesL n cut) a b)).map fun c : Nat => (c : Int)).map V.int)) := fun H5 s5 z => by
      refine ⟨_, rfl, sm.trans s5, s5 _ _ hl3, prs_keep (keeps s5) ha3, ?_⟩
      rw [besides_snoc, z, if_neg Bool.false_ne_true, List.append_nil]
      exact s5 _ _ hf3
    walk_at "st"
    refine ⟨a, _, rfl, fun t4 H4 s4 nt4 ht4 => ?_⟩
    rw [Int.zero_add] at ht4
    walk_at "st"
    refine Pm.w_inPL ht4 (SqL.of (s4 _ _ hl3)) (prs_keep (keeps s4) ha3) ?_
    walk_at "st"
    refine Pm.w_ite (fun e1 => ?_) (fun e1 => ?_)
    · walk_at "st"
      refine ⟨b, _, rfl, fun t5 H5 s5 nt5 ht5 => ?_⟩
      rw [Int.zero_add] at ht5
      have s45 := s4.trans s5
      walk_at "st"
      refine Pm.w_inPL ht5 (SqL.of (s45 _ _ hl3)) (prs_keep (keeps s45) ha3) ?_
      walk_at "st"
      refine Pm.w_ite (fun e2 => ?_) (fun e2 => ?_)
      · have z : isBeside (tiesL n cut) a b i = true := by unfold isBeside; rw [decide_eq_true e1, decide_eq_true e2]; rfl
        walk_at "st"
        refine ⟨.inl ⟨rfl, _, SqL.of (s45 _ _ hf3)⟩, ?_⟩
        walk_at "st"
        refine Pm.w_append (s45 _ _ hf3) hz ?_
        walk_at "st"
        refine ⟨_, rfl, same_but hHf (sm.trans s45), ?_, ?_, ?_⟩
        · rw [upd_ne nlf]; exact s45 _ _ hl3
        · exact prs_keep (keeps_lst (s45 _ _ hf3)) (prs_keep (keeps s45) ha3)
        · rw [upd_same, besides_snoc, z, if_pos rfl, List.map_append, Int.zero_add]
          rfl
      · have z : isBeside (tiesL n cut) a b i = false := by unfold isBeside; rw [decide_eq_false e2, Bool.and_false]
        walk_at "st"
        exact fin H5 s45 z
    · have z : isBeside (tiesL n cut) a b i = false := by unfold isBeside; rw [decide_eq_false e1, Bool.false_and]
      walk_at "st"
      exact fin H4 s4 z
  · rintro σ H3 ⟨x, rfl, sm, hl3, ha3, hf3⟩
    walk_at "st"
    exact q e f _ sm hHf hf3
end
section
variable {P : Program} {w : World} {K : PySem.W.Frag} {mg : Str → Option Value} {base : Heap}
def spTurned (C : Addr) : Sp := fun vs H Q E => ∃ (n : Nat) (c : Addr) (cut : List IP) (a b : Int), vs = [.int n, .ref c, .int a, .int b] ∧ 1 ≤ n ∧ n ≤ 1000 ∧ PLt H c cut ∧ cut.length ≤ 1000 ∧
  (tieOf a b ∉ cut → ∀ H', Same H H' → E (.ref C) none H') ∧ (tieOf a b ∈ cut → 2 ≤ (besideL n (tiesL n cut) a b).length ∧ PLNew H (turnedL n cut a b) Q)
theorem ok_turned (T : Tx K mg) : FnOk P w K mg base (L2.CX P w) 4 T.a_turned T.fd_turned ["n", "cut", "a", "b"] (spTurned T.c_NoRope) := by
  refine T.F_turned.okX sc_turned (fun vs H Q E h => ?_) (fun cdv A outer s H vs Q E hr h => ?_)
  · obtain ⟨n, c, cut, a, b, rfl, _⟩ := h
    rfl
  obtain ⟨n, c, cut, a, b, rfl, n1, n2, hc, cl, hE, q⟩ := h
  refine ⟨_, (pss_cons (ps_set (i := 4) sc_turned.nd rfl (.inr rfl) (pe_call (ok_tie_of T) (hr.mono (by decide)) (by rfl) T.g_tie_of T.F_tie_of.kp T.b_tie_of .nil pass0 (pa_cons (pv 2) (pa_cons (pv 3) pa_nil))))
      (pss_cons (ps_if (pt_cmpR (op_notInDK (K := K) hr.u65) (pv 4) (pv 1) (by rfl)) (pss_one (ps_raise rfl (takes_of rfl rfl rfl rfl) (pmk_own PySem.F.excBase_ValueError T.x_NoRope T.g_NoRope T.k_NoRope (raises_own T.b_NoRope T.t_NoRope) rfl))) pss_nil)
      (pss_cons (ps_set (i := 5) sc_turned.nd rfl (.inl rfl) (pe_call (ok_beside T) (hr.mono (by decide)) (by rfl) T.g_beside T.F_beside.kp T.b_beside .nil (passes_call (takes_of rfl rfl rfl rfl) (fun _ _ _ _ h => h)) (pa_cons (pv 0) (pa_cons (pv 1) (pa_cons (pv 2) (pa_cons (pv 3) pa_nil))))))
      (pss_one (ps_ret (pe_callB (cr_sortK (K := K)) (by rfl) T.m_sorted (by decide +kernel) (pa_cons (pe_op op_cat (pe_lc (own := [("one", 6)]) (g := gName 6) rfl sc_turned.nd (k_il (K := K) (pi_list (pv 1))) (blkOk_by (N := N_turned) (sc := defScope s_turned) (by decide +kernel)) (fun _ _ _ _ _ => (pg_name (i := 6) sc_turned.nd rfl (.inl rfl))) (fun _ _ _ _ _ => (pts_one (pt_cmpR (op_neDK (K := K) hr.units) (pv 6) (pv 4) (nomark _)))) (fun _ _ _ _ _ => (pv 6))) (pe_lst (pa_cons (pe_tup (pa_cons (pe_ix (ix_listK (K := K)) (pv 5) (pe_int) (fun _ _ => rfl)) (pa_cons (pe_ix (ix_listK (K := K)) (pv 5) (pe_int) (fun _ _ => rfl)) pa_nil))) pa_nil))) pa_nil))))))), ?_⟩
  walk_at "st"
  refine ⟨a, b, rfl, fun r H1 s1 nr hr1 => ?_⟩
  obtain ⟨cv1, hc1, hp1⟩ := hc.same s1
  walk_at "st"
  refine Pm.w_ninPL hr1 (SqL.of hc1) hp1 ?_
  walk_at "st"
  refine Pm.w_iteN (fun e => ?_) (fun e => ?_)
  · exact hE e _ s1
  obtain ⟨l2, q⟩ := q e
  walk_at "st"
  refine ⟨n, c, cut, a, b, rfl, n1, n2, ⟨cv1, hc1, hp1⟩, cl, fun z => absurd (mem_ties.mpr (.inr e)) z, fun _ l H2 s2 nl hl => ?_⟩
  obtain ⟨cv2, hc2, hp2⟩ := PLt.same ⟨cv1, hc1, hp1⟩ s2
  walk_at "st"
  refine Pm.w_rdL (SqL.of hc2) ?_
  refine Pm.w_lcLf (R := Pr) pr_mono (S := Pr) pr_mono (SqL.of hc2) hp2 id (fun p => !decide (p = tieOf a b)) (by omega) (fun D x p H3 Nx hD hm hs s3 put skip => ?_) (fun D H3 ws hD s3 hd ha => ?_)
  · obtain ⟨t, rfl, ht⟩ := hs
    obtain ⟨u, eu, hu⟩ := hr1.keep (keeps (s2.trans s3))
    cases eu
    walk_at "st"
    refine Pm.w_neP ⟨t, rfl, ht⟩ ⟨_, rfl, hu⟩ ?_
    walk_at "st"
    refine Pm.w_iteN (fun z => ?_) (fun z => ?_)
    · walk_at "st"
      exact put _ _ (by simp [z]) (Same.refl _) ⟨t, rfl, ht⟩
    · exact skip _ (by simp [z]) (Same.refl _)
  · rw [List.map_id] at ha
    have hl3 := s3 _ _ hl
    walk_at "st"
    refine Pm.w_ixL (SqL.of hl3) (atI_getD (i := 0) (by omega)) ?_
    walk_at "st"
    refine Pm.w_ixL (SqL.of hl3) (atI_getD (i := 1) (by omega)) ?_
    walk_at "st"
    refine Pm.w_newT (fun t ht => ?_)
    walk_at "st"
    refine Pm.w_newL (fun k hk => ?_)
    have nDk : D ≠ k := ne_of_none (o := .lst ws) ((same_new ht _) _ _ hd) hk
    have hlen := ha.length
    have hlf := List.length_filter_le (fun p : IP => !decide (p = tieOf a b)) cut
    refine Pm.w_cat (by rw [upd_ne nDk, upd_ne (ne_of_none hd ht)]; exact hd) upd_same (size_ok (by rw [List.length_singleton]; omega)) (fun g hg => ?_)
    have k1 := keeps ((same_new ht (.tup [.int ((besideL n (tiesL n cut) a b).getD 0 0), .int ((besideL n (tiesL n cut) a b).getD 1 0)])).trans ((same_new hk (.lst [.ref t])).trans (same_new hg (.lst (ws ++ [.ref t])))))
    have s4 := (same_new ht (.tup [.int ((besideL n (tiesL n cut) a b).getD 0 0), .int ((besideL n (tiesL n cut) a b).getD 1 0)])).trans ((same_new hk (.lst [.ref t])).trans (same_new hg (.lst (ws ++ [.ref t]))))
    refine Pm.w_sortP (SqL.of upd_same) ((prs_keep k1 ha).append (ys' := [((besideL n (tiesL n cut) a b).getD 0 0, (besideL n (tiesL n cut) a b).getD 1 0)]) ⟨⟨t, rfl, ?_⟩, trivial⟩) (fun ys p2 hp2' hy => ?_)
    · exact ((same_new hk _).trans (same_new hg _)) _ _ upd_same
    · have s5 := s1.trans (s2.trans (s3.trans s4))
      exact q p2 _ ys (s5.trans (same_new hp2' _)) (s5.free hp2') upd_same (prs_keep (keeps (same_new hp2' _)) hy)
end
section
variable {P : Program} {w : World} {K : PySem.W.Frag} {mg : Str → Option Value} {base : Heap}
def spTwo (C : Addr) : Sp := fun vs H Q E => ∃ (n : Nat) (a b : Int), vs = [.int n, .int a, .int b] ∧ (¬ twoOk n a b → E (.ref C) none H) ∧ (twoOk n a b → Q .non H)
theorem ok_two_posts (T : Tx K mg) : FnOk P w K mg base (L2.CX P w) 1 T.a_two_posts T.fd_two_posts ["n", "a", "b"] (spTwo T.c_NoPost) := by
  refine T.F_two_posts.okX sc_two_posts (fun vs H Q E h => ?_) (fun cdv A outer s H vs Q E hr h => ?_)
  · obtain ⟨n, a, b, rfl, _⟩ := h
    rfl
  obtain ⟨n, a, b, rfl, hE, q⟩ := h
  refine ⟨_, (pss_one (ps_if (PW.pt (pw_or (pt_cmpR op_lt (pv 1) (pe_int) (nomark _)) (pw_or (pt_cmpR op_lt (pv 2) (pe_int) (nomark _)) (pw_or (pt_cmpR op_ge (pv 1) (pv 0) (nomark _)) (pw_or (pt_cmpR op_ge (pv 2) (pv 0) (nomark _)) (pw_or1 (pt_cmpR op_eq (pv 1) (pv 2) (nomark _)))))))) (pss_one (ps_raise rfl (takes_of rfl rfl rfl rfl) (pmk_own PySem.F.excBase_ValueError T.x_NoPost T.g_NoPost T.k_NoPost (raises_own T.b_NoPost T.t_NoPost) rfl))) pss_nil)), ?_⟩
  walk_at "st"
  refine Pm.w_ite (fun e => hE (fun z => by unfold twoOk at z; omega)) (fun e1 => ?_)
  walk_at "st"
  refine Pm.w_ite (fun e => hE (fun z => by unfold twoOk at z; omega)) (fun e2 => ?_)
  walk_at "st"
  refine Pm.w_ite (fun e => hE (fun z => by unfold twoOk at z; omega)) (fun e3 => ?_)
  walk_at "st"
  refine Pm.w_ite (fun e => hE (fun z => by unfold twoOk at z; omega)) (fun e4 => ?_)
  walk_at "st"
  refine Pm.w_ite (fun e => hE (fun z => by unfold twoOk at z; omega)) (fun e5 => ?_)
  walk_at "st"
  exact q ⟨⟨by omega, by omega⟩, ⟨by omega, by omega⟩, e5⟩
def spMeasured (K : PySem.W.Frag) (C : Addr) : Sp := fun vs H Q E => ∃ (n : Nat) (c d : Addr) (cut : List IP) (t : Tr) (L : Len) (D : Nat → Nat → Rat) (F B : Nat) (a b : Int), vs = [.int n, .ref c, .ref d, .int a, .int b] ∧ n ≤ 1000 ∧ PLt H c cut ∧ Cutting n cut t ∧ LenD K H d t D ∧ Meas n t L D ∧ Bd n D F B ∧ 4 * B ≤ 9000 ∧
  (¬ twoOk n a b → E (.ref C) none H) ∧ (twoOk n a b → FrNew H (D (min a.toNat b.toNat) (max a.toNat b.toNat)) Q)
theorem ok_measured (T : Tx K mg) : FnOk P w K mg base (L2.CX P w) 7 T.a_measured T.fd_measured ["n", "cut", "lengths", "a", "b"] (spMeasured K T.c_NoPost) := by
  refine T.F_measured.okX sc_measured (fun vs H Q E h => ?_) (fun cdv A outer s H vs Q E hr h => ?_)
  · obtain ⟨n, c, d, cut, t, L, D, F, B, a, b, rfl, _⟩ := h
    rfl
  obtain ⟨n, c, d, cut, t, L, D, F, B, a, b, rfl, n2, hc, C, hd, M, Z, hB, hE, q⟩ := h
  refine ⟨_, (pss_cons (ps_expr (pe_call (ok_two_posts T) (hr.mono (by decide)) (by rfl) T.g_two_posts T.F_two_posts.kp T.b_two_posts .nil (passes_call (takes_of rfl rfl rfl rfl) (fun _ _ _ _ h => h)) (pa_cons (pv 0) (pa_cons (pv 3) (pa_cons (pv 4) pa_nil)))))
      (pss_cons (ps_set (i := 5) sc_measured.nd rfl (.inl rfl) (pe_call (ok_stands T) (hr.mono (by decide)) (by rfl) T.g_stands T.F_stands.kp T.b_stands .nil pass0 (pa_cons (pv 0) (pa_cons (pv 1) (pa_cons (pv 2) pa_nil)))))
      (pss_one (ps_ret (pe_call (ok_spread T) (hr.mono (by decide)) (by rfl) T.g_spread T.F_spread.kp T.b_spread .nil pass0 (pa_cons (pe_ix (ix_listK (K := K)) (pv 5) (pe_callB (c_min rfl) (by rfl) T.m_min (by decide +kernel) (pa_cons (pv 3) (pa_cons (pv 4) pa_nil))) (fun _ _ => rfl)) (pa_cons (pe_ix (ix_listK (K := K)) (pv 5) (pe_callB (c_max rfl) (by rfl) T.m_max (by decide +kernel) (pa_cons (pv 3) (pa_cons (pv 4) pa_nil))) (fun _ _ => rfl)) pa_nil))))))), ?_⟩
  walk_at "st"
  refine ⟨n, a, b, rfl, hE, fun ok => ?_⟩
  have q := q ok
  obtain ⟨⟨a0, a1⟩, ⟨b0, b1⟩, ne⟩ := ok
  obtain ⟨x, rfl⟩ : ∃ x : Nat, a = (x : Int) := ⟨a.toNat, by omega⟩
  obtain ⟨y, rfl⟩ : ∃ x : Nat, b = (x : Int) := ⟨b.toNat, by omega⟩
  rw [Int.toNat_natCast, Int.toNat_natCast] at q
  walk_at "st"
  refine ⟨n, c, d, cut, t, L, D, F, B, rfl, n2, hc, C, hd, M, Z, hB, fun l H1 ws S s1 nl hl ha hS hb => ?_⟩
  have pr : ∀ {i : Nat}, i < n → ∃ u, ws[i]? = some (.ref u) ∧ PrV K H1 (.ref u) (S i) := fun {i} hi => by
    obtain ⟨v, hv, r⟩ := ha.get' (i := i) (y := S i) (by rw [List.getElem?_map, List.getElem?_range hi]; rfl)
    obtain ⟨t, u, w, rfl, r'⟩ := id r
    exact ⟨t, hv, r⟩
  have mn : min x y < n := by omega
  have mx : max x y < n := by omega
  obtain ⟨u1, hu1, p1⟩ := pr mn
  obtain ⟨u2, hu2, p2⟩ := pr mx
  have emin : min (x : Int) (y : Int) = ((min x y : Nat) : Int) := by omega
  have emax : max (x : Int) (y : Int) = ((max x y : Nat) : Int) := by omega
  walk_at "st"
  rw [emin]
  refine Pm.w_ixL (SqL.of hl) (atI_nat hu1) ?_
  walk_at "st"
  rw [emax]
  refine Pm.w_ixL (SqL.of hl) (atI_nat hu2) ?_
  walk_at "st"
  refine ⟨u1, u2, _, _, B, rfl, p1, p2, (hb _ mn).1, (hb _ mn).2, (hb _ mx).1, (hb _ mx).2, hB, fun v H2 s2 nv hv => ?_⟩
  rw [hS _ _ mn mx] at hv
  exact q v H2 (s1.trans s2) (s1.free nv) hv
end
section
variable {P : Program} {w : World} {K : PySem.W.Frag} {mg : Str → Option Value} {base : Heap}
/-- the rope of two posts in a cutting -/
theorem Cutting.rope_nat {n : Nat} {cut : List IP} {t : Tr} (C : Cutting n cut t) {a b : Int} (h : tieOf a b ∈ cut) : ∃ x y : Nat, tieOf a b = castP (x, y) ∧ (x, y) ∈ t.ropes 0 ∧ turnedL n cut a b = turnedL n cut x y := by
  obtain ⟨⟨x, y⟩, hq, e⟩ := C.mem.mp h
  refine ⟨x, y, e, hq, ?_⟩
  have e1 := congrArg Prod.fst e
  have e2 := congrArg Prod.snd e
  simp only [tieOf, castP] at e1 e2
  rcases Int.le_total a b with z | z
  · rw [show a = (x : Int) by omega, show b = (y : Int) by omega]
  · rw [turned_comm, show a = (y : Int) by omega, show b = (x : Int) by omega]
/-- the dict of a cutting's lengths behind a turning -/
theorem laid_len {H : Hp} {d' : Addr} {n : Nat} {cut : List IP} {t t' : Tr} {x y m o : Nat} {Rr : List (Nat × Nat)} {D : Nat → Nat → Rat} {ks ks' : List IP} {L L' : IP → IP} (C : Cutting n cut t) (U : Turning n cut t t' x y m o Rr)
    (hks : ∀ p, p ∈ ks ↔ ∃ q, q ∈ t.all 0 ∧ p = castP q) (hL : ∀ q ∈ t.all 0, L (castP q) = rp (D q.1 q.2)) (hLD : LD K H d' ks' L') (h1 : ∀ p, p ∈ ks' ↔ (p ∈ ks ∧ p ≠ castP (x, y)) ∨ p = castP (min m o, max m o)) (h2 : ∀ p ∈ ks, p ≠ castP (x, y) → L' p = L p) (h3 : L' (castP (min m o, max m o)) = rp (D (min m o) (max m o))) : LenD K H d' t' D := by
  refine ⟨ks', L', hLD, fun p => ?_, fun q hq => ?_⟩
  · rw [h1]
    constructor
    · rintro (⟨hp, ne⟩ | rfl)
      · obtain ⟨q, hq, rfl⟩ := (hks p).mp hp
        exact ⟨q, (U.all_iff C).mpr (.inl ⟨hq, fun z => ne (by rw [z])⟩), rfl⟩
      · exact ⟨_, (U.all_iff C).mpr (.inr rfl), rfl⟩
    · rintro ⟨q, hq, rfl⟩
      rcases (U.all_iff C).mp hq with ⟨hq, ne⟩ | rfl
      · exact .inl ⟨(hks _).mpr ⟨q, hq, rfl⟩, fun z => ne (castP_inj z)⟩
      · exact .inr rfl
  · rcases (U.all_iff C).mp hq with ⟨hq, ne⟩ | rfl
    · rw [h2 _ ((hks _).mpr ⟨q, hq, rfl⟩) (fun z => ne (castP_inj z)), hL q hq]
    · exact h3
theorem Meas.turn' {n : Nat} {cut : List IP} {t t' : Tr} {x y m o : Nat} {R : List (Nat × Nat)} {L : Len} {D : Nat → Nat → Rat} (M : Meas n t L D) (C : Cutting n cut t) (U : Turning n cut t t' x y m o R) : Meas n t' (fun p => D p.1 p.2) D :=
  M.turn C U (fun p hp _ => M.tie hp) rfl
def spLaid (K : PySem.W.Frag) (C : Addr) : Sp := fun vs H Q E => ∃ (n : Nat) (c d : Addr) (cut : List IP) (t : Tr) (L : Len) (D : Nat → Nat → Rat) (F B : Nat) (a b : Int), vs = [.int n, .ref c, .ref d, .int a, .int b] ∧ n ≤ 1000 ∧ PLt H c cut ∧ Cutting n cut t ∧ LenD K H d t D ∧ Meas n t L D ∧ Bd n D F B ∧ 4 * B ≤ 9000 ∧
  (tieOf a b ∉ cut → ∀ H', Same H H' → E (.ref C) none H') ∧ (tieOf a b ∈ cut → ∀ (d' : Addr) (H' : Hp) (t' : Tr), Same H H' → H d' = none → Cutting n (turnedL n cut a b) t' → LenD K H' d' t' D → Meas n t' (fun p => D p.1 p.2) D → Q (.ref d') H')
theorem ok_laid (T : Tx K mg) : FnOk P w K mg base (L2.CX P w) 8 T.a_laid T.fd_laid ["n", "cut", "lengths", "a", "b"] (spLaid K T.c_NoRope) := by
  refine T.F_laid.okX sc_laid (fun vs H Q E h => ?_) (fun cdv A outer s H vs Q E hr h => ?_)
  · obtain ⟨n, c, d, cut, t, L, D, F, B, a, b, rfl, _⟩ := h
    rfl
  obtain ⟨n, c, d, cut, t, L, D, F, B, a, b, rfl, n2, hc, C, hd, M, Z, hB, hE, q⟩ := h
  have cl := C.cut_len
  have n3 := C.n3
  refine ⟨_, (pss_cons (ps_set (i := 5) sc_laid.nd rfl (.inl rfl) (pe_call (ok_tie_of T) (hr.mono (by decide)) (by rfl) T.g_tie_of T.F_tie_of.kp T.b_tie_of .nil pass0 (pa_cons (pv 3) (pa_cons (pv 4) pa_nil))))
      (pss_cons (ps_if (pt_cmpR (op_notInDK (K := K) hr.u65) (pv 5) (pv 1) (by rfl)) (pss_one (ps_raise rfl (takes_of rfl rfl rfl rfl) (pmk_own PySem.F.excBase_ValueError T.x_NoRope T.g_NoRope T.k_NoRope (raises_own T.b_NoRope T.t_NoRope) rfl))) pss_nil)
      (pss_cons (ps_set (i := 6) sc_laid.nd rfl (.inl rfl) (pe_ix (ix_listK (K := K)) (pe_lc (own := [("one", 7)]) (g := gName 7) rfl sc_laid.nd (k_il (K := K) (pi_list (pe_call (ok_turned T) (hr.mono (by decide)) (by rfl) T.g_turned T.F_turned.kp T.b_turned .nil (passes_call (takes_of rfl rfl rfl rfl) (fun _ _ _ _ h => h)) (pa_cons (pv 0) (pa_cons (pv 1) (pa_cons (pv 3) (pa_cons (pv 4) pa_nil))))))) (blkOk_by (N := N_laid) (sc := defScope s_laid) (by decide +kernel)) (fun _ _ _ _ _ => (pg_name (i := 7) sc_laid.nd rfl (.inl rfl))) (fun _ _ _ _ _ => (pts_one (pt_cmpR (op_notInDK (K := K) hr.u65) (pv 7) (pv 1) (by rfl)))) (fun _ _ _ _ _ => (pv 7))) (pe_int) (fun _ _ => rfl)))
      (pss_cons (ps_set (i := 8) sc_laid.nd rfl (.inl rfl) (pe_dnewT))
      (pss_cons (ps_lock (ps_for (passes_of rfl) rfl (pi_itemsT (pv 2)) (k_gt (K := K) (pg_tup (by rfl) (pgs_cons (pg_name (i := 9) sc_laid.nd rfl (.inl rfl)) (pgs_cons (pg_name (i := 10) sc_laid.nd rfl (.inl rfl)) pgs_nil)))) (pss_one (ps_if (pt_cmpR (op_neDK (K := K) hr.units) (pv 9) (pv 5) (nomark _)) (pss_one (ps_dput (hu_of hr) (pv 8) (pv 9) (pv 10) rfl)) pss_nil))))
      (pss_cons (ps_dput (hu_of hr) (pv 8) (pv 6) (pe_call (ok_measured T) (hr.mono (by decide)) (by rfl) T.g_measured T.F_measured.kp T.b_measured .nil (passes_call (takes_of rfl rfl rfl rfl) (fun _ _ _ _ h => h)) (pa_cons (pv 0) (pa_cons (pv 1) (pa_cons (pv 2) (pa_cons (pe_ix (ix_tupK (K := K)) (pv 6) (pe_int) (fun _ _ => rfl)) (pa_cons (pe_ix (ix_tupK (K := K)) (pv 6) (pe_int) (fun _ _ => rfl)) pa_nil)))))) rfl)
      (pss_one (ps_ret (pv 8))))))))), ?_⟩
  walk_at "st"
  refine ⟨a, b, rfl, fun r H1 s1 nr hr1 => ?_⟩
  obtain ⟨cv1, hc1, hp1⟩ := hc.same s1
  walk_at "st"
  refine Pm.w_ninPL hr1 (SqL.of hc1) hp1 ?_
  walk_at "st"
  refine Pm.w_iteN (fun e => ?_) (fun e => ?_)
  · exact hE e _ s1
  have q := q e
  obtain ⟨x, y, et, hxy, eT⟩ := C.rope_nat e
  obtain ⟨t', m, o, Rr, U⟩ := C.turn hxy
  have fresh := U.fresh C
  have bl : 2 ≤ (besideL n (tiesL n cut) a b).length := by
    rw [C.beside_len (mem_ties.mpr (.inr e)), if_pos e]
    omega
  walk_at "st"
  refine ⟨n, c, cut, a, b, rfl, by omega, n2, ⟨cv1, hc1, hp1⟩, by omega, fun z => absurd e z, fun _ => ⟨bl, fun l H2 ws s2 nl hl hpl => ?_⟩⟩
  rw [eT] at hpl
  have wl := hpl.length
  rw [U.len C] at wl
  have s12 := s1.trans s2
  walk_at "st"
  refine Pm.w_rdL (SqL.of hl) ?_
  refine Pm.w_lcLf (R := Pr) pr_mono (S := Pr) pr_mono (SqL.of hl) hpl id (fun p => !decide (p ∈ cut)) (by have := hpl.length; omega) (fun D1 x1 p H3 Nx hD hm hs s3 put skip => ?_) (fun D1 H3 ws3 hD s3 hd3 ha => ?_)
  · have s13 := s2.trans s3
    walk_at "st"
    refine Pm.w_ninPL hs (SqL.of (s13 _ _ hc1)) (prs_keep (keeps s13) hp1) ?_
    walk_at "st"
    refine Pm.w_iteN (fun z => ?_) (fun z => ?_)
    · walk_at "st"
      exact put _ _ (by simp [z]) (Same.refl _) hs
    · exact skip _ (by simp [z]) (Same.refl _)
  rw [List.map_id, fresh] at ha
  have hw : ∃ u, ws3 = [.ref u] ∧ Pr H3 (.ref u) (castP (min m o, max m o)) := by
    match ws3, ha with
    | [x], h =>
      obtain ⟨u, rfl, hu⟩ := h.1
      exact ⟨u, rfl, u, rfl, hu⟩
  obtain ⟨u, rfl, hu⟩ := hw
  walk_at "st"
  refine Pm.w_ixL (SqL.of hd3) (show atI [V.ref u] 0 = some (.ref u) from rfl) ?_
  walk_at "st"
  refine Pm.w_dnewT (fun f hf => ?_)
  have s4 := same_new hf (.dT [])
  have s03 := s12.trans s3
  have hrope : Pr H3 (.ref r) (castP (x, y)) := by rw [← et]; exact hr1.keep (keeps (s2.trans s3))
  obtain ⟨ks, Ld, hLD, hks, hLv⟩ := hd.same s03
  have hfd : f ≠ d := by
    obtain ⟨_, es3, h1, _⟩ := hLD
    exact (ne_of_none h1 hf).symm
  walk_at "st"
  refine w_forItems hLD s4 (fun od uo i σ H4 => ∃ x1 y1, σ = [some (.int n), some (.ref c), some (.ref d), some (.int a), some (.int b), some (.ref r), some (.ref u), none, some (.ref f), x1, y1] ∧ ∃ kf Lf, LD K H4 f kf Lf ∧ kf.length ≤ i ∧ (∀ p, p ∈ kf ↔ p ∈ ks.take i ∧ p ≠ castP (x, y)) ∧ ∀ p ∈ kf, Lf p = Ld p) (fun od uo Q _ _ h => Pm.w_var rfl h) ?_ ?_ ?_
  · intro od uo huo
    refine ⟨_, _, rfl, [], Ld, ?_, Nat.le_refl _, fun p => by simp, fun _ h => nomatch h⟩
    exact ld_nil (by rw [upd_ne hfd]; exact upd_same) _
  · rintro od es i k σ H4 hes hki sl kp ⟨x1, y1, rfl, kf, Lf, hLf, kl, hkf, hLfv⟩ T1 p v hT1 hp hv
    have sT := same_new hT1 (.tup [.ref p, v])
    obtain ⟨ur, er, hur⟩ := (hrope.keep kp).keep (keeps sT)
    cases er
    have hp2 := hp.keep (keeps sT)
    have hLf2 := hLf.same sT
    have ktk : ks.take (i + 1) = ks.take i ++ [k] := by rw [List.take_add_one, hki] <;> rfl
    have knd := hLD.nd
    have knot : k ∉ ks.take i := fun z => by
      have e1 : (ks.take (i + 1)).Nodup := knd.sublist (List.take_sublist _ _)
      rw [ktk, List.nodup_append] at e1
      exact e1.2.2 k z k List.mem_cons_self rfl
    have ksl : i < ks.length := (List.getElem?_eq_some_iff.mp hki).1
    walk_at "st"
    refine Pm.w_gtup (SqT.of upd_same) rfl ?_
    walk_at "st"
    refine Pm.w_neP hp2 ⟨_, rfl, hur⟩ ?_
    walk_at "st"
    refine Pm.w_iteN (fun z => ?_) (fun z => ?_)
    · walk_at "st"
      have kls : kf.length < 1000000 := by
        have h1 := hLf.nd
        have h2 : kf.length ≤ i := kl
        have h3 := hLD.nd
        have h4 : ks.length = (tiesL n cut).length := perm_len hLD.nd C.ties_nodup (fun p => by rw [hks, C.ties])
        have h5 : (tiesL n cut).length ≤ 3000 := by rw [tiesL, sortP_len, List.length_append, sides0_len (by omega)]; omega
        omega
      refine w_ldPut hLf2 hp2 (hv.keep (keeps sT)) kls (fun es5 hL5 kp5 => ?_)
      have nk : k ∉ kf := fun z => knot ((hkf k).mp z).1
      refine ⟨same_but (lock_none hes hf) (sl.trans sT), _, _, rfl, _, _, hL5, Nat.le_trans (putk_len _ _) (by omega), fun p' => ?_, fun p' hp' => ?_⟩
      · rw [mem_putk, hkf, ktk, List.mem_append, List.mem_singleton]
        constructor
        · rintro (⟨h1, h2⟩ | rfl)
          · exact ⟨.inl h1, h2⟩
          · exact ⟨.inr rfl, z⟩
        · rintro ⟨h1 | h1, h2⟩
          · exact .inl ⟨h1, h2⟩
          · exact .inr h1
      · by_cases e1 : p' = k
        · rw [e1, updF_same]
        · rw [updF_ne e1]
          rcases mem_putk.mp hp' with h | h
          · exact hLfv p' h
          · exact absurd h e1
    · walk_at "st"
      refine ⟨sl.trans sT, _, _, rfl, kf, Lf, hLf2, by omega, fun p' => ?_, hLfv⟩
      rw [hkf, ktk, List.mem_append, List.mem_singleton]
      constructor
      · rintro ⟨h1, h2⟩
        exact ⟨.inl h1, h2⟩
      · rintro ⟨h1 | h1, h2⟩
        · exact ⟨h1, h2⟩
        · exact absurd (h1.trans z) h2
  · rintro od es σ H4 hes sl ⟨x1, y1, rfl, kf, Lf, hLf, kl, hkf, hLfv⟩ s5
    rw [List.take_length] at hkf
    have hu5 := hu.keep (keeps s5)
    have s05 := s03.trans s5
    have ok : twoOk n ((min m o : Nat) : Int) ((max m o : Nat) : Int) := by
      have := U.new_bd C
      exact ⟨⟨by omega, by omega⟩, ⟨by omega, by omega⟩, by omega⟩
    walk_at "st"
    refine Pm.w_ixT hu5.tup (atI2 _ _).1 ?_
    walk_at "st"
    refine Pm.w_ixT hu5.tup (atI2 _ _).2 ?_
    walk_at "st"
    have hLf5 : LD K (upd H4 d (.dT es)) f kf Lf := hLf.keep (o := .dT es) (fun t xs e => by rw [upd_ne (ne_of e (sl _ _ upd_same) (fun z => nomatch z))]; exact e) (by rw [upd_ne hfd])
    refine ⟨n, c, d, cut, t, L, D, F, B, _, _, rfl, n2, hc.same s05, C, hd.same s05, M, Z, hB, fun z => absurd ok z, fun _ v H6 s6 nv hv => ?_⟩
    have hv : H6 v = some (.tup [.int (D (min (min m o) (max m o)) (max (min m o) (max m o))).num, .int ((D (min (min m o) (max m o)) (max (min m o) (max m o))).den : Int)]) := hv
    have bd := U.new_bd C
    rw [Nat.min_eq_left (a := min m o) (by omega), Nat.max_eq_right (a := min m o) (by omega)] at hv
    walk_at "st"
    have kls : kf.length < 1000000 := by
      have h4 : ks.length = (tiesL n cut).length := perm_len hLD.nd C.ties_nodup (fun p => by rw [hks, C.ties])
      have h5 : (tiesL n cut).length ≤ 3000 := by rw [tiesL, sortP_len, List.length_append, sides0_len (by omega)]; omega
      omega
    refine w_ldPut (hLf5.same s6) (hu5.keep (keeps s6)) (frv_new hv) kls (fun es7 hL7 kp7 => ?_)
    walk_at "st"
    have Hf : H f = none := s03.free hf
    rw [eT] at q
    have nnew : castP (min m o, max m o) ∉ ks := fun z => U.new_notin C (C.ties.mpr ((hks _).mp z))
    refine q f _ t' (same_but Hf (s05.trans s6)) Hf U.cut' ?_ (M.turn' C U)
    refine laid_len C U hks hLv hL7 (fun p => by rw [mem_putk, hkf]) (fun p hp ne => ?_) updF_same
    have ne2 : p ≠ castP (min m o, max m o) := fun z => nnew (z ▸ hp)
    rw [updF_ne ne2]
    exact hLfv p ((hkf p).mpr ⟨hp, ne⟩)
end
/-! ### ratios of ropes -/
section
variable {P : Program} {w : World} {K : PySem.W.Frag} {mg : Str → Option Value} {base : Heap}
def spRing (C : Addr) : Sp := fun vs H Q E => ∃ (n : Nat) (c : Addr) (cut : List IP) (t : Tr) (a b : Int), vs = [.int n, .ref c, .int a, .int b] ∧ n ≤ 1000 ∧ PLt H c cut ∧ Cutting n cut t ∧
  (tieOf a b ∉ cut → ∀ H', Same H H' → E (.ref C) none H') ∧ (tieOf a b ∈ cut → ∀ t' x y m o R, Turning n cut t t' x y m o R → tieOf a b = castP (x, y) → ILNew H [(x : Int), (m : Int), (y : Int), (o : Int)] Q)
theorem ok_ring_of (T : Tx K mg) : FnOk P w K mg base (L2.CX P w) 5 T.a_ring_of T.fd_ring_of ["n", "cut", "a", "b"] (spRing T.c_NoRope) := by
  refine T.F_ring_of.okX sc_ring_of (fun vs H Q E h => ?_) (fun cdv A outer s H vs Q E hr h => ?_)
  · obtain ⟨n, c, cut, t, a, b, rfl, _⟩ := h
    rfl
  obtain ⟨n, c, cut, t, a, b, rfl, n2, hc, C, hE, q⟩ := h
  have cl := C.cut_len
  have n3 := C.n3
  refine ⟨_, (pss_cons (ps_set (i := 4) sc_ring_of.nd rfl (.inr rfl) (pe_call (ok_tie_of T) (hr.mono (by decide)) (by rfl) T.g_tie_of T.F_tie_of.kp T.b_tie_of .nil pass0 (pa_cons (pv 2) (pa_cons (pv 3) pa_nil))))
      (pss_cons (ps_if (pt_cmpR (op_notInDK (K := K) hr.u65) (pv 4) (pv 1) (by rfl)) (pss_one (ps_raise rfl (takes_of rfl rfl rfl rfl) (pmk_own PySem.F.excBase_ValueError T.x_NoRope T.g_NoRope T.k_NoRope (raises_own T.b_NoRope T.t_NoRope) rfl))) pss_nil)
      (pss_cons (ps_set (i := 5) sc_ring_of.nd rfl (.inl rfl) (pe_call (ok_beside T) (hr.mono (by decide)) (by rfl) T.g_beside T.F_beside.kp T.b_beside .nil (passes_call (takes_of rfl rfl rfl rfl) (fun _ _ _ _ h => h)) (pa_cons (pv 0) (pa_cons (pv 1) (pa_cons (pv 2) (pa_cons (pv 3) pa_nil))))))
      (pss_cons (ps_set (i := 6) sc_ring_of.nd rfl (.inr rfl) (pe_lc (own := [("post", 7)]) (g := gName 7) rfl sc_ring_of.nd (k_il (K := K) (pi_list (pv 5))) (blkOk_by (N := N_ring_of) (sc := defScope s_ring_of) (by decide +kernel)) (fun _ _ _ _ _ => (pg_name (i := 7) sc_ring_of.nd rfl (.inl rfl))) (fun _ _ _ _ _ => (pts_one (pt_chain op_lt op_lt (pe_ix (ix_tupK (K := K)) (pv 4) (pe_int) (fun _ _ => rfl)) (pv 7) (pe_ix (ix_tupK (K := K)) (pv 4) (pe_int) (fun _ _ => rfl))))) (fun _ _ _ _ _ => (pv 7))))
      (pss_cons (ps_setLc (i := 8) (own := [("post", 7)]) (g := gName 7) rfl sc_ring_of.nd rfl rfl (sw_true rfl rfl rfl (by decide +kernel)) (k_il (K := K) (pi_list (pv 5))) (blkOk_by (N := N_ring_of) (sc := defScope s_ring_of) (by decide +kernel)) (fun _ _ _ _ _ => (pg_name (i := 7) sc_ring_of.nd rfl (.inl rfl))) (fun _ _ _ _ _ => (pts_one (pt_cmpR (op_notIn_seqK (K := K)) (pv 7) (pv 6) (by rfl)))) (fun _ _ _ _ _ => (pv 7)))
      (pss_one (ps_ret (pe_lst (pa_cons (pe_ix (ix_tupK (K := K)) (pv 4) (pe_int) (fun _ _ => rfl)) (pa_cons (pe_ix (ix_listK (K := K)) (pv 6) (pe_int) (fun _ _ => rfl)) (pa_cons (pe_ix (ix_tupK (K := K)) (pv 4) (pe_int) (fun _ _ => rfl)) (pa_cons (pe_ix (ix_listK (K := K)) (pv 8) (pe_int) (fun _ _ => rfl)) pa_nil)))))))))))), ?_⟩
  walk_at "st"
  refine ⟨a, b, rfl, fun r H1 s1 nr hr1 => ?_⟩
  obtain ⟨cv1, hc1, hp1⟩ := hc.same s1
  walk_at "st"
  refine Pm.w_ninPL hr1 (SqL.of hc1) hp1 ?_
  walk_at "st"
  refine Pm.w_iteN (fun e => ?_) (fun e => ?_)
  · exact hE e _ s1
  obtain ⟨t', x, y, m, o, R, U, ex, et⟩ := C.turned_any e
  have q := q e t' x y m o R U ex
  have eb : besideL n (tiesL n cut) a b = [((min m o : Nat) : Int), ((max m o : Nat) : Int)] := by
    rw [← U.bes]
    have e1 := congrArg Prod.fst ex
    have e2 := congrArg Prod.snd ex
    simp only [tieOf, castP] at e1 e2
    rcases Int.le_total a b with z | z
    · rw [show a = (x : Int) by omega, show b = (y : Int) by omega]
    · rw [beside_comm, show a = (y : Int) by omega, show b = (x : Int) by omega]
  rw [ex] at hr1
  walk_at "st"
  refine ⟨n, c, cut, a, b, rfl, by omega, n2, ⟨cv1, hc1, hp1⟩, by omega, fun z => absurd (mem_ties.mpr (.inr e)) z, fun _ l H2 s2 nl hl => ?_⟩
  rw [eb] at hl
  have hr2 := hr1.keep (keeps s2)
  have F := U.four C
  have hin : ([((min m o : Nat) : Int), ((max m o : Nat) : Int)].filter fun p : Int => decide ((x : Int) < p) && decide (p < (y : Int))) = [(m : Int)] := by
    rcases U.cross C with ⟨h1, h2, h3, h4, h5⟩ | ⟨h1, h2, h3, h4, h5⟩
    · rw [h4, h5, List.filter_cons_of_pos (by simp; omega), List.filter_cons_of_neg (by simp; omega), List.filter_nil]
    · rw [h4, h5, List.filter_cons_of_neg (by simp; omega), List.filter_cons_of_pos (by simp; omega), List.filter_nil]
  have hout : ([((min m o : Nat) : Int), ((max m o : Nat) : Int)].filter fun p : Int => !decide (p ∈ [(m : Int)])) = [(o : Int)] := by
    rcases U.cross C with ⟨h1, h2, h3, h4, h5⟩ | ⟨h1, h2, h3, h4, h5⟩
    · rw [h4, h5, List.filter_cons_of_neg (by simp), List.filter_cons_of_pos (by simp; omega), List.filter_nil]
    · rw [h4, h5, List.filter_cons_of_pos (by simp; omega), List.filter_cons_of_neg (by simp), List.filter_nil]
  walk_at "st"
  refine Pm.w_rdL (SqL.of hl) ?_
  refine Pm.w_lcLf (R := In) in_mono (S := In) in_mono (SqL.of hl) (ins_of [((min m o : Nat) : Int), ((max m o : Nat) : Int)]) id (fun p : Int => decide ((x : Int) < p) && decide (p < (y : Int))) (by simp) (fun D1 v1 p H3 Nx hD hm hs s3 put skip => ?_) (fun D1 H3 ws3 hD s3 hd3 ha3 => ?_)
  · have e1 : v1 = .int p := hs
    subst e1
    have hr3 := hr2.keep (keeps s3)
    walk_at "st"
    refine Pm.w_ixT hr3.tup (atI2 _ _).1 ?_
    walk_at "st"
    refine Pm.w_ite (fun z1 => ?_) (fun z1 => ?_)
    · walk_at "st"
      refine Pm.w_ixT hr3.tup (atI2 _ _).2 ?_
      walk_at "st"
      refine Pm.w_ite (fun z2 => ?_) (fun z2 => ?_)
      · walk_at "st"
        exact put _ _ (by have a1 : (x : Int) < p := z1; have a2 : p < (y : Int) := z2; simp [a1, a2]) (Same.refl _) rfl
      · exact skip _ (by have a2 : ¬ p < (y : Int) := z2; simp [a2]) (Same.refl _)
    · walk_at "st"
      exact skip _ (by have a1 : ¬ (x : Int) < p := z1; simp [a1]) (Same.refl _)
  rw [List.map_id, hin] at ha3
  have e3 := ins_map ha3
  subst e3
  walk_at "st"
  refine Pm.w_rdL (SqL.of (s3 _ _ hl)) ?_
  refine Pm.w_lcLf (R := In) in_mono (S := In) in_mono (SqL.of (s3 _ _ hl)) (ins_of [((min m o : Nat) : Int), ((max m o : Nat) : Int)]) id (fun p : Int => !decide (p ∈ [(m : Int)])) (by simp) (fun D2 v1 p H4 Nx hD4 hm hs s4 put skip => ?_) (fun D2 H4 ws4 hD4 s4 hd4 ha4 => ?_)
  · have e1 : v1 = .int p := hs
    subst e1
    walk_at "st"
    refine Pm.w_ninInts (ns := [(m : Int)]) (.inl (SqL.of (s4 _ _ hd3))) ?_
    walk_at "st"
    refine Pm.w_iteN (fun z => ?_) (fun z => ?_)
    · walk_at "st"
      exact put _ _ (by simp only [z, decide_false]; rfl) (Same.refl _) rfl
    · exact skip _ (by simp only [z, decide_true]; rfl) (Same.refl _)
  rw [List.map_id, hout] at ha4
  have e4 := ins_map ha4
  subst e4
  have hr4 := hr2.keep (keeps (s3.trans s4))
  walk_at "st"
  refine Pm.w_ixT hr4.tup (atI2 _ _).1 ?_
  walk_at "st"
  refine Pm.w_ixL (SqL.of (s4 _ _ hd3)) (show atI [V.int (m : Int)] 0 = some (.int (m : Int)) from rfl) ?_
  walk_at "st"
  refine Pm.w_ixT hr4.tup (atI2 _ _).2 ?_
  walk_at "st"
  refine Pm.w_ixL (SqL.of hd4) (show atI [V.int (o : Int)] 0 = some (.int (o : Int)) from rfl) ?_
  walk_at "st"
  refine Pm.w_newL (fun g hg => ?_)
  have sA := (s1.trans s2).trans (s3.trans s4)
  exact q g _ (sA.trans (same_new hg _)) (sA.free hg) upd_same
/-- the length of a tie -/
def absD (D : Nat → Nat → Rat) (i k : Nat) : Rat := D (min i k) (max i k)
def spRatio (K : PySem.W.Frag) (C : Addr) : Sp := fun vs H Q E => ∃ (n : Nat) (c d : Addr) (cut : List IP) (t : Tr) (L : Len) (D : Nat → Nat → Rat) (F B : Nat) (a b : Int), vs = [.int n, .ref c, .ref d, .int a, .int b] ∧ n ≤ 1000 ∧ PLt H c cut ∧ Cutting n cut t ∧ LenD K H d t D ∧ Meas n t L D ∧ Bd n D F B ∧ 4 * B ≤ 9000 ∧
  (tieOf a b ∉ cut → ∀ H', Same H H' → E (.ref C) none H') ∧ (tieOf a b ∈ cut → FrNew H (ratP n cut D (tieOf a b)) Q)
theorem ok_ratio (T : Tx K mg) : FnOk P w K mg base (L2.CX P w) 6 T.a_ratio T.fd_ratio ["n", "cut", "lengths", "a", "b"] (spRatio K T.c_NoRope) := by
  refine T.F_ratio.okX sc_ratio (fun vs H Q E h => ?_) (fun cdv A outer s H vs Q E hr h => ?_)
  · obtain ⟨n, c, d, cut, t, L, D, F, B, a, b, rfl, _⟩ := h
    rfl
  obtain ⟨n, c, d, cut, t, L, D, F, B, a, b, rfl, n2, hc, C, hd, M, Z, hB, hE, q⟩ := h
  refine ⟨_, (pss_cons (ps_set (i := 5) sc_ratio.nd rfl (.inr rfl) (pe_call (ok_ring_of T) (hr.mono (by decide)) (by rfl) T.g_ring_of T.F_ring_of.kp T.b_ring_of .nil (passes_call (takes_of rfl rfl rfl rfl) (fun _ _ _ _ h => h)) (pa_cons (pv 0) (pa_cons (pv 1) (pa_cons (pv 3) (pa_cons (pv 4) pa_nil))))))
      (pss_cons (ps_setLc (i := 6) (own := [("k", 7)]) (g := gName 7) (tt := tYes) rfl sc_ratio.nd rfl rfl (sw_true rfl rfl rfl (by decide +kernel)) (pi_range1 (by rfl) T.m_range (pa_cons (pe_int) pa_nil)) (blkOk_by (N := N_ratio) (sc := defScope s_ratio) (by decide +kernel)) (fun _ _ _ _ _ => (pg_name (i := 7) sc_ratio.nd rfl (.inl rfl))) (fun _ _ _ _ _ => pts_nil) (fun _ _ _ _ _ => (pe_dget (hu_of hr) (pv 2) (pe_call (ok_tie_of T) (hr.mono (by decide)) (by rfl) T.g_tie_of T.F_tie_of.kp T.b_tie_of .nil pass0 (pa_cons (pe_ix (ix_listK (K := K)) (pv 5) (pv 7) (fun _ _ => rfl)) (pa_cons (pe_ix (ix_listK (K := K)) (pv 5) (pe_op op_mod (pe_op op_add (pv 7) (pe_int)) (pe_int)) (fun _ _ => rfl)) pa_nil))) (fun _ _ => rfl))))
      (pss_one (ps_ret (pe_call (ok_over T) (hr.mono (by decide)) (by rfl) T.g_over T.F_over.kp T.b_over .nil (passes_call (takes_of rfl rfl rfl rfl) (fun _ _ _ _ h => h)) (pa_cons (pe_call (ok_times T) (hr.mono (by decide)) (by rfl) T.g_times T.F_times.kp T.b_times .nil pass0 (pa_cons (pe_ix (ix_listK (K := K)) (pv 6) (pe_int) (fun _ _ => rfl)) (pa_cons (pe_ix (ix_listK (K := K)) (pv 6) (pe_int) (fun _ _ => rfl)) pa_nil))) (pa_cons (pe_call (ok_times T) (hr.mono (by decide)) (by rfl) T.g_times T.F_times.kp T.b_times .nil pass0 (pa_cons (pe_ix (ix_listK (K := K)) (pv 6) (pe_int) (fun _ _ => rfl)) (pa_cons (pe_ix (ix_listK (K := K)) (pv 6) (pe_int) (fun _ _ => rfl)) pa_nil))) pa_nil))))))), ?_⟩
  walk_at "st"
  refine ⟨n, c, cut, t, a, b, rfl, n2, hc, C, hE, fun e t' x y m o R U ex g H1 s1 ng hg => ?_⟩
  have q := q e
  rw [ex, ratP_is C U] at q
  obtain ⟨txm, tmy, tyo, tox, xm, my, yn, on, out⟩ := U.four C
  have gat : ∀ i : Nat, i < 4 → atI ([(x : Int), (m : Int), (y : Int), (o : Int)].map V.int) (i : Int) = some (.int ([(x : Int), (m : Int), (y : Int), (o : Int)].getD i 0)) := fun i hi => atI_getD hi
  generalize hrg : (fun i : Nat => [x, m, y, o].getD i 0) = rg
  have rgI : ∀ i : Nat, i < 4 → [(x : Int), (m : Int), (y : Int), (o : Int)].getD i 0 = ((rg i : Nat) : Int) := fun i hi => by
    rw [← hrg]
    match i, hi with
    | 0, _ => rfl
    | 1, _ => rfl
    | 2, _ => rfl
    | 3, _ => rfl
  have tie : ∀ i : Nat, i < 4 → (min (rg i) (rg ((i + 1) % 4)), max (rg i) (rg ((i + 1) % 4))) ∈ t.all 0 := fun i hi => by
    rw [← hrg]
    match i, hi with
    | 0, _ => show (min x m, max x m) ∈ _; rw [Nat.min_eq_left (by omega), Nat.max_eq_right (by omega)]; exact txm
    | 1, _ => show (min m y, max m y) ∈ _; rw [Nat.min_eq_left (by omega), Nat.max_eq_right (by omega)]; exact tmy
    | 2, _ => exact tyo
    | 3, _ => exact tox
  walk_at "st"
  refine Pm.w_lcRm (R := FrV K) frv_mono (fun i : Nat => rp (absD D (rg i) (rg ((i + 1) % 4)))) (show (4 : Int).toNat < 1000000 by decide) (fun D1 i H2 Nx hD hi s2 put => ?_) (fun D1 H2 ws2 hD s2 hd2 ha2 => ?_)
  · have hi4 : i < 4 := hi
    have hg2 := s2 _ _ hg
    walk_at "st"
    rw [Int.zero_add]
    refine Pm.w_ixL (SqL.of hg2) (gat i hi4) ?_
    walk_at "st"
    rw [show ((i : Int) + 1) % 4 = (((i + 1) % 4 : Nat) : Int) by omega]
    refine Pm.w_ixL (SqL.of hg2) (gat ((i + 1) % 4) (Nat.mod_lt _ (by decide))) ?_
    walk_at "st"
    refine ⟨_, _, rfl, fun p H3 s3 np hp => ?_⟩
    rw [rgI i hi4, rgI _ (Nat.mod_lt _ (by decide)), tie_cast] at hp
    refine w_lenGet ((hd.same s1).same (s2.trans s3)) hp (tie i hi4) (fun u hu => ?_)
    exact put _ _ s3 hu
  have fr : ∀ i : Nat, i < 4 → ∃ u, ws2[i]? = some (.ref u) ∧ FrV K H2 (.ref u) (rp (absD D (rg i) (rg ((i + 1) % 4)))) := fun i hi => by
    have hi' : i < (4 : Int).toNat := hi
    obtain ⟨v, hv, r⟩ := ha2.get' (i := i) (y := rp (absD D (rg i) (rg ((i + 1) % 4)))) (by rw [List.getElem?_map, List.getElem?_range hi']; rfl)
    obtain ⟨u, rfl, r'⟩ := id r
    exact ⟨u, hv, r⟩
  obtain ⟨u0, h0, f0⟩ := fr 0 (by decide)
  obtain ⟨u1, h1, f1⟩ := fr 1 (by decide)
  obtain ⟨u2, h2, f2⟩ := fr 2 (by decide)
  obtain ⟨u3, h3, f3⟩ := fr 3 (by decide)
  have bdd : ∀ i k : Nat, i < n → k < n → rb (absD D i k) B := fun i k hi hk => Z.rb (by omega) (by omega)
  rw [← hrg] at f0 f1 f2 f3
  have f0 : FrV K H2 (.ref u0) (rp (absD D x m)) := f0
  have f1 : FrV K H2 (.ref u1) (rp (absD D m y)) := f1
  have f2 : FrV K H2 (.ref u2) (rp (absD D y o)) := f2
  have f3 : FrV K H2 (.ref u3) (rp (absD D o x)) := f3
  have b0 := bdd x m (by omega) (by omega)
  have b1 := bdd m y (by omega) (by omega)
  have b2 := bdd y o (by omega) (by omega)
  have b3 := bdd o x (by omega) (by omega)
  have p1 := M.above my yn
  have p3 : 0 < absD D o x := M.above (by omega) (by omega)
  have e1 : absD D m y = D m y := by unfold absD; rw [Nat.min_eq_left (by omega), Nat.max_eq_right (by omega)]
  have e0 : absD D x m = D x m := by unfold absD; rw [Nat.min_eq_left (by omega), Nat.max_eq_right (by omega)]
  walk_at "st"
  refine Pm.w_ixL (SqL.of hd2) (atI_nat (j := 0) h0) ?_
  walk_at "st"
  refine Pm.w_ixL (SqL.of hd2) (atI_nat (j := 2) h2) ?_
  walk_at "st"
  refine ⟨_, _, _, _, B, B, rfl, f0.rat, f2.rat, b0, b2, by omega, fun v1 H3 s3 n3' hv1 => ?_⟩
  walk_at "st"
  refine Pm.w_ixL (SqL.of (s3 _ _ hd2)) (atI_nat (j := 1) h1) ?_
  walk_at "st"
  refine Pm.w_ixL (SqL.of (s3 _ _ hd2)) (atI_nat (j := 3) h3) ?_
  walk_at "st"
  refine ⟨_, _, _, _, B, B, rfl, (f1.keep (keeps s3)).rat, (f3.keep (keeps s3)).rat, b1, b3, by omega, fun v2 H4 s4 n4' hv2 => ?_⟩
  have ne : absD D m y * absD D o x ≠ 0 := by
    rw [e1]
    have := rat_mul_pos p1 p3
    grind
  walk_at "st"
  refine ⟨_, _, _, _, B + B, B + B, rfl, SqT.of (s4 _ _ hv1), SqT.of hv2, rb_mul b0 b2, rb_mul b1 b3, by omega, fun z => absurd z ne, fun _ v H5 s5 nv hv => ?_⟩
  have sA := (s1.trans s2).trans (s3.trans s4)
  rw [e0, e1] at hv
  exact q v H5 (sA.trans s5) (sA.free nv) hv
/-- a new dict of all ratios -/
def spRatios (K : PySem.W.Frag) : Sp := fun vs H Q _ => ∃ (n : Nat) (c d : Addr) (cut : List IP) (t : Tr) (L : Len) (D : Nat → Nat → Rat) (F B : Nat), vs = [.int n, .ref c, .ref d] ∧ n ≤ 1000 ∧ PLt H c cut ∧ Cutting n cut t ∧ LenD K H d t D ∧ Meas n t L D ∧ Bd n D F B ∧ 4 * B ≤ 9000 ∧
  ∀ (f : Addr) (H' : Hp), Same H H' → H f = none → LD K H' f cut (fun p => rp (ratP n cut D p)) → Q (.ref f) H'
theorem Cutting.cut_nodup {n : Nat} {cut : List IP} {t : Tr} (C : Cutting n cut t) : cut.Nodup := by
  refine (C.perm.nodup_iff).mpr (nodup_map_inj (fun x _ y _ e => castP_inj e) (Tr.ropes_nodup t 0))
theorem ok_ratios (T : Tx K mg) : FnOk P w K mg base CX0 7 T.a_ratios T.fd_ratios ["n", "cut", "lengths"] (spRatios K) := by
  refine T.F_ratios.ok sc_ratios (fun vs H Q E h => ?_) (fun cdv A outer s H vs Q E hr h => ?_)
  · obtain ⟨n, c, d, cut, t, L, D, F, B, rfl, _⟩ := h
    rfl
  obtain ⟨n, c, d, cut, t, L, D, F, B, rfl, n2, hc, C, hd, M, Z, hB, q⟩ := h
  have cl := C.cut_len
  have cnd := C.cut_nodup
  obtain ⟨cvs, hcl, hcp⟩ := hc
  refine ⟨_, (pss_cons (ps_set (i := 3) sc_ratios.nd rfl (.inl rfl) (pe_dnewT))
      (pss_cons (ps_for PassesOwn.never rfl (k_il (K := K) (pi_list (pv 1))) (k_gt (K := K) (pg_tup (by rfl) (pgs_cons (pg_name (i := 4) sc_ratios.nd rfl (.inl rfl)) (pgs_cons (pg_name (i := 5) sc_ratios.nd rfl (.inl rfl)) pgs_nil)))) (pss_one (ps_dput (hu_of hr) (pv 3) (pe_tup (pa_cons (pv 4) (pa_cons (pv 5) pa_nil))) (pe_call (ok_ratio T) (hr.mono (by decide)) (by rfl) T.g_ratio T.F_ratio.kp T.b_ratio .nil passL (pa_cons (pv 0) (pa_cons (pv 1) (pa_cons (pv 2) (pa_cons (pv 4) (pa_cons (pv 5) pa_nil)))))) rfl)))
      (pss_one (ps_ret (pv 3))))), ?_⟩
  walk_at "st"
  refine Pm.w_dnewT (fun f hf => ?_)
  have s1 := same_new hf (.dT [])
  walk_at "st"
  refine Pm.w_rdL (SqL.of (s1 _ _ hcl)) ?_
  refine Pm.w_forL (xs := cvs) (fun i σ H2 => ∃ x y, σ = [some (.int n), some (.ref c), some (.ref d), some (.ref f), x, y] ∧ Same H H2 ∧ LD K H2 f (cut.take i) (fun p => rp (ratP n cut D p))) ⟨_, _, rfl, s1, by rw [List.take_zero]; exact ld_nil upd_same _⟩ (fun i σ H2 _ ⟨_, _, _, s2, _⟩ => SqL.of (s2 _ _ hcl)) ?_ ?_
  · rintro i v σ H2 hi ⟨x, y, rfl, s2, hL⟩
    obtain ⟨p, hp, u, rfl, hu⟩ := hcp.get hi
    have mp := List.mem_of_getElem? hp
    obtain ⟨q0, hq0, ep⟩ := C.mem.mp mp
    have qb := Tr.bd (Tr.inn_all (ropes_bd hq0).1)
    have et : tieOf p.1 p.2 = p := by
      rw [ep]
      exact tie_lt (by simp only [castP]; omega)
    walk_at "st"
    refine Pm.w_gtup (SqT.of (s2 _ _ hu)) rfl ?_
    walk_at "st"
    refine ⟨n, c, d, cut, t, L, D, F, B, _, _, rfl, n2, PLt.same ⟨cvs, hcl, hcp⟩ s2, C, hd.same s2, M, Z, hB, fun z => absurd (by rw [et]; exact mp) z, fun _ v1 H3 s3 nv hv => ?_⟩
    rw [et] at hv
    walk_at "st"
    refine Pm.w_newT (fun w1 hw1 => ?_)
    have s4 := same_new hw1 (.tup [.int p.1, .int p.2])
    refine w_ldPut (k := p) (p := rp (ratP n cut D p)) (hL.same (s3.trans s4)) (pr_new upd_same) (frv_new (s4 _ _ hv)) (by rw [List.length_take]; omega) (fun es hL5 kp => ?_)
    have tk : cut.take (i + 1) = cut.take i ++ [p] := by rw [List.take_add_one, hp] <;> rfl
    have nin : p ∉ cut.take i := fun z => by
      have e1 : (cut.take (i + 1)).Nodup := cnd.sublist (List.take_sublist _ _)
      rw [tk, List.nodup_append] at e1
      exact e1.2.2 p z p List.mem_cons_self rfl
    refine ⟨_, _, rfl, same_but hf (s2.trans (s3.trans s4)), ?_⟩
    rw [tk, ← putk_new nin]
    refine hL5.congr fun k hk => ?_
    by_cases e : k = p
    · rw [e, updF_same]
    · rw [updF_ne e]
  · rintro σ H2 ⟨x, y, rfl, s2, hL⟩
    walk_at "st"
    rw [hcp.length, List.take_length] at hL
    exact q f H2 s2 hf hL
end
/-! ### likeness -/
section
variable {P : Program} {w : World} {K : PySem.W.Frag} {mg : Str → Option Value} {base : Heap}
open Classical in
def spAlike (K : PySem.W.Frag) : Sp := fun vs H Q _ => ∃ (n : Nat) (c d d2 : Addr) (cut : List IP) (t : Tr) (L1 L2 : Len) (D1 D2 : Nat → Nat → Rat) (F1 F2 B1 B2 : Nat), vs = [.int n, .ref c, .ref d, .ref d2] ∧ n ≤ 1000 ∧ PLt H c cut ∧ Cutting n cut t ∧ LenD K H d t D1 ∧ LenD K H d2 t D2 ∧ Meas n t L1 D1 ∧ Meas n t L2 D2 ∧ Bd n D1 F1 B1 ∧ Bd n D2 F2 B2 ∧ 4 * B1 ≤ 9000 ∧ 4 * B2 ≤ 9000 ∧ ∀ H', Same H H' → Q (.bl (decide (Like n D1 D2))) H'
open Classical in
theorem like_dec {n : Nat} {cut : List IP} {t : Tr} {L1 L2 : Len} {D1 D2 : Nat → Nat → Rat} (C : Cutting n cut t) (M1 : Meas n t L1 D1) (M2 : Meas n t L2 D2) : decide (∀ k ∈ cut, rp (ratP n cut D1 k) = rp (ratP n cut D2 k)) = decide (Like n D1 D2) := by
  refine decide_eq_decide.mpr ?_
  rw [← like_iff C M1 M2]
  exact ⟨fun h p hp => rp_inj (h p hp), fun h p hp => by rw [h p hp]⟩
theorem ok_alike (T : Tx K mg) : FnOk P w K mg base CX0 8 T.a_alike T.fd_alike ["n", "cut", "one", "other"] (spAlike K) := by
  refine T.F_alike.ok sc_alike (fun vs H Q E h => ?_) (fun cdv A outer s H vs Q E hr h => ?_)
  · obtain ⟨n, c, d, d2, cut, t, L1, L2, D1, D2, F1, F2, B1, B2, rfl, _⟩ := h
    rfl
  obtain ⟨n, c, d, d2, cut, t, L1, L2, D1, D2, F1, F2, B1, B2, rfl, n2, hc, C, hd, hd2, M1, M2, Z1, Z2, hB1, hB2, q⟩ := h
  refine ⟨_, (pss_one (ps_ret (pe_cmpR (op_eqT (K := K) hr.u65) (pe_call (ok_ratios T) (hr.mono (by decide)) (by rfl) T.g_ratios T.F_ratios.kp T.b_ratios .nil pass0 (pa_cons (pv 0) (pa_cons (pv 1) (pa_cons (pv 2) pa_nil)))) (pe_call (ok_ratios T) (hr.mono (by decide)) (by rfl) T.g_ratios T.F_ratios.kp T.b_ratios .nil pass0 (pa_cons (pv 0) (pa_cons (pv 1) (pa_cons (pv 3) pa_nil)))) (nomark _)))), ?_⟩
  walk_at "st"
  refine ⟨n, c, d, cut, t, L1, D1, F1, B1, rfl, n2, hc, C, hd, M1, Z1, hB1, fun f H1 s1 nf hf => ?_⟩
  walk_at "st"
  refine ⟨n, c, d2, cut, t, L2, D2, F2, B2, rfl, n2, hc.same s1, C, hd2.same s1, M2, Z2, hB2, fun g H2 s2 ng hg => ?_⟩
  refine w_ldEq (hf.same s2) hg (fun _ => Iff.rfl) ?_
  have e := like_dec C M1 M2
  rw [show (decide (∀ k ∈ cut, (fun p => rp (ratP n cut D1 p)) k = (fun p => rp (ratP n cut D2 p)) k)) = @decide (Like n D1 D2) (Classical.propDecidable _) by rw [← e]]
  exact q _ (s1.trans s2)
def spGrowth (K : PySem.W.Frag) : Sp := fun vs H Q _ => ∃ (n : Nat) (d d2 : Addr) (cut : List IP) (t : Tr) (L1 L2 : Len) (D1 D2 : Nat → Nat → Rat) (F1 F2 B1 B2 a b : Nat), vs = [.ref d, .ref d2, .int a, .int b] ∧ Cutting n cut t ∧ LenD K H d t D1 ∧ LenD K H d2 t D2 ∧ Meas n t L1 D1 ∧ Meas n t L2 D2 ∧ Bd n D1 F1 B1 ∧ Bd n D2 F2 B2 ∧ B1 + B2 ≤ 9000 ∧ (min a b, max a b) ∈ t.all 0 ∧ FrNew H (D2 (min a b) (max a b) / D1 (min a b) (max a b)) Q
theorem ok_growth (T : Tx K mg) : FnOk P w K mg base CX0 4 T.a_growth T.fd_growth ["one", "other", "a", "b"] (spGrowth K) := by
  refine T.F_growth.ok sc_growth (fun vs H Q E h => ?_) (fun cdv A outer s H vs Q E hr h => ?_)
  · obtain ⟨n, d, d2, cut, t, L1, L2, D1, D2, F1, F2, B1, B2, a, b, rfl, _⟩ := h
    rfl
  obtain ⟨n, d, d2, cut, t, L1, L2, D1, D2, F1, F2, B1, B2, a, b, rfl, C, hd, hd2, M1, M2, Z1, Z2, hB, ht, q⟩ := h
  have bd := Tr.bd ht
  have hw := C.w
  simp only at bd
  refine ⟨_, (pss_one (ps_ret (pe_call (ok_over T) (hr.mono (by decide)) (by rfl) T.g_over T.F_over.kp T.b_over .nil passL (pa_cons (pe_dget (hu_of hr) (pv 1) (pe_call (ok_tie_of T) (hr.mono (by decide)) (by rfl) T.g_tie_of T.F_tie_of.kp T.b_tie_of .nil pass0 (pa_cons (pv 2) (pa_cons (pv 3) pa_nil))) (fun _ _ => rfl)) (pa_cons (pe_dget (hu_of hr) (pv 0) (pe_call (ok_tie_of T) (hr.mono (by decide)) (by rfl) T.g_tie_of T.F_tie_of.kp T.b_tie_of .nil pass0 (pa_cons (pv 2) (pa_cons (pv 3) pa_nil))) (fun _ _ => rfl)) pa_nil))))), ?_⟩
  walk_at "st"
  refine ⟨_, _, rfl, fun p1 H1 s1 np1 hp1 => ?_⟩
  rw [tie_cast] at hp1
  refine w_lenGet (hd2.same s1) hp1 ht (fun u1 hu1 => ?_)
  walk_at "st"
  refine ⟨_, _, rfl, fun p2 H2 s2 np2 hp2 => ?_⟩
  rw [tie_cast] at hp2
  refine w_lenGet (hd.same (s1.trans s2)) hp2 ht (fun u2 hu2 => ?_)
  walk_at "st"
  have pos := M1.above (show min a b < max a b by omega) (by omega)
  refine ⟨_, _, _, _, B2, B1, rfl, (hu1.keep (keeps s2)).rat, hu2.rat, Z2.rb (by omega) (by omega), Z1.rb (by omega) (by omega), by omega, fun z => absurd z (by grind), fun _ v H3 s3 nv hv => ?_⟩
  exact q v H3 ((s1.trans s2).trans s3) ((s1.trans s2).free nv) hv
/-- a post beside a tie: the three ties of the plot -/
theorem beside_plot {n : Nat} {cut : List IP} {t : Tr} (C : Cutting n cut t) {a b c : Nat} (hab : (a, b) ∈ t.all 0) (h : (c : Int) ∈ besideL n (tiesL n cut) a b) : (min c a, max c a) ∈ t.all 0 ∧ (min c b, max c b) ∈ t.all 0 := by
  unfold besideL at h
  obtain ⟨k, hk, e⟩ := List.mem_map.mp h
  obtain ⟨_, hb⟩ := List.mem_filter.mp hk
  have e : k = c := by omega
  subst e
  unfold isBeside at hb
  simp only [Bool.and_eq_true, decide_eq_true_eq] at hb
  rw [tie_cast, tie_cast, C.tied, C.tied] at hb
  rw [Nat.min_comm, Nat.max_comm, Nat.min_comm k b, Nat.max_comm k b]
  exact hb
/-- each post is beside some tie -/
theorem some_beside {n : Nat} {cut : List IP} {t : Tr} (C : Cutting n cut t) {c : Nat} (hc : c < n) : ∃ p ∈ tiesL n cut, (c : Int) ∈ besideL n (tiesL n cut) p.1 p.2 := by
  have n3 := C.n3
  have hw := C.w
  have side : (if c + 1 = n then (0, n - 1) else (c, c + 1)) ∈ t.all 0 := by
    split
    · have := Tr.root_mem (t := t) (lo := 0)
      rw [Nat.zero_add, show t.w = n - 1 by omega] at this
      exact this
    · exact Tr.all_iff.mpr (.inr ⟨by simp only; omega, rfl, by simp only; omega⟩)
  have main : ∀ x y : Nat, (x, y) ∈ t.all 0 → (c = x ∨ c = y) → ∃ p ∈ tiesL n cut, (c : Int) ∈ besideL n (tiesL n cut) p.1 p.2 := by
    intro x y hxy hcxy
    have b := Tr.bd hxy
    simp only at b
    have len := C.beside_len (a := (x : Int)) (b := (y : Int)) (by rw [tie_cast, Nat.min_eq_left (by omega), Nat.max_eq_right (by omega)]; exact C.tied.mpr hxy)
    obtain ⟨z, hz⟩ : ∃ z, z ∈ besideL n (tiesL n cut) (x : Int) (y : Int) := by
      match hb : besideL n (tiesL n cut) (x : Int) (y : Int) with
      | [] => rw [hb] at len; simp only [List.length_nil] at len; omega
      | z :: _ => exact ⟨z, List.mem_cons_self⟩
    have hz2 := hz
    unfold besideL at hz2
    obtain ⟨k, hk, ek⟩ := List.mem_map.mp hz2
    have kn := List.mem_range.mp (List.mem_filter.mp hk).1
    subst ek
    obtain ⟨h1, h2⟩ := beside_plot C hxy hz
    have mk : ∀ u v w' : Nat, (min u v, max u v) ∈ t.all 0 → (min w' u, max w' u) ∈ t.all 0 → (min w' v, max w' v) ∈ t.all 0 → w' < n → u ≠ v → ∃ p ∈ tiesL n cut, (w' : Int) ∈ besideL n (tiesL n cut) p.1 p.2 := by
      intro u v w' a1 a2 a3 wn uv
      refine ⟨castP (min u v, max u v), C.tied.mpr a1, ?_⟩
      unfold besideL
      refine List.mem_map.mpr ⟨w', List.mem_filter.mpr ⟨List.mem_range.mpr wn, ?_⟩, rfl⟩
      unfold isBeside
      rw [Bool.and_eq_true, decide_eq_true_eq, decide_eq_true_eq]
      show tieOf ((min u v : Nat) : Int) (w' : Int) ∈ _ ∧ tieOf ((max u v : Nat) : Int) (w' : Int) ∈ _
      rw [tie_cast, tie_cast, C.tied, C.tied]
      rcases Nat.le_total u v with z | z
      · rw [Nat.min_eq_left z, Nat.max_eq_right z, Nat.min_comm u, Nat.max_comm u, Nat.min_comm v, Nat.max_comm v]
        exact ⟨a2, a3⟩
      · rw [Nat.min_eq_right z, Nat.max_eq_left z, Nat.min_comm v, Nat.max_comm v, Nat.min_comm u, Nat.max_comm u]
        exact ⟨a3, a2⟩
    have bk1 := Tr.bd h1
    have bk2 := Tr.bd h2
    simp only at bk1 bk2
    rcases hcxy with e | e
    · subst e
      exact mk k y c h2 (by rw [Nat.min_comm, Nat.max_comm]; exact h1) (by rw [Nat.min_eq_left (by omega), Nat.max_eq_right (by omega)]; exact hxy) hc (by omega)
    · subst e
      exact mk k x c h1 (by rw [Nat.min_comm, Nat.max_comm]; exact h2) (by rw [Nat.min_eq_right (by omega), Nat.max_eq_left (by omega)]; exact hxy) hc (by omega)
  by_cases e : c + 1 = n
  · rw [if_pos e] at side
    exact main 0 (n - 1) side (.inr (by omega))
  · rw [if_neg e] at side
    exact main c (c + 1) side (.inl rfl)
def spStretches (K : PySem.W.Frag) : Sp := fun vs H Q _ => ∃ (n : Nat) (c d d2 : Addr) (cut : List IP) (t : Tr) (L1 L2 : Len) (D1 D2 : Nat → Nat → Rat) (F1 F2 B1 B2 : Nat), vs = [.int n, .ref c, .ref d, .ref d2] ∧ n ≤ 1000 ∧ PLt H c cut ∧ Cutting n cut t ∧ LenD K H d t D1 ∧ LenD K H d2 t D2 ∧ Meas n t L1 D1 ∧ Meas n t L2 D2 ∧ Bd n D1 F1 B1 ∧ Bd n D2 F2 B2 ∧ 4 * B1 ≤ 9000 ∧ 4 * B2 ≤ 9000 ∧ 3 * (B1 + B2) ≤ 9000 ∧
  (¬ Like n D1 D2 → ∀ H', Same H H' → Q .non H') ∧ (∀ (l : Rat) (r : Nat → Rat), 0 < l → (∀ i, i < n → 0 < r i) → (∀ i k, i < n → k < n → D2 i k = l * r i * r k * D1 i k) → ∀ (f : Addr) (H' : Hp), Same H H' → H f = none → Row K H' f ((List.range n).map fun i => rp (l * r i * r i)) → Q (.ref f) H')
theorem ok_stretches (T : Tx K mg) : FnOk P w K mg base CX0 9 T.a_stretches T.fd_stretches ["n", "cut", "one", "other"] (spStretches K) := by
  refine T.F_stretches.ok sc_stretches (fun vs H Q E h => ?_) (fun cdv A outer s H vs Q E hr h => ?_)
  · obtain ⟨n, c, d, d2, cut, t, L1, L2, D1, D2, F1, F2, B1, B2, rfl, _⟩ := h
    rfl
  obtain ⟨n, c, d, d2, cut, t, L1, L2, D1, D2, F1, F2, B1, B2, rfl, n2, hc, C, hd, hd2, M1, M2, Z1, Z2, hB1, hB2, hB3, qN, qY⟩ := h
  have cl := C.cut_len
  have n3 := C.n3
  have hw := C.w
  refine ⟨_, (pss_cons (ps_if (pt_not (pt_val (pe_call (ok_alike T) (hr.mono (by decide)) (by rfl) T.g_alike T.F_alike.kp T.b_alike .nil pass0 (pa_cons (pv 0) (pa_cons (pv 1) (pa_cons (pv 2) (pa_cons (pv 3) pa_nil))))))) (pss_one (ps_ret (pe_non))) pss_nil)
      (pss_cons (ps_set (i := 4) sc_stretches.nd rfl (.inl rfl) (pe_lst pa_nil))
      (pss_cons (ps_for PassesOwn.never rfl (pi_range1 (by rfl) T.m_range (pa_cons (pv 0) pa_nil)) (pg_name (i := 5) sc_stretches.nd rfl (.inl rfl)) (pss_one (ps_for PassesOwn.never rfl (k_il (K := K) (pi_list (pe_call (ok_ties T) (hr.mono (by decide)) (by rfl) T.g_ties T.F_ties.kp T.b_ties .nil pass0 (pa_cons (pv 0) (pa_cons (pv 1) pa_nil))))) (k_gt (K := K) (pg_tup (by rfl) (pgs_cons (pg_name (i := 6) sc_stretches.nd rfl (.inl rfl)) (pgs_cons (pg_name (i := 7) sc_stretches.nd rfl (.inl rfl)) pgs_nil)))) (pss_one (ps_if (pt_cmpR (op_in_seqK (K := K)) (pv 5) (pe_call (ok_beside T) (hr.mono (by decide)) (by rfl) T.g_beside T.F_beside.kp T.b_beside .nil passL (pa_cons (pv 0) (pa_cons (pv 1) (pa_cons (pv 6) (pa_cons (pv 7) pa_nil))))) (by rfl)) (pss_cons (ps_set (i := 8) sc_stretches.nd rfl (.inl rfl) (pe_call (ok_times T) (hr.mono (by decide)) (by rfl) T.g_times T.F_times.kp T.b_times .nil pass0 (pa_cons (pe_call (ok_growth T) (hr.mono (by decide)) (by rfl) T.g_growth T.F_growth.kp T.b_growth .nil pass0 (pa_cons (pv 2) (pa_cons (pv 3) (pa_cons (pv 5) (pa_cons (pv 6) pa_nil))))) (pa_cons (pe_call (ok_growth T) (hr.mono (by decide)) (by rfl) T.g_growth T.F_growth.kp T.b_growth .nil pass0 (pa_cons (pv 2) (pa_cons (pv 3) (pa_cons (pv 5) (pa_cons (pv 7) pa_nil))))) pa_nil))))
      (pss_cons (ps_expr (k_bm (K := K) (pe_bm PySem.F.plainAttrs_list PySem.F.slot_list_append PySem.F.type_list_append mt_append (pv 4) (pa_cons (pe_call (ok_over T) (hr.mono (by decide)) (by rfl) T.g_over T.F_over.kp T.b_over .nil passL (pa_cons (pv 8) (pa_cons (pe_call (ok_growth T) (hr.mono (by decide)) (by rfl) T.g_growth T.F_growth.kp T.b_growth .nil pass0 (pa_cons (pv 2) (pa_cons (pv 3) (pa_cons (pv 6) (pa_cons (pv 7) pa_nil))))) pa_nil))) pa_nil))))
      (pss_one (ps_break)))) pss_nil)))))
      (pss_one (ps_ret (pv 4)))))), ?_⟩
  walk_at "st"
  refine ⟨n, c, d, d2, cut, t, L1, L2, D1, D2, F1, F2, B1, B2, rfl, n2, hc, C, hd, hd2, M1, M2, Z1, Z2, hB1, hB2, fun H1 s1 => ?_⟩
  walk_at "st"
  by_cases lk : Like n D1 D2
  · rw [show @decide (Like n D1 D2) (Classical.propDecidable _) = true from @decide_eq_true _ (Classical.propDecidable _) lk]
    obtain ⟨l, r, l0, r0, e⟩ := lk
    walk_at "st"
    refine Pm.w_newL (fun f hf => ?_)
    have s2 := same_new hf (.lst ([] : List V))
    have Hf : H f = none := s1.free hf
    walk_at "st"
    rw [Int.toNat_natCast]
    refine Pm.w_forR (fun i σ H2 => ∃ x y z u, σ = [some (.int n), some (.ref c), some (.ref d), some (.ref d2), some (.ref f), x, y, z, u] ∧ Same H H2 ∧ Row K H2 f ((List.range i).map fun i => rp (l * r i * r i))) ⟨_, _, _, _, rfl, s1.trans s2, ⟨[], upd_same, trivial⟩⟩ ?_ ?_
    · rintro i σ H2 hi ⟨x, y, z, u, rfl, sm, hRow⟩
      obtain ⟨fv, hfv, hfa⟩ := hRow
      have fl := hfa.length
      rw [List.length_map, List.length_range] at fl
      walk_at "st"
      refine ⟨n, c, cut, rfl, by omega, n2, hc.same sm, by omega, fun tl H3 tvs s3 ntl htl hta => ?_⟩
      have sm3 := sm.trans s3
      walk_at "st"
      refine Pm.w_rdL (SqL.of htl) ?_
      refine Pm.w_forL (xs := tvs) (fun j σ H4 => ∃ y z u, σ = [some (.int n), some (.ref c), some (.ref d), some (.ref d2), some (.ref f), some (.int (0 + (i : Int))), y, z, u] ∧ Same H3 H4 ∧ ∀ p ∈ (tiesL n cut).take j, (i : Int) ∉ besideL n (tiesL n cut) p.1 p.2) ⟨_, _, _, rfl, Same.refl _, fun p hp => by rw [List.take_zero] at hp; exact nomatch hp⟩ (fun j σ H4 _ ⟨_, _, _, _, s4, _⟩ => SqL.of (s4 _ _ htl)) ?_ ?_
      · rintro j v σ H4 hj ⟨y, z, u, rfl, s4, ih⟩
        obtain ⟨p, hp, w1, rfl, hw1⟩ := hta.get hj
        have mp := List.mem_of_getElem? hp
        obtain ⟨⟨a, b⟩, hab, ep⟩ := C.ties.mp mp
        subst ep
        have bab := Tr.bd hab
        simp only at bab
        have sm4 := sm3.trans s4
        have et : tieOf (castP (a, b)).1 (castP (a, b)).2 = castP (a, b) := tie_lt (by simp only [castP]; omega)
        walk_at "st"
        refine Pm.w_gtup (SqT.of (s4 _ _ hw1)) rfl ?_
        walk_at "st"
        refine ⟨n, c, cut, _, _, rfl, by omega, n2, hc.same sm4, by omega, fun zz => absurd (by rw [et]; exact mp) zz, fun _ bl H5 s5 nbl hbl => ?_⟩
        have sm5 := sm4.trans s5
        rw [Int.zero_add]
        walk_at "st"
        refine Pm.w_inInts (.inl (SqL.of hbl)) ?_
        walk_at "st"
        refine Pm.w_ite (fun zin => ?_) (fun zout => ?_)
        · obtain ⟨tia, tib⟩ := beside_plot C hab zin
          have bia := Tr.bd tia
          have bib := Tr.bd tib
          simp only at bia bib
          have gr : ∀ u v : Nat, u < n → v < n → u ≠ v → D2 (min u v) (max u v) / D1 (min u v) (max u v) = l * r u * r v := fun u v hu hv ne => by
            have pos := M1.above (show min u v < max u v by omega) (by omega)
            rw [e _ _ (show min u v < n by omega) (show max u v < n by omega)]
            have e1 : l * r (min u v) * r (max u v) = l * r u * r v := by
              rcases Nat.le_total u v with zz | zz
              · rw [Nat.min_eq_left zz, Nat.max_eq_right zz]
              · rw [Nat.min_eq_right zz, Nat.max_eq_left zz]; grind
            rw [e1]
            have n0 : D1 (min u v) (max u v) ≠ 0 := by grind
            generalize D1 (min u v) (max u v) = dd at *
            clear pos e1
            grind
          have grb : ∀ u v : Nat, u < n → v < n → u ≠ v → rb (l * r u * r v) (B2 + B1) := fun u v hu hv ne => by
            rw [← gr u v hu hv ne]
            have pos := M1.above (show min u v < max u v by omega) (by omega)
            exact rb_quot (by grind) (Z2.rb (by omega) (by omega)) (Z1.rb (by omega) (by omega))
          have g1 := grb i a hi (by omega) (by omega)
          have g2 := grb i b hi (by omega) (by omega)
          have g3 := grb a b (by omega) (by omega) (by omega)
          walk_at "st"
          refine ⟨n, d, d2, cut, t, L1, L2, D1, D2, F1, F2, B1, B2, i, a, rfl, C, hd.same sm5, hd2.same sm5, M1, M2, Z1, Z2, by omega, tia, fun u1 H6 s6 nu1 hu1 => ?_⟩
          rw [gr i a hi (by omega) (by omega)] at hu1
          have sm6 := sm5.trans s6
          walk_at "st"
          refine ⟨n, d, d2, cut, t, L1, L2, D1, D2, F1, F2, B1, B2, i, b, rfl, C, hd.same sm6, hd2.same sm6, M1, M2, Z1, Z2, by omega, tib, fun u2 H7 s7 nu2 hu2 => ?_⟩
          rw [gr i b hi (by omega) (by omega)] at hu2
          have sm7 := sm6.trans s7
          walk_at "st"
          refine ⟨_, _, _, _, B2 + B1, B2 + B1, rfl, SqT.of (s7 _ _ hu1), SqT.of hu2, g1, g2, by omega, fun u3 H8 s8 nu3 hu3 => ?_⟩
          have sm8 := sm7.trans s8
          have s28 := s3.trans (s4.trans (s5.trans (s6.trans (s7.trans s8))))
          walk_at "st"
          refine ⟨.inl ⟨rfl, _, SqL.of (s28 _ _ hfv)⟩, ?_⟩
          walk_at "st"
          refine ⟨n, d, d2, cut, t, L1, L2, D1, D2, F1, F2, B1, B2, a, b, rfl, C, hd.same sm8, hd2.same sm8, M1, M2, Z1, Z2, by omega, by rw [Nat.min_eq_left (by omega), Nat.max_eq_right (by omega)]; exact hab, fun u4 H9 s9 nu4 hu4 => ?_⟩
          rw [gr a b (by omega) (by omega) (by omega)] at hu4
          have ra := r0 a (by omega)
          have rbb := r0 b (by omega)
          have nl : l * r a * r b ≠ 0 := by
            have := rat_mul_pos (rat_mul_pos l0 ra) rbb
            grind
          have val : l * r i * r a * (l * r i * r b) / (l * r a * r b) = l * r i * r i := by
            have n1 : l ≠ 0 := by grind
            have n2' : r a ≠ 0 := by grind
            have n3' : r b ≠ 0 := by grind
            clear ra rbb l0 g1 g2 g3 nl
            generalize r a = ra at *
            generalize r b = rb' at *
            generalize r i = ri at *
            clear gr grb e r0 hu1 hu2 hu3 hu4 hfa qY
            grind
          walk_at "st"
          refine ⟨_, _, _, _, B2 + B1 + (B2 + B1), B2 + B1, rfl, SqT.of (s9 _ _ hu3), SqT.of hu4, rb_mul g1 g2, g3, by omega, fun zz => absurd zz nl, fun _ u5 H10 s10 nu5 hu5 => ?_⟩
          rw [val] at hu5
          have s210 := s3.trans (s4.trans (s5.trans (s6.trans (s7.trans (s8.trans (s9.trans s10))))))
          have hfv10 := s210 _ _ hfv
          walk_at "st"
          refine Pm.w_append hfv10 (size_lt (by omega)) ?_
          walk_at "st"
          have kp : Keeps H10 (upd H10 f (.lst (fv ++ [.ref u5]))) := keeps_lst hfv10
          refine ⟨_, _, _, _, rfl, same_but Hf (sm.trans s210), ⟨_, upd_same, ?_⟩⟩
          rw [List.range_succ, List.map_append]
          exact All2.append (frvs_keep ((keeps s210).trans kp) hfa) ⟨(frv_new hu5).keep kp, trivial⟩
        · walk_at "st"
          refine ⟨_, _, _, rfl, s4.trans s5, fun p' hp' => ?_⟩
          rw [take_snoc hp] at hp'
          rcases List.mem_append.mp hp' with h' | h'
          · exact ih p' h'
          · rw [List.mem_singleton.mp h']; exact zout
      · rintro σ H4 ⟨y, z, u, rfl, s4, ih⟩
        rw [hta.length, List.take_length] at ih
        obtain ⟨p, hp, hb⟩ := some_beside C hi
        exact absurd hb (ih p hp)
    · rintro σ H2 ⟨x, y, z, u, rfl, sm, hRow⟩
      walk_at "st"
      exact qY l r l0 r0 e f H2 sm Hf hRow
  · rw [show @decide (Like n D1 D2) (Classical.propDecidable _) = false from @decide_eq_false _ (Classical.propDecidable _) lk]
    walk_at "st"
    exact qN lk _ s1
end
/-! ### the law's own lowest terms -/
section
variable {P : Program} {w : World} {K : PySem.W.Frag} {mg : Str → Option Value} {base : Heap}
def spLow : Sp := fun vs H Q _ => ∃ (a b : Int) (n : Nat), vs = [.int a, .int b] ∧ b ≠ 0 ∧ b.natAbs < 2 ^ n ∧ n ≤ 9000 ∧ FrNew H (Rat.divInt a b) Q
theorem ok_law_low (T : Tx K mg) : FnOk P w K mg base CX0 1 T.a_law_low T.fd_law_low ["_law_top", "_law_bottom"] spLow := by
  refine T.F_law_low.ok sc_law_low (fun vs H Q E h => ?_) (fun cdv A outer s H vs Q E hr h => ?_)
  · obtain ⟨a, b, n, rfl, _⟩ := h
    rfl
  obtain ⟨a, b, n, rfl, hb, hn, hn9, q⟩ := h
  refine ⟨_, (pss_cons (ps_set (i := 2) sc_law_low.nd rfl (.inl rfl) (pe_callB c_abs (by rfl) T.m_abs (by decide +kernel) (pa_cons (pv 0) pa_nil)))
      (pss_cons (ps_set (i := 3) sc_law_low.nd rfl (.inl rfl) (pe_callB c_abs (by rfl) T.m_abs (by decide +kernel) (pa_cons (pv 1) pa_nil)))
      (pss_cons (ps_while PassesOwn.never (pt_cmpR op_gt (pv 3) (pe_int) (nomark _)) (pss_one (ps_par (i := 2) (j := 3) (by rfl) sc_law_low.nd rfl rfl (by decide) rfl rfl (pa_cons (pv 3) (pa_cons (pe_op op_mod (pv 2) (pv 3)) pa_nil)) (by rfl))))
      (C8.pss_cut (ps_if (pt_cmpR op_lt (pv 1) (pe_int) (nomark _)) (pss_cons (ps_set (i := 0) sc_law_low.nd rfl (.inl rfl) (pe_un un_neg (pv 0)))
      (pss_one (ps_set (i := 1) sc_law_low.nd rfl (.inl rfl) (pe_un un_neg (pv 1))))) pss_nil)
      (pss_one (ps_ret (pe_tup (pa_cons (pe_op op_fdivW (pv 0) (pv 2)) (pa_cons (pe_op op_fdivW (pv 1) (pv 2)) pa_nil))))))))), ?_⟩
  walk_at "st"
  refine Pm.w_while (fun m σ H' => ∃ x y : Nat, σ = [some (.int a), some (.int b), some (.int x), some (.int y)] ∧ m = y ∧ Nat.gcd x y = Int.gcd a b ∧ H' = H) _ ⟨(if a < 0 then -a else a).natAbs, (if b < 0 then -b else b).natAbs, ?_, rfl, gcd_abs a b, rfl⟩ ?_
  · have e : ∀ c : Int, (if c < 0 then -c else c) = (((if c < 0 then -c else c).natAbs : Nat) : Int) := fun c => by split <;> omega
    show [some (V.int a), some (V.int b), some (V.int (if a < 0 then -a else a)), some (V.int (if b < 0 then -b else b))] = _
    rw [← e a, ← e b]
  · rintro m σ H' ⟨x, y, rfl, rfl, hg, rfl⟩
    walk_at "st"
    refine Pm.w_wh (fun c => ?_) (fun c => ?_)
    · walk_at "st"
      exact ⟨_, Nat.mod_lt x (by omega), m, x % m, rfl, rfl, by rw [gcd_turn x m (by omega)]; exact hg, rfl⟩
    · have e : m = 0 := by omega
      subst e
      rw [Nat.gcd_zero_right] at hg
      subst hg
      refine Pm.w_cut (fun σ' H2 => ∃ a' b' : Int, σ' = [some (.int a'), some (.int b'), some (.int ((Int.gcd a b : Nat) : Int)), some (.int ((0 : Nat) : Int))] ∧ H2 = H' ∧ Int.gcd a' b' = Int.gcd a b ∧ 0 < b' ∧ b'.natAbs < 2 ^ n ∧ Rat.divInt a' b' = Rat.divInt a b) ?_ ?_
      · walk_at "st"
        refine Pm.w_ite (fun d => ?_) (fun d => ?_)
        · walk_at "st"
          exact ⟨-a, -b, rfl, rfl, by rw [Int.gcd_neg, Int.neg_gcd], by omega, by omega, Rat.neg_divInt_neg a b⟩
        · walk_at "st"
          exact ⟨a, b, rfl, rfl, rfl, by omega, hn, rfl⟩
      · rintro σ H2 ⟨a', b', rfl, rfl, eg, hb', hn, e⟩
        rw [← eg]
        have g0 : 0 < ((Int.gcd a' b' : Nat) : Int) := gcd_pos (by omega)
        have g1 := gcd_le_right (a := a') hb'
        have n0 : 0 < n := by
          rcases Nat.eq_zero_or_pos n with z | z
          · subst z
            exact absurd hn (by omega)
          · exact z
        have hd : ∀ i : Int, CDivW i ((Int.gcd a' b' : Nat) : Int) := fun i => wide_div g0 (Nat.lt_of_le_of_lt (by omega) hn) n0 hn9
        walk_at "st"
        refine Pm.w_i (hd _) ?_
        walk_at "st"
        refine Pm.w_i (hd _) ?_
        walk_at "st"
        refine Pm.w_newT (fun t ht => ?_)
        have z := div_pos_num (a := a') hb'
        rw [z.1, z.2, e]
        exact q t _ (same_new ht _) ht upd_same
end
section
variable {P : Program} {w : World} {K : PySem.W.Frag} {mg : Str → Option Value} {base : Heap}
def spPart (K : PySem.W.Frag) : Sp := fun vs H Q _ => ∃ (t : Addr) (r : Rat) (n : Nat), vs = [.ref t] ∧ SqT K H t [.int r.num, .int r.den] ∧ r.den < 2 ^ n ∧ n ≤ 9000 ∧ ∀ H', Same H H' → Q (.bl true) H'
theorem ok_law_part (T : Tx K mg) : FnOk P w K mg base CX0 2 T.a_law_part T.fd_law_part ["_law_found"] (spPart K) := by
  refine T.F_law_part.ok sc_law_part (fun vs H Q E h => ?_) (fun cdv A outer s H vs Q E hr h => ?_)
  · obtain ⟨t, r, n, rfl, _⟩ := h
    rfl
  obtain ⟨t, r, n, rfl, ht, hn, hn9, q⟩ := h
  refine ⟨_, (pss_cons (ps_if (PW.pt (pw_or (pt_not (pt_val (pe_callB (call_isK (K := K)) (by rfl) T.m_isinstance (by decide +kernel) (pa_cons (pv 0) (pa_cons (pe_bltn (v := .ty "tuple") (by rfl) T.m_tuple (by decide +kernel) rfl) pa_nil))))) (pw_or1 (pt_cmpR op_ne (pe_callB (c_len (K := K)) (by rfl) T.m_len PySem.boot_len (pa_cons (pv 0) pa_nil)) (pe_int) (nomark _))))) (pss_one (ps_ret (pe_bl))) pss_nil)
      (pss_cons (ps_if (PW.pt (pw_or (pt_not (pt_val (pe_call (ok_law_whole T) (hr.mono (by decide)) (by rfl) T.g_law_whole T.F_law_whole.kp T.b_law_whole .nil pass0 (pa_cons (pe_ix (ix_tupK (K := K)) (pv 0) (pe_int) (fun _ _ => rfl)) pa_nil)))) (pw_or (pt_not (pt_val (pe_call (ok_law_whole T) (hr.mono (by decide)) (by rfl) T.g_law_whole T.F_law_whole.kp T.b_law_whole .nil pass0 (pa_cons (pe_ix (ix_tupK (K := K)) (pv 0) (pe_int) (fun _ _ => rfl)) pa_nil)))) (pw_or1 (pt_cmpR op_le (pe_ix (ix_tupK (K := K)) (pv 0) (pe_int) (fun _ _ => rfl)) (pe_int) (nomark _)))))) (pss_one (ps_ret (pe_bl))) pss_nil)
      (pss_one (ps_ret (pe_cmpR (op_eqDK (K := K) hr.units) (pe_call (ok_law_low T) (hr.mono (by decide)) (by rfl) T.g_law_low T.F_law_low.kp T.b_law_low .nil pass0 (pa_cons (pe_ix (ix_tupK (K := K)) (pv 0) (pe_int) (fun _ _ => rfl)) (pa_cons (pe_ix (ix_tupK (K := K)) (pv 0) (pe_int) (fun _ _ => rfl)) pa_nil))) (pv 0) (nomark _)))))), ?_⟩
  have rd := r.den_nz
  walk_at "st"
  refine Pm.w_isiTup ht (b := true) (by decide +kernel) ?_
  walk_at "st"
  refine Pm.w_lenT ht ?_
  walk_at "st"
  refine Pm.w_iteN (fun z => absurd rfl z) (fun _ => ?_)
  walk_at "st"
  refine Pm.w_ixT ht (atI2 _ _).1 ?_
  walk_at "st"
  refine ⟨_, rfl, ?_⟩
  walk_at "st"
  refine Pm.w_ixT ht (atI2 _ _).2 ?_
  walk_at "st"
  refine ⟨_, rfl, ?_⟩
  walk_at "st"
  refine Pm.w_ixT ht (atI2 _ _).2 ?_
  walk_at "st"
  refine Pm.w_ite (fun z => absurd z (by omega)) (fun _ => ?_)
  walk_at "st"
  refine Pm.w_ixT ht (atI2 _ _).1 ?_
  walk_at "st"
  refine Pm.w_ixT ht (atI2 _ _).2 ?_
  walk_at "st"
  refine ⟨_, _, n, rfl, den_ne r, by omega, hn9, fun u H' s1 nu hu => ?_⟩
  walk_at "st"
  refine Pm.w_eqPair (SqT.of hu) (Same.tup s1 ht) ?_
  rw [divInt_self', decide_eq_true ⟨rfl, rfl⟩]
  exact q H' s1
end
/-! ### the law's own arithmetic -/
section
variable {P : Program} {w : World} {K : PySem.W.Frag} {mg : Str → Option Value} {base : Heap}
def spLAdd (K : PySem.W.Frag) : Sp := fun vs H Q _ => ∃ (t u : Addr) (x y : Rat) (n m : Nat), vs = [.ref t, .ref u] ∧ FrV K H (.ref t) (rp x) ∧ FrV K H (.ref u) (rp y) ∧ rb x n ∧ rb y m ∧ n + m ≤ 9000 ∧ FrNew H (x + y) Q
def spLMul (K : PySem.W.Frag) : Sp := fun vs H Q _ => ∃ (t u : Addr) (x y : Rat) (n m : Nat), vs = [.ref t, .ref u] ∧ FrV K H (.ref t) (rp x) ∧ FrV K H (.ref u) (rp y) ∧ rb x n ∧ rb y m ∧ n + m ≤ 9000 ∧ FrNew H (x * y) Q
theorem ok_law_mul (T : Tx K mg) : FnOk P w K mg base CX0 2 T.a_law_mul T.fd_law_mul ["_law_one", "_law_other"] (spLMul K) := by
  refine T.F_law_mul.ok sc_law_mul (fun vs H Q E h => ?_) (fun cdv A outer s H vs Q E hr h => ?_)
  · obtain ⟨t, u, x, y, n, m, rfl, _⟩ := h
    rfl
  obtain ⟨t, u, x, y, n, m, rfl, ht, hu, bx, byy, hnm, q⟩ := h
  refine ⟨_, (pss_one (ps_ret (pe_call (ok_law_low T) (hr.mono (by decide)) (by rfl) T.g_law_low T.F_law_low.kp T.b_law_low .nil pass0 (pa_cons (pe_op op_mulW (pe_ix (ix_tupK (K := K)) (pv 0) (pe_int) (fun _ _ => rfl)) (pe_ix (ix_tupK (K := K)) (pv 1) (pe_int) (fun _ _ => rfl))) (pa_cons (pe_op op_mulW (pe_ix (ix_tupK (K := K)) (pv 0) (pe_int) (fun _ _ => rfl)) (pe_ix (ix_tupK (K := K)) (pv 1) (pe_int) (fun _ _ => rfl))) pa_nil))))), ?_⟩
  have n0 := rb_pos bx
  have m0 := rb_pos byy
  walk_at "st"
  refine Pm.w_ixT ht.rat (atI2 _ _).1 ?_
  walk_at "st"
  refine Pm.w_ixT hu.rat (atI2 _ _).1 ?_
  walk_at "st"
  refine Pm.w_i (wide_mul bx.1 byy.1 n0 m0 (by omega)) ?_
  walk_at "st"
  refine Pm.w_ixT ht.rat (atI2 _ _).2 ?_
  walk_at "st"
  refine Pm.w_ixT hu.rat (atI2 _ _).2 ?_
  walk_at "st"
  refine Pm.w_i (wide_mul (rb_den bx) (rb_den byy) n0 m0 (by omega)) ?_
  walk_at "st"
  refine ⟨_, _, n + m, rfl, den_mul x y, wide_lt (rb_den bx) (rb_den byy), hnm, ?_⟩
  rw [times_is]
  exact q
def spLDiv (K : PySem.W.Frag) : Sp := fun vs H Q _ => ∃ (t u : Addr) (x y : Rat) (n m : Nat), vs = [.ref t, .ref u] ∧ FrV K H (.ref t) (rp x) ∧ FrV K H (.ref u) (rp y) ∧ rb x n ∧ rb y m ∧ n + m ≤ 9000 ∧ y ≠ 0 ∧ FrNew H (x / y) Q
theorem ok_law_div (T : Tx K mg) : FnOk P w K mg base CX0 2 T.a_law_div T.fd_law_div ["_law_one", "_law_other"] (spLDiv K) := by
  refine T.F_law_div.ok sc_law_div (fun vs H Q E h => ?_) (fun cdv A outer s H vs Q E hr h => ?_)
  · obtain ⟨t, u, x, y, n, m, rfl, _⟩ := h
    rfl
  obtain ⟨t, u, x, y, n, m, rfl, ht, hu, bx, byy, hnm, y0, q⟩ := h
  refine ⟨_, (pss_one (ps_ret (pe_call (ok_law_low T) (hr.mono (by decide)) (by rfl) T.g_law_low T.F_law_low.kp T.b_law_low .nil pass0 (pa_cons (pe_op op_mulW (pe_ix (ix_tupK (K := K)) (pv 0) (pe_int) (fun _ _ => rfl)) (pe_ix (ix_tupK (K := K)) (pv 1) (pe_int) (fun _ _ => rfl))) (pa_cons (pe_op op_mulW (pe_ix (ix_tupK (K := K)) (pv 0) (pe_int) (fun _ _ => rfl)) (pe_ix (ix_tupK (K := K)) (pv 1) (pe_int) (fun _ _ => rfl))) pa_nil))))), ?_⟩
  have n0 := rb_pos bx
  have m0 := rb_pos byy
  walk_at "st"
  refine Pm.w_ixT ht.rat (atI2 _ _).1 ?_
  walk_at "st"
  refine Pm.w_ixT hu.rat (atI2 _ _).2 ?_
  walk_at "st"
  refine Pm.w_i (wide_mul bx.1 (rb_den byy) n0 m0 (by omega)) ?_
  walk_at "st"
  refine Pm.w_ixT ht.rat (atI2 _ _).2 ?_
  walk_at "st"
  refine Pm.w_ixT hu.rat (atI2 _ _).1 ?_
  walk_at "st"
  refine Pm.w_i (wide_mul (rb_den bx) byy.1 n0 m0 (by omega)) ?_
  walk_at "st"
  refine ⟨_, _, n + m, rfl, Int.mul_ne_zero (den_ne x) (fun z => y0 (Rat.num_eq_zero.mp z)), wide_lt (rb_den bx) byy.1, hnm, ?_⟩
  rw [over_is]
  exact q
end
/-! ### drawn lengths -/
section
variable {P : Program} {w : World} {K : PySem.W.Frag} {mg : Str → Option Value} {base : Heap}
def spSize : Sp := fun vs H Q _ => ∃ x : Int, vs = [.int x] ∧ 0 ≤ x ∧ ∀ r : Rat, szd r 1024 128 → FrNew H r Q
theorem szd_div {a b : Int} {N M : Nat} (ha : 1 ≤ a ∧ a ≤ N) (hb : 1 ≤ b ∧ b ≤ M) : szd (Rat.divInt a b) N M := by
  have e := div_pos_num (a := a) (b := b) (by omega)
  have g : (0 : Int) < ((Int.gcd a b : Nat) : Int) := gcd_pos (by omega)
  have n1 : (Rat.divInt a b).num ≤ a := by
    rw [← e.1]
    exact Int.ediv_le_self _ (by omega)
  have d1 : ((Rat.divInt a b).den : Int) ≤ b := by
    rw [← e.2]
    exact Int.ediv_le_self _ (by omega)
  have p : 0 < Rat.divInt a b := by
    rw [Rat.divInt_eq_div]
    refine rat_div_pos ?_ ?_
    · exact Rat.intCast_pos.mpr (by omega)
    · exact Rat.intCast_pos.mpr (by omega)
  have := pos_num p
  exact ⟨p, by omega, by omega⟩
theorem ok_law_size (T : Tx K mg) : FnOk P w K mg base CX0 2 T.a_law_size T.fd_law_size ["_law_one"] spSize := by
  refine T.F_law_size.ok sc_law_size (fun vs H Q E h => ?_) (fun cdv A outer s H vs Q E hr h => ?_)
  · obtain ⟨x, rfl, _⟩ := h
    rfl
  obtain ⟨x, rfl, x0, q⟩ := h
  refine ⟨_, (pss_cons (ps_if (pt_cmpR op_eq (pe_op op_mod (pv 0) (pe_int)) (pe_int) (nomark _)) (pss_one (ps_ret (pe_call (ok_law_low T) (hr.mono (by decide)) (by rfl) T.g_law_low T.F_law_low.kp T.b_law_low .nil pass0 (pa_cons (pe_op op_add (pe_int) (pe_op op_mod (pe_op op_fdiv (pv 0) (pe_int)) (pe_int))) (pa_cons (pe_op op_add (pe_int) (pe_op op_mod (pe_op op_fdiv (pv 0) (pe_int)) (pe_int))) pa_nil))))) pss_nil)
      (pss_one (ps_ret (pe_call (ok_law_low T) (hr.mono (by decide)) (by rfl) T.g_law_low T.F_law_low.kp T.b_law_low .nil pass0 (pa_cons (pe_op op_add (pe_int) (pe_op op_mod (pv 0) (pe_int))) (pa_cons (pe_op op_add (pe_int) (pe_op op_mod (pe_op op_fdiv (pv 0) (pe_int)) (pe_int))) pa_nil)))))), ?_⟩
  walk_at "st"
  refine Pm.w_ite (fun e => ?_) (fun e => ?_)
  · walk_at "st"
    refine ⟨_, _, 8, rfl, by omega, by omega, by decide, q _ (szd_div ?_ ?_)⟩
    · constructor <;> omega
    · constructor <;> omega
  · walk_at "st"
    refine ⟨_, _, 8, rfl, by omega, by omega, by decide, q _ (szd_div ?_ ?_)⟩
    · constructor <;> omega
    · constructor <;> omega
def spSized (K : PySem.W.Frag) : Sp := fun vs H Q _ => ∃ (a r : Addr) (ts : List IP) (row : List Int), vs = [.ref a, .ref r] ∧ PLt H a ts ∧ ts.Nodup ∧ SqL K H r (row.map V.int) ∧ ts.length ≤ row.length ∧ 0 < ts.length ∧ ts.length ≤ 1000 ∧ (∀ x ∈ row, 0 ≤ x) ∧
  ∀ (d : Addr) (H' : Hp) (ks : List IP) (R : IP → Rat), Same H H' → H d = none → LD K H' d ks (fun k => rp (R k)) → (∀ p, p ∈ ks ↔ p ∈ ts) → (∀ p ∈ ts, szd (R p) 1024 128) → Q (.ref d) H'
theorem ok_law_sized (T : Tx K mg) : FnOk P w K mg base CX0 3 T.a_law_sized T.fd_law_sized ["_law_all_ties", "_law_row"] (spSized K) := by
  refine T.F_law_sized.ok sc_law_sized (fun vs H Q E h => ?_) (fun cdv A outer s H vs Q E hr h => ?_)
  · obtain ⟨a, r, ts, row, rfl, _⟩ := h
    rfl
  obtain ⟨a, r, ts, row, rfl, ⟨tvs, hta, hpt⟩, tnd, hR, trl, t0, t1, hrow, q⟩ := h
  have tl := hpt.length
  have r0 : ∀ i : Nat, i < row.length → 0 ≤ row.getD i 0 := fun i hi => by
    rw [List.getD_eq_getElem?_getD, List.getElem?_eq_getElem hi]
    exact hrow _ (List.getElem_mem hi)
  refine ⟨_, (pss_cons (ps_set (i := 2) sc_law_sized.nd rfl (.inl rfl) (pe_dnewT))
      (pss_cons (ps_for PassesOwn.never rfl (pi_range1 (by rfl) T.m_range (pa_cons (pe_callB (c_len (K := K)) (by rfl) T.m_len PySem.boot_len (pa_cons (pv 0) pa_nil)) pa_nil)) (pg_name (i := 3) sc_law_sized.nd rfl (.inl rfl)) (pss_cons (ps_set (i := 4) sc_law_sized.nd rfl (.inl rfl) (pe_op op_mod (pe_op op_add (pv 3) (pe_op op_fdiv (pe_ix (ix_listK (K := K)) (pv 1) (pe_int) (fun _ _ => rfl)) (pe_int))) (pe_callB (c_len (K := K)) (by rfl) T.m_len PySem.boot_len (pa_cons (pv 0) pa_nil))))
      (pss_one (ps_dput (hu_of hr) (pv 2) (pe_ix (ix_listK (K := K)) (pv 0) (pv 4) (fun _ _ => rfl)) (pe_call (ok_law_size T) (hr.mono (by decide)) (by rfl) T.g_law_size T.F_law_size.kp T.b_law_size .nil pass0 (pa_cons (pe_ix (ix_listK (K := K)) (pv 1) (pv 4) (fun _ _ => rfl)) pa_nil)) rfl))))
      (pss_one (ps_ret (pv 2))))), ?_⟩
  walk_at "st"
  refine Pm.w_dnewT (fun d hd => ?_)
  have s1 := same_new hd (.dT [])
  walk_at "st"
  refine Pm.w_lenL (SqL.of (s1 _ _ hta)) ?_
  walk_at "st"
  rw [tl, Int.toNat_natCast]
  have z0 := r0 0 (by omega)
  generalize hsh : (row.getD 0 0 / 17).toNat = sh
  have hsh' : row.getD 0 0 / 17 = (sh : Int) := by omega
  refine Pm.w_forR (fun i σ H2 => ∃ (x y : Option V) (ks : List IP) (R : IP → Rat), σ = [some (.ref a), some (.ref r), some (.ref d), x, y] ∧ Same H H2 ∧ LD K H2 d ks (fun k => rp (R k)) ∧ ks.length ≤ i ∧ (∀ p, p ∈ ks ↔ ∃ k, k < i ∧ ts[(k + sh) % ts.length]? = some p) ∧ ∀ p ∈ ks, szd (R p) 1024 128) ?_ ?_ ?_
  · exact ⟨_, _, [], fun _ => 0, rfl, s1, ld_nil upd_same _, Nat.le_refl _, fun p => ⟨fun h => (nomatch h), fun ⟨k, hk, _⟩ => absurd hk (by omega)⟩, fun _ h => nomatch h⟩
  · rintro i σ H2 hi ⟨x, y, ks, R, rfl, s2, hL, kl, hks, hz⟩
    have hR2 := s2.seq hR
    have hta2 := s2 _ _ hta
    walk_at "st"
    refine Pm.w_ixL hR2 (atI_int (by omega) (by omega)) ?_
    walk_at "st"
    refine Pm.w_lenL (SqL.of hta2) ?_
    walk_at "st"
    rw [tl, Int.zero_add]
    have em : ((i : Int) + row.getD 0 0 / 17) % (ts.length : Int) = (((i + sh) % ts.length : Nat) : Int) := by rw [hsh']; rfl
    rw [show (0 : Int).toNat = 0 from rfl, em]
    have jm : (i + sh) % ts.length < ts.length := Nat.mod_lt _ t0
    generalize hj : (i + sh) % ts.length = j at jm
    refine Pm.w_ixL hR2 (atI_int (by omega) (by omega)) ?_
    walk_at "st"
    refine ⟨_, rfl, by rw [Int.toNat_natCast]; exact r0 j (by omega), fun rr hrr t H3 s3 nt ht => ?_⟩
    walk_at "st"
    obtain ⟨p, hp, u, hu, hut⟩ := hpt.get (List.getElem?_eq_getElem (show j < tvs.length by omega))
    have hH3 := s2.trans s3
    refine Pm.w_ixL (SqL.of (hH3 _ _ hta)) (v := .ref u) (atI_nat (by rw [List.getElem?_eq_getElem (show j < tvs.length by omega), hu])) ?_
    refine w_ldPut (k := p) (p := rp rr) (hL.same s3) ⟨u, rfl, hH3 _ _ hut⟩ (frv_new ht) (by omega) (fun es hL4 kp => ?_)
    refine ⟨_, _, putk ks p, fun k => if k = p then rr else R k, rfl, same_but hd hH3, hL4.congr fun k hk => ?_, Nat.le_trans (putk_len _ _) (by omega), fun p' => ?_, fun p' hp' => ?_⟩
    · by_cases e : k = p
      · simp only [e, if_true, updF_same]
      · simp only [if_neg e, updF_ne e]
    · rw [mem_putk, hks]
      constructor
      · rintro (⟨k, hk, e⟩ | rfl)
        · exact ⟨k, by omega, e⟩
        · exact ⟨i, by omega, by rw [hj]; exact hp⟩
      · rintro ⟨k, hk, e⟩
        by_cases c : k = i
        · subst c
          rw [hj, hp] at e
          exact .inr (Option.some.inj e).symm
        · exact .inl ⟨k, by omega, e⟩
    · by_cases e : p' = p
      · simp only [e, if_true]; exact hrr
      · simp only [if_neg e]
        rcases mem_putk.mp hp' with z | z
        · exact hz _ z
        · exact absurd z e
  · rintro σ H2 ⟨x, y, ks, R, rfl, s2, hL, kl, hks, hz⟩
    walk_at "st"
    have all : ∀ p, p ∈ ks ↔ p ∈ ts := fun p => by
      rw [hks]
      constructor
      · rintro ⟨k, _, e⟩
        exact List.mem_of_getElem? e
      · intro hp
        obtain ⟨j, hj, e⟩ := List.mem_iff_getElem.mp hp
        refine ⟨(j + (ts.length - sh % ts.length)) % ts.length, Nat.mod_lt _ t0, ?_⟩
        have e2 : ((j + (ts.length - sh % ts.length)) % ts.length + sh) % ts.length = j := by
          rw [Nat.mod_add_mod, Nat.add_assoc]
          have h1 := Nat.mod_lt sh t0
          have h2 := Nat.div_add_mod sh ts.length
          rw [show ts.length - sh % ts.length + sh = ts.length * (sh / ts.length + 1) by rw [Nat.mul_add, Nat.mul_one]; omega, Nat.add_mul_mod_self_left]
          exact Nat.mod_eq_of_lt hj
        rw [e2, List.getElem?_eq_getElem hj, e]
    exact q d H2 ks R s2 hd hL all fun p hp => hz p ((all p).mpr hp)
end
section
variable {P : Program} {w : World} {K : PySem.W.Frag} {mg : Str → Option Value} {base : Heap}
def spLParts (K : PySem.W.Frag) : Sp := fun vs H Q _ => ∃ (f d : Addr) (rs : List Rat) (B : Nat), vs = [.ref f, .ref d] ∧ Row K H f (rs.map rp) ∧ Row K H d (rs.map rp) ∧ rs.length ≤ 1000 ∧ (∀ r ∈ rs, rb r B) ∧ B ≤ 9000 ∧ ∀ H', Same H H' → Q (.bl true) H'
theorem ok_law_parts (T : Tx K mg) : FnOk P w K mg base CX0 3 T.a_law_parts T.fd_law_parts ["_law_found", "_law_due"] (spLParts K) := by
  refine T.F_law_parts.ok sc_law_parts (fun vs H Q E h => ?_) (fun cdv A outer s H vs Q E hr h => ?_)
  · obtain ⟨f, d, rs, B, rfl, _⟩ := h
    rfl
  obtain ⟨f, d, rs, B, rfl, ⟨fv, hf, af⟩, ⟨dv, hd, ad⟩, hl, hb, hB, q⟩ := h
  have l1 := af.length
  have l2 := ad.length
  rw [List.length_map] at l1 l2
  refine ⟨_, (pss_cons (ps_if (PW.pt (pw_or (pt_not (pt_val (pe_callB (call_isK (K := K)) (by rfl) T.m_isinstance (by decide +kernel) (pa_cons (pv 0) (pa_cons (pe_bltn (v := .ty "list") (by rfl) T.m_list (by decide +kernel) rfl) pa_nil))))) (pw_or1 (pt_cmpR op_ne (pe_callB (c_len (K := K)) (by rfl) T.m_len PySem.boot_len (pa_cons (pv 0) pa_nil)) (pe_callB (c_len (K := K)) (by rfl) T.m_len PySem.boot_len (pa_cons (pv 1) pa_nil)) (nomark _))))) (pss_one (ps_ret (pe_bl))) pss_nil)
      (pss_cons (ps_for PassesOwn.never rfl (pi_range1 (by rfl) T.m_range (pa_cons (pe_callB (c_len (K := K)) (by rfl) T.m_len PySem.boot_len (pa_cons (pv 1) pa_nil)) pa_nil)) (pg_name (i := 2) sc_law_parts.nd rfl (.inl rfl)) (pss_one (ps_if (PW.pt (pw_or (pt_not (pt_val (pe_call (ok_law_part T) (hr.mono (by decide)) (by rfl) T.g_law_part T.F_law_part.kp T.b_law_part .nil pass0 (pa_cons (pe_ix (ix_listK (K := K)) (pv 0) (pv 2) (fun _ _ => rfl)) pa_nil)))) (pw_or1 (pt_cmpR (op_neDK (K := K) hr.units) (pe_ix (ix_listK (K := K)) (pv 0) (pv 2) (fun _ _ => rfl)) (pe_ix (ix_listK (K := K)) (pv 1) (pv 2) (fun _ _ => rfl)) (nomark _))))) (pss_one (ps_ret (pe_bl))) pss_nil)))
      (pss_one (ps_ret (pe_bl))))), ?_⟩
  walk_at "st"
  refine Pm.w_isiLst (SqL.of hf) (b := true) (by decide +kernel) ?_
  walk_at "st"
  refine Pm.w_lenL (SqL.of hf) ?_
  walk_at "st"
  refine Pm.w_lenL (SqL.of hd) ?_
  walk_at "st"
  refine Pm.w_iteN (fun z => absurd (by rw [l1, l2]) z) (fun _ => ?_)
  walk_at "st"
  refine Pm.w_lenL (SqL.of hd) ?_
  walk_at "st"
  rw [l2, Int.toNat_natCast]
  refine Pm.w_forR (fun i σ H1 => ∃ x, σ = [some (.ref f), some (.ref d), x] ∧ Same H H1) ⟨_, rfl, Same.refl _⟩ ?_ ?_
  · rintro i σ H1 hi ⟨x, rfl, s1⟩
    have er : (rs.map rp)[i]? = some (rp rs[i]) := by rw [List.getElem?_map, List.getElem?_eq_getElem hi]; rfl
    obtain ⟨v1, hv1, t1, rfl, h1⟩ := af.get' er
    obtain ⟨v2, hv2, t2, rfl, h2⟩ := ad.get' er
    have f1 : FrV K H (.ref t1) (rp rs[i]) := ⟨t1, rfl, h1⟩
    have f2 : FrV K H (.ref t2) (rp rs[i]) := ⟨t2, rfl, h2⟩
    have bi := hb _ (List.getElem_mem hi)
    walk_at "st"
    rw [Int.zero_add]
    refine Pm.w_ixL (SqL.of (s1 _ _ hf)) (atI_nat hv1) ?_
    walk_at "st"
    refine ⟨_, _, B, rfl, (f1.keep (keeps s1)).rat, bi.2, hB, fun H2 s2 => ?_⟩
    have s12 := s1.trans s2
    walk_at "st"
    refine Pm.w_ixL (SqL.of (s12 _ _ hf)) (atI_nat hv1) ?_
    walk_at "st"
    refine Pm.w_ixL (SqL.of (s12 _ _ hd)) (atI_nat hv2) ?_
    walk_at "st"
    refine w_neFr (f1.keep (keeps s12)) (f2.keep (keeps s12)) ?_
    rw [decide_eq_true rfl]
    walk_at "st"
    exact ⟨_, rfl, s12⟩
  · rintro σ H1 ⟨x, rfl, s1⟩
    walk_at "st"
    exact q _ s1
end
section
variable {P : Program} {w : World} {K : PySem.W.Frag} {mg : Str → Option Value} {base : Heap}
def spLSides : Sp := fun vs H Q _ => ∃ n : Nat, vs = [.int n] ∧ 1 ≤ n ∧ n ≤ 1000 ∧ PLNew H (sides0 n) Q
theorem ok_law_sides (T : Tx K mg) : FnOk P w K mg base CX0 1 T.a_law_sides T.fd_law_sides ["_law_n"] spLSides := by
  refine T.F_law_sides.ok sc_law_sides (fun vs H Q E h => ?_) (fun cdv A outer s H vs Q E hr h => ?_)
  · obtain ⟨n, rfl, _⟩ := h
    rfl
  obtain ⟨n, rfl, n1, n2, q⟩ := h
  refine ⟨_, (pss_one (ps_ret (pe_op op_cat (pe_lc (own := [("_law_k", 1)]) (g := gName 1) (tt := tYes) rfl sc_law_sides.nd (pi_range1 (by rfl) T.m_range (pa_cons (pe_op op_sub (pv 0) (pe_int)) pa_nil)) (blkOk_by (N := N_law_sides) (sc := defScope s_law_sides) (by decide +kernel)) (fun _ _ _ _ _ => (pg_name (i := 1) sc_law_sides.nd rfl (.inl rfl))) (fun _ _ _ _ _ => pts_nil) (fun _ _ _ _ _ => (pe_tup (pa_cons (pv 1) (pa_cons (pe_op op_add (pv 1) (pe_int)) pa_nil))))) (pe_lst (pa_cons (pe_tup (pa_cons (pe_int) (pa_cons (pe_op op_sub (pv 0) (pe_int)) pa_nil))) pa_nil))))), ?_⟩
  walk_at "st"
  have en : ((n : Int) - 1).toNat = n - 1 := by omega
  rw [en]
  refine Pm.w_lcRm (R := Pr) pr_mono (fun k : Nat => ((k : Int), (k : Int) + 1)) (by omega) (fun D i H1 Nx hD hi s1 put => ?_) (fun D H1 ws hD s1 hd ha => ?_)
  · walk_at "st"
    refine Pm.w_newT (fun t ht => ?_)
    refine put _ _ (same_new ht _) ⟨t, rfl, ?_⟩
    rw [upd_same, Int.zero_add]
  · walk_at "st"
    refine Pm.w_newT (fun t ht => ?_)
    walk_at "st"
    refine Pm.w_newL (fun l hl => ?_)
    have nD : D ≠ l := ne_of_none (o := .lst ws) ((same_new ht _) _ _ hd) hl
    have hlen := ha.length
    rw [List.length_map, List.length_range] at hlen
    refine Pm.w_cat (by rw [upd_ne nD, upd_ne (ne_of_none hd ht)]; exact hd) upd_same (size_ok (by rw [hlen, List.length_singleton]; omega)) (fun p hp => ?_)
    have k1 : Keeps H1 (upd (upd (upd H1 t (.tup [.int 0, .int ((n : Int) - 1)])) l (.lst [.ref t])) p (.lst (ws ++ [.ref t]))) := keeps ((same_new ht _).trans ((same_new hl _).trans (same_new hp _)))
    have s2 := s1.trans ((same_new ht _).trans ((same_new hl _).trans (same_new hp (.lst (ws ++ [.ref t])))))
    refine q p _ _ s2 (by have := (s1.trans ((same_new ht _).trans (same_new hl (.lst [.ref t])))).free hp; exact this) upd_same ((prs_keep k1 ha).append ⟨⟨t, rfl, ?_⟩, trivial⟩)
    exact ((same_new hl _).trans (same_new hp _)) _ _ upd_same
end
section
variable {P : Program} {w : World} {K : PySem.W.Frag} {mg : Str → Option Value} {base : Heap}
def spLTies : Sp := fun vs H Q _ => ∃ (n : Nat) (c : Addr) (cut : List IP), vs = [.int n, .ref c] ∧ 1 ≤ n ∧ n ≤ 1000 ∧ PLt H c cut ∧ cut.length ≤ 1000 ∧ PLNew H (tiesL n cut) Q
theorem ok_law_ties (T : Tx K mg) : FnOk P w K mg base CX0 2 T.a_law_ties T.fd_law_ties ["_law_n", "_law_cut"] spLTies := by
  refine T.F_law_ties.ok sc_law_ties (fun vs H Q E h => ?_) (fun cdv A outer s H vs Q E hr h => ?_)
  · obtain ⟨n, c, cut, rfl, _⟩ := h
    rfl
  obtain ⟨n, c, cut, rfl, n1, n2, ⟨cvs, hc, pc⟩, cl, q⟩ := h
  refine ⟨_, (pss_one (ps_ret (pe_callB (cr_sortK (K := K)) (by rfl) T.m_sorted (by decide +kernel) (pa_cons (pe_op op_cat (pe_call (ok_law_sides T) (hr.mono (by decide)) (by rfl) T.g_law_sides T.F_law_sides.kp T.b_law_sides .nil pass0 (pa_cons (pv 0) pa_nil)) (pv 1)) pa_nil)))), ?_⟩
  walk_at "st"
  refine ⟨n, rfl, n1, n2, fun p H1 ws s1 np hp ha => ?_⟩
  walk_at "st"
  have l1 := ha.length
  rw [sides0_len n1] at l1
  have l2 := pc.length
  refine Pm.w_cat hp (s1 _ _ hc) (size_ok (by omega)) (fun l hl => ?_)
  have k1 := keeps (same_new hl (.lst (ws ++ cvs)))
  refine Pm.w_sortP (SqL.of upd_same) ((prs_keep k1 ha).append (prs_keep ((keeps s1).trans k1) pc)) (fun ys p2 hp2 hy => ?_)
  have s2 := s1.trans (same_new hl (.lst (ws ++ cvs)))
  exact q p2 _ ys (s2.trans (same_new hp2 _)) (s2.free hp2) upd_same (prs_keep (keeps (same_new hp2 _)) hy)
end
section
variable {P : Program} {w : World} {K : PySem.W.Frag} {mg : Str → Option Value} {base : Heap}
def spLBeside : Sp := fun vs H Q _ => ∃ (n : Nat) (l : Addr) (T0 : List IP) (a b : Int), vs = [.int n, .ref l, .int a, .int b] ∧ n ≤ 1000 ∧ PLt H l T0 ∧ ILNew H (besideL n T0 a b) Q
theorem ok_law_beside (T : Tx K mg) : FnOk P w K mg base CX0 2 T.a_law_beside T.fd_law_beside ["_law_n", "_law_all_ties", "_law_a", "_law_b"] spLBeside := by
  refine T.F_law_beside.ok sc_law_beside (fun vs H Q E h => ?_) (fun cdv A outer s H vs Q E hr h => ?_)
  · obtain ⟨n, l, T0, a, b, rfl, _⟩ := h
    rfl
  obtain ⟨n, l, T0, a, b, rfl, n2, ⟨ws, hl, ha⟩, q⟩ := h
  refine ⟨_, (pss_cons (ps_set (i := 4) sc_law_beside.nd rfl (.inl rfl) (pe_lst pa_nil))
      (pss_cons (ps_for PassesOwn.never rfl (pi_range1 (by rfl) T.m_range (pa_cons (pv 0) pa_nil)) (pg_name (i := 5) sc_law_beside.nd rfl (.inl rfl)) (pss_one (ps_if (PW.pt (pw_and (pt_cmpR (op_inDK (K := K) hr.u65) (pe_call (ok_law_pair T) (hr.mono (by decide)) (by rfl) T.g_law_pair T.F_law_pair.kp T.b_law_pair .nil pass0 (pa_cons (pv 2) (pa_cons (pv 5) pa_nil))) (pv 1) (by rfl)) (pw_and1 (pt_cmpR (op_inDK (K := K) hr.u65) (pe_call (ok_law_pair T) (hr.mono (by decide)) (by rfl) T.g_law_pair T.F_law_pair.kp T.b_law_pair .nil pass0 (pa_cons (pv 3) (pa_cons (pv 5) pa_nil))) (pv 1) (by rfl))))) (pss_one (ps_expr (k_bm (K := K) (pe_bm PySem.F.plainAttrs_list PySem.F.slot_list_append PySem.F.type_list_append mt_append (pv 4) (pa_cons (pv 5) pa_nil))))) pss_nil)))
      (pss_one (ps_ret (pv 4))))), ?_⟩
  walk_at "st"
  refine Pm.w_newL (fun f hf => ?_)
  walk_at "st"
  rw [Int.toNat_natCast]
  have s3 : Same H (upd H f (.lst [])) := same_new hf _
  have nlf : l ≠ f := ne_of_none hl hf
  have hHf : H f = none := hf
  refine Pm.w_forR (fun i σ H3 => ∃ x, σ = [some (.int n), some (.ref l), some (.int a), some (.int b), some (.ref f), x] ∧ Same H H3 ∧ H3 l = some (.lst ws) ∧ Prs H3 ws (T0) ∧ H3 f = some (.lst ((((List.range i).filter (isBeside (T0) a b)).map fun c : Nat => (c : Int)).map V.int))) ?_ ?_ ?_
  · exact ⟨_, rfl, same_but hHf (Same.refl _), s3 _ _ hl, prs_keep (keeps s3) ha, upd_same⟩
  · rintro i σ H3 hi ⟨x, rfl, sm, hl3, ha3, hf3⟩
    have hz : ((((List.range i).filter (isBeside (T0) a b)).map fun c : Nat => (c : Int)).map V.int).length < sizeLine := by
      rw [List.length_map, List.length_map]
      have := List.length_filter_le (isBeside (T0) a b) (List.range i)
      rw [List.length_range] at this
      exact size_lt (by omega)
    have fin : ∀ H5 : Hp, Same H3 H5 → isBeside (T0) a b i = false → ∃ x, ([some (.int n), some (.ref l), some (.int a), some (.int b), some (.ref f), some (.int (0 + (i : Nat)))] : L2.St) = [some (.int n), some (.ref l), some (.int a), some (.int b), some (.ref f), x] ∧ Same H H5 ∧ H5 l = some (.lst ws) ∧ Prs H5 ws (T0) ∧ H5 f = some (.lst ((((List.range (i + 1)).filter (isBeside (T0) a b)).map fun c : Nat => (c : Int)).map V.int)) := fun H5 s5 z => by
      refine ⟨_, rfl, sm.trans s5, s5 _ _ hl3, prs_keep (keeps s5) ha3, ?_⟩
      rw [besides_snoc, z, if_neg Bool.false_ne_true, List.append_nil]
      exact s5 _ _ hf3
    walk_at "st"
    refine ⟨a, _, rfl, fun t4 H4 s4 nt4 ht4 => ?_⟩
    rw [Int.zero_add] at ht4
    walk_at "st"
    refine Pm.w_inPL ht4 (SqL.of (s4 _ _ hl3)) (prs_keep (keeps s4) ha3) ?_
    walk_at "st"
    refine Pm.w_ite (fun e1 => ?_) (fun e1 => ?_)
    · walk_at "st"
      refine ⟨b, _, rfl, fun t5 H5 s5 nt5 ht5 => ?_⟩
      rw [Int.zero_add] at ht5
      have s45 := s4.trans s5
      walk_at "st"
      refine Pm.w_inPL ht5 (SqL.of (s45 _ _ hl3)) (prs_keep (keeps s45) ha3) ?_
      walk_at "st"
      refine Pm.w_ite (fun e2 => ?_) (fun e2 => ?_)
      · have z : isBeside (T0) a b i = true := by unfold isBeside; rw [decide_eq_true e1, decide_eq_true e2]; rfl
        walk_at "st"
        refine ⟨.inl ⟨rfl, _, SqL.of (s45 _ _ hf3)⟩, ?_⟩
        walk_at "st"
        refine Pm.w_append (s45 _ _ hf3) hz ?_
        walk_at "st"
        refine ⟨_, rfl, same_but hHf (sm.trans s45), ?_, ?_, ?_⟩
        · rw [upd_ne nlf]; exact s45 _ _ hl3
        · exact prs_keep (keeps_lst (s45 _ _ hf3)) (prs_keep (keeps s45) ha3)
        · rw [upd_same, besides_snoc, z, if_pos rfl, List.map_append, Int.zero_add]
          rfl
      · have z : isBeside (T0) a b i = false := by unfold isBeside; rw [decide_eq_false e2, Bool.and_false]
        walk_at "st"
        exact fin H5 s45 z
    · have z : isBeside (T0) a b i = false := by unfold isBeside; rw [decide_eq_false e1, Bool.false_and]
      walk_at "st"
      exact fin H4 s4 z
  · rintro σ H3 ⟨x, rfl, sm, hl3, ha3, hf3⟩
    walk_at "st"
    exact q f _ sm hHf hf3
end
section
variable {P : Program} {w : World} {K : PySem.W.Frag} {mg : Str → Option Value} {base : Heap}
/-- the four posts of a rope, rising -/
def ring4 (x m y o : Nat) : List Int := if o < x then [(o : Int), (x : Int), (m : Int), (y : Int)] else [(x : Int), (m : Int), (y : Int), (o : Int)]
def spLRing : Sp := fun vs H Q _ => ∃ (n : Nat) (c r : Addr) (cut : List IP) (t t' : Tr) (x y m o : Nat) (R : List (Nat × Nat)), vs = [.int n, .ref c, .ref r] ∧ n ≤ 1000 ∧ PLt H c cut ∧ Cutting n cut t ∧ Pr H (.ref r) (castP (x, y)) ∧ Turning n cut t t' x y m o R ∧ ILNew H (ring4 x m y o) Q
theorem ok_law_ring (T : Tx K mg) : FnOk P w K mg base CX0 3 T.a_law_ring T.fd_law_ring ["_law_n", "_law_cut", "_law_rope"] spLRing := by
  refine T.F_law_ring.ok sc_law_ring (fun vs H Q E h => ?_) (fun cdv A outer s H vs Q E hr h => ?_)
  · obtain ⟨n, c, r, cut, t, t', x, y, m, o, R, rfl, _⟩ := h
    rfl
  obtain ⟨n, c, r, cut, t, t', x, y, m, o, R, rfl, n2, hc, C, hrp, U, q⟩ := h
  have cl := C.cut_len
  have n3 := C.n3
  refine ⟨_, (pss_cons (ps_set (i := 3) sc_law_ring.nd rfl (.inl rfl) (pe_call (ok_law_beside T) (hr.mono (by decide)) (by rfl) T.g_law_beside T.F_law_beside.kp T.b_law_beside .nil pass0 (pa_cons (pv 0) (pa_cons (pe_call (ok_law_ties T) (hr.mono (by decide)) (by rfl) T.g_law_ties T.F_law_ties.kp T.b_law_ties .nil pass0 (pa_cons (pv 0) (pa_cons (pv 1) pa_nil))) (pa_cons (pe_ix (ix_tupK (K := K)) (pv 2) (pe_int) (fun _ _ => rfl)) (pa_cons (pe_ix (ix_tupK (K := K)) (pv 2) (pe_int) (fun _ _ => rfl)) pa_nil))))))
      (pss_one (ps_ret (pe_callB (cr_sortIK (K := K)) (by rfl) T.m_sorted (by decide +kernel) (pa_cons (pe_lst (pa_cons (pe_ix (ix_tupK (K := K)) (pv 2) (pe_int) (fun _ _ => rfl)) (pa_cons (pe_ix (ix_tupK (K := K)) (pv 2) (pe_int) (fun _ _ => rfl)) (pa_cons (pe_ix (ix_listK (K := K)) (pv 3) (pe_int) (fun _ _ => rfl)) (pa_cons (pe_ix (ix_listK (K := K)) (pv 3) (pe_int) (fun _ _ => rfl)) pa_nil))))) pa_nil))))), ?_⟩
  walk_at "st"
  refine ⟨n, c, cut, rfl, by omega, n2, hc, by omega, fun l H1 tvs s1 nl hl ha => ?_⟩
  have hr1 := hrp.keep (keeps s1)
  walk_at "st"
  refine Pm.w_ixT hr1.tup (atI2 _ _).1 ?_
  walk_at "st"
  refine Pm.w_ixT hr1.tup (atI2 _ _).2 ?_
  walk_at "st"
  refine ⟨n, l, tiesL n cut, _, _, rfl, by omega, ⟨tvs, hl, ha⟩, fun b H2 s2 nbd hbd => ?_⟩
  have bes' : besideL n (tiesL n cut) (castP (x, y)).1 (castP (x, y)).2 = [((min m o : Nat) : Int), ((max m o : Nat) : Int)] := U.bes
  rw [bes'] at hbd
  have hr2 := hr1.keep (keeps s2)
  walk_at "st"
  refine Pm.w_ixT hr2.tup (atI2 _ _).1 ?_
  walk_at "st"
  refine Pm.w_ixT hr2.tup (atI2 _ _).2 ?_
  walk_at "st"
  refine Pm.w_ixL (SqL.of hbd) (show atI [V.int ((min m o : Nat) : Int), V.int ((max m o : Nat) : Int)] 0 = some _ from rfl) ?_
  walk_at "st"
  refine Pm.w_ixL (SqL.of hbd) (show atI [V.int ((min m o : Nat) : Int), V.int ((max m o : Nat) : Int)] 1 = some _ from rfl) ?_
  walk_at "st"
  refine Pm.w_newL (fun g hg => ?_)
  have s3 := same_new hg (.lst [.int (castP (x, y)).1, .int (castP (x, y)).2, .int ((min m o : Nat) : Int), .int ((max m o : Nat) : Int)])
  refine w_sortI (ns := [(x : Int), (y : Int), ((min m o : Nat) : Int), ((max m o : Nat) : Int)]) (ms := ring4 x m y o) (SqL.of upd_same) ?_ ?_ (fun p hp => ?_)
  · unfold ring4
    have F := U.four C
    rcases U.cross C with ⟨h1, h2, h3, h4, h5⟩ | ⟨h1, h2, h3, h4, h5⟩
    · rw [if_neg (by omega), h4, h5]
      exact (List.Perm.swap _ _ _).cons _
    · rw [if_pos (by omega), h4, h5]
      refine List.perm_iff_count.mpr fun a => ?_
      simp only [List.count_cons, List.count_nil]
      omega
  · unfold ring4
    have F := U.four C
    obtain ⟨_, _, _, _, f1, f2, f3, f4, f5⟩ := F
    have pw : ∀ a b c d : Int, a ≤ b → b ≤ c → c ≤ d → [a, b, c, d].Pairwise (· ≤ ·) := fun a b c d h1 h2 h3 => by
      refine .cons (fun z hz => ?_) (.cons (fun z hz => ?_) (.cons (fun z hz => ?_) (.cons (fun z hz => nomatch hz) .nil)))
      all_goals
        simp only [List.mem_cons, List.not_mem_nil, or_false] at hz
        omega
    split
    · exact pw _ _ _ _ (by omega) (by omega) (by omega)
    · exact pw _ _ _ _ (by omega) (by omega) (by omega)
  · exact q p _ ((s1.trans s2).trans (s3.trans (same_new hp _))) ((s1.trans s2).free (s3.free hp)) upd_same
def spLRatio (K : PySem.W.Frag) : Sp := fun vs H Q _ => ∃ (n : Nat) (c d r : Addr) (cut : List IP) (t : Tr) (L : Len) (D : Nat → Nat → Rat) (F B : Nat) (p : IP), vs = [.int n, .ref c, .ref d, .ref r] ∧ n ≤ 1000 ∧ PLt H c cut ∧ Cutting n cut t ∧ LenD K H d t D ∧ Meas n t L D ∧ Bd n D F B ∧ 4 * B ≤ 9000 ∧ Pr H (.ref r) p ∧ p ∈ cut ∧ FrNew H (ratP n cut D p) Q
theorem ok_law_ratio (T : Tx K mg) : FnOk P w K mg base CX0 4 T.a_law_ratio T.fd_law_ratio ["_law_n", "_law_cut", "_law_sized_here", "_law_rope"] (spLRatio K) := by
  refine T.F_law_ratio.ok sc_law_ratio (fun vs H Q E h => ?_) (fun cdv A outer s H vs Q E hr h => ?_)
  · obtain ⟨n, c, d, r, cut, t, L, D, F, B, p, rfl, _⟩ := h
    rfl
  obtain ⟨n, c, d, r, cut, t, L, D, F, B, p, rfl, n2, hc, C, hd, M, Z, hB, hrp, mp, q⟩ := h
  obtain ⟨⟨x, y⟩, hq, rfl⟩ := C.mem.mp mp
  obtain ⟨t', m, o, R, U⟩ := C.turn hq
  rw [ratP_is C U] at q
  obtain ⟨txm, tmy, tyo, tox, xm, my, yn, on, out⟩ := U.four C
  have bdd : ∀ i k : Nat, i < n → k < n → rb (absD D i k) B := fun i k hi hk => Z.rb (by omega) (by omega)
  have b0 := bdd x m (by omega) (by omega)
  have b1 := bdd m y (by omega) (by omega)
  have b2 := bdd y o (by omega) (by omega)
  have b3 := bdd o x (by omega) (by omega)
  have pmy := M.above my yn
  have pox : 0 < absD D o x := M.above (by omega) (by omega)
  have e1 : absD D m y = D m y := by unfold absD; rw [Nat.min_eq_left (by omega), Nat.max_eq_right (by omega)]
  have e0 : absD D x m = D x m := by unfold absD; rw [Nat.min_eq_left (by omega), Nat.max_eq_right (by omega)]
  refine ⟨_, (pss_cons (ps_set (i := 4) sc_law_ratio.nd rfl (.inl rfl) (pe_call (ok_law_ring T) (hr.mono (by decide)) (by rfl) T.g_law_ring T.F_law_ring.kp T.b_law_ring .nil pass0 (pa_cons (pv 0) (pa_cons (pv 1) (pa_cons (pv 3) pa_nil)))))
      (C8.pss_cut (ps_if (pt_cmpR op_ne (pe_ix (ix_listK (K := K)) (pv 4) (pe_int) (fun _ _ => rfl)) (pe_ix (ix_tupK (K := K)) (pv 3) (pe_int) (fun _ _ => rfl)) (nomark _)) (pss_one (ps_set (i := 4) sc_law_ratio.nd rfl (.inl rfl) (pe_op op_cat (pe_slice (sl_listK (K := K)) (pv 4) (po_some (pe_int)) po_none) (pe_slice (sl_listK (K := K)) (pv 4) po_none (po_some (pe_int)))))) pss_nil)
      (pss_cons (ps_set (i := 5) sc_law_ratio.nd rfl (.inl rfl) (pe_call (ok_law_mul T) (hr.mono (by decide)) (by rfl) T.g_law_mul T.F_law_mul.kp T.b_law_mul .nil pass0 (pa_cons (pe_dget (hu_of hr) (pv 2) (pe_call (ok_law_pair T) (hr.mono (by decide)) (by rfl) T.g_law_pair T.F_law_pair.kp T.b_law_pair .nil pass0 (pa_cons (pe_ix (ix_listK (K := K)) (pv 4) (pe_int) (fun _ _ => rfl)) (pa_cons (pe_ix (ix_listK (K := K)) (pv 4) (pe_int) (fun _ _ => rfl)) pa_nil))) (fun _ _ => rfl)) (pa_cons (pe_dget (hu_of hr) (pv 2) (pe_call (ok_law_pair T) (hr.mono (by decide)) (by rfl) T.g_law_pair T.F_law_pair.kp T.b_law_pair .nil pass0 (pa_cons (pe_ix (ix_listK (K := K)) (pv 4) (pe_int) (fun _ _ => rfl)) (pa_cons (pe_ix (ix_listK (K := K)) (pv 4) (pe_int) (fun _ _ => rfl)) pa_nil))) (fun _ _ => rfl)) pa_nil))))
      (pss_cons (ps_set (i := 6) sc_law_ratio.nd rfl (.inl rfl) (pe_call (ok_law_mul T) (hr.mono (by decide)) (by rfl) T.g_law_mul T.F_law_mul.kp T.b_law_mul .nil pass0 (pa_cons (pe_dget (hu_of hr) (pv 2) (pe_call (ok_law_pair T) (hr.mono (by decide)) (by rfl) T.g_law_pair T.F_law_pair.kp T.b_law_pair .nil pass0 (pa_cons (pe_ix (ix_listK (K := K)) (pv 4) (pe_int) (fun _ _ => rfl)) (pa_cons (pe_ix (ix_listK (K := K)) (pv 4) (pe_int) (fun _ _ => rfl)) pa_nil))) (fun _ _ => rfl)) (pa_cons (pe_dget (hu_of hr) (pv 2) (pe_call (ok_law_pair T) (hr.mono (by decide)) (by rfl) T.g_law_pair T.F_law_pair.kp T.b_law_pair .nil pass0 (pa_cons (pe_ix (ix_listK (K := K)) (pv 4) (pe_int) (fun _ _ => rfl)) (pa_cons (pe_ix (ix_listK (K := K)) (pv 4) (pe_int) (fun _ _ => rfl)) pa_nil))) (fun _ _ => rfl)) pa_nil))))
      (pss_one (ps_ret (pe_call (ok_law_div T) (hr.mono (by decide)) (by rfl) T.g_law_div T.F_law_div.kp T.b_law_div .nil pass0 (pa_cons (pv 5) (pa_cons (pv 6) pa_nil))))))))), ?_⟩
  walk_at "st"
  refine ⟨n, c, r, cut, t, t', x, y, m, o, R, rfl, n2, hc, C, hrp, U, fun g H1 s1 ng hg => ?_⟩
  have hr1 := hrp.keep (keeps s1)
  walk_at "st"
  refine Pm.w_cut (fun σ' H' => ∃ g', σ' = [some (.int n), some (.ref c), some (.ref d), some (.ref r), some (.ref g'), none, none] ∧ Same H H' ∧ H' g' = some (.lst [.int (x : Int), .int (m : Int), .int (y : Int), .int (o : Int)])) ?_ ?_
  · by_cases ox : o < x
    · have eg : ring4 x m y o = [(o : Int), (x : Int), (m : Int), (y : Int)] := if_pos ox
      rw [eg] at hg
      walk_at "st"
      refine Pm.w_ixL (SqL.of hg) (show atI [V.int (o : Int), V.int (x : Int), V.int (m : Int), V.int (y : Int)] 0 = some _ from rfl) ?_
      walk_at "st"
      refine Pm.w_ixT hr1.tup (atI2 _ _).1 ?_
      walk_at "st"
      refine Pm.w_iteN (fun z => ?_) (fun z => absurd z (by simp only [castP]; omega))
      walk_at "st"
      refine Pm.w_slL (SqL.of hg) (fun g1 hg1 => ?_)
      rw [cut_drop (by decide) (by show (1 : Int) ≤ ((4 : Nat) : Int); decide)]
      have s2 := same_new hg1 (.lst ([(o : Int), (x : Int), (m : Int), (y : Int)].map V.int |>.drop (1 : Int).toNat))
      walk_at "st"
      refine Pm.w_slL (SqL.of (s2 _ _ hg)) (fun g2 hg2 => ?_)
      rw [cut_take (by decide) (by show (1 : Int) ≤ ((4 : Nat) : Int); decide)]
      have s3 := same_new hg2 (.lst ([(o : Int), (x : Int), (m : Int), (y : Int)].map V.int |>.take (1 : Int).toNat))
      refine Pm.w_cat (s3 _ _ upd_same) upd_same (size_ok (by show 3 + 1 ≤ 16777216; decide)) (fun g3 hg3 => ?_)
      exact ⟨g3, rfl, (s1.trans s2).trans (s3.trans (same_new hg3 _)), upd_same⟩
    · have eg : ring4 x m y o = [(x : Int), (m : Int), (y : Int), (o : Int)] := if_neg ox
      rw [eg] at hg
      walk_at "st"
      refine Pm.w_ixL (SqL.of hg) (show atI [V.int (x : Int), V.int (m : Int), V.int (y : Int), V.int (o : Int)] 0 = some _ from rfl) ?_
      walk_at "st"
      refine Pm.w_ixT hr1.tup (atI2 _ _).1 ?_
      walk_at "st"
      refine Pm.w_iteN (fun z => absurd rfl z) (fun z => ?_)
      walk_at "st"
      exact ⟨g, rfl, s1, hg⟩
  rintro σ H2 ⟨g', rfl, s2, hg'⟩
  have a0 : atI [V.int (x : Int), V.int (m : Int), V.int (y : Int), V.int (o : Int)] 0 = some (.int (x : Int)) := rfl
  have a1 : atI [V.int (x : Int), V.int (m : Int), V.int (y : Int), V.int (o : Int)] 1 = some (.int (m : Int)) := rfl
  have a2 : atI [V.int (x : Int), V.int (m : Int), V.int (y : Int), V.int (o : Int)] 2 = some (.int (y : Int)) := rfl
  have a3 : atI [V.int (x : Int), V.int (m : Int), V.int (y : Int), V.int (o : Int)] 3 = some (.int (o : Int)) := rfl
  have t0 : (min x m, max x m) ∈ t.all 0 := by rw [Nat.min_eq_left (by omega), Nat.max_eq_right (by omega)]; exact txm
  have t1 : (min m y, max m y) ∈ t.all 0 := by rw [Nat.min_eq_left (by omega), Nat.max_eq_right (by omega)]; exact tmy
  walk_at "st"
  refine Pm.w_ixL (SqL.of hg') a0 ?_
  walk_at "st"
  refine Pm.w_ixL (SqL.of hg') a1 ?_
  walk_at "st"
  refine ⟨_, _, rfl, fun p3 H3 s3 n3' h3 => ?_⟩
  rw [tie_cast] at h3
  refine w_lenGet (hd.same (s2.trans s3)) h3 t0 (fun u1 hu1 => ?_)
  walk_at "st"
  refine Pm.w_ixL (SqL.of (s3 _ _ hg')) a2 ?_
  walk_at "st"
  refine Pm.w_ixL (SqL.of (s3 _ _ hg')) a3 ?_
  walk_at "st"
  refine ⟨_, _, rfl, fun p4 H4 s4 n4' h4 => ?_⟩
  rw [tie_cast] at h4
  have s24 := s2.trans (s3.trans s4)
  refine w_lenGet (hd.same s24) h4 tyo (fun u2 hu2 => ?_)
  walk_at "st"
  refine ⟨_, _, _, _, B, B, rfl, hu1.keep (keeps s4), hu2, b0, b2, by omega, fun u3 H5 s5 n5 h5 => ?_⟩
  have g5 := (s3.trans (s4.trans s5)) _ _ hg'
  walk_at "st"
  refine Pm.w_ixL (SqL.of g5) a1 ?_
  walk_at "st"
  refine Pm.w_ixL (SqL.of g5) a2 ?_
  walk_at "st"
  refine ⟨_, _, rfl, fun p6 H6 s6 n6' h6 => ?_⟩
  rw [tie_cast] at h6
  have s26 := (s24.trans s5).trans s6
  refine w_lenGet (hd.same s26) h6 t1 (fun u4 hu4 => ?_)
  walk_at "st"
  refine Pm.w_ixL (SqL.of (s6 _ _ g5)) a3 ?_
  walk_at "st"
  refine Pm.w_ixL (SqL.of (s6 _ _ g5)) a0 ?_
  walk_at "st"
  refine ⟨_, _, rfl, fun p7 H7 s7 n7' h7 => ?_⟩
  rw [tie_cast] at h7
  have s27 := s26.trans s7
  refine w_lenGet (hd.same s27) h7 tox (fun u5 hu5 => ?_)
  walk_at "st"
  refine ⟨_, _, _, _, B, B, rfl, hu4.keep (keeps s7), hu5, b1, b3, by omega, fun u6 H8 s8 n8 h8 => ?_⟩
  have ne : absD D m y * absD D o x ≠ 0 := by
    rw [e1]
    have := rat_mul_pos pmy pox
    grind
  walk_at "st"
  refine ⟨_, _, _, _, B + B, B + B, rfl, frv_new ((s6.trans (s7.trans s8)) _ _ h5), frv_new h8, rb_mul b0 b2, rb_mul b1 b3, by omega, ne, fun v H9 s9 nv hv => ?_⟩
  have hv : H9 v = some (.tup [.int (absD D x m * absD D y o / (absD D m y * absD D o x)).num, .int ((absD D x m * absD D y o / (absD D m y * absD D o x)).den : Int)]) := hv
  rw [e0, e1] at hv
  have sA := s27.trans s8
  exact q v H9 (sA.trans s9) (sA.free nv) hv
def spLRatios (K : PySem.W.Frag) : Sp := fun vs H Q _ => ∃ (n : Nat) (c d : Addr) (cut : List IP) (t : Tr) (L : Len) (D : Nat → Nat → Rat) (F B : Nat), vs = [.int n, .ref c, .ref d] ∧ n ≤ 1000 ∧ PLt H c cut ∧ Cutting n cut t ∧ LenD K H d t D ∧ Meas n t L D ∧ Bd n D F B ∧ 4 * B ≤ 9000 ∧
  ∀ (f : Addr) (H' : Hp), Same H H' → H f = none → LD K H' f cut (fun p => rp (ratP n cut D p)) → Q (.ref f) H'
theorem ok_law_ratios (T : Tx K mg) : FnOk P w K mg base CX0 5 T.a_law_ratios T.fd_law_ratios ["_law_n", "_law_cut", "_law_sized_here"] (spLRatios K) := by
  refine T.F_law_ratios.ok sc_law_ratios (fun vs H Q E h => ?_) (fun cdv A outer s H vs Q E hr h => ?_)
  · obtain ⟨n, c, d, cut, t, L, D, F, B, rfl, _⟩ := h
    rfl
  obtain ⟨n, c, d, cut, t, L, D, F, B, rfl, n2, hc, C, hd, M, Z, hB, q⟩ := h
  have cl := C.cut_len
  have cnd := C.cut_nodup
  obtain ⟨cvs, hcl, hcp⟩ := hc
  refine ⟨_, (pss_cons (ps_set (i := 3) sc_law_ratios.nd rfl (.inl rfl) (pe_dnewT))
      (pss_cons (ps_for PassesOwn.never rfl (k_il (K := K) (pi_list (pv 1))) (pg_name (i := 4) sc_law_ratios.nd rfl (.inl rfl)) (pss_one (ps_dput (hu_of hr) (pv 3) (pv 4) (pe_call (ok_law_ratio T) (hr.mono (by decide)) (by rfl) T.g_law_ratio T.F_law_ratio.kp T.b_law_ratio .nil pass0 (pa_cons (pv 0) (pa_cons (pv 1) (pa_cons (pv 2) (pa_cons (pv 4) pa_nil))))) rfl)))
      (pss_one (ps_ret (pv 3))))), ?_⟩
  walk_at "st"
  refine Pm.w_dnewT (fun f hf => ?_)
  have s1 := same_new hf (.dT [])
  walk_at "st"
  refine Pm.w_rdL (SqL.of (s1 _ _ hcl)) ?_
  refine Pm.w_forL (xs := cvs) (fun i σ H2 => ∃ x, σ = [some (.int n), some (.ref c), some (.ref d), some (.ref f), x] ∧ Same H H2 ∧ LD K H2 f (cut.take i) (fun p => rp (ratP n cut D p))) ⟨_, rfl, s1, by rw [List.take_zero]; exact ld_nil upd_same _⟩ (fun i σ H2 _ ⟨_, _, s2, _⟩ => SqL.of (s2 _ _ hcl)) ?_ ?_
  · rintro i v σ H2 hi ⟨x, rfl, s2, hL⟩
    obtain ⟨p, hp, u, rfl, hu⟩ := hcp.get hi
    have mp := List.mem_of_getElem? hp
    walk_at "st"
    refine ⟨n, c, d, u, cut, t, L, D, F, B, p, rfl, n2, PLt.same ⟨cvs, hcl, hcp⟩ s2, C, hd.same s2, M, Z, hB, ⟨u, rfl, s2 _ _ hu⟩, mp, fun v1 H3 s3 nv hv => ?_⟩
    walk_at "st"
    refine w_ldPut (k := p) (p := rp (ratP n cut D p)) (hL.same s3) ⟨u, rfl, (s2.trans s3) _ _ hu⟩ (frv_new hv) (by rw [List.length_take]; omega) (fun es hL5 kp => ?_)
    have tk : cut.take (i + 1) = cut.take i ++ [p] := by rw [List.take_add_one, hp] <;> rfl
    have nin : p ∉ cut.take i := fun z => by
      have e1 : (cut.take (i + 1)).Nodup := cnd.sublist (List.take_sublist _ _)
      rw [tk, List.nodup_append] at e1
      exact e1.2.2 p z p List.mem_cons_self rfl
    refine ⟨_, rfl, same_but hf (s2.trans s3), ?_⟩
    rw [tk, ← putk_new nin]
    refine hL5.congr fun k hk => ?_
    by_cases e : k = p
    · rw [e, updF_same]
    · rw [updF_ne e]
  · rintro σ H2 ⟨x, rfl, s2, hL⟩
    walk_at "st"
    rw [hcp.length, List.take_length] at hL
    exact q f H2 s2 hf hL
end
section
variable {P : Program} {w : World} {K : PySem.W.Frag} {mg : Str → Option Value} {base : Heap}
/-- the lengths of a dict, those at a post multiplied -/
def strL (R : IP → Rat) (p : Int) (f : Rat) (k : IP) : Rat := if p = k.1 ∨ p = k.2 then R k * f else R k
theorem in_pair {H : Hp} {Q : VK} {t : Addr} {p : IP} {i : Int} (h : Pr H (.ref t) p) (q : Q (.bl (decide (i = p.1 ∨ i = p.2))) H) : rIn K false (.int i) (.ref t) H Q := by
  refine w_inInts (ns := [p.1, p.2]) (.inr h.tup) ?_
  have e : decide (i ∈ [p.1, p.2]) = decide (i = p.1 ∨ i = p.2) := by simp
  rw [e]
  exact q
def spLStretched (K : PySem.W.Frag) : Sp := fun vs H Q _ => ∃ (d fa : Addr) (ks : List IP) (R : IP → Rat) (B m p : Nat) (f : Rat), vs = [.ref d, .int p, .ref fa] ∧ ks.length ≤ 3000 ∧ LD K H d ks (fun k => rp (R k)) ∧ (∀ k ∈ ks, rb (R k) B) ∧ B + m ≤ 9000 ∧ FrV K H (.ref fa) (rp f) ∧ rb f m ∧
  ∀ (d' : Addr) (H' : Hp), Same H H' → H d' = none → LD K H' d' ks (fun k => rp (strL R p f k)) → Q (.ref d') H'
theorem ok_law_stretched (T : Tx K mg) : FnOk P w K mg base CX0 3 T.a_law_stretched T.fd_law_stretched ["_law_sized_here", "_law_post", "_law_factor"] (spLStretched K) := by
  refine T.F_law_stretched.ok sc_law_stretched (fun vs H Q E h => ?_) (fun cdv A outer s H vs Q E hr h => ?_)
  · obtain ⟨d, fa, ks, R, B, m, p, f, rfl, _⟩ := h
    rfl
  obtain ⟨d, fa, ks, R, B, m, p, f, rfl, ksl, hLD, bR, hB, hfa, frb, q⟩ := h
  refine ⟨_, (pss_cons (ps_set (i := 3) sc_law_stretched.nd rfl (.inl rfl) (pe_dnewT))
      (pss_cons (ps_lock (ps_for PassesOwn.never rfl (pi_itemsT (pv 0)) (k_gt (K := K) (pg_tup (by rfl) (pgs_cons (pg_name (i := 4) sc_law_stretched.nd rfl (.inl rfl)) (pgs_cons (pg_name (i := 5) sc_law_stretched.nd rfl (.inl rfl)) pgs_nil)))) (pss_cons (ps_dput (hu_of hr) (pv 3) (pv 4) (pv 5) rfl)
      (pss_one (ps_if (pt_cmpR (op_in_seqK (K := K)) (pv 1) (pv 4) (by rfl)) (pss_one (ps_dput (hu_of hr) (pv 3) (pv 4) (pe_call (ok_law_mul T) (hr.mono (by decide)) (by rfl) T.g_law_mul T.F_law_mul.kp T.b_law_mul .nil pass0 (pa_cons (pv 5) (pa_cons (pv 2) pa_nil))) rfl)) pss_nil)))))
      (pss_one (ps_ret (pv 3))))), ?_⟩
  walk_at "st"
  refine Pm.w_dnewT (fun g hg => ?_)
  have s1 := same_new hg (.dT [])
  have hgd : g ≠ d := by
    obtain ⟨_, es3, h1, _⟩ := hLD
    exact (ne_of_none h1 hg).symm
  walk_at "st"
  refine w_forItems hLD s1 (fun od uo i σ H4 => ∃ x1 y1, σ = [some (.ref d), some (.int (p : Int)), some (.ref fa), some (.ref g), x1, y1] ∧ LD K H4 g (ks.take i) (fun k => rp (strL R p f k))) (fun od uo Q _ _ h => Pm.w_var rfl h) ?_ ?_ ?_
  · intro od uo huo
    exact ⟨_, _, rfl, by rw [List.take_zero]; exact ld_nil (by rw [upd_ne hgd]; exact upd_same) _⟩
  · rintro od es i k σ H4 hes hki sl kp ⟨x1, y1, rfl, hLf⟩ T1 b v hT1 hb hv
    have sT := same_new hT1 (.tup [.ref b, v])
    have hb2 := hb.keep (keeps sT)
    have hLf2 := hLf.same sT
    have ktk : ks.take (i + 1) = ks.take i ++ [k] := by rw [List.take_add_one, hki] <;> rfl
    have knot : k ∉ ks.take i := fun z => by
      have e1 : (ks.take (i + 1)).Nodup := hLD.nd.sublist (List.take_sublist _ _)
      rw [ktk, List.nodup_append] at e1
      exact e1.2.2 k z k List.mem_cons_self rfl
    have mk := List.mem_of_getElem? hki
    obtain ⟨vt, rfl, hvt⟩ := hv.keep (keeps sT)
    have hv2 : FrV K _ (.ref vt) (rp (R k)) := ⟨vt, rfl, hvt⟩
    walk_at "st"
    refine Pm.w_gtup (SqT.of upd_same) rfl ?_
    walk_at "st"
    refine w_ldPut hLf2 hb2 hv2 (by rw [List.length_take]; omega) (fun es5 hL5 kp5 => ?_)
    have s5 : Same (upd H d (.frz od (.dT es))) (upd (upd H4 T1 (.tup [.ref b, .ref vt])) g (.dT es5)) := same_but (lock_none hes hg) (sl.trans sT)
    have hb5 := hb2.keep kp5
    have hv5 := hv2.keep kp5
    have kp05 := (kp.trans (keeps sT)).trans kp5
    generalize upd (upd H4 T1 (.tup [.ref b, .ref vt])) g (.dT es5) = H5 at *
    walk_at "st"
    refine in_pair hb5 ?_
    walk_at "st"
    refine Pm.w_ite (fun z => ?_) (fun z => ?_)
    · walk_at "st"
      refine ⟨_, _, _, _, B, m, rfl, hv5, hfa.keep kp05, bR k mk, frb, by omega, fun u H6 s6 nu hu => ?_⟩
      walk_at "st"
      refine w_ldPut (hL5.same s6) (hb5.keep (keeps s6)) (frv_new hu) (by have := putk_len (ks.take i) k; rw [List.length_take] at this; omega) (fun es7 hL7 kp7 => ?_)
      refine ⟨same_but (lock_none hes hg) (s5.trans s6), _, _, rfl, ?_⟩
      rw [ktk, ← putk_new knot]
      rw [putk_old (mem_putk.mpr (.inr rfl))] at hL7
      refine hL7.congr fun j hj => ?_
      by_cases e : j = k
      · rw [e, updF_same]
        unfold strL
        rw [if_pos z]
      · rw [updF_ne e, updF_ne e]
    · walk_at "st"
      refine ⟨s5, _, _, rfl, ?_⟩
      rw [ktk, ← putk_new knot]
      refine hL5.congr fun j hj => ?_
      by_cases e : j = k
      · rw [e, updF_same]
        unfold strL
        rw [if_neg z]
      · rw [updF_ne e]
  · rintro od es σ H4 hes sl ⟨x1, y1, rfl, hLf⟩ s5
    walk_at "st"
    rw [List.take_length] at hLf
    have hLf5 : LD K (upd H4 d (.dT es)) g ks (fun k => rp (strL R p f k)) := hLf.keep (o := .dT es) (fun t xs e => by rw [upd_ne (ne_of e (sl _ _ upd_same) (fun z => nomatch z))]; exact e) (by rw [upd_ne hgd])
    exact q g _ s5 hg hLf5
end
section
variable {P : Program} {w : World} {K : PySem.W.Frag} {mg : Str → Option Value} {base : Heap}
/-- how many of a tie's posts are below i -/
def low2 (i : Nat) (k : IP) : Nat := (if k.1 < i then 1 else 0) + (if k.2 < i then 1 else 0)
theorem low2_le (i : Nat) (k : IP) : low2 i k ≤ 2 := by unfold low2; split <;> split <;> omega
theorem szd_str {R : IP → Rat} {i : Nat} {f : Rat} {k : IP} (h : szd (R k) (2 ^ (10 + 10 * low2 i k)) (2 ^ (7 + 7 * low2 i k))) (hf : szd f 1024 128) (k0 : 0 ≤ k.1) (kl : k.1 < k.2) : szd (strL R i f k) (2 ^ (10 + 10 * low2 (i + 1) k)) (2 ^ (7 + 7 * low2 (i + 1) k)) := by
  unfold strL
  by_cases c : (i : Int) = k.1 ∨ (i : Int) = k.2
  · have e : low2 (i + 1) k = low2 i k + 1 := by
      unfold low2
      rcases c with c | c
      · rw [if_pos (by omega), if_neg (by omega), if_neg (by omega), if_neg (by omega)]
      · rw [if_pos (by omega), if_pos (by omega), if_pos (by omega), if_neg (by omega)]
    rw [if_pos c, e]
    refine (szd_mul h hf).mono ?_ ?_
    · rw [Nat.mul_add, Nat.mul_one, ← Nat.add_assoc, Nat.pow_add _ _ 10]; exact Nat.le_refl _
    · rw [Nat.mul_add, Nat.mul_one, ← Nat.add_assoc, Nat.pow_add _ _ 7]; exact Nat.le_refl _
  · have e : low2 (i + 1) k = low2 i k := by
      unfold low2
      congr 1
      · by_cases z : k.1 < i
        · rw [if_pos z, if_pos (by omega)]
        · rw [if_neg z, if_neg (by omega)]
      · by_cases z : k.2 < i
        · rw [if_pos z, if_pos (by omega)]
        · rw [if_neg z, if_neg (by omega)]
    rw [if_neg c, e]
    exact h
def spLTwofold (K : PySem.W.Frag) : Sp := fun vs H Q _ => ∃ (n : Nat) (d r : Addr) (way : Int) (ks : List IP) (R : IP → Rat) (row : List Int), vs = [.int n, .ref d, .ref r, .int way] ∧ n ≤ 12 ∧ LD K H d ks (fun k => rp (R k)) ∧ 0 < ks.length ∧ ks.length ≤ 1000 ∧ (∀ k ∈ ks, smallP k ∧ 0 ≤ k.1 ∧ k.1 < k.2) ∧ (∀ k ∈ ks, szd (R k) 1024 128) ∧ SqL K H r (row.map V.int) ∧ 18 ≤ row.length ∧ (∀ x ∈ row, 0 ≤ x) ∧
  ∀ (d' : Addr) (H' : Hp) (R' : IP → Rat), Same H H' → H d' = none → LD K H' d' ks (fun k => rp (R' k)) → (∀ k ∈ ks, szd (R' k) (2 ^ 40) (2 ^ 28)) → Q (.ref d') H'
theorem ok_law_twofold (T : Tx K mg) : FnOk P w K mg base CX0 4 T.a_law_twofold T.fd_law_twofold ["_law_n", "_law_sized_here", "_law_row", "_law_way"] (spLTwofold K) := by
  refine T.F_law_twofold.ok sc_law_twofold (fun vs H Q E h => ?_) (fun cdv A outer s H vs Q E hr h => ?_)
  · obtain ⟨n, d, r, way, ks, R, row, rfl, _⟩ := h
    rfl
  obtain ⟨n, d, r, way, ks, R, row, rfl, n12, hLD, kl0, kl1, hk, hsz, hR, rl, hrow, q⟩ := h
  have r0 : ∀ i : Nat, i < row.length → 0 ≤ row.getD i 0 := fun i hi => by
    rw [List.getD_eq_getElem?_getD, List.getElem?_eq_getElem hi]
    exact hrow _ (List.getElem_mem hi)
  refine ⟨_, (pss_cons (ps_set (i := 4) sc_law_twofold.nd rfl (.inl rfl) (pe_callTy (call_dictT hr.u2) (by rfl) T.m_dict (by decide +kernel) (pa_cons (pv 1) pa_nil)))
      (pss_cons (ps_for PassesOwn.never rfl (pi_range1 (by rfl) T.m_range (pa_cons (pv 0) pa_nil)) (pg_name (i := 5) sc_law_twofold.nd rfl (.inl rfl)) (pss_one (ps_if (pt_cmpR op_ne (pe_op op_mod (pv 3) (pe_int)) (pe_int) (nomark _)) (pss_one (ps_set (i := 4) sc_law_twofold.nd rfl (.inl rfl) (pe_call (ok_law_stretched T) (hr.mono (by decide)) (by rfl) T.g_law_stretched T.F_law_stretched.kp T.b_law_stretched .nil pass0 (pa_cons (pv 4) (pa_cons (pv 5) (pa_cons (pe_call (ok_law_size T) (hr.mono (by decide)) (by rfl) T.g_law_size T.F_law_size.kp T.b_law_size .nil pass0 (pa_cons (pe_ix (ix_listK (K := K)) (pv 2) (pv 5) (fun _ _ => rfl)) pa_nil)) pa_nil)))))) pss_nil)))
      (pss_cons (ps_set (i := 6) sc_law_twofold.nd rfl (.inl rfl) (pe_callB (cr_sortKT rfl) (by rfl) T.m_sorted (by decide +kernel) (pa_cons (k_bm0 (K := K) (pe_bm0 PySem.F.plainAttrs_dict PySem.F.slot_dict_keys PySem.F.type_dict_keys mt_keysT (pv 1))) pa_nil)))
      (C8.pss_cut (ps_if (PW.pt (pw_or (pt_cmpR op_eq (pe_op op_mod (pv 3) (pe_int)) (pe_int) (nomark _)) (pw_or1 (pt_cmpR op_eq (pe_op op_mod (pv 3) (pe_int)) (pe_int) (nomark _))))) (pss_cons (ps_set (i := 7) sc_law_twofold.nd rfl (.inl rfl) (pe_ix (ix_listK (K := K)) (pv 6) (pe_op op_mod (pe_ix (ix_listK (K := K)) (pv 2) (pe_int) (fun _ _ => rfl)) (pe_callB (c_len (K := K)) (by rfl) T.m_len PySem.boot_len (pa_cons (pv 6) pa_nil))) (fun _ _ => rfl)))
      (pss_one (ps_dput (hu_of hr) (pv 4) (pv 7) (pe_call (ok_law_mul T) (hr.mono (by decide)) (by rfl) T.g_law_mul T.F_law_mul.kp T.b_law_mul .nil pass0 (pa_cons (pe_dget (hu_of hr) (pv 4) (pv 7) (fun _ _ => rfl)) (pa_cons (pe_call (ok_law_size T) (hr.mono (by decide)) (by rfl) T.g_law_size T.F_law_size.kp T.b_law_size .nil pass0 (pa_cons (pe_ix (ix_listK (K := K)) (pv 2) (pe_int) (fun _ _ => rfl)) pa_nil)) pa_nil))) rfl))) pss_nil)
      (C8.pss_cut (ps_if (pt_cmpR op_eq (pe_op op_mod (pv 3) (pe_int)) (pe_int) (nomark _)) (pss_one (ps_for PassesOwn.never rfl (k_il (K := K) (pi_list (pv 6))) (pg_name (i := 7) sc_law_twofold.nd rfl (.inl rfl)) (pss_one (ps_dput (hu_of hr) (pv 4) (pv 7) (pe_call (ok_law_mul T) (hr.mono (by decide)) (by rfl) T.g_law_mul T.F_law_mul.kp T.b_law_mul .nil pass0 (pa_cons (pe_dget (hu_of hr) (pv 4) (pv 7) (fun _ _ => rfl)) (pa_cons (pe_tup (pa_cons (pe_int) (pa_cons (pe_int) pa_nil))) pa_nil))) rfl)))) pss_nil)
      (pss_one (ps_ret (pv 4)))))))), ?_⟩
  walk_at "st"
  refine w_ldDict hLD (fun k hk' => (hk k hk').1) (fun o es ho hLDo => ?_)
  have s1 := same_new ho (.dT es)
  walk_at "st"
  rw [Int.toNat_natCast]
  refine Pm.w_forR (fun i σ H2 => ∃ (o : Addr) (x : Option V) (R' : IP → Rat), σ = [some (.int n), some (.ref d), some (.ref r), some (.int way), some (.ref o), x, none, none] ∧ Same H H2 ∧ H o = none ∧ LD K H2 o ks (fun k => rp (R' k)) ∧ ∀ k ∈ ks, szd (R' k) (2 ^ (10 + 10 * low2 i k)) (2 ^ (7 + 7 * low2 i k))) ⟨o, _, R, rfl, s1, ho, hLDo, fun k hk' => ?_⟩ ?_ ?_
  · exact (hsz k hk').mono (Nat.le_trans (by decide) (Nat.pow_le_pow_right (by decide) (Nat.le_add_right 10 _))) (Nat.le_trans (by decide) (Nat.pow_le_pow_right (by decide) (Nat.le_add_right 7 _)))
  · rintro i σ H2 hi ⟨o, x, R', rfl, s2, no, hLo, hz⟩
    have hR2 := s2.seq hR
    walk_at "st"
    refine Pm.w_iteN (fun z => ?_) (fun z => ?_)
    · walk_at "st"
      rw [Int.zero_add]
      refine Pm.w_ixL hR2 (atI_int (by omega) (by omega)) ?_
      walk_at "st"
      refine ⟨_, rfl, by rw [Int.toNat_natCast]; exact r0 i (by omega), fun f hf u H3 s3 nu hu => ?_⟩
      walk_at "st"
      refine ⟨o, u, ks, R', 40, 11, i, f, rfl, by omega, hLo.same s3, fun k hk' => ?_, by decide, frv_new hu, hf.rb (by decide) (by decide), fun d' H4 s4 nd' hL4 => ?_⟩
      · have h2 := low2_le i k
        refine (hz k hk').rb ?_ ?_
        · exact Nat.pow_lt_pow_right (by decide) (by omega)
        · exact Nat.pow_lt_pow_right (by decide) (by omega)
      walk_at "st"
      exact ⟨d', _, _, rfl, s2.trans (s3.trans s4), (s2.trans s3).free nd', hL4, fun k hk' => szd_str (hz k hk') hf (hk k hk').2.1 (hk k hk').2.2⟩
    · walk_at "st"
      refine ⟨o, _, R', rfl, s2, no, hLo, fun k hk' => (hz k hk').mono ?_ ?_⟩
      all_goals
        refine Nat.pow_le_pow_right (by decide) ?_
        have : low2 i k ≤ low2 (i + 1) k := by
          unfold low2
          refine Nat.add_le_add ?_ ?_
          · split <;> split <;> omega
          · split <;> split <;> omega
        omega
  · rintro σ H2 ⟨o, x, R', rfl, s2, no, hLo, hz⟩
    have hz' : ∀ k ∈ ks, szd (R' k) (2 ^ 30) (2 ^ 21) := fun k hk' => by
      have h2 := low2_le n k
      exact (hz k hk').mono (Nat.pow_le_pow_right (by decide) (by omega)) (Nat.pow_le_pow_right (by decide) (by omega))
    have hR2 := s2.seq hR
    walk_at "st"
    obtain ⟨_, esd, hesd, _⟩ := hLD.same s2
    refine ⟨.inr (.inr (.inl ⟨rfl, .inr ⟨_, hesd⟩⟩)), ?_⟩
    refine w_ldKeys (hLD.same s2) (fun kv hkv => ?_)
    walk_at "st"
    refine w_ldSortKeys ((hLD.same s2).same (same_new hkv _)) upd_same (fun ys l hl hys => ?_)
    have s3 := (same_new hkv (keysO kv d)).trans (same_new hl (.lst ys))
    have hl3 : upd (upd H2 kv (keysO kv d)) l (.lst ys) l = some (.lst ys) := upd_same
    have hys3 := prs_keep (keeps (same_new hl (.lst ys))) hys
    have yl := hys.length
    rw [sortP_len] at yl
    have nds : (sortP ks).Nodup := (sortP_perm ks).nodup_iff.mpr hLD.nd
    generalize upd (upd H2 kv (keysO kv d)) l (.lst ys) = H3 at *
    have s03 := s2.trans s3
    have hR3 := s03.seq hR
    have hLo3 := hLo.same s3
    walk_at "st"
    refine Pm.w_cut (fun σ' H' => ∃ (z : Option V) (R2 : IP → Rat), σ' = [some (.int n), some (.ref d), some (.ref r), some (.int way), some (.ref o), x, some (.ref l), z] ∧ Same H H' ∧ LD K H' o ks (fun k => rp (R2 k)) ∧ H' l = some (.lst ys) ∧ Prs H' ys (sortP ks) ∧ (∀ k ∈ ks, szd (R2 k) (2 ^ 40) (2 ^ 28)) ∧ (way % 4 = 2 → ∀ k ∈ ks, szd (R2 k) (2 ^ 30) (2 ^ 21))) ?_ ?_
    · walk_at "st"
      refine Pm.w_ite (fun e1 => ?_) (fun e1 => ?_)
      · walk_at "st"
        refine Pm.w_ixL hR3 (atI_int (by omega) (by omega)) ?_
        walk_at "st"
        refine Pm.w_lenL (SqL.of hl3) ?_
        walk_at "st"
        have z12 := r0 12 (by omega)
        rw [yl, show ((12 : Int).toNat) = 12 from rfl]
        generalize row.getD 12 0 = g12 at *
        obtain ⟨j, ej, jl⟩ : ∃ j : Nat, g12 % (ks.length : Int) = (j : Int) ∧ j < ks.length := by
          have h1 := Int.emod_nonneg g12 (show (ks.length : Int) ≠ 0 by omega)
          have h2 := Int.emod_lt_of_pos g12 (show (0 : Int) < (ks.length : Int) by omega)
          exact ⟨(g12 % (ks.length : Int)).toNat, by omega, by omega⟩
        rw [ej]
        obtain ⟨p, hp, u, hu, hut⟩ := hys3.get (List.getElem?_eq_getElem (show j < ys.length by omega))
        have mp : p ∈ ks := mem_sortP.mp (List.mem_of_getElem? hp)
        refine Pm.w_ixL (SqL.of hl3) (v := .ref u) (atI_nat (by rw [List.getElem?_eq_getElem (show j < ys.length by omega), hu])) ?_
        have hpu : Pr H3 (.ref u) p := ⟨u, rfl, hut⟩
        walk_at "st"
        refine w_ldGet hLo3 hpu mp (fun v hv => ?_)
        walk_at "st"
        refine Pm.w_ixL hR3 (atI_int (by omega) (by omega)) ?_
        walk_at "st"
        refine ⟨_, rfl, r0 13 (by omega), fun f hf fu H4 s4 nfu hfu => ?_⟩
        walk_at "st"
        refine ⟨_, _, _, _, 31, 11, rfl, hv.keep (keeps s4), frv_new hfu, (hz' p mp).rb (by decide) (by decide), hf.rb (by decide) (by decide), by decide, fun m H5 s5 nm hm => ?_⟩
        have s45 := s4.trans s5
        walk_at "st"
        refine w_ldPut (hLo3.same s45) (hpu.keep (keeps s45)) (frv_new hm) (by omega) (fun es6 hL6 kp6 => ?_)
        rw [putk_old mp] at hL6
        have lo' : l ≠ o := by
          obtain ⟨_, es7, h7, _⟩ := hLo3
          exact fun z => by rw [z, h7] at hl3; exact nomatch hl3
        refine ⟨_, fun k => if k = p then R' p * f else R' k, rfl, same_but no (s03.trans s45), hL6.congr fun k _ => ?_, by rw [upd_ne lo']; exact s45 _ _ hl3, prs_keep ((keeps s45).trans kp6) hys3, fun k hk' => ?_, fun z => by omega⟩
        · by_cases e : k = p
          · simp only [e, if_true, updF_same]
          · simp only [if_neg e, updF_ne e]
        · by_cases e : k = p
          · simp only [e, if_true]
            exact (szd_mul (hz' p mp) hf).mono (by decide) (by decide)
          · simp only [if_neg e]
            exact (hz' k hk').mono (by decide) (by decide)

      walk_at "st"
      refine Pm.w_ite (fun e2 => ?_) (fun e2 => ?_)
      · walk_at "st"
        refine Pm.w_ixL hR3 (atI_int (by omega) (by omega)) ?_
        walk_at "st"
        refine Pm.w_lenL (SqL.of hl3) ?_
        walk_at "st"
        have z12 := r0 12 (by omega)
        rw [yl, show ((12 : Int).toNat) = 12 from rfl]
        generalize row.getD 12 0 = g12 at *
        obtain ⟨j, ej, jl⟩ : ∃ j : Nat, g12 % (ks.length : Int) = (j : Int) ∧ j < ks.length := by
          have h1 := Int.emod_nonneg g12 (show (ks.length : Int) ≠ 0 by omega)
          have h2 := Int.emod_lt_of_pos g12 (show (0 : Int) < (ks.length : Int) by omega)
          exact ⟨(g12 % (ks.length : Int)).toNat, by omega, by omega⟩
        rw [ej]
        obtain ⟨p, hp, u, hu, hut⟩ := hys3.get (List.getElem?_eq_getElem (show j < ys.length by omega))
        have mp : p ∈ ks := mem_sortP.mp (List.mem_of_getElem? hp)
        refine Pm.w_ixL (SqL.of hl3) (v := .ref u) (atI_nat (by rw [List.getElem?_eq_getElem (show j < ys.length by omega), hu])) ?_
        have hpu : Pr H3 (.ref u) p := ⟨u, rfl, hut⟩
        walk_at "st"
        refine w_ldGet hLo3 hpu mp (fun v hv => ?_)
        walk_at "st"
        refine Pm.w_ixL hR3 (atI_int (by omega) (by omega)) ?_
        walk_at "st"
        refine ⟨_, rfl, r0 13 (by omega), fun f hf fu H4 s4 nfu hfu => ?_⟩
        walk_at "st"
        refine ⟨_, _, _, _, 31, 11, rfl, hv.keep (keeps s4), frv_new hfu, (hz' p mp).rb (by decide) (by decide), hf.rb (by decide) (by decide), by decide, fun m H5 s5 nm hm => ?_⟩
        have s45 := s4.trans s5
        walk_at "st"
        refine w_ldPut (hLo3.same s45) (hpu.keep (keeps s45)) (frv_new hm) (by omega) (fun es6 hL6 kp6 => ?_)
        rw [putk_old mp] at hL6
        have lo' : l ≠ o := by
          obtain ⟨_, es7, h7, _⟩ := hLo3
          exact fun z => by rw [z, h7] at hl3; exact nomatch hl3
        refine ⟨_, fun k => if k = p then R' p * f else R' k, rfl, same_but no (s03.trans s45), hL6.congr fun k _ => ?_, by rw [upd_ne lo']; exact s45 _ _ hl3, prs_keep ((keeps s45).trans kp6) hys3, fun k hk' => ?_, fun z => by omega⟩
        · by_cases e : k = p
          · simp only [e, if_true, updF_same]
          · simp only [if_neg e, updF_ne e]
        · by_cases e : k = p
          · simp only [e, if_true]
            exact (szd_mul (hz' p mp) hf).mono (by decide) (by decide)
          · simp only [if_neg e]
            exact (hz' k hk').mono (by decide) (by decide)

      walk_at "st"
      exact ⟨_, R', rfl, s03, hLo3, hl3, hys3, fun k hk' => (hz' k hk').mono (by decide) (by decide), fun _ => hz'⟩
    rintro σ H4 ⟨z, R2, rfl, s4, hL4, hl4, hys4, hz40, hz30⟩
    walk_at "st"
    refine Pm.w_cut (fun σ' H' => ∃ (z : Option V) (R2 : IP → Rat), σ' = [some (.int n), some (.ref d), some (.ref r), some (.int way), some (.ref o), x, some (.ref l), z] ∧ Same H H' ∧ LD K H' o ks (fun k => rp (R2 k)) ∧ (∀ k ∈ ks, szd (R2 k) (2 ^ 40) (2 ^ 28))) ?_ ?_
    · walk_at "st"
      refine Pm.w_ite (fun e1 => ?_) (fun e1 => ?_)
      · have hz3 := hz30 (by omega)
        walk_at "st"
        refine Pm.w_rdL (SqL.of hl4) ?_
        refine Pm.w_forL (xs := ys) (fun j σ H5 => ∃ (z : Option V) (R3 : IP → Rat), σ = [some (.int n), some (.ref d), some (.ref r), some (.int way), some (.ref o), x, some (.ref l), z] ∧ Same H H5 ∧ LD K H5 o ks (fun k => rp (R3 k)) ∧ H5 l = some (.lst ys) ∧ Prs H5 ys (sortP ks) ∧ (∀ k ∈ ks, szd (R3 k) (2 ^ 40) (2 ^ 28)) ∧ ∀ k ∈ ks, k ∉ (sortP ks).take j → szd (R3 k) (2 ^ 30) (2 ^ 21)) ⟨_, R2, rfl, s4, hL4, hl4, hys4, hz40, fun k hk' _ => hz3 k hk'⟩ (fun j σ H5 _ ⟨_, _, _, _, _, h5, _⟩ => SqL.of h5) ?_ ?_
        · rintro j v σ H5 hj ⟨z, R3, rfl, s5, hL5, hl5, hys5, hz5, hz6⟩
          obtain ⟨p, hp, u, rfl, hut⟩ := hys5.get hj
          have mp : p ∈ ks := mem_sortP.mp (List.mem_of_getElem? hp)
          have hpu : Pr H5 (.ref u) p := ⟨u, rfl, hut⟩
          have tk := take_snoc hp
          have pn : p ∉ (sortP ks).take j := fun zz => by
            have e1 : ((sortP ks).take (j + 1)).Nodup := nds.sublist (List.take_sublist _ _)
            rw [tk, List.nodup_append] at e1
            exact e1.2.2 p zz p List.mem_cons_self rfl
          walk_at "st"
          refine w_ldGet hL5 hpu mp (fun v hv => ?_)
          walk_at "st"
          refine Pm.w_newT (fun fu hfu => ?_)
          have s6 := same_new hfu (.tup [.int 3, .int 2])
          have e32 : (3 / 2 : Rat).num = 3 ∧ (3 / 2 : Rat).den = 2 := by decide +kernel
          have sz32 : szd (3 / 2 : Rat) 3 2 := ⟨by decide +kernel, by decide +kernel, by decide +kernel⟩
          walk_at "st"
          refine ⟨_, _, _, (3 / 2 : Rat), 31, 2, rfl, hv.keep (keeps s6), ⟨fu, rfl, .inl (by rw [upd_same]; simp only [rp, e32.1, e32.2]; rfl)⟩, (hz6 p mp pn).rb (by decide) (by decide), sz32.rb (by decide) (by decide), by decide, fun m H7 s7 nm hm => ?_⟩
          have s67 := s6.trans s7
          walk_at "st"
          refine w_ldPut (hL5.same s67) (hpu.keep (keeps s67)) (frv_new hm) (by omega) (fun es6 hL6 kp6 => ?_)
          rw [putk_old mp] at hL6
          have lo' : l ≠ o := by
            obtain ⟨_, es7, h7, _⟩ := hL5
            exact fun z => by rw [z, h7] at hl5; exact nomatch hl5
          refine ⟨_, fun k => if k = p then R3 p * (3 / 2) else R3 k, rfl, same_but no (s5.trans s67), hL6.congr fun k _ => ?_, by rw [upd_ne lo']; exact s67 _ _ hl5, prs_keep ((keeps s67).trans kp6) hys5, fun k hk' => ?_, fun k hk' nk => ?_⟩
          · by_cases e : k = p
            · simp only [e, if_true, updF_same]
            · simp only [if_neg e, updF_ne e]
          · by_cases e : k = p
            · simp only [e, if_true]
              exact (szd_mul (hz6 p mp pn) sz32).mono (by decide) (by decide)
            · simp only [if_neg e]
              exact hz5 k hk'
          · rw [tk] at nk
            have e : k ≠ p := fun z => nk (List.mem_append.mpr (.inr (by rw [z]; exact List.mem_cons_self)))
            simp only [if_neg e]
            exact hz6 k hk' fun z => nk (List.mem_append.mpr (.inl z))
        · rintro σ H5 ⟨z, R3, rfl, s5, hL5, hl5, hys5, hz5, hz6⟩
          walk_at "st"
          exact ⟨_, R3, rfl, s5, hL5, hz5⟩
      · walk_at "st"
        exact ⟨_, R2, rfl, s4, hL4, hz40⟩
    rintro σ H5 ⟨z, R3, rfl, s5, hL5, hz5⟩
    walk_at "st"
    exact q o H5 R3 s5 no hL5 hz5
end
section
variable {P : Program} {w : World} {K : PySem.W.Frag} {mg : Str → Option Value} {base : Heap}
theorem Cutting.ties_len {n : Nat} {cut : List IP} {t : Tr} (C : Cutting n cut t) : (tiesL n cut).length = 2 * n - 3 := by
  have := C.cut_len
  have := C.n3
  rw [tiesL, sortP_len, List.length_append, sides0_len (by omega)]
  omega
theorem small_tie {n : Nat} {cut : List IP} {t : Tr} (C : Cutting n cut t) (n12 : n ≤ 12) {p : IP} (h : p ∈ tiesL n cut) : smallP p := by
  obtain ⟨q, hq, rfl⟩ := C.ties.mp h
  have := Tr.bd hq
  have := C.w
  unfold smallP castP
  simp only
  omega
theorem szd_rb {r : Rat} (h : szd r 1024 128) : rb r 11 := by
  obtain ⟨_, h1, h2⟩ := h
  exact ⟨by omega, by omega⟩
theorem LenD.tree {H : Hp} {d : Addr} {n : Nat} {cut : List IP} {t t' : Tr} {D : Nat → Nat → Rat} (h : LenD K H d t D) (C : Cutting n cut t) (C' : Cutting n cut t') : LenD K H d t' D := by
  have e : ∀ q, q ∈ t.all 0 ↔ q ∈ t'.all 0 := fun q => by
    obtain ⟨a, b⟩ := q
    rw [← C.tied, C'.tied]
  obtain ⟨ks, L, h1, h2, h3⟩ := h
  refine ⟨ks, L, h1, fun p => by rw [h2]; exact ⟨fun ⟨q, a, b⟩ => ⟨q, (e q).mp a, b⟩, fun ⟨q, a, b⟩ => ⟨q, (e q).mpr a, b⟩⟩, fun q hq => h3 q ((e q).mpr hq)⟩
theorem w_lenDict {H : Hp} {Q : VK} {n : Nat} {cut : List IP} {t : Tr} {D : Nat → Nat → Rat} {d : Addr} (C : Cutting n cut t) (n12 : n ≤ 12) (h : LenD K H d t D) (q : ∀ p H', Same H H' → H p = none → LenD K H' p t D → Q (.ref p) H') : rDictT [.ref d] H Q := by
  obtain ⟨ks, L, h1, h2, h3⟩ := h
  exact w_ldDict h1 (fun k hk => small_tie C n12 (C.ties.mpr ((h2 k).mp hk))) fun p es hp hL => q p _ (same_new hp _) hp ⟨ks, L, hL, h2, h3⟩
/-- the fraction of a post is small where the ties' lengths are -/
theorem like_small {n : Nat} {cut : List IP} {t : Tr} {L1 : Len} {D1 D2 : Nat → Nat → Rat} {m1 m2 : Nat} (C : Cutting n cut t) (M1 : Meas n t L1 D1) (h1 : ∀ p ∈ t.all 0, rb (D1 p.1 p.2) m1) (h2 : ∀ p ∈ t.all 0, rb (D2 p.1 p.2) m2) {l : Rat} {r : Nat → Rat} (l0 : 0 < l) (r0 : ∀ i, i < n → 0 < r i) (e : ∀ i k, i < n → k < n → D2 i k = l * r i * r k * D1 i k) {i : Nat} (hi : i < n) : rb (l * r i * r i) (3 * (m2 + m1)) := by
  obtain ⟨p, hp, hb⟩ := some_beside C hi
  obtain ⟨⟨a, b⟩, hab, ep⟩ := C.ties.mp hp
  subst ep
  have hw := C.w
  have bab := Tr.bd hab
  simp only at bab
  obtain ⟨tia, tib⟩ := beside_plot C hab hb
  have bia := Tr.bd tia
  have bib := Tr.bd tib
  simp only at bia bib
  have gr : ∀ u v : Nat, (min u v, max u v) ∈ t.all 0 → u < n → v < n → u ≠ v → rb (l * r u * r v) (m2 + m1) := fun u v hm hu hv ne => by
    have pos := M1.above (show min u v < max u v by omega) (by omega)
    have q := rb_quot (by grind) (h2 _ hm) (h1 _ hm)
    simp only at q
    rw [e _ _ (show min u v < n by omega) (show max u v < n by omega)] at q
    have e1 : l * r (min u v) * r (max u v) = l * r u * r v := by
      rcases Nat.le_total u v with zz | zz
      · rw [Nat.min_eq_left zz, Nat.max_eq_right zz]
      · rw [Nat.min_eq_right zz, Nat.max_eq_left zz]; grind
    rw [e1] at q
    have n0 : D1 (min u v) (max u v) ≠ 0 := by grind
    have e2 : l * r u * r v * D1 (min u v) (max u v) / D1 (min u v) (max u v) = l * r u * r v := by
      generalize D1 (min u v) (max u v) = dd at *
      clear pos e1 q
      grind
    rw [e2] at q
    exact q
  have g1 := gr i a tia hi (by omega) (by omega)
  have g2 := gr i b tib hi (by omega) (by omega)
  have g3 := gr a b (by rw [Nat.min_eq_left (by omega), Nat.max_eq_right (by omega)]; exact hab) (by omega) (by omega) (by omega)
  have ra := r0 a (by omega)
  have rbb := r0 b (by omega)
  have nl : l * r a * r b ≠ 0 := by
    have := rat_mul_pos (rat_mul_pos l0 ra) rbb
    grind
  have val : l * r i * r a * (l * r i * r b) / (l * r a * r b) = l * r i * r i := by
    have n1 : l ≠ 0 := by grind
    have n2' : r a ≠ 0 := by grind
    have n3' : r b ≠ 0 := by grind
    clear ra rbb l0 g1 g2 g3 nl
    generalize r a = ra at *
    generalize r b = rb' at *
    generalize r i = ri at *
    clear gr e r0
    grind
  rw [← val]
  exact (rb_quot nl (rb_mul g1 g2) g3).mono (by omega)
theorem like_sq (l x y d : Rat) (h : 0 < d) : l * x * y * d / d * (l * x * y * d / d) = l * x * x * (l * y * y) := by
  have n0 : d ≠ 0 := by grind
  have e3 : l * x * y * d / d = l * x * y := by grind
  rw [e3]
  grind
theorem like_self (n : Nat) (D : Nat → Nat → Rat) : Like n D D := ⟨1, fun _ => 1, by decide +kernel, fun _ _ => show (0 : Rat) < 1 by decide +kernel, fun i k _ _ => by grind⟩
theorem like_one {n : Nat} {cut : List IP} {t : Tr} {L : Len} {D : Nat → Nat → Rat} (C : Cutting n cut t) (M : Meas n t L D) {l : Rat} {r : Nat → Rat} (l0 : 0 < l) (r0 : ∀ i, i < n → 0 < r i) (e : ∀ i k, i < n → k < n → D i k = l * r i * r k * D i k) {i : Nat} (hi : i < n) : l * r i * r i = 1 := by
  have n3 := C.n3
  have one : ∀ u v : Nat, u < v → v < n → l * r u * r v = 1 := fun u v uv hv => by
    have pos := M.above uv hv
    have n0 : D u v ≠ 0 := by grind
    have := e u v (by omega) hv
    generalize D u v = dd at *
    generalize l * r u * r v = x at *
    clear pos e
    grind
  obtain ⟨a, b, ab, bn, ia, ib⟩ : ∃ a b, a < b ∧ b < n ∧ a ≠ i ∧ b ≠ i := by
    by_cases c0 : i = 0
    · exact ⟨1, 2, by omega, by omega, by omega, by omega⟩
    · by_cases c1 : i = 1
      · exact ⟨0, 2, by omega, by omega, by omega, by omega⟩
      · exact ⟨0, 1, by omega, by omega, by omega, by omega⟩
  have two : ∀ u v : Nat, u ≠ v → u < n → v < n → l * r u * r v = 1 := fun u v uv hu hv => by
    rcases Nat.lt_or_ge u v with z | z
    · exact one u v z hv
    · have := one v u (by omega) hu
      grind
  have h1 := two i a (by omega) hi (by omega)
  have h2 := two i b (by omega) hi (by omega)
  have h3 := two a b (by omega) (by omega) (by omega)
  clear one two e r0
  generalize r i = x at *
  generalize r a = y at *
  generalize r b = z at *
  grind
theorem row_same {H H' : Hp} {a : Addr} {row : List IP} (h : Row K H a row) (s : Same H H') : Row K H' a row := by
  obtain ⟨vs, h1, h2⟩ := h
  exact ⟨vs, s _ _ h1, frvs_keep (keeps s) h2⟩
/-- the fractions are the only ones -/
theorem like_uniq {n : Nat} {cut : List IP} {t : Tr} {L : Len} {D D2 : Nat → Nat → Rat} (C : Cutting n cut t) (M : Meas n t L D) {l l' : Rat} {r r' : Nat → Rat} (l0 : 0 < l) (l0' : 0 < l') (r0 : ∀ i, i < n → 0 < r i) (r0' : ∀ i, i < n → 0 < r' i) (e : ∀ i k, i < n → k < n → D2 i k = l * r i * r k * D i k) (e' : ∀ i k, i < n → k < n → D2 i k = l' * r' i * r' k * D i k) {i : Nat} (hi : i < n) : l * r i * r i = l' * r' i * r' i := by
  have n3 := C.n3
  have one : ∀ u v : Nat, u < v → v < n → l * r u * r v = l' * r' u * r' v := fun u v uv hv => by
    have pos := M.above uv hv
    have n0 : D u v ≠ 0 := by grind
    have h1 := e u v (by omega) hv
    have h2 := e' u v (by omega) hv
    generalize D u v = dd at *
    generalize l * r u * r v = x at *
    generalize l' * r' u * r' v = y at *
    generalize D2 u v = z at *
    clear pos e e'
    grind
  obtain ⟨a, b, ab, bn, ia, ib⟩ : ∃ a b, a < b ∧ b < n ∧ a ≠ i ∧ b ≠ i := by
    by_cases c0 : i = 0
    · exact ⟨1, 2, by omega, by omega, by omega, by omega⟩
    · by_cases c1 : i = 1
      · exact ⟨0, 2, by omega, by omega, by omega, by omega⟩
      · exact ⟨0, 1, by omega, by omega, by omega, by omega⟩
  have two : ∀ u v : Nat, u ≠ v → u < n → v < n → l * r u * r v = l' * r' u * r' v := fun u v uv hu hv => by
    rcases Nat.lt_or_ge u v with z | z
    · exact one u v z hv
    · have := one v u (by omega) hu
      grind
  have h1 := two i a (by omega) hi (by omega)
  have h2 := two i b (by omega) hi (by omega)
  have h3 := two a b (by omega) (by omega) (by omega)
  have ra := r0 a (by omega)
  have rb1 := r0 b (by omega)
  have sq : ∀ l x y z : Rat, l * x * x * (l * y * z) = l * x * y * (l * x * z) := fun l x y z => by grind
  have k1 := sq l (r i) (r a) (r b)
  have k2 := sq l' (r' i) (r' a) (r' b)
  rw [h1, h2, h3, ← k2] at k1
  have p3 := rat_mul_pos (rat_mul_pos l0' (r0' a (by omega))) (r0' b (by omega))
  clear one two e e' r0 r0' h1 h2 h3 k2 sq
  generalize l' * r' a * r' b = y at *
  generalize l * r i * r i = x at *
  generalize l' * r' i * r' i = z at *
  have n0 : y ≠ 0 := by grind
  grind
def spLaw (K : PySem.W.Frag) : Sp := fun vs H Q _ => ∃ (a : Addr) (ns : List Int), vs = [.ref a] ∧ SqL K H a (ns.map V.int) ∧ ns.length ≤ 63 ∧ ∀ H', Q (.bl true) H'
theorem ok_law (T : Tx K mg) : FnOk P w K mg base CX0 10 T.a_law T.fd_law ["_law_script"] (spLaw K) := by
  refine T.F_law.ok sc_law (fun vs H Q E h => ?_) (fun cdv A outer s H vs Q E hr h => ?_)
  · obtain ⟨a, ns, rfl, _⟩ := h
    rfl
  obtain ⟨sc, ns, rfl, hS, hl, q⟩ := h
  refine ⟨_, (pss_cons (ps_set (i := 1) sc_law.nd rfl (.inl rfl) (pe_call (ok_law_flow T) (hr.mono (by decide)) (by rfl) T.g_law_flow T.F_law_flow.kp T.b_law_flow .nil pass0 (pa_cons (pv 0) (pa_cons (pe_int) pa_nil))))
      (pss_cons (ps_set (i := 2) sc_law.nd rfl (.inl rfl) (pe_op op_add (pe_int) (pe_op op_mod (pe_ix (ix_listK (K := K)) (pv 1) (pe_int) (fun _ _ => rfl)) (pe_int))))
      (C8.pss_cut (ps_if (pt_cmpR op_eq (pe_op op_mod (pe_ix (ix_listK (K := K)) (pv 1) (pe_int) (fun _ _ => rfl)) (pe_int)) (pe_int) (nomark _)) (pss_one (ps_set (i := 2) sc_law.nd rfl (.inl rfl) (pe_op op_add (pe_int) (pe_op op_mod (pe_ix (ix_listK (K := K)) (pv 1) (pe_int) (fun _ _ => rfl)) (pe_int))))) pss_nil)
      (pss_cons (ps_set (i := 3) sc_law.nd rfl (.inl rfl) (pe_call (ok_law_ropes T) (hr.mono (by decide)) (by rfl) T.g_law_ropes T.F_law_ropes.kp T.b_law_ropes .nil pass0 (pa_cons (pe_call (ok_law_ears T) (hr.mono (by decide)) (by rfl) T.g_law_ears T.F_law_ears.kp T.b_law_ears .nil pass0 (pa_cons (pv 2) (pa_cons (pe_slice (sl_listK (K := K)) (pv 1) (po_some (pe_int)) po_none) pa_nil))) pa_nil)))
      (pss_cons (ps_set (i := 4) sc_law.nd rfl (.inl rfl) (pe_call (ok_law_sized T) (hr.mono (by decide)) (by rfl) T.g_law_sized T.F_law_sized.kp T.b_law_sized .nil pass0 (pa_cons (pe_call (ok_law_ties T) (hr.mono (by decide)) (by rfl) T.g_law_ties T.F_law_ties.kp T.b_law_ties .nil pass0 (pa_cons (pv 2) (pa_cons (pv 3) pa_nil))) (pa_cons (pe_slice (sl_listK (K := K)) (pv 1) (po_some (pe_int)) po_none) pa_nil))))
      (pss_cons (ps_set (i := 5) sc_law.nd rfl (.inl rfl) (pe_call (ok_law_twofold T) (hr.mono (by decide)) (by rfl) T.g_law_twofold T.F_law_twofold.kp T.b_law_twofold .nil pass0 (pa_cons (pv 2) (pa_cons (pv 4) (pa_cons (pe_slice (sl_listK (K := K)) (pv 1) (po_some (pe_int)) po_none) (pa_cons (pe_ix (ix_listK (K := K)) (pv 1) (pe_int) (fun _ _ => rfl)) pa_nil))))))
      (pss_cons (ps_set (i := 6) sc_law.nd rfl (.inl rfl) (pe_cmpR (op_eqT (K := K) hr.u65) (pe_call (ok_law_ratios T) (hr.mono (by decide)) (by rfl) T.g_law_ratios T.F_law_ratios.kp T.b_law_ratios .nil pass0 (pa_cons (pv 2) (pa_cons (pv 3) (pa_cons (pv 4) pa_nil)))) (pe_call (ok_law_ratios T) (hr.mono (by decide)) (by rfl) T.g_law_ratios T.F_law_ratios.kp T.b_law_ratios .nil pass0 (pa_cons (pv 2) (pa_cons (pv 3) (pa_cons (pv 5) pa_nil)))) (nomark _)))
      (pss_cons (ps_set (i := 7) sc_law.nd rfl (.inl rfl) (pe_call (ok_stretches T) (hr.mono (by decide)) (by rfl) T.g_stretches T.F_stretches.kp T.b_stretches .nil pass0 (pa_cons (pv 2) (pa_cons (pe_callTy (c_listOf (K := K)) (by rfl) T.m_list (by decide +kernel) (pa_cons (pv 3) pa_nil)) (pa_cons (pe_callTy (call_dictT hr.u2) (by rfl) T.m_dict (by decide +kernel) (pa_cons (pv 4) pa_nil)) (pa_cons (pe_callTy (call_dictT hr.u2) (by rfl) T.m_dict (by decide +kernel) (pa_cons (pv 5) pa_nil)) pa_nil))))))
      (pss_cons (ps_if (pt_cmpR op_eq (pe_cmpR op_isNK (pv 7) (pe_non) (nomark _)) (pv 6) (nomark _)) (pss_one (ps_ret (pe_bl))) pss_nil)
      (pss_cons (ps_for PassesOwn.never rfl (pi_range1 (by rfl) T.m_range (pa_cons (pe_op op_add (pe_int) (pe_op op_mod (pe_ix (ix_listK (K := K)) (pv 1) (pe_int) (fun _ _ => rfl)) (pe_int))) pa_nil)) (pg_name (i := 8) sc_law.nd rfl (.inl rfl)) (pss_cons (ps_asg (pe_ix (ix_listK (K := K)) (pv 3) (pe_op op_mod (pe_ix (ix_listK (K := K)) (pv 1) (pe_op op_add (pe_int) (pv 8)) (fun _ _ => rfl)) (pe_callB (c_len (K := K)) (by rfl) T.m_len PySem.boot_len (pa_cons (pv 3) pa_nil))) (fun _ _ => rfl)) (k_gt (K := K) (pg_tup (by rfl) (pgs_cons (pg_name (i := 9) sc_law.nd rfl (.inl rfl)) (pgs_cons (pg_name (i := 10) sc_law.nd rfl (.inl rfl)) pgs_nil)))))
      (pss_cons (ps_set (i := 4) sc_law.nd rfl (.inl rfl) (pe_call (ok_laid T) (hr.mono (by decide)) (by rfl) T.g_laid T.F_laid.kp T.b_laid .nil passL (pa_cons (pv 2) (pa_cons (pe_callTy (c_listOf (K := K)) (by rfl) T.m_list (by decide +kernel) (pa_cons (pv 3) pa_nil)) (pa_cons (pe_callTy (call_dictT hr.u2) (by rfl) T.m_dict (by decide +kernel) (pa_cons (pv 4) pa_nil)) (pa_cons (pv 9) (pa_cons (pv 10) pa_nil)))))))
      (pss_cons (ps_set (i := 5) sc_law.nd rfl (.inl rfl) (pe_call (ok_laid T) (hr.mono (by decide)) (by rfl) T.g_laid T.F_laid.kp T.b_laid .nil passL (pa_cons (pv 2) (pa_cons (pe_callTy (c_listOf (K := K)) (by rfl) T.m_list (by decide +kernel) (pa_cons (pv 3) pa_nil)) (pa_cons (pe_callTy (call_dictT hr.u2) (by rfl) T.m_dict (by decide +kernel) (pa_cons (pv 5) pa_nil)) (pa_cons (pv 9) (pa_cons (pv 10) pa_nil)))))))
      (pss_cons (ps_set (i := 3) sc_law.nd rfl (.inl rfl) (pe_call (ok_turned T) (hr.mono (by decide)) (by rfl) T.g_turned T.F_turned.kp T.b_turned .nil passL (pa_cons (pv 2) (pa_cons (pe_callTy (c_listOf (K := K)) (by rfl) T.m_list (by decide +kernel) (pa_cons (pv 3) pa_nil)) (pa_cons (pv 9) (pa_cons (pv 10) pa_nil))))))
      (pss_cons (ps_set (i := 11) sc_law.nd rfl (.inl rfl) (pe_call (ok_alike T) (hr.mono (by decide)) (by rfl) T.g_alike T.F_alike.kp T.b_alike .nil pass0 (pa_cons (pv 2) (pa_cons (pe_callTy (c_listOf (K := K)) (by rfl) T.m_list (by decide +kernel) (pa_cons (pv 3) pa_nil)) (pa_cons (pe_callTy (call_dictT hr.u2) (by rfl) T.m_dict (by decide +kernel) (pa_cons (pv 4) pa_nil)) (pa_cons (pe_callTy (call_dictT hr.u2) (by rfl) T.m_dict (by decide +kernel) (pa_cons (pv 5) pa_nil)) pa_nil))))))
      (pss_one (ps_if (PW.pt (pw_or (pt_not (pt_val (pe_callB (call_isK (K := K)) (by rfl) T.m_isinstance (by decide +kernel) (pa_cons (pv 11) (pa_cons (pe_bltn (v := .ty "bool") (by rfl) T.m_bool (by decide +kernel) rfl) pa_nil))))) (pw_or1 (pt_cmpR op_ne (pv 11) (pv 6) (nomark _))))) (pss_one (ps_ret (pe_bl))) pss_nil))))))))
      (pss_cons (ps_set (i := 12) sc_law.nd rfl (.inl rfl) (pe_call (ok_stretches T) (hr.mono (by decide)) (by rfl) T.g_stretches T.F_stretches.kp T.b_stretches .nil pass0 (pa_cons (pv 2) (pa_cons (pe_callTy (c_listOf (K := K)) (by rfl) T.m_list (by decide +kernel) (pa_cons (pv 3) pa_nil)) (pa_cons (pe_callTy (call_dictT hr.u2) (by rfl) T.m_dict (by decide +kernel) (pa_cons (pv 4) pa_nil)) (pa_cons (pe_callTy (call_dictT hr.u2) (by rfl) T.m_dict (by decide +kernel) (pa_cons (pv 5) pa_nil)) pa_nil))))))
      (pss_cons (ps_if (pt_not (pt_val (pv 6))) (pss_one (ps_ret (pe_cmpR op_isNK (pv 12) (pe_non) (nomark _)))) pss_nil)
      (pss_one (ps_ret (pe_call (ok_law_parts T) (hr.mono (by decide)) (by rfl) T.g_law_parts T.F_law_parts.kp T.b_law_parts .nil pass0 (pa_cons (pv 12) (pa_cons (pv 7) pa_nil))))))))))))))))), ?_⟩
  walk_at "st"
  refine ⟨sc, ns, 60, rfl, hS, by decide, fun row H1 r hrow hb s1 nr hr1 => ?_⟩
  have hR : SqL K H1 r (row.map V.int) := SqL.of hr1
  walk_at "st"
  refine Pm.w_ixL hR (atI_int (by omega) (by omega)) ?_
  walk_at "st"
  refine Pm.w_cut (fun σ' H' => ∃ n : Nat, 4 ≤ n ∧ n ≤ 12 ∧ σ' = [some (.ref sc), some (.ref r), some (.int n), none, none, none, none, none, none, none, none, none, none] ∧ H' = H1) ?_ ?_
  · walk_at "st"
    refine Pm.w_ixL hR (atI_int (by omega) (by omega)) ?_
    walk_at "st"
    refine Pm.w_ite (fun e1 => ?_) (fun e1 => ?_)
    · walk_at "st"
      refine Pm.w_ixL hR (atI_int (by omega) (by omega)) ?_
      walk_at "st"
      refine ⟨(8 + row.getD (1 : Int).toNat 0 % 5).toNat, by omega, by omega, ?_, rfl⟩
      rw [show (((8 + row.getD (1 : Int).toNat 0 % 5).toNat : Nat) : Int) = 8 + row.getD (1 : Int).toNat 0 % 5 by omega]
      rfl
    · walk_at "st"
      refine ⟨(4 + row.getD (1 : Int).toNat 0 % 4).toNat, by omega, by omega, ?_, rfl⟩
      rw [show (((4 + row.getD (1 : Int).toNat 0 % 4).toNat : Nat) : Int) = 4 + row.getD (1 : Int).toNat 0 % 4 by omega]
      rfl
  rintro σ H1 ⟨n, n4, n12, rfl, rfl⟩
  have n3 : 3 ≤ n := by omega
  walk_at "st"
  refine Pm.w_slL hR (fun p1 hp1 => ?_)
  rw [cut_drop (by decide) (by rw [List.length_map, hrow]; decide), ← List.map_drop]
  walk_at "st"
  refine ⟨n, p1, row.drop (4 : Int).toNat, rfl, SqL.of upd_same, n3, n12, by rw [List.length_drop, hrow]; show n ≤ 60 - 4 + 3; omega, fun e H2 evs es s2 ne he hA hears hes => ?_⟩
  walk_at "st"
  refine ⟨e, evs, es, rfl, SqL.of he, hA, by omega, fun c H3 cvs s3 nc hc hpc => ?_⟩
  obtain ⟨t, C⟩ := drawn_cutting hears n3
  have C0 := C
  have hcut : ∃ cut, cut = sortP (es.map ropeOf) := ⟨_, rfl⟩
  obtain ⟨cut, hcut⟩ := hcut
  rw [← hcut] at C hpc
  have lcut := C.cut_len
  have s13 : Same H1 H3 := (same_new hp1 _).trans (s2.trans s3)
  have hR3 := s13.seq hR
  walk_at "st"
  refine ⟨n, c, cut, rfl, by omega, by omega, ⟨cvs, hc, hpc⟩, by omega, fun l H4 tvs s4 nl hl4 hpl => ?_⟩
  have hR4 := s4.seq hR3
  walk_at "st"
  refine Pm.w_slL hR4 (fun p5 hp5 => ?_)
  rw [cut_drop (by decide) (by rw [List.length_map, hrow]; decide), ← List.map_drop]
  have s5 := same_new hp5 (.lst ((row.drop (14 : Int).toNat).map V.int))
  have tl := C.ties_len
  walk_at "st"
  refine ⟨l, p5, tiesL n cut, row.drop (14 : Int).toNat, rfl, PLt.same ⟨tvs, hl4, hpl⟩ s5, C.ties_nodup, SqL.of upd_same, by rw [List.length_drop, hrow, tl]; show 2 * n - 3 ≤ 60 - 14; omega, by omega, by omega, fun x hx => (hb x (List.mem_of_mem_drop hx)).1, fun d H6 ks R s6 nd hLD hks hsz => ?_⟩
  obtain ⟨L, D, F, M, Z, hDR, hLen⟩ := drawn_lenS C n12 hks hsz
  have hD := hLen K H6 d hLD
  have s56 := s5.trans s6
  have s36 := s4.trans s56
  have hR6 := s56.seq hR4
  have hl6 := s56 _ _ hl4
  have hpl6 := prs_keep (keeps s56) hpl
  have hc6 := s36 _ _ hc
  have hpc6 := prs_keep (keeps s36) hpc
  walk_at "st"
  refine Pm.w_slL hR6 (fun p7 hp7 => ?_)
  rw [cut_drop (by decide) (by rw [List.length_map, hrow]; decide), ← List.map_drop]
  have s7 := same_new hp7 (.lst ((row.drop (36 : Int).toNat).map V.int))
  have hR7 := s7.seq hR6
  have hrow7 : upd H6 p7 (.lst ((row.drop (36 : Int).toNat).map V.int)) p7 = some (.lst ((row.drop (36 : Int).toNat).map V.int)) := upd_same
  generalize upd H6 p7 (.lst ((row.drop (36 : Int).toNat).map V.int)) = H7 at *
  walk_at "st"
  refine Pm.w_ixL hR7 (atI_int (by omega) (by omega)) ?_
  have ksl : ks.length = 2 * n - 3 := by rw [perm_len hLD.nd C.ties_nodup hks, tl]
  walk_at "st"
  refine ⟨n, d, p7, _, ks, R, row.drop (36 : Int).toNat, rfl, n12, hLD.same s7, by omega, by omega, fun k hk => ?_, fun k hk => hsz k ((hks k).mp hk), SqL.of hrow7, by rw [List.length_drop, hrow]; decide, fun x hx => (hb x (List.mem_of_mem_drop hx)).1, fun d2 H8 R2 s8 nd2 hLD2 hsz2 => ?_⟩
  · obtain ⟨q, hq, rfl⟩ := C.ties.mp ((hks k).mp hk)
    have := Tr.bd hq
    exact ⟨small_tie C n12 ((hks _).mp hk), by simp only [castP]; omega, by simp only [castP]; omega⟩
  obtain ⟨L2, D2, F2, M2, Z2, hDR2, hLen2⟩ := drawn_lenB C n12 hks (fun p hp => hsz2 p ((hks p).mpr hp))
  have s78 := s7.trans s8
  have hD8 := hD.same s78
  have hDo := hLen2 K H8 d2 hLD2
  have hPL8 : PLt H8 c cut := PLt.same ⟨cvs, hc6, hpc6⟩ s78
  walk_at "st"
  refine ⟨n, c, d, cut, t, L, D, F, 522, rfl, by omega, hPL8, C, hD8, M, Z, by decide, fun rt1 H9 s9 nrt1 hrt1 => ?_⟩
  walk_at "st"
  refine ⟨n, c, d2, cut, t, L2, D2, F2, 2022, rfl, by omega, hPL8.same s9, C, hDo.same s9, M2, Z2, by decide, fun rt2 H10 s10 nrt2 hrt2 => ?_⟩
  refine w_ldEq (hrt1.same s10) hrt2 (fun _ => Iff.rfl) ?_
  have ed := like_dec C M M2
  rw [show (decide (∀ k ∈ cut, (fun p => rp (ratP n cut D p)) k = (fun p => rp (ratP n cut D2 p)) k)) = @decide (Like n D D2) (Classical.propDecidable _) by rw [← ed]]
  have s810 := s9.trans s10
  have s610 := s78.trans s810
  have hcA := s610 _ _ hc6
  have hpcA := prs_keep (keeps s610) hpc6
  have hDA := hD.same s610
  have hDoA := hDo.same s810
  have hRA := s610.seq hR6
  walk_at "st"
  refine Pm.w_listOf (SqL.of hcA) (fun x1 hx1 => ?_)
  have q1 := same_new hx1 (.lst cvs)
  walk_at "st"
  refine w_lenDict C n12 (hDA.same q1) (fun x2 H11 s11 nx2 hDc => ?_)
  walk_at "st"
  refine w_lenDict C n12 (hDoA.same (q1.trans s11)) (fun x3 H12 s12 nx3 hDd => ?_)
  have sA12 := q1.trans (s11.trans s12)
  walk_at "st"
  refine ⟨n, x1, x2, x3, cut, t, L, L2, D, D2, F, F2, 522, 2022, rfl, by omega, ⟨cvs, (s11.trans s12) _ _ upd_same, prs_keep (keeps sA12) hpcA⟩, C, hDc.same s12, hDd, M, M2, Z, Z2, by decide, by decide, by decide, fun nl H13 s13' => ?_, fun l0 r0 l00 r00 e0 f H13 s13' nf hf => ?_⟩
  · have dec : @decide (Like n D D2) (Classical.propDecidable _) = false := @decide_eq_false _ (Classical.propDecidable _) nl
    rw [dec]
    have sA13 := sA12.trans s13'
    have hRB := sA13.seq hRA
    walk_at "st"
    refine Pm.w_isN_non ?_
    walk_at "st"
    refine Pm.w_ite (fun z => Bool.noConfusion z) (fun _ => ?_)
    walk_at "st"
    refine Pm.w_ixL hRB (atI_int (by omega) (by omega)) ?_
    walk_at "st"
    generalize hcnt : (1 + row.getD (3 : Int).toNat 0 % 6).toNat = cnt
    have cnt8 : cnt ≤ 6 := by omega
    refine Pm.w_forR (fun i σ H9 => ∃ (c1 d1 e1 : Addr) (cut1 : List IP) (t1 : Tr) (L1 L1' : Len) (x y z u : Option V), σ = [some (.ref sc), some (.ref r), some (.int n), some (.ref c1), some (.ref d1), some (.ref e1), some (.bl false), some (.non), x, y, z, u, none] ∧ Same H13 H9 ∧ PLt H9 c1 cut1 ∧ Cutting n cut1 t1 ∧ LenD K H9 d1 t1 D ∧ LenD K H9 e1 t1 D2 ∧ Meas n t1 L1 D ∧ Meas n t1 L1' D2) ⟨c, d, d2, cut, t, L, L2, _, _, _, _, rfl, Same.refl _, ⟨cvs, sA13 _ _ hcA, prs_keep (keeps sA13) hpcA⟩, C, hDA.same sA13, hDoA.same sA13, M, M2⟩ ?_ ?_
    · rintro i σ H9' hi ⟨c1, d1, e1, cut1, t1, L1, L1', x, y, z, u, rfl, s9', ⟨cv1, hc1, hp1⟩, C1, hd1, he1, M1, M1'⟩
      have cl1 := C1.cut_len
      have cvl := hp1.length
      walk_at "st"
      refine Pm.w_ixL (s9'.seq hRB) (atI_int (by omega) (by omega)) ?_
      walk_at "st"
      refine Pm.w_lenL (SqL.of hc1) ?_
      walk_at "st"
      rw [cvl]
      generalize row.getD ((50 : Int) + (0 + (i : Int))).toNat 0 = zz
      have k0 := Int.emod_nonneg zz (show (cut1.length : Int) ≠ 0 by omega)
      have k1 := Int.emod_lt_of_pos zz (show (0 : Int) < (cut1.length : Int) by omega)
      generalize zz % (cut1.length : Int) = k at k0 k1
      have kN : k.toNat < cv1.length := by omega
      obtain ⟨p, hp, w1, hw1, hut⟩ := hp1.get (List.getElem?_eq_getElem kN)
      have mp := List.mem_of_getElem? hp
      have et : tieOf p.1 p.2 = p := by
        obtain ⟨⟨a, b⟩, hq, rfl⟩ := C1.ties.mp (mem_ties.mpr (.inr mp))
        have := Tr.bd hq
        exact tie_lt (by simp only [castP]; omega)
      have mp' : tieOf p.1 p.2 ∈ cut1 := by rw [et]; exact mp
      refine Pm.w_ixL (SqL.of hc1) (v := .ref w1) (by rw [show k = ((k.toNat : Nat) : Int) by omega]; exact atI_nat (by rw [List.getElem?_eq_getElem kN, hw1])) ?_
      walk_at "st"
      refine Pm.w_gtup (SqT.of hut) rfl ?_
      walk_at "st"
      refine Pm.w_listOf (SqL.of hc1) (fun y1 hy1 => ?_)
      have u1 := same_new hy1 (.lst cv1)
      walk_at "st"
      refine w_lenDict C1 n12 (hd1.same u1) (fun y2 H14 s14 ny2 hy2 => ?_)
      have u2 := u1.trans s14
      walk_at "st"
      refine ⟨n, y1, y2, cut1, t1, L1, D, F, 522, p.1, p.2, rfl, by omega, PLt.same ⟨cv1, upd_same, prs_keep (keeps u1) hp1⟩ s14, C1, hy2, M1, Z, by decide, fun z => absurd mp' z, fun _ g1 H15 t2 s15 ng1 C2 hg1 M3 => ?_⟩
      have u3 := u2.trans s15
      walk_at "st"
      refine Pm.w_listOf (SqL.of (u3 _ _ hc1)) (fun y3 hy3 => ?_)
      have u4 := same_new hy3 (.lst cv1)
      have u34 := u3.trans u4
      walk_at "st"
      refine w_lenDict C1 n12 (he1.same u34) (fun y4 H16 s16 ny4 hy4 => ?_)
      have u5 := u34.trans s16
      walk_at "st"
      refine ⟨n, y3, y4, cut1, t1, L1', D2, F2, 2022, p.1, p.2, rfl, by omega, PLt.same ⟨cv1, upd_same, prs_keep (keeps u34) hp1⟩ s16, C1, hy4, M1', Z2, by decide, fun z => absurd mp' z, fun _ g2 H17 t3 s17 ng2 C3 hg2 M4 => ?_⟩
      have et2 := C2.unique C3
      subst et2
      have u6 := u5.trans s17
      walk_at "st"
      refine Pm.w_listOf (SqL.of (u6 _ _ hc1)) (fun y5 hy5 => ?_)
      have u7 := same_new hy5 (.lst cv1)
      have u67 := u6.trans u7
      walk_at "st"
      refine ⟨n, y5, cut1, p.1, p.2, rfl, by omega, by omega, ⟨cv1, upd_same, prs_keep (keeps u67) hp1⟩, by omega, fun z => absurd mp' z, fun _ => ⟨?_, fun c2 H18 cv2 s18 nc2 hc2 hp2 => ?_⟩⟩
      · exact C1.beside2 mp'
      have u8 := u67.trans s18
      have hg1' := hg1.same (u4.trans (s16.trans (s17.trans (u7.trans s18))))
      have hg2' := hg2.same (u7.trans s18)
      walk_at "st"
      refine Pm.w_listOf (SqL.of hc2) (fun y6 hy6 => ?_)
      have u9 := same_new hy6 (.lst cv2)
      walk_at "st"
      refine w_lenDict C2 n12 (hg1'.same u9) (fun y7 H19 s19 ny7 hy7 => ?_)
      walk_at "st"
      refine w_lenDict C2 n12 (hg2'.same (u9.trans s19)) (fun y8 H20 s20 ny8 hy8 => ?_)
      have u20 := u9.trans (s19.trans s20)
      walk_at "st"
      refine ⟨n, y6, y7, y8, _, t2, _, _, D, D2, F, F2, 522, 2022, rfl, by omega, ⟨cv2, (s19.trans s20) _ _ upd_same, prs_keep (keeps u20) hp2⟩, C2, hy7.same s20, hy8, M3, M4, Z, Z2, by decide, by decide, fun H21 s21 => ?_⟩
      rw [dec]
      walk_at "st"
      refine Pm.w_isiBl (b := true) (by decide +kernel) ?_
      walk_at "st"
      rw [if_neg (show ¬ ((!(false == false)) = true) by decide)]
      walk_at "st"
      have u21 := u20.trans s21
      exact ⟨c2, g1, g2, _, t2, _, _, _, _, _, _, rfl, s9'.trans (u8.trans u21), ⟨cv2, u21 _ _ hc2, prs_keep (keeps u21) hp2⟩, C2, hg1'.same u21, hg2'.same u21, M3, M4⟩
    · rintro σ H9' ⟨c1, d1, e1, cut1, t1, L1, L1', x, y, z, u, rfl, s9', ⟨cv1, hc1, hp1⟩, C1, hd1, he1, M1, M1'⟩
      walk_at "st"
      refine Pm.w_listOf (SqL.of hc1) (fun y1 hy1 => ?_)
      have u1 := same_new hy1 (.lst cv1)
      walk_at "st"
      refine w_lenDict C1 n12 (hd1.same u1) (fun y2 H14 s14 ny2 hy2 => ?_)
      walk_at "st"
      refine w_lenDict C1 n12 (he1.same (u1.trans s14)) (fun y3 H15 s15 ny3 hy3 => ?_)
      have u15 := u1.trans (s14.trans s15)
      walk_at "st"
      refine ⟨n, y1, y2, y3, cut1, t1, L1, L1', D, D2, F, F2, 522, 2022, rfl, by omega, ⟨cv1, (s14.trans s15) _ _ upd_same, prs_keep (keeps u15) hp1⟩, C1, hy2.same s15, hy3, M1, M1', Z, Z2, by decide, by decide, by decide, fun nl H16 s16 => ?_, fun l1 r1 l10 r10 e1' => absurd ⟨l1, r1, l10, r10, e1'⟩ nl⟩
      walk_at "st"
      refine w_isN_non ?_
      exact q _
  · have lk : Like n D D2 := ⟨l0, r0, l00, r00, e0⟩
    have dec : @decide (Like n D D2) (Classical.propDecidable _) = true := @decide_eq_true _ (Classical.propDecidable _) lk
    rw [dec]
    have sA13 := sA12.trans s13'
    have hRB := sA13.seq hRA
    walk_at "st"
    refine Pm.w_isN_ref ?_
    walk_at "st"
    refine Pm.w_ite (fun z => Bool.noConfusion z) (fun _ => ?_)
    walk_at "st"
    refine Pm.w_ixL hRB (atI_int (by omega) (by omega)) ?_
    walk_at "st"
    generalize hcnt : (1 + row.getD (3 : Int).toNat 0 % 6).toNat = cnt
    have cnt8 : cnt ≤ 6 := by omega
    refine Pm.w_forR (fun i σ H9 => ∃ (c1 d1 e1 : Addr) (cut1 : List IP) (t1 : Tr) (L1 L1' : Len) (x y z u : Option V), σ = [some (.ref sc), some (.ref r), some (.int n), some (.ref c1), some (.ref d1), some (.ref e1), some (.bl true), some (.ref f), x, y, z, u, none] ∧ Same H13 H9 ∧ PLt H9 c1 cut1 ∧ Cutting n cut1 t1 ∧ LenD K H9 d1 t1 D ∧ LenD K H9 e1 t1 D2 ∧ Meas n t1 L1 D ∧ Meas n t1 L1' D2) ⟨c, d, d2, cut, t, L, L2, _, _, _, _, rfl, Same.refl _, ⟨cvs, sA13 _ _ hcA, prs_keep (keeps sA13) hpcA⟩, C, hDA.same sA13, hDoA.same sA13, M, M2⟩ ?_ ?_
    · rintro i σ H9' hi ⟨c1, d1, e1, cut1, t1, L1, L1', x, y, z, u, rfl, s9', ⟨cv1, hc1, hp1⟩, C1, hd1, he1, M1, M1'⟩
      have cl1 := C1.cut_len
      have cvl := hp1.length
      walk_at "st"
      refine Pm.w_ixL (s9'.seq hRB) (atI_int (by omega) (by omega)) ?_
      walk_at "st"
      refine Pm.w_lenL (SqL.of hc1) ?_
      walk_at "st"
      rw [cvl]
      generalize row.getD ((50 : Int) + (0 + (i : Int))).toNat 0 = zz
      have k0 := Int.emod_nonneg zz (show (cut1.length : Int) ≠ 0 by omega)
      have k1 := Int.emod_lt_of_pos zz (show (0 : Int) < (cut1.length : Int) by omega)
      generalize zz % (cut1.length : Int) = k at k0 k1
      have kN : k.toNat < cv1.length := by omega
      obtain ⟨p, hp, w1, hw1, hut⟩ := hp1.get (List.getElem?_eq_getElem kN)
      have mp := List.mem_of_getElem? hp
      have et : tieOf p.1 p.2 = p := by
        obtain ⟨⟨a, b⟩, hq, rfl⟩ := C1.ties.mp (mem_ties.mpr (.inr mp))
        have := Tr.bd hq
        exact tie_lt (by simp only [castP]; omega)
      have mp' : tieOf p.1 p.2 ∈ cut1 := by rw [et]; exact mp
      refine Pm.w_ixL (SqL.of hc1) (v := .ref w1) (by rw [show k = ((k.toNat : Nat) : Int) by omega]; exact atI_nat (by rw [List.getElem?_eq_getElem kN, hw1])) ?_
      walk_at "st"
      refine Pm.w_gtup (SqT.of hut) rfl ?_
      walk_at "st"
      refine Pm.w_listOf (SqL.of hc1) (fun y1 hy1 => ?_)
      have u1 := same_new hy1 (.lst cv1)
      walk_at "st"
      refine w_lenDict C1 n12 (hd1.same u1) (fun y2 H14 s14 ny2 hy2 => ?_)
      have u2 := u1.trans s14
      walk_at "st"
      refine ⟨n, y1, y2, cut1, t1, L1, D, F, 522, p.1, p.2, rfl, by omega, PLt.same ⟨cv1, upd_same, prs_keep (keeps u1) hp1⟩ s14, C1, hy2, M1, Z, by decide, fun z => absurd mp' z, fun _ g1 H15 t2 s15 ng1 C2 hg1 M3 => ?_⟩
      have u3 := u2.trans s15
      walk_at "st"
      refine Pm.w_listOf (SqL.of (u3 _ _ hc1)) (fun y3 hy3 => ?_)
      have u4 := same_new hy3 (.lst cv1)
      have u34 := u3.trans u4
      walk_at "st"
      refine w_lenDict C1 n12 (he1.same u34) (fun y4 H16 s16 ny4 hy4 => ?_)
      have u5 := u34.trans s16
      walk_at "st"
      refine ⟨n, y3, y4, cut1, t1, L1', D2, F2, 2022, p.1, p.2, rfl, by omega, PLt.same ⟨cv1, upd_same, prs_keep (keeps u34) hp1⟩ s16, C1, hy4, M1', Z2, by decide, fun z => absurd mp' z, fun _ g2 H17 t3 s17 ng2 C3 hg2 M4 => ?_⟩
      have et2 := C2.unique C3
      subst et2
      have u6 := u5.trans s17
      walk_at "st"
      refine Pm.w_listOf (SqL.of (u6 _ _ hc1)) (fun y5 hy5 => ?_)
      have u7 := same_new hy5 (.lst cv1)
      have u67 := u6.trans u7
      walk_at "st"
      refine ⟨n, y5, cut1, p.1, p.2, rfl, by omega, by omega, ⟨cv1, upd_same, prs_keep (keeps u67) hp1⟩, by omega, fun z => absurd mp' z, fun _ => ⟨?_, fun c2 H18 cv2 s18 nc2 hc2 hp2 => ?_⟩⟩
      · exact C1.beside2 mp'
      have u8 := u67.trans s18
      have hg1' := hg1.same (u4.trans (s16.trans (s17.trans (u7.trans s18))))
      have hg2' := hg2.same (u7.trans s18)
      walk_at "st"
      refine Pm.w_listOf (SqL.of hc2) (fun y6 hy6 => ?_)
      have u9 := same_new hy6 (.lst cv2)
      walk_at "st"
      refine w_lenDict C2 n12 (hg1'.same u9) (fun y7 H19 s19 ny7 hy7 => ?_)
      walk_at "st"
      refine w_lenDict C2 n12 (hg2'.same (u9.trans s19)) (fun y8 H20 s20 ny8 hy8 => ?_)
      have u20 := u9.trans (s19.trans s20)
      walk_at "st"
      refine ⟨n, y6, y7, y8, _, t2, _, _, D, D2, F, F2, 522, 2022, rfl, by omega, ⟨cv2, (s19.trans s20) _ _ upd_same, prs_keep (keeps u20) hp2⟩, C2, hy7.same s20, hy8, M3, M4, Z, Z2, by decide, by decide, fun H21 s21 => ?_⟩
      rw [dec]
      walk_at "st"
      refine Pm.w_isiBl (b := true) (by decide +kernel) ?_
      walk_at "st"
      rw [if_neg (show ¬ ((!(true == true)) = true) by decide)]
      walk_at "st"
      have u21 := u20.trans s21
      exact ⟨c2, g1, g2, _, t2, _, _, _, _, _, _, rfl, s9'.trans (u8.trans u21), ⟨cv2, u21 _ _ hc2, prs_keep (keeps u21) hp2⟩, C2, hg1'.same u21, hg2'.same u21, M3, M4⟩
    · rintro σ H9' ⟨c1, d1, e1, cut1, t1, L1, L1', x, y, z, u, rfl, s9', ⟨cv1, hc1, hp1⟩, C1, hd1, he1, M1, M1'⟩
      walk_at "st"
      refine Pm.w_listOf (SqL.of hc1) (fun y1 hy1 => ?_)
      have u1 := same_new hy1 (.lst cv1)
      walk_at "st"
      refine w_lenDict C1 n12 (hd1.same u1) (fun y2 H14 s14 ny2 hy2 => ?_)
      walk_at "st"
      refine w_lenDict C1 n12 (he1.same (u1.trans s14)) (fun y3 H15 s15 ny3 hy3 => ?_)
      have u15 := u1.trans (s14.trans s15)
      walk_at "st"
      refine ⟨n, y1, y2, y3, cut1, t1, L1, L1', D, D2, F, F2, 522, 2022, rfl, by omega, ⟨cv1, (s14.trans s15) _ _ upd_same, prs_keep (keeps u15) hp1⟩, C1, hy2.same s15, hy3, M1, M1', Z, Z2, by decide, by decide, by decide, fun nl => absurd lk nl, fun l1 r1 l10 r10 e1' f1 H16 s16 nf1 hf1 => ?_⟩
      walk_at "st"
      have el : ((List.range n).map fun i => rp (l1 * r1 i * r1 i)) = ((List.range n).map fun i => l0 * r0 i * r0 i).map rp := by
        rw [List.map_map]
        exact List.map_congr_left fun i hi => by show _ = rp (l0 * r0 i * r0 i); rw [like_uniq C M l00 l10 r00 r10 e0 e1' (List.mem_range.mp hi)]
      rw [el] at hf1
      refine ⟨f1, f, (List.range n).map fun i => l0 * r0 i * r0 i, 156, rfl, hf1, by rw [List.map_map]; exact row_same hf (s9'.trans (u15.trans s16)), by rw [List.length_map, List.length_range]; omega, fun r hr => ?_, by decide, fun H17 s17 => ?_⟩
      · obtain ⟨i, hi, rfl⟩ := List.mem_map.mp hr
        refine like_small C M (m1 := 11) (m2 := 41) (fun p hp => ?_) (fun p hp => ?_) l00 r00 e0 (List.mem_range.mp hi)
        · rw [hDR p hp]
          exact szd_rb (hsz _ (C.ties.mpr ⟨p, hp, rfl⟩))
        · rw [hDR2 p hp]
          exact (hsz2 _ ((hks _).mpr (C.ties.mpr ⟨p, hp, rfl⟩))).rb (by decide) (by decide)
      · exact q _
end
/-! ### what the top has written; the end -/
def tx_mk {K : PySem.W.Frag} {h : Heap} {mg : Str → Option Value} (X : K.In h) (G : h.Ns mainGlobals mg)
    {f_0 : Addr} {od_0 an_0 : Option Addr} {sl_0 : Array (Option Value)} {oc_0 kV_0 dc_0 pm_0 cd_0 ct_0 : Value}
    {f_1 : Addr} {od_1 an_1 : Option Addr} {sl_1 : Array (Option Value)} {oc_1 kV_1 dc_1 pm_1 cd_1 ct_1 : Value}
    {f_2 : Addr} {od_2 an_2 : Option Addr} {sl_2 : Array (Option Value)} {oc_2 kV_2 dc_2 pm_2 cd_2 ct_2 : Value}
    {f_3 : Addr} {od_3 an_3 : Option Addr} {sl_3 : Array (Option Value)} {oc_3 kV_3 dc_3 pm_3 cd_3 ct_3 : Value}
    {f_4 : Addr} {od_4 an_4 : Option Addr} {sl_4 : Array (Option Value)} {oc_4 kV_4 dc_4 pm_4 cd_4 ct_4 : Value}
    {f_5 : Addr} {od_5 an_5 : Option Addr} {sl_5 : Array (Option Value)} {oc_5 kV_5 dc_5 pm_5 cd_5 ct_5 : Value}
    {f_6 : Addr} {od_6 an_6 : Option Addr} {sl_6 : Array (Option Value)} {oc_6 kV_6 dc_6 pm_6 cd_6 ct_6 : Value}
    {f_7 : Addr} {od_7 an_7 : Option Addr} {sl_7 : Array (Option Value)} {oc_7 kV_7 dc_7 pm_7 cd_7 ct_7 : Value}
    {f_8 : Addr} {od_8 an_8 : Option Addr} {sl_8 : Array (Option Value)} {oc_8 kV_8 dc_8 pm_8 cd_8 ct_8 : Value}
    {f_9 : Addr} {od_9 an_9 : Option Addr} {sl_9 : Array (Option Value)} {oc_9 kV_9 dc_9 pm_9 cd_9 ct_9 : Value}
    {f_10 : Addr} {od_10 an_10 : Option Addr} {sl_10 : Array (Option Value)} {oc_10 kV_10 dc_10 pm_10 cd_10 ct_10 : Value}
    {f_11 : Addr} {od_11 an_11 : Option Addr} {sl_11 : Array (Option Value)} {oc_11 kV_11 dc_11 pm_11 cd_11 ct_11 : Value}
    {f_12 : Addr} {od_12 an_12 : Option Addr} {sl_12 : Array (Option Value)} {oc_12 kV_12 dc_12 pm_12 cd_12 ct_12 : Value}
    {f_13 : Addr} {od_13 an_13 : Option Addr} {sl_13 : Array (Option Value)} {oc_13 kV_13 dc_13 pm_13 cd_13 ct_13 : Value}
    {f_14 : Addr} {od_14 an_14 : Option Addr} {sl_14 : Array (Option Value)} {oc_14 kV_14 dc_14 pm_14 cd_14 ct_14 : Value}
    {f_15 : Addr} {od_15 an_15 : Option Addr} {sl_15 : Array (Option Value)} {oc_15 kV_15 dc_15 pm_15 cd_15 ct_15 : Value}
    {f_16 : Addr} {od_16 an_16 : Option Addr} {sl_16 : Array (Option Value)} {oc_16 kV_16 dc_16 pm_16 cd_16 ct_16 : Value}
    {f_17 : Addr} {od_17 an_17 : Option Addr} {sl_17 : Array (Option Value)} {oc_17 kV_17 dc_17 pm_17 cd_17 ct_17 : Value}
    {f_18 : Addr} {od_18 an_18 : Option Addr} {sl_18 : Array (Option Value)} {oc_18 kV_18 dc_18 pm_18 cd_18 ct_18 : Value}
    {f_19 : Addr} {od_19 an_19 : Option Addr} {sl_19 : Array (Option Value)} {oc_19 kV_19 dc_19 pm_19 cd_19 ct_19 : Value}
    {f_20 : Addr} {od_20 an_20 : Option Addr} {sl_20 : Array (Option Value)} {oc_20 kV_20 dc_20 pm_20 cd_20 ct_20 : Value}
    {f_21 : Addr} {od_21 an_21 : Option Addr} {sl_21 : Array (Option Value)} {oc_21 kV_21 dc_21 pm_21 cd_21 ct_21 : Value}
    {f_22 : Addr} {od_22 an_22 : Option Addr} {sl_22 : Array (Option Value)} {oc_22 kV_22 dc_22 pm_22 cd_22 ct_22 : Value}
    {f_23 : Addr} {od_23 an_23 : Option Addr} {sl_23 : Array (Option Value)} {oc_23 kV_23 dc_23 pm_23 cd_23 ct_23 : Value}
    {f_24 : Addr} {od_24 an_24 : Option Addr} {sl_24 : Array (Option Value)} {oc_24 kV_24 dc_24 pm_24 cd_24 ct_24 : Value}
    {f_25 : Addr} {od_25 an_25 : Option Addr} {sl_25 : Array (Option Value)} {oc_25 kV_25 dc_25 pm_25 cd_25 ct_25 : Value}
    {f_26 : Addr} {od_26 an_26 : Option Addr} {sl_26 : Array (Option Value)} {oc_26 kV_26 dc_26 pm_26 cd_26 ct_26 : Value}
    {f_27 : Addr} {od_27 an_27 : Option Addr} {sl_27 : Array (Option Value)} {oc_27 kV_27 dc_27 pm_27 cd_27 ct_27 : Value}
    {f_28 : Addr} {od_28 an_28 : Option Addr} {sl_28 : Array (Option Value)} {oc_28 kV_28 dc_28 pm_28 cd_28 ct_28 : Value}
    {f_29 : Addr} {od_29 an_29 : Option Addr} {sl_29 : Array (Option Value)} {oc_29 kV_29 dc_29 pm_29 cd_29 ct_29 : Value}
    {f_30 : Addr} {od_30 an_30 : Option Addr} {sl_30 : Array (Option Value)} {oc_30 kV_30 dc_30 pm_30 cd_30 ct_30 : Value}
    {f_31 : Addr} {od_31 an_31 : Option Addr} {sl_31 : Array (Option Value)} {oc_31 kV_31 dc_31 pm_31 cd_31 ct_31 : Value}
    {f_32 : Addr} {od_32 an_32 : Option Addr} {sl_32 : Array (Option Value)} {oc_32 kV_32 dc_32 pm_32 cd_32 ct_32 : Value}
    {f_33 : Addr} {od_33 an_33 : Option Addr} {sl_33 : Array (Option Value)} {oc_33 kV_33 dc_33 pm_33 cd_33 ct_33 : Value}
    {f_34 : Addr} {od_34 an_34 : Option Addr} {sl_34 : Array (Option Value)} {oc_34 kV_34 dc_34 pm_34 cd_34 ct_34 : Value}
    {f_35 : Addr} {od_35 an_35 : Option Addr} {sl_35 : Array (Option Value)} {oc_35 kV_35 dc_35 pm_35 cd_35 ct_35 : Value}
    {f_36 : Addr} {od_36 an_36 : Option Addr} {sl_36 : Array (Option Value)} {oc_36 kV_36 dc_36 pm_36 cd_36 ct_36 : Value}
    {f_37 : Addr} {od_37 an_37 : Option Addr} {sl_37 : Array (Option Value)} {oc_37 kV_37 dc_37 pm_37 cd_37 ct_37 : Value}
    {f_38 : Addr} {od_38 an_38 : Option Addr} {sl_38 : Array (Option Value)} {oc_38 kV_38 dc_38 pm_38 cd_38 ct_38 : Value}
    {f_39 : Addr} {od_39 an_39 : Option Addr} {sl_39 : Array (Option Value)} {oc_39 kV_39 dc_39 pm_39 cd_39 ct_39 : Value}
    {f_40 : Addr} {od_40 an_40 : Option Addr} {sl_40 : Array (Option Value)} {oc_40 kV_40 dc_40 pm_40 cd_40 ct_40 : Value}
    {f_41 : Addr} {od_41 an_41 : Option Addr} {sl_41 : Array (Option Value)} {oc_41 kV_41 dc_41 pm_41 cd_41 ct_41 : Value}
    {f_42 : Addr} {od_42 an_42 : Option Addr} {sl_42 : Array (Option Value)} {oc_42 kV_42 dc_42 pm_42 cd_42 ct_42 : Value}
    {f_43 : Addr} {od_43 an_43 : Option Addr} {sl_43 : Array (Option Value)} {oc_43 kV_43 dc_43 pm_43 cd_43 ct_43 : Value}
    {f_44 : Addr} {od_44 an_44 : Option Addr} {sl_44 : Array (Option Value)} {oc_44 kV_44 dc_44 pm_44 cd_44 ct_44 : Value}
    {f_45 : Addr} {od_45 an_45 : Option Addr} {sl_45 : Array (Option Value)} {oc_45 kV_45 dc_45 pm_45 cd_45 ct_45 : Value}
    {f_46 : Addr} {od_46 an_46 : Option Addr} {sl_46 : Array (Option Value)} {oc_46 kV_46 dc_46 pm_46 cd_46 ct_46 : Value}
    {C_NoRope : Addr}
    {C_NoFraction : Addr}
    {C_NoPost : Addr}
    {c_ONE : Addr} {o_ONE : Obj} {its_ONE : Array Value} {nn_ONE : Nat}
    {c_NOUGHT : Addr} {o_NOUGHT : Obj} {its_NOUGHT : Array Value} {nn_NOUGHT : Nat}
    (a0 : PySem.W.nsIn K mainGlobals "tie_of" = some (some (.ref f_0)))
    (l0 : K.lookup f_0 = some ⟨oc_0, od_0, .func (PySem.W.fnOf "tie_of" "tie_of" (defArgs s_tie_of) (defBody s_tie_of) (defScope s_tie_of) .none kV_0 dc_0 pm_0 an_0 cd_0 ct_0), sl_0⟩)
    (c0 : PySem.W.codeIn K cd_0 "tie_of" = true)
    (k0 : PySem.W.keepIn K (.ref f_0) = true)
    (a1 : PySem.W.nsIn K mainGlobals "sides" = some (some (.ref f_1)))
    (l1 : K.lookup f_1 = some ⟨oc_1, od_1, .func (PySem.W.fnOf "sides" "sides" (defArgs s_sides) (defBody s_sides) (defScope s_sides) .none kV_1 dc_1 pm_1 an_1 cd_1 ct_1), sl_1⟩)
    (c1 : PySem.W.codeIn K cd_1 "sides" = true)
    (k1 : PySem.W.keepIn K (.ref f_1) = true)
    (a2 : PySem.W.nsIn K mainGlobals "ties" = some (some (.ref f_2)))
    (l2 : K.lookup f_2 = some ⟨oc_2, od_2, .func (PySem.W.fnOf "ties" "ties" (defArgs s_ties) (defBody s_ties) (defScope s_ties) .none kV_2 dc_2 pm_2 an_2 cd_2 ct_2), sl_2⟩)
    (c2 : PySem.W.codeIn K cd_2 "ties" = true)
    (k2 : PySem.W.keepIn K (.ref f_2) = true)
    (a3 : PySem.W.nsIn K mainGlobals "plots" = some (some (.ref f_3)))
    (l3 : K.lookup f_3 = some ⟨oc_3, od_3, .func (PySem.W.fnOf "plots" "plots" (defArgs s_plots) (defBody s_plots) (defScope s_plots) .none kV_3 dc_3 pm_3 an_3 cd_3 ct_3), sl_3⟩)
    (c3 : PySem.W.codeIn K cd_3 "plots" = true)
    (k3 : PySem.W.keepIn K (.ref f_3) = true)
    (a4 : PySem.W.nsIn K mainGlobals "beside" = some (some (.ref f_4)))
    (l4 : K.lookup f_4 = some ⟨oc_4, od_4, .func (PySem.W.fnOf "beside" "beside" (defArgs s_beside) (defBody s_beside) (defScope s_beside) .none kV_4 dc_4 pm_4 an_4 cd_4 ct_4), sl_4⟩)
    (c4 : PySem.W.codeIn K cd_4 "beside" = true)
    (k4 : PySem.W.keepIn K (.ref f_4) = true)
    (a5 : PySem.W.nsIn K mainGlobals "turned" = some (some (.ref f_5)))
    (l5 : K.lookup f_5 = some ⟨oc_5, od_5, .func (PySem.W.fnOf "turned" "turned" (defArgs s_turned) (defBody s_turned) (defScope s_turned) .none kV_5 dc_5 pm_5 an_5 cd_5 ct_5), sl_5⟩)
    (c5 : PySem.W.codeIn K cd_5 "turned" = true)
    (k5 : PySem.W.keepIn K (.ref f_5) = true)
    (a6 : PySem.W.nsIn K mainGlobals "measure" = some (some (.ref f_6)))
    (l6 : K.lookup f_6 = some ⟨oc_6, od_6, .func (PySem.W.fnOf "measure" "measure" (defArgs s_measure) (defBody s_measure) (defScope s_measure) .none kV_6 dc_6 pm_6 an_6 cd_6 ct_6), sl_6⟩)
    (c6 : PySem.W.codeIn K cd_6 "measure" = true)
    (k6 : PySem.W.keepIn K (.ref f_6) = true)
    (a7 : PySem.W.nsIn K mainGlobals "lowest" = some (some (.ref f_7)))
    (l7 : K.lookup f_7 = some ⟨oc_7, od_7, .func (PySem.W.fnOf "lowest" "lowest" (defArgs s_lowest) (defBody s_lowest) (defScope s_lowest) .none kV_7 dc_7 pm_7 an_7 cd_7 ct_7), sl_7⟩)
    (c7 : PySem.W.codeIn K cd_7 "lowest" = true)
    (k7 : PySem.W.keepIn K (.ref f_7) = true)
    (a8 : PySem.W.nsIn K mainGlobals "plus" = some (some (.ref f_8)))
    (l8 : K.lookup f_8 = some ⟨oc_8, od_8, .func (PySem.W.fnOf "plus" "plus" (defArgs s_plus) (defBody s_plus) (defScope s_plus) .none kV_8 dc_8 pm_8 an_8 cd_8 ct_8), sl_8⟩)
    (c8 : PySem.W.codeIn K cd_8 "plus" = true)
    (k8 : PySem.W.keepIn K (.ref f_8) = true)
    (a9 : PySem.W.nsIn K mainGlobals "less" = some (some (.ref f_9)))
    (l9 : K.lookup f_9 = some ⟨oc_9, od_9, .func (PySem.W.fnOf "less" "less" (defArgs s_less) (defBody s_less) (defScope s_less) .none kV_9 dc_9 pm_9 an_9 cd_9 ct_9), sl_9⟩)
    (c9 : PySem.W.codeIn K cd_9 "less" = true)
    (k9 : PySem.W.keepIn K (.ref f_9) = true)
    (a10 : PySem.W.nsIn K mainGlobals "times" = some (some (.ref f_10)))
    (l10 : K.lookup f_10 = some ⟨oc_10, od_10, .func (PySem.W.fnOf "times" "times" (defArgs s_times) (defBody s_times) (defScope s_times) .none kV_10 dc_10 pm_10 an_10 cd_10 ct_10), sl_10⟩)
    (c10 : PySem.W.codeIn K cd_10 "times" = true)
    (k10 : PySem.W.keepIn K (.ref f_10) = true)
    (a11 : PySem.W.nsIn K mainGlobals "over" = some (some (.ref f_11)))
    (l11 : K.lookup f_11 = some ⟨oc_11, od_11, .func (PySem.W.fnOf "over" "over" (defArgs s_over) (defBody s_over) (defScope s_over) .none kV_11 dc_11 pm_11 an_11 cd_11 ct_11), sl_11⟩)
    (c11 : PySem.W.codeIn K cd_11 "over" = true)
    (k11 : PySem.W.keepIn K (.ref f_11) = true)
    (a12 : PySem.W.nsIn K mainGlobals "ring_of" = some (some (.ref f_12)))
    (l12 : K.lookup f_12 = some ⟨oc_12, od_12, .func (PySem.W.fnOf "ring_of" "ring_of" (defArgs s_ring_of) (defBody s_ring_of) (defScope s_ring_of) .none kV_12 dc_12 pm_12 an_12 cd_12 ct_12), sl_12⟩)
    (c12 : PySem.W.codeIn K cd_12 "ring_of" = true)
    (k12 : PySem.W.keepIn K (.ref f_12) = true)
    (a13 : PySem.W.nsIn K mainGlobals "ratio" = some (some (.ref f_13)))
    (l13 : K.lookup f_13 = some ⟨oc_13, od_13, .func (PySem.W.fnOf "ratio" "ratio" (defArgs s_ratio) (defBody s_ratio) (defScope s_ratio) .none kV_13 dc_13 pm_13 an_13 cd_13 ct_13), sl_13⟩)
    (c13 : PySem.W.codeIn K cd_13 "ratio" = true)
    (k13 : PySem.W.keepIn K (.ref f_13) = true)
    (a14 : PySem.W.nsIn K mainGlobals "ratios" = some (some (.ref f_14)))
    (l14 : K.lookup f_14 = some ⟨oc_14, od_14, .func (PySem.W.fnOf "ratios" "ratios" (defArgs s_ratios) (defBody s_ratios) (defScope s_ratios) .none kV_14 dc_14 pm_14 an_14 cd_14 ct_14), sl_14⟩)
    (c14 : PySem.W.codeIn K cd_14 "ratios" = true)
    (k14 : PySem.W.keepIn K (.ref f_14) = true)
    (a15 : PySem.W.nsIn K mainGlobals "alike" = some (some (.ref f_15)))
    (l15 : K.lookup f_15 = some ⟨oc_15, od_15, .func (PySem.W.fnOf "alike" "alike" (defArgs s_alike) (defBody s_alike) (defScope s_alike) .none kV_15 dc_15 pm_15 an_15 cd_15 ct_15), sl_15⟩)
    (c15 : PySem.W.codeIn K cd_15 "alike" = true)
    (k15 : PySem.W.keepIn K (.ref f_15) = true)
    (a16 : PySem.W.nsIn K mainGlobals "growth" = some (some (.ref f_16)))
    (l16 : K.lookup f_16 = some ⟨oc_16, od_16, .func (PySem.W.fnOf "growth" "growth" (defArgs s_growth) (defBody s_growth) (defScope s_growth) .none kV_16 dc_16 pm_16 an_16 cd_16 ct_16), sl_16⟩)
    (c16 : PySem.W.codeIn K cd_16 "growth" = true)
    (k16 : PySem.W.keepIn K (.ref f_16) = true)
    (a17 : PySem.W.nsIn K mainGlobals "stretches" = some (some (.ref f_17)))
    (l17 : K.lookup f_17 = some ⟨oc_17, od_17, .func (PySem.W.fnOf "stretches" "stretches" (defArgs s_stretches) (defBody s_stretches) (defScope s_stretches) .none kV_17 dc_17 pm_17 an_17 cd_17 ct_17), sl_17⟩)
    (c17 : PySem.W.codeIn K cd_17 "stretches" = true)
    (k17 : PySem.W.keepIn K (.ref f_17) = true)
    (a18 : PySem.W.nsIn K mainGlobals "two_posts" = some (some (.ref f_18)))
    (l18 : K.lookup f_18 = some ⟨oc_18, od_18, .func (PySem.W.fnOf "two_posts" "two_posts" (defArgs s_two_posts) (defBody s_two_posts) (defScope s_two_posts) .none kV_18 dc_18 pm_18 an_18 cd_18 ct_18), sl_18⟩)
    (c18 : PySem.W.codeIn K cd_18 "two_posts" = true)
    (k18 : PySem.W.keepIn K (.ref f_18) = true)
    (a19 : PySem.W.nsIn K mainGlobals "between" = some (some (.ref f_19)))
    (l19 : K.lookup f_19 = some ⟨oc_19, od_19, .func (PySem.W.fnOf "between" "between" (defArgs s_between) (defBody s_between) (defScope s_between) .none kV_19 dc_19 pm_19 an_19 cd_19 ct_19), sl_19⟩)
    (c19 : PySem.W.codeIn K cd_19 "between" = true)
    (k19 : PySem.W.keepIn K (.ref f_19) = true)
    (a20 : PySem.W.nsIn K mainGlobals "spread" = some (some (.ref f_20)))
    (l20 : K.lookup f_20 = some ⟨oc_20, od_20, .func (PySem.W.fnOf "spread" "spread" (defArgs s_spread) (defBody s_spread) (defScope s_spread) .none kV_20 dc_20 pm_20 an_20 cd_20 ct_20), sl_20⟩)
    (c20 : PySem.W.codeIn K cd_20 "spread" = true)
    (k20 : PySem.W.keepIn K (.ref f_20) = true)
    (a21 : PySem.W.nsIn K mainGlobals "pair_mixed" = some (some (.ref f_21)))
    (l21 : K.lookup f_21 = some ⟨oc_21, od_21, .func (PySem.W.fnOf "pair_mixed" "pair_mixed" (defArgs s_pair_mixed) (defBody s_pair_mixed) (defScope s_pair_mixed) .none kV_21 dc_21 pm_21 an_21 cd_21 ct_21), sl_21⟩)
    (c21 : PySem.W.codeIn K cd_21 "pair_mixed" = true)
    (k21 : PySem.W.keepIn K (.ref f_21) = true)
    (a22 : PySem.W.nsIn K mainGlobals "third" = some (some (.ref f_22)))
    (l22 : K.lookup f_22 = some ⟨oc_22, od_22, .func (PySem.W.fnOf "third" "third" (defArgs s_third) (defBody s_third) (defScope s_third) .none kV_22 dc_22 pm_22 an_22 cd_22 ct_22), sl_22⟩)
    (c22 : PySem.W.codeIn K cd_22 "third" = true)
    (k22 : PySem.W.keepIn K (.ref f_22) = true)
    (a23 : PySem.W.nsIn K mainGlobals "stands" = some (some (.ref f_23)))
    (l23 : K.lookup f_23 = some ⟨oc_23, od_23, .func (PySem.W.fnOf "stands" "stands" (defArgs s_stands) (defBody s_stands) (defScope s_stands) .none kV_23 dc_23 pm_23 an_23 cd_23 ct_23), sl_23⟩)
    (c23 : PySem.W.codeIn K cd_23 "stands" = true)
    (k23 : PySem.W.keepIn K (.ref f_23) = true)
    (a24 : PySem.W.nsIn K mainGlobals "measured" = some (some (.ref f_24)))
    (l24 : K.lookup f_24 = some ⟨oc_24, od_24, .func (PySem.W.fnOf "measured" "measured" (defArgs s_measured) (defBody s_measured) (defScope s_measured) .none kV_24 dc_24 pm_24 an_24 cd_24 ct_24), sl_24⟩)
    (c24 : PySem.W.codeIn K cd_24 "measured" = true)
    (k24 : PySem.W.keepIn K (.ref f_24) = true)
    (a25 : PySem.W.nsIn K mainGlobals "laid" = some (some (.ref f_25)))
    (l25 : K.lookup f_25 = some ⟨oc_25, od_25, .func (PySem.W.fnOf "laid" "laid" (defArgs s_laid) (defBody s_laid) (defScope s_laid) .none kV_25 dc_25 pm_25 an_25 cd_25 ct_25), sl_25⟩)
    (c25 : PySem.W.codeIn K cd_25 "laid" = true)
    (k25 : PySem.W.keepIn K (.ref f_25) = true)
    (a26 : PySem.W.nsIn K mainGlobals "_law_flow" = some (some (.ref f_26)))
    (l26 : K.lookup f_26 = some ⟨oc_26, od_26, .func (PySem.W.fnOf "_law_flow" "_law_flow" (defArgs s_law_flow) (defBody s_law_flow) (defScope s_law_flow) .none kV_26 dc_26 pm_26 an_26 cd_26 ct_26), sl_26⟩)
    (c26 : PySem.W.codeIn K cd_26 "_law_flow" = true)
    (k26 : PySem.W.keepIn K (.ref f_26) = true)
    (a27 : PySem.W.nsIn K mainGlobals "_law_whole" = some (some (.ref f_27)))
    (l27 : K.lookup f_27 = some ⟨oc_27, od_27, .func (PySem.W.fnOf "_law_whole" "_law_whole" (defArgs s_law_whole) (defBody s_law_whole) (defScope s_law_whole) .none kV_27 dc_27 pm_27 an_27 cd_27 ct_27), sl_27⟩)
    (c27 : PySem.W.codeIn K cd_27 "_law_whole" = true)
    (k27 : PySem.W.keepIn K (.ref f_27) = true)
    (a28 : PySem.W.nsIn K mainGlobals "_law_low" = some (some (.ref f_28)))
    (l28 : K.lookup f_28 = some ⟨oc_28, od_28, .func (PySem.W.fnOf "_law_low" "_law_low" (defArgs s_law_low) (defBody s_law_low) (defScope s_law_low) .none kV_28 dc_28 pm_28 an_28 cd_28 ct_28), sl_28⟩)
    (c28 : PySem.W.codeIn K cd_28 "_law_low" = true)
    (k28 : PySem.W.keepIn K (.ref f_28) = true)
    (a29 : PySem.W.nsIn K mainGlobals "_law_mul" = some (some (.ref f_29)))
    (l29 : K.lookup f_29 = some ⟨oc_29, od_29, .func (PySem.W.fnOf "_law_mul" "_law_mul" (defArgs s_law_mul) (defBody s_law_mul) (defScope s_law_mul) .none kV_29 dc_29 pm_29 an_29 cd_29 ct_29), sl_29⟩)
    (c29 : PySem.W.codeIn K cd_29 "_law_mul" = true)
    (k29 : PySem.W.keepIn K (.ref f_29) = true)
    (a30 : PySem.W.nsIn K mainGlobals "_law_div" = some (some (.ref f_30)))
    (l30 : K.lookup f_30 = some ⟨oc_30, od_30, .func (PySem.W.fnOf "_law_div" "_law_div" (defArgs s_law_div) (defBody s_law_div) (defScope s_law_div) .none kV_30 dc_30 pm_30 an_30 cd_30 ct_30), sl_30⟩)
    (c30 : PySem.W.codeIn K cd_30 "_law_div" = true)
    (k30 : PySem.W.keepIn K (.ref f_30) = true)
    (a31 : PySem.W.nsIn K mainGlobals "_law_part" = some (some (.ref f_31)))
    (l31 : K.lookup f_31 = some ⟨oc_31, od_31, .func (PySem.W.fnOf "_law_part" "_law_part" (defArgs s_law_part) (defBody s_law_part) (defScope s_law_part) .none kV_31 dc_31 pm_31 an_31 cd_31 ct_31), sl_31⟩)
    (c31 : PySem.W.codeIn K cd_31 "_law_part" = true)
    (k31 : PySem.W.keepIn K (.ref f_31) = true)
    (a32 : PySem.W.nsIn K mainGlobals "_law_size" = some (some (.ref f_32)))
    (l32 : K.lookup f_32 = some ⟨oc_32, od_32, .func (PySem.W.fnOf "_law_size" "_law_size" (defArgs s_law_size) (defBody s_law_size) (defScope s_law_size) .none kV_32 dc_32 pm_32 an_32 cd_32 ct_32), sl_32⟩)
    (c32 : PySem.W.codeIn K cd_32 "_law_size" = true)
    (k32 : PySem.W.keepIn K (.ref f_32) = true)
    (a33 : PySem.W.nsIn K mainGlobals "_law_pair" = some (some (.ref f_33)))
    (l33 : K.lookup f_33 = some ⟨oc_33, od_33, .func (PySem.W.fnOf "_law_pair" "_law_pair" (defArgs s_law_pair) (defBody s_law_pair) (defScope s_law_pair) .none kV_33 dc_33 pm_33 an_33 cd_33 ct_33), sl_33⟩)
    (c33 : PySem.W.codeIn K cd_33 "_law_pair" = true)
    (k33 : PySem.W.keepIn K (.ref f_33) = true)
    (a34 : PySem.W.nsIn K mainGlobals "_law_ears" = some (some (.ref f_34)))
    (l34 : K.lookup f_34 = some ⟨oc_34, od_34, .func (PySem.W.fnOf "_law_ears" "_law_ears" (defArgs s_law_ears) (defBody s_law_ears) (defScope s_law_ears) .none kV_34 dc_34 pm_34 an_34 cd_34 ct_34), sl_34⟩)
    (c34 : PySem.W.codeIn K cd_34 "_law_ears" = true)
    (k34 : PySem.W.keepIn K (.ref f_34) = true)
    (a35 : PySem.W.nsIn K mainGlobals "_law_ropes" = some (some (.ref f_35)))
    (l35 : K.lookup f_35 = some ⟨oc_35, od_35, .func (PySem.W.fnOf "_law_ropes" "_law_ropes" (defArgs s_law_ropes) (defBody s_law_ropes) (defScope s_law_ropes) .none kV_35 dc_35 pm_35 an_35 cd_35 ct_35), sl_35⟩)
    (c35 : PySem.W.codeIn K cd_35 "_law_ropes" = true)
    (k35 : PySem.W.keepIn K (.ref f_35) = true)
    (a36 : PySem.W.nsIn K mainGlobals "_law_sides" = some (some (.ref f_36)))
    (l36 : K.lookup f_36 = some ⟨oc_36, od_36, .func (PySem.W.fnOf "_law_sides" "_law_sides" (defArgs s_law_sides) (defBody s_law_sides) (defScope s_law_sides) .none kV_36 dc_36 pm_36 an_36 cd_36 ct_36), sl_36⟩)
    (c36 : PySem.W.codeIn K cd_36 "_law_sides" = true)
    (k36 : PySem.W.keepIn K (.ref f_36) = true)
    (a37 : PySem.W.nsIn K mainGlobals "_law_ties" = some (some (.ref f_37)))
    (l37 : K.lookup f_37 = some ⟨oc_37, od_37, .func (PySem.W.fnOf "_law_ties" "_law_ties" (defArgs s_law_ties) (defBody s_law_ties) (defScope s_law_ties) .none kV_37 dc_37 pm_37 an_37 cd_37 ct_37), sl_37⟩)
    (c37 : PySem.W.codeIn K cd_37 "_law_ties" = true)
    (k37 : PySem.W.keepIn K (.ref f_37) = true)
    (a38 : PySem.W.nsIn K mainGlobals "_law_sized" = some (some (.ref f_38)))
    (l38 : K.lookup f_38 = some ⟨oc_38, od_38, .func (PySem.W.fnOf "_law_sized" "_law_sized" (defArgs s_law_sized) (defBody s_law_sized) (defScope s_law_sized) .none kV_38 dc_38 pm_38 an_38 cd_38 ct_38), sl_38⟩)
    (c38 : PySem.W.codeIn K cd_38 "_law_sized" = true)
    (k38 : PySem.W.keepIn K (.ref f_38) = true)
    (a39 : PySem.W.nsIn K mainGlobals "_law_beside" = some (some (.ref f_39)))
    (l39 : K.lookup f_39 = some ⟨oc_39, od_39, .func (PySem.W.fnOf "_law_beside" "_law_beside" (defArgs s_law_beside) (defBody s_law_beside) (defScope s_law_beside) .none kV_39 dc_39 pm_39 an_39 cd_39 ct_39), sl_39⟩)
    (c39 : PySem.W.codeIn K cd_39 "_law_beside" = true)
    (k39 : PySem.W.keepIn K (.ref f_39) = true)
    (a40 : PySem.W.nsIn K mainGlobals "_law_parts" = some (some (.ref f_40)))
    (l40 : K.lookup f_40 = some ⟨oc_40, od_40, .func (PySem.W.fnOf "_law_parts" "_law_parts" (defArgs s_law_parts) (defBody s_law_parts) (defScope s_law_parts) .none kV_40 dc_40 pm_40 an_40 cd_40 ct_40), sl_40⟩)
    (c40 : PySem.W.codeIn K cd_40 "_law_parts" = true)
    (k40 : PySem.W.keepIn K (.ref f_40) = true)
    (a41 : PySem.W.nsIn K mainGlobals "_law_ring" = some (some (.ref f_41)))
    (l41 : K.lookup f_41 = some ⟨oc_41, od_41, .func (PySem.W.fnOf "_law_ring" "_law_ring" (defArgs s_law_ring) (defBody s_law_ring) (defScope s_law_ring) .none kV_41 dc_41 pm_41 an_41 cd_41 ct_41), sl_41⟩)
    (c41 : PySem.W.codeIn K cd_41 "_law_ring" = true)
    (k41 : PySem.W.keepIn K (.ref f_41) = true)
    (a42 : PySem.W.nsIn K mainGlobals "_law_ratio" = some (some (.ref f_42)))
    (l42 : K.lookup f_42 = some ⟨oc_42, od_42, .func (PySem.W.fnOf "_law_ratio" "_law_ratio" (defArgs s_law_ratio) (defBody s_law_ratio) (defScope s_law_ratio) .none kV_42 dc_42 pm_42 an_42 cd_42 ct_42), sl_42⟩)
    (c42 : PySem.W.codeIn K cd_42 "_law_ratio" = true)
    (k42 : PySem.W.keepIn K (.ref f_42) = true)
    (a43 : PySem.W.nsIn K mainGlobals "_law_ratios" = some (some (.ref f_43)))
    (l43 : K.lookup f_43 = some ⟨oc_43, od_43, .func (PySem.W.fnOf "_law_ratios" "_law_ratios" (defArgs s_law_ratios) (defBody s_law_ratios) (defScope s_law_ratios) .none kV_43 dc_43 pm_43 an_43 cd_43 ct_43), sl_43⟩)
    (c43 : PySem.W.codeIn K cd_43 "_law_ratios" = true)
    (k43 : PySem.W.keepIn K (.ref f_43) = true)
    (a44 : PySem.W.nsIn K mainGlobals "_law_stretched" = some (some (.ref f_44)))
    (l44 : K.lookup f_44 = some ⟨oc_44, od_44, .func (PySem.W.fnOf "_law_stretched" "_law_stretched" (defArgs s_law_stretched) (defBody s_law_stretched) (defScope s_law_stretched) .none kV_44 dc_44 pm_44 an_44 cd_44 ct_44), sl_44⟩)
    (c44 : PySem.W.codeIn K cd_44 "_law_stretched" = true)
    (k44 : PySem.W.keepIn K (.ref f_44) = true)
    (a45 : PySem.W.nsIn K mainGlobals "_law_twofold" = some (some (.ref f_45)))
    (l45 : K.lookup f_45 = some ⟨oc_45, od_45, .func (PySem.W.fnOf "_law_twofold" "_law_twofold" (defArgs s_law_twofold) (defBody s_law_twofold) (defScope s_law_twofold) .none kV_45 dc_45 pm_45 an_45 cd_45 ct_45), sl_45⟩)
    (c45 : PySem.W.codeIn K cd_45 "_law_twofold" = true)
    (k45 : PySem.W.keepIn K (.ref f_45) = true)
    (a46 : PySem.W.nsIn K mainGlobals "law" = some (some (.ref f_46)))
    (l46 : K.lookup f_46 = some ⟨oc_46, od_46, .func (PySem.W.fnOf "law" "law" (defArgs s_law) (defBody s_law) (defScope s_law) .none kV_46 dc_46 pm_46 an_46 cd_46 ct_46), sl_46⟩)
    (c46 : PySem.W.codeIn K cd_46 "law" = true)
    (k46 : PySem.W.keepIn K (.ref f_46) = true)
    (z_min : PySem.W.nsIn K mainGlobals "min" = some none)
    (z_max : PySem.W.nsIn K mainGlobals "max" = some none)
    (z_sorted : PySem.W.nsIn K mainGlobals "sorted" = some none)
    (z_range : PySem.W.nsIn K mainGlobals "range" = some none)
    (z_abs : PySem.W.nsIn K mainGlobals "abs" = some none)
    (z_len : PySem.W.nsIn K mainGlobals "len" = some none)
    (z_isinstance : PySem.W.nsIn K mainGlobals "isinstance" = some none)
    (z_int : PySem.W.nsIn K mainGlobals "int" = some none)
    (z_bool : PySem.W.nsIn K mainGlobals "bool" = some none)
    (z_tuple : PySem.W.nsIn K mainGlobals "tuple" = some none)
    (z_list : PySem.W.nsIn K mainGlobals "list" = some none)
    (z_dict : PySem.W.nsIn K mainGlobals "dict" = some none)
    (ca_NoRope : PySem.W.nsIn K mainGlobals "NoRope" = some (some (.ref C_NoRope)))
    (cx_NoRope : PySem.W.excIn K C_NoRope [.type "ValueError", .type "Exception", .type "BaseException", .type "object"] "ValueError.__new__" = true)
    (ck_NoRope : PySem.W.keepIn K (.ref C_NoRope) = true)
    (cb_NoRope : PySem.W.subIn K (.ref C_NoRope) (.type "BaseException") = some true)
    (ct_NoRope : PySem.W.typeIn K (.ref C_NoRope) = some (.type "type"))
    (ci_NoRope : PySem.W.isClsIn K C_NoRope = true)
    (cz_NoRope : PySem.W.subIn K (.ref C_NoRope) (.ref C_NoRope) = some true)
    (ca_NoFraction : PySem.W.nsIn K mainGlobals "NoFraction" = some (some (.ref C_NoFraction)))
    (cx_NoFraction : PySem.W.excIn K C_NoFraction [.type "ValueError", .type "Exception", .type "BaseException", .type "object"] "ValueError.__new__" = true)
    (ck_NoFraction : PySem.W.keepIn K (.ref C_NoFraction) = true)
    (cb_NoFraction : PySem.W.subIn K (.ref C_NoFraction) (.type "BaseException") = some true)
    (ct_NoFraction : PySem.W.typeIn K (.ref C_NoFraction) = some (.type "type"))
    (ci_NoFraction : PySem.W.isClsIn K C_NoFraction = true)
    (cz_NoFraction : PySem.W.subIn K (.ref C_NoFraction) (.ref C_NoFraction) = some true)
    (ca_NoPost : PySem.W.nsIn K mainGlobals "NoPost" = some (some (.ref C_NoPost)))
    (cx_NoPost : PySem.W.excIn K C_NoPost [.type "ValueError", .type "Exception", .type "BaseException", .type "object"] "ValueError.__new__" = true)
    (ck_NoPost : PySem.W.keepIn K (.ref C_NoPost) = true)
    (cb_NoPost : PySem.W.subIn K (.ref C_NoPost) (.type "BaseException") = some true)
    (ct_NoPost : PySem.W.typeIn K (.ref C_NoPost) = some (.type "type"))
    (ci_NoPost : PySem.W.isClsIn K C_NoPost = true)
    (cz_NoPost : PySem.W.subIn K (.ref C_NoPost) (.ref C_NoPost) = some true)
    (ga_ONE : PySem.W.nsIn K mainGlobals "ONE" = some (some (.ref c_ONE)))
    (gl_ONE : K.lookup c_ONE = some o_ONE)
    (gf_ONE : o_ONE.cls = .type "tuple" ∧ o_ONE.data = .seq its_ONE nn_ONE ∧ its_ONE.size ≤ sizeLine ∧ Vals [.int 1, .int 1] its_ONE.toList)
    (ga_NOUGHT : PySem.W.nsIn K mainGlobals "NOUGHT" = some (some (.ref c_NOUGHT)))
    (gl_NOUGHT : K.lookup c_NOUGHT = some o_NOUGHT)
    (gf_NOUGHT : o_NOUGHT.cls = .type "tuple" ∧ o_NOUGHT.data = .seq its_NOUGHT nn_NOUGHT ∧ its_NOUGHT.size ≤ sizeLine ∧ Vals [.int 0, .int 1] its_NOUGHT.toList) : Tx K mg :=
  { a_tie_of := f_0, fd_tie_of := _, F_tie_of := fun_mk (st := s_tie_of) l0 c0 k0, g_tie_of := PySem.W.mg_of X G a0, b_tie_of := (fun_mk (st := s_tie_of) l0 c0 k0).binds (ps := ["a", "b"]) fun _ _ _ _ _ _ us hl => match us, hl with | [_, _], _ => rfl,
    a_sides := f_1, fd_sides := _, F_sides := fun_mk (st := s_sides) l1 c1 k1, g_sides := PySem.W.mg_of X G a1, b_sides := (fun_mk (st := s_sides) l1 c1 k1).binds (ps := ["n"]) fun _ _ _ _ _ _ us hl => match us, hl with | [_], _ => rfl,
    a_ties := f_2, fd_ties := _, F_ties := fun_mk (st := s_ties) l2 c2 k2, g_ties := PySem.W.mg_of X G a2, b_ties := (fun_mk (st := s_ties) l2 c2 k2).binds (ps := ["n", "cut"]) fun _ _ _ _ _ _ us hl => match us, hl with | [_, _], _ => rfl,
    a_plots := f_3, fd_plots := _, F_plots := fun_mk (st := s_plots) l3 c3 k3, g_plots := PySem.W.mg_of X G a3, b_plots := (fun_mk (st := s_plots) l3 c3 k3).binds (ps := ["n", "cut"]) fun _ _ _ _ _ _ us hl => match us, hl with | [_, _], _ => rfl,
    a_beside := f_4, fd_beside := _, F_beside := fun_mk (st := s_beside) l4 c4 k4, g_beside := PySem.W.mg_of X G a4, b_beside := (fun_mk (st := s_beside) l4 c4 k4).binds (ps := ["n", "cut", "a", "b"]) fun _ _ _ _ _ _ us hl => match us, hl with | [_, _, _, _], _ => rfl,
    a_turned := f_5, fd_turned := _, F_turned := fun_mk (st := s_turned) l5 c5 k5, g_turned := PySem.W.mg_of X G a5, b_turned := (fun_mk (st := s_turned) l5 c5 k5).binds (ps := ["n", "cut", "a", "b"]) fun _ _ _ _ _ _ us hl => match us, hl with | [_, _, _, _], _ => rfl,
    a_measure := f_6, fd_measure := _, F_measure := fun_mk (st := s_measure) l6 c6 k6, g_measure := PySem.W.mg_of X G a6, b_measure := (fun_mk (st := s_measure) l6 c6 k6).binds (ps := ["one", "other"]) fun _ _ _ _ _ _ us hl => match us, hl with | [_, _], _ => rfl,
    a_lowest := f_7, fd_lowest := _, F_lowest := fun_mk (st := s_lowest) l7 c7 k7, g_lowest := PySem.W.mg_of X G a7, b_lowest := (fun_mk (st := s_lowest) l7 c7 k7).binds (ps := ["top", "bottom"]) fun _ _ _ _ _ _ us hl => match us, hl with | [_, _], _ => rfl,
    a_plus := f_8, fd_plus := _, F_plus := fun_mk (st := s_plus) l8 c8 k8, g_plus := PySem.W.mg_of X G a8, b_plus := (fun_mk (st := s_plus) l8 c8 k8).binds (ps := ["one", "other"]) fun _ _ _ _ _ _ us hl => match us, hl with | [_, _], _ => rfl,
    a_less := f_9, fd_less := _, F_less := fun_mk (st := s_less) l9 c9 k9, g_less := PySem.W.mg_of X G a9, b_less := (fun_mk (st := s_less) l9 c9 k9).binds (ps := ["one", "other"]) fun _ _ _ _ _ _ us hl => match us, hl with | [_, _], _ => rfl,
    a_times := f_10, fd_times := _, F_times := fun_mk (st := s_times) l10 c10 k10, g_times := PySem.W.mg_of X G a10, b_times := (fun_mk (st := s_times) l10 c10 k10).binds (ps := ["one", "other"]) fun _ _ _ _ _ _ us hl => match us, hl with | [_, _], _ => rfl,
    a_over := f_11, fd_over := _, F_over := fun_mk (st := s_over) l11 c11 k11, g_over := PySem.W.mg_of X G a11, b_over := (fun_mk (st := s_over) l11 c11 k11).binds (ps := ["one", "other"]) fun _ _ _ _ _ _ us hl => match us, hl with | [_, _], _ => rfl,
    a_ring_of := f_12, fd_ring_of := _, F_ring_of := fun_mk (st := s_ring_of) l12 c12 k12, g_ring_of := PySem.W.mg_of X G a12, b_ring_of := (fun_mk (st := s_ring_of) l12 c12 k12).binds (ps := ["n", "cut", "a", "b"]) fun _ _ _ _ _ _ us hl => match us, hl with | [_, _, _, _], _ => rfl,
    a_ratio := f_13, fd_ratio := _, F_ratio := fun_mk (st := s_ratio) l13 c13 k13, g_ratio := PySem.W.mg_of X G a13, b_ratio := (fun_mk (st := s_ratio) l13 c13 k13).binds (ps := ["n", "cut", "lengths", "a", "b"]) fun _ _ _ _ _ _ us hl => match us, hl with | [_, _, _, _, _], _ => rfl,
    a_ratios := f_14, fd_ratios := _, F_ratios := fun_mk (st := s_ratios) l14 c14 k14, g_ratios := PySem.W.mg_of X G a14, b_ratios := (fun_mk (st := s_ratios) l14 c14 k14).binds (ps := ["n", "cut", "lengths"]) fun _ _ _ _ _ _ us hl => match us, hl with | [_, _, _], _ => rfl,
    a_alike := f_15, fd_alike := _, F_alike := fun_mk (st := s_alike) l15 c15 k15, g_alike := PySem.W.mg_of X G a15, b_alike := (fun_mk (st := s_alike) l15 c15 k15).binds (ps := ["n", "cut", "one", "other"]) fun _ _ _ _ _ _ us hl => match us, hl with | [_, _, _, _], _ => rfl,
    a_growth := f_16, fd_growth := _, F_growth := fun_mk (st := s_growth) l16 c16 k16, g_growth := PySem.W.mg_of X G a16, b_growth := (fun_mk (st := s_growth) l16 c16 k16).binds (ps := ["one", "other", "a", "b"]) fun _ _ _ _ _ _ us hl => match us, hl with | [_, _, _, _], _ => rfl,
    a_stretches := f_17, fd_stretches := _, F_stretches := fun_mk (st := s_stretches) l17 c17 k17, g_stretches := PySem.W.mg_of X G a17, b_stretches := (fun_mk (st := s_stretches) l17 c17 k17).binds (ps := ["n", "cut", "one", "other"]) fun _ _ _ _ _ _ us hl => match us, hl with | [_, _, _, _], _ => rfl,
    a_two_posts := f_18, fd_two_posts := _, F_two_posts := fun_mk (st := s_two_posts) l18 c18 k18, g_two_posts := PySem.W.mg_of X G a18, b_two_posts := (fun_mk (st := s_two_posts) l18 c18 k18).binds (ps := ["n", "a", "b"]) fun _ _ _ _ _ _ us hl => match us, hl with | [_, _, _], _ => rfl,
    a_between := f_19, fd_between := _, F_between := fun_mk (st := s_between) l19 c19 k19, g_between := PySem.W.mg_of X G a19, b_between := (fun_mk (st := s_between) l19 c19 k19).binds (ps := ["lengths", "a", "b"]) fun _ _ _ _ _ _ us hl => match us, hl with | [_, _, _], _ => rfl,
    a_spread := f_20, fd_spread := _, F_spread := fun_mk (st := s_spread) l20 c20 k20, g_spread := PySem.W.mg_of X G a20, b_spread := (fun_mk (st := s_spread) l20 c20 k20).binds (ps := ["one", "other"]) fun _ _ _ _ _ _ us hl => match us, hl with | [_, _], _ => rfl,
    a_pair_mixed := f_21, fd_pair_mixed := _, F_pair_mixed := fun_mk (st := s_pair_mixed) l21 c21 k21, g_pair_mixed := PySem.W.mg_of X G a21, b_pair_mixed := (fun_mk (st := s_pair_mixed) l21 c21 k21).binds (ps := ["one", "part", "other", "share"]) fun _ _ _ _ _ _ us hl => match us, hl with | [_, _, _, _], _ => rfl,
    a_third := f_22, fd_third := _, F_third := fun_mk (st := s_third) l22 c22 k22, g_third := PySem.W.mg_of X G a22, b_third := (fun_mk (st := s_third) l22 c22 k22).binds (ps := ["lengths", "stood", "a", "b", "c"]) fun _ _ _ _ _ _ us hl => match us, hl with | [_, _, _, _, _], _ => rfl,
    a_stands := f_23, fd_stands := _, F_stands := fun_mk (st := s_stands) l23 c23 k23, g_stands := PySem.W.mg_of X G a23, b_stands := (fun_mk (st := s_stands) l23 c23 k23).binds (ps := ["n", "cut", "lengths"]) fun _ _ _ _ _ _ us hl => match us, hl with | [_, _, _], _ => rfl,
    a_measured := f_24, fd_measured := _, F_measured := fun_mk (st := s_measured) l24 c24 k24, g_measured := PySem.W.mg_of X G a24, b_measured := (fun_mk (st := s_measured) l24 c24 k24).binds (ps := ["n", "cut", "lengths", "a", "b"]) fun _ _ _ _ _ _ us hl => match us, hl with | [_, _, _, _, _], _ => rfl,
    a_laid := f_25, fd_laid := _, F_laid := fun_mk (st := s_laid) l25 c25 k25, g_laid := PySem.W.mg_of X G a25, b_laid := (fun_mk (st := s_laid) l25 c25 k25).binds (ps := ["n", "cut", "lengths", "a", "b"]) fun _ _ _ _ _ _ us hl => match us, hl with | [_, _, _, _, _], _ => rfl,
    a_law_flow := f_26, fd_law_flow := _, F_law_flow := fun_mk (st := s_law_flow) l26 c26 k26, g_law_flow := PySem.W.mg_of X G a26, b_law_flow := (fun_mk (st := s_law_flow) l26 c26 k26).binds (ps := ["_law_script", "_law_many"]) fun _ _ _ _ _ _ us hl => match us, hl with | [_, _], _ => rfl,
    a_law_whole := f_27, fd_law_whole := _, F_law_whole := fun_mk (st := s_law_whole) l27 c27 k27, g_law_whole := PySem.W.mg_of X G a27, b_law_whole := (fun_mk (st := s_law_whole) l27 c27 k27).binds (ps := ["_law_found"]) fun _ _ _ _ _ _ us hl => match us, hl with | [_], _ => rfl,
    a_law_low := f_28, fd_law_low := _, F_law_low := fun_mk (st := s_law_low) l28 c28 k28, g_law_low := PySem.W.mg_of X G a28, b_law_low := (fun_mk (st := s_law_low) l28 c28 k28).binds (ps := ["_law_top", "_law_bottom"]) fun _ _ _ _ _ _ us hl => match us, hl with | [_, _], _ => rfl,
    a_law_mul := f_29, fd_law_mul := _, F_law_mul := fun_mk (st := s_law_mul) l29 c29 k29, g_law_mul := PySem.W.mg_of X G a29, b_law_mul := (fun_mk (st := s_law_mul) l29 c29 k29).binds (ps := ["_law_one", "_law_other"]) fun _ _ _ _ _ _ us hl => match us, hl with | [_, _], _ => rfl,
    a_law_div := f_30, fd_law_div := _, F_law_div := fun_mk (st := s_law_div) l30 c30 k30, g_law_div := PySem.W.mg_of X G a30, b_law_div := (fun_mk (st := s_law_div) l30 c30 k30).binds (ps := ["_law_one", "_law_other"]) fun _ _ _ _ _ _ us hl => match us, hl with | [_, _], _ => rfl,
    a_law_part := f_31, fd_law_part := _, F_law_part := fun_mk (st := s_law_part) l31 c31 k31, g_law_part := PySem.W.mg_of X G a31, b_law_part := (fun_mk (st := s_law_part) l31 c31 k31).binds (ps := ["_law_found"]) fun _ _ _ _ _ _ us hl => match us, hl with | [_], _ => rfl,
    a_law_size := f_32, fd_law_size := _, F_law_size := fun_mk (st := s_law_size) l32 c32 k32, g_law_size := PySem.W.mg_of X G a32, b_law_size := (fun_mk (st := s_law_size) l32 c32 k32).binds (ps := ["_law_one"]) fun _ _ _ _ _ _ us hl => match us, hl with | [_], _ => rfl,
    a_law_pair := f_33, fd_law_pair := _, F_law_pair := fun_mk (st := s_law_pair) l33 c33 k33, g_law_pair := PySem.W.mg_of X G a33, b_law_pair := (fun_mk (st := s_law_pair) l33 c33 k33).binds (ps := ["_law_a", "_law_b"]) fun _ _ _ _ _ _ us hl => match us, hl with | [_, _], _ => rfl,
    a_law_ears := f_34, fd_law_ears := _, F_law_ears := fun_mk (st := s_law_ears) l34 c34 k34, g_law_ears := PySem.W.mg_of X G a34, b_law_ears := (fun_mk (st := s_law_ears) l34 c34 k34).binds (ps := ["_law_n", "_law_row"]) fun _ _ _ _ _ _ us hl => match us, hl with | [_, _], _ => rfl,
    a_law_ropes := f_35, fd_law_ropes := _, F_law_ropes := fun_mk (st := s_law_ropes) l35 c35 k35, g_law_ropes := PySem.W.mg_of X G a35, b_law_ropes := (fun_mk (st := s_law_ropes) l35 c35 k35).binds (ps := ["_law_ears_here"]) fun _ _ _ _ _ _ us hl => match us, hl with | [_], _ => rfl,
    a_law_sides := f_36, fd_law_sides := _, F_law_sides := fun_mk (st := s_law_sides) l36 c36 k36, g_law_sides := PySem.W.mg_of X G a36, b_law_sides := (fun_mk (st := s_law_sides) l36 c36 k36).binds (ps := ["_law_n"]) fun _ _ _ _ _ _ us hl => match us, hl with | [_], _ => rfl,
    a_law_ties := f_37, fd_law_ties := _, F_law_ties := fun_mk (st := s_law_ties) l37 c37 k37, g_law_ties := PySem.W.mg_of X G a37, b_law_ties := (fun_mk (st := s_law_ties) l37 c37 k37).binds (ps := ["_law_n", "_law_cut"]) fun _ _ _ _ _ _ us hl => match us, hl with | [_, _], _ => rfl,
    a_law_sized := f_38, fd_law_sized := _, F_law_sized := fun_mk (st := s_law_sized) l38 c38 k38, g_law_sized := PySem.W.mg_of X G a38, b_law_sized := (fun_mk (st := s_law_sized) l38 c38 k38).binds (ps := ["_law_all_ties", "_law_row"]) fun _ _ _ _ _ _ us hl => match us, hl with | [_, _], _ => rfl,
    a_law_beside := f_39, fd_law_beside := _, F_law_beside := fun_mk (st := s_law_beside) l39 c39 k39, g_law_beside := PySem.W.mg_of X G a39, b_law_beside := (fun_mk (st := s_law_beside) l39 c39 k39).binds (ps := ["_law_n", "_law_all_ties", "_law_a", "_law_b"]) fun _ _ _ _ _ _ us hl => match us, hl with | [_, _, _, _], _ => rfl,
    a_law_parts := f_40, fd_law_parts := _, F_law_parts := fun_mk (st := s_law_parts) l40 c40 k40, g_law_parts := PySem.W.mg_of X G a40, b_law_parts := (fun_mk (st := s_law_parts) l40 c40 k40).binds (ps := ["_law_found", "_law_due"]) fun _ _ _ _ _ _ us hl => match us, hl with | [_, _], _ => rfl,
    a_law_ring := f_41, fd_law_ring := _, F_law_ring := fun_mk (st := s_law_ring) l41 c41 k41, g_law_ring := PySem.W.mg_of X G a41, b_law_ring := (fun_mk (st := s_law_ring) l41 c41 k41).binds (ps := ["_law_n", "_law_cut", "_law_rope"]) fun _ _ _ _ _ _ us hl => match us, hl with | [_, _, _], _ => rfl,
    a_law_ratio := f_42, fd_law_ratio := _, F_law_ratio := fun_mk (st := s_law_ratio) l42 c42 k42, g_law_ratio := PySem.W.mg_of X G a42, b_law_ratio := (fun_mk (st := s_law_ratio) l42 c42 k42).binds (ps := ["_law_n", "_law_cut", "_law_sized_here", "_law_rope"]) fun _ _ _ _ _ _ us hl => match us, hl with | [_, _, _, _], _ => rfl,
    a_law_ratios := f_43, fd_law_ratios := _, F_law_ratios := fun_mk (st := s_law_ratios) l43 c43 k43, g_law_ratios := PySem.W.mg_of X G a43, b_law_ratios := (fun_mk (st := s_law_ratios) l43 c43 k43).binds (ps := ["_law_n", "_law_cut", "_law_sized_here"]) fun _ _ _ _ _ _ us hl => match us, hl with | [_, _, _], _ => rfl,
    a_law_stretched := f_44, fd_law_stretched := _, F_law_stretched := fun_mk (st := s_law_stretched) l44 c44 k44, g_law_stretched := PySem.W.mg_of X G a44, b_law_stretched := (fun_mk (st := s_law_stretched) l44 c44 k44).binds (ps := ["_law_sized_here", "_law_post", "_law_factor"]) fun _ _ _ _ _ _ us hl => match us, hl with | [_, _, _], _ => rfl,
    a_law_twofold := f_45, fd_law_twofold := _, F_law_twofold := fun_mk (st := s_law_twofold) l45 c45 k45, g_law_twofold := PySem.W.mg_of X G a45, b_law_twofold := (fun_mk (st := s_law_twofold) l45 c45 k45).binds (ps := ["_law_n", "_law_sized_here", "_law_row", "_law_way"]) fun _ _ _ _ _ _ us hl => match us, hl with | [_, _, _, _], _ => rfl,
    a_law := f_46, fd_law := _, F_law := fun_mk (st := s_law) l46 c46 k46, g_law := PySem.W.mg_of X G a46, b_law := (fun_mk (st := s_law) l46 c46 k46).binds (ps := ["_law_script"]) fun _ _ _ _ _ _ us hl => match us, hl with | [_], _ => rfl,
    m_min := PySem.W.mg_none_of X G z_min,
    m_max := PySem.W.mg_none_of X G z_max,
    m_sorted := PySem.W.mg_none_of X G z_sorted,
    m_range := PySem.W.mg_none_of X G z_range,
    m_abs := PySem.W.mg_none_of X G z_abs,
    m_len := PySem.W.mg_none_of X G z_len,
    m_isinstance := PySem.W.mg_none_of X G z_isinstance,
    m_int := PySem.W.mg_none_of X G z_int,
    m_bool := PySem.W.mg_none_of X G z_bool,
    m_tuple := PySem.W.mg_none_of X G z_tuple,
    m_list := PySem.W.mg_none_of X G z_list,
    m_dict := PySem.W.mg_none_of X G z_dict,
    c_NoRope := C_NoRope, g_NoRope := PySem.W.mg_of X G ca_NoRope, x_NoRope := cx_NoRope, k_NoRope := ck_NoRope, b_NoRope := cb_NoRope, t_NoRope := ct_NoRope, i_NoRope := ci_NoRope, z_NoRope := cz_NoRope,
    c_NoFraction := C_NoFraction, g_NoFraction := PySem.W.mg_of X G ca_NoFraction, x_NoFraction := cx_NoFraction, k_NoFraction := ck_NoFraction, b_NoFraction := cb_NoFraction, t_NoFraction := ct_NoFraction, i_NoFraction := ci_NoFraction, z_NoFraction := cz_NoFraction,
    c_NoPost := C_NoPost, g_NoPost := PySem.W.mg_of X G ca_NoPost, x_NoPost := cx_NoPost, k_NoPost := ck_NoPost, b_NoPost := cb_NoPost, t_NoPost := ct_NoPost, i_NoPost := ci_NoPost, z_NoPost := cz_NoPost,
    c_ONE := c_ONE, g_ONE := PySem.W.mg_of X G ga_ONE, r_ONE := rfl, v_ONE := fun _ => .inr ⟨_, _, _, gl_ONE, gf_ONE⟩,
    c_NOUGHT := c_NOUGHT, g_NOUGHT := PySem.W.mg_of X G ga_NOUGHT, r_NOUGHT := rfl, v_NOUGHT := fun _ => .inr ⟨_, _, _, gl_NOUGHT, gf_NOUGHT⟩ }
theorem all_mk {l : PySem.W.OpenLaw} {w : World} {K : PySem.W.Frag} {mg : Str → Option Value} {fa : Addr} (hfa : mg "law" = some (.ref fa)) (T : Tx K mg) :
    ∃ fd : FuncData, (∀ (s : Shared) (v : Value), BindsTo s fd ⟨[v], []⟩ [("_law_script", v)]) ∧ ∀ base : Heap, K.In base → base.Ns mainGlobals mg → FnOk l.prog w K mg base CX0 10 fa fd ["_law_script"] (spLaw K) := by
  have e := hfa.symm.trans T.g_law
  cases e
  refine ⟨T.fd_law, fun s v => ?_, fun base _ _ => ok_law T⟩
  obtain ⟨oc, od, kV, doc, pm, an, cdv, ct, osl, e, lk, hcd⟩ := T.F_law.ex
  rw [e]
  exact .of_eq rfl
end Pm
open PySem PySem.W PyProof.Rows
set_option maxHeartbeats 0 in
theorem PySem.Challenge.cw_postmead_k35_likeness_turned_holds : PySem.Challenge.rw_postmead_k35_likeness_turned.Holds := by
  w_on; o_law; k_head; (case hw => w_witness2)
  k_fill
  refine L2.walk_of (l := PySem.Challenge.rw_postmead_k35_likeness_turned) (n := 63) (k := 10) (x := "_law_script") (CX := fun _ => L2.CX0) (sp := fun w => Pm.spLaw _) rfl (by decide) rfl ⟨rfl, by decide, by decide⟩ (fun w h Y => PySem.W.kIn_of Y) ?F (fun _ _ a ns hl _ hS => ⟨a, ns, rfl, hS, hl, fun _ => rfl⟩) (fun _ _ _ _ _ h => h)
  case F =>
    intro w mg fa h KX G hmg
    refine' Pm.all_mk hmg (Pm.tx_mk KX G ?a0 ?l0 ?c0 ?k0 ?a1 ?l1 ?c1 ?k1 ?a2 ?l2 ?c2 ?k2 ?a3 ?l3 ?c3 ?k3 ?a4 ?l4 ?c4 ?k4 ?a5 ?l5 ?c5 ?k5 ?a6 ?l6 ?c6 ?k6 ?a7 ?l7 ?c7 ?k7 ?a8 ?l8 ?c8 ?k8 ?a9 ?l9 ?c9 ?k9 ?a10 ?l10 ?c10 ?k10 ?a11 ?l11 ?c11 ?k11 ?a12 ?l12 ?c12 ?k12 ?a13 ?l13 ?c13 ?k13 ?a14 ?l14 ?c14 ?k14 ?a15 ?l15 ?c15 ?k15 ?a16 ?l16 ?c16 ?k16 ?a17 ?l17 ?c17 ?k17 ?a18 ?l18 ?c18 ?k18 ?a19 ?l19 ?c19 ?k19 ?a20 ?l20 ?c20 ?k20 ?a21 ?l21 ?c21 ?k21 ?a22 ?l22 ?c22 ?k22 ?a23 ?l23 ?c23 ?k23 ?a24 ?l24 ?c24 ?k24 ?a25 ?l25 ?c25 ?k25 ?a26 ?l26 ?c26 ?k26 ?a27 ?l27 ?c27 ?k27 ?a28 ?l28 ?c28 ?k28 ?a29 ?l29 ?c29 ?k29 ?a30 ?l30 ?c30 ?k30 ?a31 ?l31 ?c31 ?k31 ?a32 ?l32 ?c32 ?k32 ?a33 ?l33 ?c33 ?k33 ?a34 ?l34 ?c34 ?k34 ?a35 ?l35 ?c35 ?k35 ?a36 ?l36 ?c36 ?k36 ?a37 ?l37 ?c37 ?k37 ?a38 ?l38 ?c38 ?k38 ?a39 ?l39 ?c39 ?k39 ?a40 ?l40 ?c40 ?k40 ?a41 ?l41 ?c41 ?k41 ?a42 ?l42 ?c42 ?k42 ?a43 ?l43 ?c43 ?k43 ?a44 ?l44 ?c44 ?k44 ?a45 ?l45 ?c45 ?k45 ?a46 ?l46 ?c46 ?k46 ?z_min ?z_max ?z_sorted ?z_range ?z_abs ?z_len ?z_isinstance ?z_int ?z_bool ?z_tuple ?z_list ?z_dict ?ca_NoRope ?cx_NoRope ?ck_NoRope ?cb_NoRope ?ct_NoRope ?ci_NoRope ?cz_NoRope ?ca_NoFraction ?cx_NoFraction ?ck_NoFraction ?cb_NoFraction ?ct_NoFraction ?ci_NoFraction ?cz_NoFraction ?ca_NoPost ?cx_NoPost ?ck_NoPost ?cb_NoPost ?ct_NoPost ?ci_NoPost ?cz_NoPost ?ga_ONE ?gl_ONE ?gf_ONE ?ga_NOUGHT ?gl_NOUGHT ?gf_NOUGHT)
    (case a0 => k_is)
    (case l0 => k_is)
    (case c0 => k_is)
    (case k0 => k_is)
    (case a1 => k_is)
    (case l1 => k_is)
    (case c1 => k_is)
    (case k1 => k_is)
    (case a2 => k_is)
    (case l2 => k_is)
    (case c2 => k_is)
    (case k2 => k_is)
    (case a3 => k_is)
    (case l3 => k_is)
    (case c3 => k_is)
    (case k3 => k_is)
    (case a4 => k_is)
    (case l4 => k_is)
    (case c4 => k_is)
    (case k4 => k_is)
    (case a5 => k_is)
    (case l5 => k_is)
    (case c5 => k_is)
    (case k5 => k_is)
    (case a6 => k_is)
    (case l6 => k_is)
    (case c6 => k_is)
    (case k6 => k_is)
    (case a7 => k_is)
    (case l7 => k_is)
    (case c7 => k_is)
    (case k7 => k_is)
    (case a8 => k_is)
    (case l8 => k_is)
    (case c8 => k_is)
    (case k8 => k_is)
    (case a9 => k_is)
    (case l9 => k_is)
    (case c9 => k_is)
    (case k9 => k_is)
    (case a10 => k_is)
    (case l10 => k_is)
    (case c10 => k_is)
    (case k10 => k_is)
    (case a11 => k_is)
    (case l11 => k_is)
    (case c11 => k_is)
    (case k11 => k_is)
    (case a12 => k_is)
    (case l12 => k_is)
    (case c12 => k_is)
    (case k12 => k_is)
    (case a13 => k_is)
    (case l13 => k_is)
    (case c13 => k_is)
    (case k13 => k_is)
    (case a14 => k_is)
    (case l14 => k_is)
    (case c14 => k_is)
    (case k14 => k_is)
    (case a15 => k_is)
    (case l15 => k_is)
    (case c15 => k_is)
    (case k15 => k_is)
    (case a16 => k_is)
    (case l16 => k_is)
    (case c16 => k_is)
    (case k16 => k_is)
    (case a17 => k_is)
    (case l17 => k_is)
    (case c17 => k_is)
    (case k17 => k_is)
    (case a18 => k_is)
    (case l18 => k_is)
    (case c18 => k_is)
    (case k18 => k_is)
    (case a19 => k_is)
    (case l19 => k_is)
    (case c19 => k_is)
    (case k19 => k_is)
    (case a20 => k_is)
    (case l20 => k_is)
    (case c20 => k_is)
    (case k20 => k_is)
    (case a21 => k_is)
    (case l21 => k_is)
    (case c21 => k_is)
    (case k21 => k_is)
    (case a22 => k_is)
    (case l22 => k_is)
    (case c22 => k_is)
    (case k22 => k_is)
    (case a23 => k_is)
    (case l23 => k_is)
    (case c23 => k_is)
    (case k23 => k_is)
    (case a24 => k_is)
    (case l24 => k_is)
    (case c24 => k_is)
    (case k24 => k_is)
    (case a25 => k_is)
    (case l25 => k_is)
    (case c25 => k_is)
    (case k25 => k_is)
    (case a26 => k_is)
    (case l26 => k_is)
    (case c26 => k_is)
    (case k26 => k_is)
    (case a27 => k_is)
    (case l27 => k_is)
    (case c27 => k_is)
    (case k27 => k_is)
    (case a28 => k_is)
    (case l28 => k_is)
    (case c28 => k_is)
    (case k28 => k_is)
    (case a29 => k_is)
    (case l29 => k_is)
    (case c29 => k_is)
    (case k29 => k_is)
    (case a30 => k_is)
    (case l30 => k_is)
    (case c30 => k_is)
    (case k30 => k_is)
    (case a31 => k_is)
    (case l31 => k_is)
    (case c31 => k_is)
    (case k31 => k_is)
    (case a32 => k_is)
    (case l32 => k_is)
    (case c32 => k_is)
    (case k32 => k_is)
    (case a33 => k_is)
    (case l33 => k_is)
    (case c33 => k_is)
    (case k33 => k_is)
    (case a34 => k_is)
    (case l34 => k_is)
    (case c34 => k_is)
    (case k34 => k_is)
    (case a35 => k_is)
    (case l35 => k_is)
    (case c35 => k_is)
    (case k35 => k_is)
    (case a36 => k_is)
    (case l36 => k_is)
    (case c36 => k_is)
    (case k36 => k_is)
    (case a37 => k_is)
    (case l37 => k_is)
    (case c37 => k_is)
    (case k37 => k_is)
    (case a38 => k_is)
    (case l38 => k_is)
    (case c38 => k_is)
    (case k38 => k_is)
    (case a39 => k_is)
    (case l39 => k_is)
    (case c39 => k_is)
    (case k39 => k_is)
    (case a40 => k_is)
    (case l40 => k_is)
    (case c40 => k_is)
    (case k40 => k_is)
    (case a41 => k_is)
    (case l41 => k_is)
    (case c41 => k_is)
    (case k41 => k_is)
    (case a42 => k_is)
    (case l42 => k_is)
    (case c42 => k_is)
    (case k42 => k_is)
    (case a43 => k_is)
    (case l43 => k_is)
    (case c43 => k_is)
    (case k43 => k_is)
    (case a44 => k_is)
    (case l44 => k_is)
    (case c44 => k_is)
    (case k44 => k_is)
    (case a45 => k_is)
    (case l45 => k_is)
    (case c45 => k_is)
    (case k45 => k_is)
    (case a46 => k_is)
    (case l46 => k_is)
    (case c46 => k_is)
    (case k46 => k_is)
    (case z_min => k_is)
    (case z_max => k_is)
    (case z_sorted => k_is)
    (case z_range => k_is)
    (case z_abs => k_is)
    (case z_len => k_is)
    (case z_isinstance => k_is)
    (case z_int => k_is)
    (case z_bool => k_is)
    (case z_tuple => k_is)
    (case z_list => k_is)
    (case z_dict => k_is)
    (case ca_NoRope => k_is)
    (case cx_NoRope => first | k_exc | k_is)
    (case ck_NoRope => k_is)
    (case cb_NoRope => k_is)
    (case ct_NoRope => k_is)
    (case ci_NoRope => k_is)
    (case cz_NoRope => first | rfl | k_is)
    (case ca_NoFraction => k_is)
    (case cx_NoFraction => first | k_exc | k_is)
    (case ck_NoFraction => k_is)
    (case cb_NoFraction => k_is)
    (case ct_NoFraction => k_is)
    (case ci_NoFraction => k_is)
    (case cz_NoFraction => first | rfl | k_is)
    (case ca_NoPost => k_is)
    (case cx_NoPost => first | k_exc | k_is)
    (case ck_NoPost => k_is)
    (case cb_NoPost => k_is)
    (case ct_NoPost => k_is)
    (case ci_NoPost => k_is)
    (case cz_NoPost => first | rfl | k_is)
    (case ga_ONE => k_is)
    (case gl_ONE => k_is)
    (case gf_ONE => exact ⟨rfl, rfl, by decide +kernel, .cons ⟨_, rfl⟩ (.cons ⟨_, rfl⟩ (.nil))⟩)
    (case ga_NOUGHT => k_is)
    (case gl_NOUGHT => k_is)
    (case gf_NOUGHT => exact ⟨rfl, rfl, by decide +kernel, .cons ⟨_, rfl⟩ (.cons ⟨_, rfl⟩ (.nil))⟩)
#print axioms PySem.Challenge.cw_postmead_k35_likeness_turned_holds
