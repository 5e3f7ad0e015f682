import PyProof.Rows.All
import HandS.DictTup
import HandS.TupLen
import KE.KDictWalk
import KE.KDictCopyH
import KE.KDictOf
import HandS.Style
import HandS.SortInts
import HandS.TryMany
import HandS.CallSlots
import Wide.All
import OpenK.AllK
import Wide.FinOn
import PySem.Challenge.RW_postmead_k39_posts_set_out
import HandS.ForMost
import HandS.ForExc
import HandS.IsInst
import HandS.Deep
import HandS.Codes
import HandS.SortRule
import HandS.Wide
import HandS.ExcIs
import HandS.TryOnly
import HandS.TupLe
set_option exponentiation.threshold 2000
set_option Elab.async false
set_option linter.all false
set_option maxRecDepth 100000
set_option maxHeartbeats 4000000
/-! ### readings, step by step: one lemma a construct, for the first row of a goal -/
namespace Pm
open PySem PySem.Spec PyProof.Rows L2
theorem size_ok {n : Nat} (h : n ≤ 16777216) : n ≤ sizeLine := by rw [sizeLine_eq]; exact h
theorem size_lt {n : Nat} (h : n < 16777216) : n < sizeLine := by rw [sizeLine_eq]; exact h
/-! the rules over the written part K, by its name -/
section
variable {X : Cx} {K : PySem.W.Frag}
theorem ix_listK (e : X.K = K := by rfl) : IxR X (rIxL K) := e ▸ ix_list
theorem ix_tupK (e : X.K = K := by rfl) : IxR X (rIxT K) := e ▸ ix_tup
theorem sl_listK (e : X.K = K := by rfl) : SlR X (rSlL K) := e ▸ sl_list
theorem op_eqDK (hu : X.A.units + 64 < cLine) (e : X.K = K := by rfl) : OpR X (compareOp .Eq) (rEqD K) := e ▸ op_eqD hu
theorem op_neDK (hu : X.A.units + 64 < cLine) (e : X.K = K := by rfl) : OpR X (compareOp .NotEq) (rNeD K) := e ▸ op_neD hu
theorem op_inDK (hu : X.A.units + 65 < cLine) (e : X.K = K := by rfl) : OpR X (compareOp .In) (rInD K) := e ▸ op_inD hu
theorem op_notInDK (hu : X.A.units + 65 < cLine) (e : X.K = K := by rfl) : OpR X (compareOp .NotIn) (rNotInD K) := e ▸ op_notInD hu
theorem op_in_seqK (e : X.K = K := by rfl) : OpR X (compareOp .In) (rIn K false) := e ▸ op_in_seq
theorem op_notIn_seqK (e : X.K = K := by rfl) : OpR X (compareOp .NotIn) (rIn K true) := e ▸ op_notIn_seq
theorem cr_sumK (hc : X.calm = true) (e : X.K = K := by rfl) : CallR X (.builtin "sum") (rSum K) := e ▸ cr_sum hc
theorem cr_sortK (e : X.K = K := by rfl) : CallR X (.builtin "sorted") (rSortedPO K) := e ▸ cr_sortedPO
theorem call_isK (e : X.K = K := by rfl) : CallR X (.builtin "isinstance") (rIsi K) := e ▸ call_isi
theorem k_bm {ex : Expr} {T : String} {r : V → List V → Hp → VK → Prop} {to : TE} {t : TA} (h : PE X ex (tBM X.K T r to t)) (e : X.K = K := by rfl) : PE X ex (tBM K T r to t) := e ▸ h
theorem k_bm0 {ex : Expr} {T : String} {r : V → List V → Hp → VK → Prop} {to : TE} (h : PE X ex (tBM0 X.K T r to)) (e : X.K = K := by rfl) : PE X ex (tBM0 K T r to) := e ▸ h
theorem k_il {tg ex : Expr} {te : TE} (h : PI X tg ex (iList X.K te)) (e : X.K = K := by rfl) : PI X tg ex (iList K te) := e ▸ h
theorem k_it {tg ex : Expr} {te : TE} (h : PI X tg ex (iTup X.K te)) (e : X.K = K := by rfl) : PI X tg ex (iTup K te) := e ▸ h
theorem k_gt {tg : Expr} {n : Nat} {t : TGs} (h : PG X tg (gTup X.K n t)) (e : X.K = K := by rfl) : PG X tg (gTup K n t) := e ▸ h
end
/-- a op1 b op2 c op3 d -/
def tChain3 (r r' r'' : R2) (ta tb tc td : TE) : TE := fun σ H Q => ta σ H fun x H1 => tb σ H1 fun y H2 => r x y H2 fun z H3 => ∃ k, z = .bl k ∧
  (if k = true then tc σ H3 fun w' H4 => r' y w' H4 fun z' H5 => ∃ k', z' = .bl k' ∧ (if k' = true then td σ H5 fun v' H6 => r'' w' v' H6 Q else Q (.bl false) H5) else Q (.bl false) H3)
section
variable {X : Cx} {a b c d : Expr} {ta tb tc td : TE} {pos : Pos}
theorem pt_chain3 {op op' op'' : CmpOp} {r r' r'' : R2} (ho : OpR X (compareOp op) r) (ho' : OpR X (compareOp op') r') (ho'' : OpR X (compareOp op'') r'') (ha : PE X a ta) (hb : PE X b tb) (hc : PE X c tc) (hd : PE X d td)
    (hm : lastMarks [op, op', op''] [b, c, d] = false := by with_unfolding_all rfl) : PT X (.Compare a [op, op', op''] [b, c, d] pos) (tTest (tChain3 r r' r'' ta tb tc td)) := by
  refine ⟨fun pins s σ H Q I h => ?_⟩
  refine isTrue_chain (thn (ha.run pins s σ H _ I h) fun v s1 ⟨x, H1, I1, r1, q1⟩ => test_link (thn (hb.run pins s1 σ H1 _ I1 q1) fun u s2 ⟨y, H2, I2, r2, q2⟩ =>
    thn (ho pins s2 σ H2 x y v u _ I2 r1 r2 q2) fun e s3 ⟨z, H3, I3, r3, k, e', q3⟩ => ?_)) hm
  subst e'
  cases r3
  refine wpAny_truthy_bool ?_
  cases k with
  | false =>
    obtain ⟨k', e', q'⟩ := q3
    cases e'
    exact ite_ff ⟨H3, I3, q'⟩
  | true =>
    refine ite_tt (test_link (thn (hc.run pins s3 σ H3 _ I3 q3) fun w' s4 ⟨z', H4, I4, r4, q4⟩ => thn (ho' pins s4 σ H4 y z' u w' _ I4 r2 r4 q4) fun d' s5 ⟨z2, H5, I5, r5, k2, e2, q5⟩ => ?_))
    subst e2
    cases r5
    refine wpAny_truthy_bool ?_
    cases k2 with
    | false =>
      obtain ⟨k', e', q'⟩ := q5
      cases e'
      exact ite_ff ⟨H5, I5, q'⟩
    | true =>
      refine ite_tt (test_last (thn (hd.run pins s5 σ H5 _ I5 q5) fun v' s6 ⟨z6, H6, I6, r6, q6⟩ => thn (ho'' pins s6 σ H6 z' z6 w' v' _ I6 r4 r6 q6) fun d7 s7 ⟨z7, H7, I7, r7, k7, e7, q7⟩ => ?_))
      subst e7
      cases r7
      exact wpAny_truthy_bool ⟨H7, I7, q7⟩
end
/-! the rules of some calls, by a name -/
def rAbs : List V → Hp → VK → Prop := fun xs H Q => ∃ i, xs = [.int i] ∧ Q (.int (if i < 0 then -i else i)) H
theorem c_abs {X : Cx} : CallR X (.builtin "abs") rAbs := call_abs
def rMax2 : List V → Hp → VK → Prop := fun xs H Q => ∃ i j, xs = [.int i, .int j] ∧ Q (.int (if j > i then j else i)) H
theorem c_max {X : Cx} (hc : X.calm = true) : CallR X (.builtin "max") rMax2 := call_max2 hc
def rMin2 : List V → Hp → VK → Prop := fun xs H Q => ∃ i j, xs = [.int i, .int j] ∧ Q (.int (if j < i then j else i)) H
theorem c_min {X : Cx} (hc : X.calm = true) : CallR X (.builtin "min") rMin2 := call_min2 hc
def rLen (K : PySem.W.Frag) : List V → Hp → VK → Prop := fun xs H Q => ∃ p ys, xs = [.ref p] ∧ (SqL K H p ys ∨ SqT K H p ys) ∧ Q (.int ys.length) H
theorem c_len {X : Cx} {K : PySem.W.Frag} (e : X.K = K := by rfl) : CallR X (.builtin "len") (rLen K) := e ▸ call_len_seq
def rLenS : List V → Hp → VK → Prop := fun xs H Q => ∃ z : Str, xs = [.str z] ∧ z.length ≤ sizeLine ∧ Q (.int z.length) H
theorem c_lenS {X : Cx} : CallR X (.builtin "len") rLenS := call_len_str
def rInt1 : List V → Hp → VK → Prop := fun xs H Q => (∃ i, xs = [.int i] ∧ Q (.int i) H) ∨ ∃ k, xs = [.bl k] ∧ Q (.int (if k then 1 else 0)) H
theorem c_int1 {X : Cx} : CallR X (.type "int") rInt1 := call_int1
def rListOf (K : PySem.W.Frag) : List V → Hp → VK → Prop := fun xs H Q => ∃ p ys, xs = [.ref p] ∧ (SqL K H p ys ∨ SqT K H p ys) ∧ ∀ l, H l = none → Q (.ref l) (upd H l (.lst ys))
theorem c_listOf {X : Cx} {K : PySem.W.Frag} (e : X.K = K := by rfl) : CallR X (.type "list") (rListOf K) := e ▸ call_list_of
def rTupOf (K : PySem.W.Frag) : List V → Hp → VK → Prop := fun xs H Q => ∃ p ys, xs = [.ref p] ∧ ((SqL K H p ys ∧ ∀ l, H l = none → Q (.ref l) (upd H l (.tup ys))) ∨ (SqT K H p ys ∧ Q (.ref p) H))
theorem c_tupOf {X : Cx} {K : PySem.W.Frag} (e : X.K = K := by rfl) : CallR X (.type "tuple") (rTupOf K) := e ▸ call_tuple_of
def rCatS : R2 := fun x y H Q => ∃ i j, x = .str i ∧ y = .str j ∧ i.length + j.length ≤ sizeLine ∧ Q (.str (i ++ j)) H
theorem o_catS {X : Cx} : OpR X (binaryOp .Add) rCatS := op_add_str
def TupK (Q : VK) : List V → Hp → Prop := fun xs H1 => xs.length ≤ sizeLine ∧ ∀ p, H1 p = none → Q (.ref p) (upd H1 p (.tup xs))
def LstK (Q : VK) : List V → Hp → Prop := fun xs H1 => xs.length ≤ sizeLine ∧ ∀ p, H1 p = none → Q (.ref p) (upd H1 p (.lst xs))
/-- isinstance(e, c) of the exception at a that an except suite holds (its class cls, its dict d) -/
def rIsX (K : PySem.W.Frag) (cls : Value) (d : Option Addr) (a : Addr) : List V → Hp → VK → Prop := fun xs H Q => ∃ (D : Addr) (c : V) (cv : Value) (b : Bool), cls = .ref D ∧ d = none ∧ ExcC K D ∧ xs = [.ref a, c] ∧ (∀ u, RelV c u → u = cv) ∧ PySem.W.kitOne K (.ref D) cv = some b ∧ Q (.bl b) H
theorem c_isX {X : Cx} {K : PySem.W.Frag} {a : Addr} {oe : Obj} {cls : Value} {d : Option Addr} {pn : List (Addr × Obj)} (hz : Zc cls d oe) (hf : ∃ vs, oe.data = .fields vs) (e : X.K = K := by rfl) : CallR (X.suite a ((a, oe) :: pn)) (.builtin "isinstance") (rIsX K cls d a) := by
  subst e
  intro pins s σ H xs us Q I r h
  obtain ⟨D, c, cv, b, rfl, rfl, C, ex, hc, k, q⟩ := h
  exact call_isE C hz hf pins s σ H xs us Q I r ⟨c, cv, b, ex, hc, k, q⟩
/-- what is asked of a for's body, once what is walked is there -/
def ForB (g : TG) (t : TS) (nx : L2.St → Hp → Prop) (rt : VK) (σ : L2.St) : It → Hp → Prop := fun J H1 => ∃ W : Nat → Nat → L2.St → Hp → Prop, (∃ m, W 0 m σ H1) ∧ ∀ i m σ H, W i m σ H →
  (J.stop i H ∧ nx σ H) ∨ (J.go i H ∧ ∃ N : L2.St → Hp → Prop, (∀ σ' H', N σ' H' → ∃ m', m' < m ∧ W (i + 1) m' σ' H') ∧ ∀ x H', J.yld i H x H' → g x σ H' fun σ2 H2 => t ⟨N, rt, nx, N⟩ σ2 H2)
def WhB (t : TS) (nx : L2.St → Hp → Prop) (rt : VK) (Pv : Nat → L2.St → Hp → Prop) (m : Nat) (σ : L2.St) : Bool → Hp → Prop := fun b H1 => if b = true then ∃ N : L2.St → Hp → Prop, (∀ σ' H', N σ' H' → ∃ m', m' < m ∧ Pv m' σ' H') ∧ t ⟨N, rt, nx, N⟩ σ H1 else nx σ H1
def ParK (i j : Nat) (nx : L2.St → Hp → Prop) (σ : L2.St) : List V → Hp → Prop := fun vs H1 => ∃ v w, vs = [v, w] ∧ nx ((σ.set i (some v)).set j (some w)) H1
def PartK (O : Option Int → Hp → Prop) : VK := fun x H1 => ∃ i, x = .int i ∧ O (some i) H1
/-! dicts with keys that are tuples -/
def DPK (nx : L2.St → Hp → Prop) (σ : L2.St) (v x : V) : VK := fun y H3 => ∃ a H4, x = .ref a ∧ DPut H3 a y v H4 ∧ nx σ H4
def DInK (y : V) (Q : VK) : VK := fun x H2 => ∃ a o, x = .ref a ∧ DGet H2 a y o ∧ Q (.bl o.isSome) H2
def DNotInK (y : V) (Q : VK) : VK := fun x H2 => ∃ a o, x = .ref a ∧ DGet H2 a y o ∧ Q (.bl (!o.isSome)) H2
def DGK (x : V) (Q : VK) : VK := fun y H2 => ∃ a v, x = .ref a ∧ DGet H2 a y (some v) ∧ Q v H2
def RdL (K : PySem.W.Frag) (R : It → Hp → Prop) : VK := fun x H1 => ∃ a, x = .ref a ∧ (∃ xs, SqL K H1 a xs) ∧ R (Itl K a) H1
def RdT (K : PySem.W.Frag) (R : It → Hp → Prop) : VK := fun x H1 => ∃ a, x = .ref a ∧ (∃ xs, SqT K H1 a xs) ∧ R (Itt K a) H1
def Rg1 (R : It → Hp → Prop) : List V → Hp → Prop := fun vs H1 => ∃ j : Int, vs = [.int j] ∧ -(2 ^ 62) ≤ j ∧ j < 2 ^ 62 ∧ R (Itr 0 j.toNat) H1
def Rg2 (R : It → Hp → Prop) : List V → Hp → Prop := fun vs H1 => ∃ i j : Int, vs = [.int i, .int j] ∧ (-(2 ^ 62) ≤ i ∧ i < 2 ^ 62 ∧ -(2 ^ 62) ≤ j ∧ j < 2 ^ 62) ∧ R (Itr i (j - i).toNat) H1
/-- what is asked of a list comprehension, once what is walked is there -/
def LcB (g : TG) (tt : TT) (te : TE) (vs : List Nat) (σ : L2.St) (Q : VK) : It → Hp → Prop := fun J H1 => ∀ D, H1 D = none → ∃ W : Nat → Nat → Hp → Prop, (∃ m, W 0 m (upd H1 D (.lst []))) ∧ ∀ i m H, W i m H →
  (J.stop i H ∧ Q (.ref D) H) ∨ (J.go i H ∧ ∃ Nx : Hp → Prop, (∀ H', Nx H' → ∃ m', m' < m ∧ W (i + 1) m' H') ∧ ∀ x H', J.yld i H x H' → g x (wipe σ vs) H' fun σ2 H2 => wipe σ2 vs = wipe σ vs ∧ tt σ2 H2 fun b H3 =>
    if b = true then te σ2 H3 fun y H4 => ∃ acc, H4 D = some (.lst acc) ∧ acc.length < sizeLine ∧ Nx (upd H4 D (.lst (acc ++ [y]))) else Nx H3)
/-- a turn of a comprehension: the item put behind the list at D -/
def LcPut (D : Addr) (Nx : Hp → Prop) : VK := fun y H4 => ∃ acc, H4 D = some (.lst acc) ∧ acc.length < sizeLine ∧ Nx (upd H4 D (.lst (acc ++ [y])))
def LcTurn (tt : TT) (te : TE) (vs : List Nat) (σ : L2.St) (D : Addr) (Nx : Hp → Prop) : L2.St → Hp → Prop := fun σ2 H2 => wipe σ2 vs = wipe σ vs ∧ tt σ2 H2 fun b H3 => if b = true then te σ2 H3 (LcPut D Nx) else Nx H3
section
variable {nx bk ct : L2.St → Hp → Prop} {rt : VK} {σ : L2.St} {H : Hp} {t u : TS} {te ta tb tc : TE} {g : TG} {Q : VK} {B : Bool → Hp → Prop} {c c' : TT} {L : List V → Hp → Prop}
theorem w_seq (h : t ⟨u ⟨nx, rt, bk, ct⟩, rt, bk, ct⟩ σ H) : tSeq t u ⟨nx, rt, bk, ct⟩ σ H := h
theorem w_cut (Mid : L2.St → Hp → Prop) (h : t ⟨Mid, rt, bk, ct⟩ σ H) (h2 : ∀ σ' H', Mid σ' H' → u ⟨nx, rt, bk, ct⟩ σ' H') : C8.tCut t u ⟨nx, rt, bk, ct⟩ σ H := ⟨Mid, h, h2⟩
theorem w_asg (h : te σ H fun x H1 => g x σ H1 nx) : tAsg te g ⟨nx, rt, bk, ct⟩ σ H := h
theorem w_drop (h : te σ H fun _ H1 => nx σ H1) : tDrop te ⟨nx, rt, bk, ct⟩ σ H := h
theorem w_ret (h : te σ H rt) : tRet te ⟨nx, rt, bk, ct⟩ σ H := h
theorem w_retN (h : rt .non H) : tRetN ⟨nx, rt, bk, ct⟩ σ H := h
theorem w_next (h : nx σ H) : tNext ⟨nx, rt, bk, ct⟩ σ H := h
theorem w_brk (h : bk σ H) : tBreak ⟨nx, rt, bk, ct⟩ σ H := h
theorem w_cont (h : ct σ H) : tCont ⟨nx, rt, bk, ct⟩ σ H := h
theorem w_if (h : c σ H fun b H1 => if b = true then t ⟨nx, rt, bk, ct⟩ σ H1 else u ⟨nx, rt, bk, ct⟩ σ H1) : tIfS c t u ⟨nx, rt, bk, ct⟩ σ H := h
theorem w_par {i j : Nat} {t : TA} (h : t σ H (ParK i j nx σ)) : tPar i j t ⟨nx, rt, bk, ct⟩ σ H := h
theorem w_par2 {v w : V} {i j : Nat} (h : nx ((σ.set i (some v)).set j (some w)) H) : ParK i j nx σ [v, w] H := ⟨v, w, rfl, h⟩
theorem w_gname {v : V} {i : Nat} {R : L2.St → Hp → Prop} (h : R (σ.set i (some v)) H) : gName i v σ H R := h
theorem w_gtup {K : PySem.W.Frag} {n : Nat} {t : TGs} {a : Addr} {xs : List V} {R : L2.St → Hp → Prop} (hl : SqT K H a xs) (e : xs.length = n) (h : t xs σ H R) : gTup K n t (.ref a) σ H R := ⟨a, xs, rfl, hl, e, h⟩
theorem w_gcons {t : TG} {u : TGs} {v : V} {r : List V} {R : L2.St → Hp → Prop} (h : t v σ H fun σ' H' => u r σ' H' R) : gCons t u (v :: r) σ H R := ⟨v, r, rfl, h⟩
theorem w_gnil {R : L2.St → Hp → Prop} (h : R σ H) : gNil [] σ H R := ⟨rfl, h⟩
theorem w_gsub {to ti : TE} {t : TSet} {v : V} {R : L2.St → Hp → Prop} (h : to σ H fun o H1 => ti σ H1 fun i H2 => t o i v H2 fun H3 => R σ H3) : gSub to ti t v σ H R := h
theorem w_setL {p : Addr} {xs : List V} {k : Int} {v : V} {R : Hp → Prop} (hl : H p = some (.lst xs)) (h0 : 0 ≤ k) (h1 : k < (xs.length : Int)) (h : R (upd H p (.lst (xs.set k.toNat v)))) : rSetL (.ref p) (.int k) v H R := ⟨p, xs, k, k.toNat, rfl, rfl, hl, by unfold ixN; rw [if_pos h0, if_pos h1], h⟩
theorem w_var {i : Nat} {v : V} (e : σ[i]? = some (some v)) (h : Q v H) : tVar i σ H Q := ⟨v, e, h⟩
theorem w_c {v : V} (h : Q v H) : tC v σ H Q := h
theorem w_op {r : R2} (h : ta σ H fun x H1 => tb σ H1 fun y H2 => r x y H2 Q) : tOp r ta tb σ H Q := h
theorem w_un {r : V → Hp → VK → Prop} (h : ta σ H fun x H1 => r x H1 Q) : tUn r ta σ H Q := h
theorem w_i0 {k : Int → Int → V} {i j : Int} (h : Q (k i j) H) : rI0 k (.int i) (.int j) H Q := ⟨i, j, rfl, rfl, h⟩
theorem w_i {C : Int → Int → Prop} {k : Int → Int → V} {i j : Int} (hc : C i j) (h : Q (k i j) H) : rI C k (.int i) (.int j) H Q := ⟨i, j, rfl, rfl, hc, h⟩
theorem w_u {k : Int → V} {i : Int} (h : Q (k i) H) : rU k (.int i) H Q := ⟨i, rfl, h⟩
theorem w_eqi {i j : Int} (h : Q (.bl (decide (i = j))) H) : rEq (.int i) (.int j) H Q := by
  refine ⟨rfl, ?_⟩
  have e : decide (V.int i = V.int j) = decide (i = j) := by simp
  rw [e]; exact h
theorem w_nei {i j : Int} (h : Q (.bl (!decide (i = j))) H) : rNe (.int i) (.int j) H Q := by
  refine ⟨rfl, ?_⟩
  have e : decide (V.int i = V.int j) = decide (i = j) := by simp
  rw [e]; exact h
theorem w_eqb {i j : Bool} (h : Q (.bl (i == j)) H) : rEq (.bl i) (.bl j) H Q := by
  refine ⟨rfl, ?_⟩
  have e : decide (V.bl i = V.bl j) = (i == j) := by cases i <;> cases j <;> rfl
  rw [e]; exact h
theorem w_neb {i j : Bool} (h : Q (.bl (!(i == j))) H) : rNe (.bl i) (.bl j) H Q := by
  refine ⟨rfl, ?_⟩
  have e : decide (V.bl i = V.bl j) = (i == j) := by cases i <;> cases j <;> rfl
  rw [e]; exact h
theorem w_eqs {i j : Str} (h : Q (.bl (decide (i = j))) H) : rEq (.str i) (.str j) H Q := by
  refine ⟨rfl, ?_⟩
  have e : decide (V.str i = V.str j) = decide (i = j) := by simp
  rw [e]; exact h
theorem w_cb {r : List V → Hp → VK → Prop} {t : TA} (h : t σ H fun vs H1 => r vs H1 Q) : tCB r t σ H Q := h
theorem w_nil (h : L [] H) : tNil σ H L := h
theorem w_cons {t : TA} (h : ta σ H fun x H1 => t σ H1 fun xs H2 => L (x :: xs) H2) : tCons ta t σ H L := h
theorem w_call {sp : Sp} {E : XK} {t : TA} (h : t σ H fun vs H1 => sp (vs ++ []) H1 Q E) : tCall sp [] E t σ H Q := h
theorem w_tup {t : TA} (h : t σ H (TupK Q)) : tTup t σ H Q := h
theorem w_lst {t : TA} (h : t σ H (LstK Q)) : tLst t σ H Q := h
theorem w_newT {xs : List V} (h : ∀ p, H p = none → Q (.ref p) (upd H p (.tup xs))) (hz : xs.length ≤ sizeLine := by exact Pm.size_ok (Nat.le_of_ble_eq_true rfl)) : TupK Q xs H := ⟨hz, h⟩
theorem w_newL {xs : List V} (h : ∀ p, H p = none → Q (.ref p) (upd H p (.lst xs))) (hz : xs.length ≤ sizeLine := by exact Pm.size_ok (Nat.le_of_ble_eq_true rfl)) : LstK Q xs H := ⟨hz, h⟩
theorem w_test (h : te σ H fun x H' => ∃ k, x = .bl k ∧ B k H') : tTest te σ H B := h
theorem w_b (h : te σ H fun x H' => ∃ k, x = .bl k ∧ B k H') : tB te σ H B := h
theorem w_bl {k : Bool} (h : B k H) : ∃ k', V.bl k = .bl k' ∧ B k' H := ⟨k, rfl, h⟩
theorem w_and (h : c σ H fun b H1 => if b = true then c' σ H1 B else B false H1) : tAnd c c' σ H B := h
theorem w_or (h : c σ H fun b H1 => if b = true then B true H1 else c' σ H1 B) : tOr c c' σ H B := h
theorem w_not (h : c σ H fun b H1 => B (!b) H1) : tNot c σ H B := h
theorem w_andV (h : ta σ H fun x H1 => ∃ k, x = .bl k ∧ if k = true then tb σ H1 Q else Q (.bl false) H1) : tAndV ta tb σ H Q := h
theorem w_orV (h : ta σ H fun x H1 => ∃ k, x = .bl k ∧ if k = true then Q (.bl true) H1 else tb σ H1 Q) : tOrV ta tb σ H Q := h
theorem w_notV (h : ta σ H fun x H1 => ∃ k, x = .bl k ∧ Q (.bl (!k)) H1) : tNotV ta σ H Q := h
theorem w_ifE (h : c σ H fun b H1 => if b = true then ta σ H1 Q else tb σ H1 Q) : tIf c ta tb σ H Q := h
theorem w_chain {r r' : R2} (h : ta σ H fun x H1 => tb σ H1 fun y H2 => r x y H2 fun z H3 => ∃ k, z = .bl k ∧ (if k = true then tc σ H3 fun w H4 => r' y w H4 Q else Q (.bl false) H3)) : tChain r r' ta tb tc σ H Q := h
theorem w_chain3 {r r' r'' : R2} {td : TE} (h : ta σ H fun x H1 => tb σ H1 fun y H2 => r x y H2 fun z H3 => ∃ k, z = .bl k ∧
  (if k = true then tc σ H3 fun w' H4 => r' y w' H4 fun z' H5 => ∃ k', z' = .bl k' ∧ (if k' = true then td σ H5 fun v' H6 => r'' w' v' H6 Q else Q (.bl false) H5) else Q (.bl false) H3)) : tChain3 r r' r'' ta tb tc td σ H Q := h
theorem w_blx {k : Bool} {R : Bool → Prop} (h : R k) : ∃ k', V.bl k = .bl k' ∧ R k' := ⟨k, rfl, h⟩
theorem w_iteT {A C : Prop} (h : A) : if true = true then A else C := by rw [if_pos rfl]; exact h
theorem w_iteF {A C : Prop} (h : C) : if false = true then A else C := by rw [if_neg Bool.false_ne_true]; exact h
theorem w_iteN1 {A C : Prop} (h : C) : if (!true) = true then A else C := w_iteF h
theorem w_iteN0 {A C : Prop} (h : A) : if (!false) = true then A else C := w_iteT h
theorem w_ite {p A C : Prop} [Decidable p] (h1 : p → A) (h2 : ¬ p → C) : if decide p = true then A else C := by
  by_cases h : p
  · rw [decide_eq_true h, if_pos rfl]; exact h1 h
  · rw [decide_eq_false h, if_neg Bool.false_ne_true]; exact h2 h
theorem w_iteN {p A C : Prop} [Decidable p] (h1 : ¬ p → A) (h2 : p → C) : if (!decide p) = true then A else C := by
  by_cases h : p
  · rw [decide_eq_true h]; exact w_iteF (h2 h)
  · rw [decide_eq_false h]; exact w_iteT (h1 h)
theorem w_abs {i : Int} (h : Q (.int (if i < 0 then -i else i)) H) : rAbs [.int i] H Q := ⟨i, rfl, h⟩
theorem w_max {i j : Int} (h : Q (.int (max i j)) H) : rMax2 [V.int i, V.int j] H Q := by
  refine ⟨i, j, rfl, ?_⟩
  have e : (if j > i then j else i) = max i j := by rw [Int.max_def]; split <;> split <;> omega
  rw [e]; exact h
theorem w_min {i j : Int} (h : Q (.int (min i j)) H) : rMin2 [V.int i, V.int j] H Q := by
  refine ⟨i, j, rfl, ?_⟩
  have e : (if j < i then j else i) = min i j := by rw [Int.min_def]; split <;> split <;> omega
  rw [e]; exact h
theorem w_mul1 {i j : Int} (h : -(2 ^ 64) < i ∧ i < 2 ^ 64) : CMul i j := .inl h
theorem w_mul2 {i j : Int} (h : -(2 ^ 64) < j ∧ j < 2 ^ 64) : CMul i j := .inr h
theorem w_ixL {K : PySem.W.Frag} {p : Addr} {xs : List V} {i : Int} {v : V} (hl : SqL K H p xs) (e : atI xs i = some v) (h : Q v H) : rIxL K (.ref p) (.int i) H Q := ⟨p, xs, i, v, rfl, rfl, hl, e, h⟩
theorem w_ixT {K : PySem.W.Frag} {p : Addr} {xs : List V} {i : Int} {v : V} (hl : SqT K H p xs) (e : atI xs i = some v) (h : Q v H) : rIxT K (.ref p) (.int i) H Q := ⟨p, xs, i, v, rfl, rfl, hl, e, h⟩
theorem w_bm {K : PySem.W.Frag} {T : String} {r : V → List V → Hp → VK → Prop} {t : TA} (h : ta σ H fun x H1 => tyV K T x H1 ∧ t σ H1 fun xs H2 => r x xs H2 Q) : tBM K T r ta t σ H Q := h
theorem w_bm0 {K : PySem.W.Frag} {T : String} {r : V → List V → Hp → VK → Prop} (h : ta σ H fun x H1 => tyV K T x H1 ∧ r x [] H1 Q) : tBM0 K T r ta σ H Q := h
theorem w_append {l : Addr} {xs : List V} {y : V} (hl : H l = some (.lst xs)) (hz : xs.length < sizeLine) (h : Q .non (upd H l (.lst (xs ++ [y])))) : rAppend (.ref l) [y] H Q := ⟨l, xs, y, rfl, rfl, hl, hz, h⟩
theorem w_len {K : PySem.W.Frag} {p : Addr} {ys : List V} (hl : SqL K H p ys ∨ SqT K H p ys) (h : Q (.int ys.length) H) : rLen K [V.ref p] H Q := ⟨p, ys, rfl, hl, h⟩
theorem w_lenL {K : PySem.W.Frag} {p : Addr} {ys : List V} (hl : SqL K H p ys) (h : Q (.int ys.length) H) : rLen K [V.ref p] H Q := ⟨p, ys, rfl, .inl hl, h⟩
theorem w_lenT {K : PySem.W.Frag} {p : Addr} {ys : List V} (hl : SqT K H p ys) (h : Q (.int ys.length) H) : rLen K [V.ref p] H Q := ⟨p, ys, rfl, .inr hl, h⟩
theorem w_lenS {z : Str} (hl : z.length ≤ sizeLine) (h : Q (.int z.length) H) : rLenS [V.str z] H Q := ⟨z, rfl, hl, h⟩
theorem w_int1 {b : Bool} (h : Q (.int (if b then 1 else 0)) H) : rInt1 [.bl b] H Q := .inr ⟨b, rfl, h⟩
theorem w_listOf {K : PySem.W.Frag} {p : Addr} {ys : List V} (hl : SqL K H p ys) (h : ∀ l, H l = none → Q (.ref l) (upd H l (.lst ys))) : rListOf K [.ref p] H Q := ⟨p, ys, rfl, .inl hl, h⟩
theorem w_tupOf {K : PySem.W.Frag} {p : Addr} {ys : List V} (hl : SqL K H p ys) (h : ∀ l, H l = none → Q (.ref l) (upd H l (.tup ys))) : rTupOf K [.ref p] H Q := ⟨p, ys, rfl, .inl ⟨hl, h⟩⟩
theorem w_sl {r : V → Option Int → Option Int → Hp → VK → Prop} {tl th : TO} (h : te σ H fun x H1 => tl σ H1 fun l H2 => th σ H2 fun u H3 => r x l u H3 Q) : tSl r te tl th σ H Q := h
theorem w_noPart {O : Option Int → Hp → Prop} (h : O none H) : tNoPart σ H O := h
theorem w_part {O : Option Int → Hp → Prop} (h : te σ H (PartK O)) : tPart te σ H O := h
theorem w_partK {O : Option Int → Hp → Prop} {i : Int} (h : O (some i) H) : PartK O (.int i) H := ⟨i, rfl, h⟩
theorem w_slL {K : PySem.W.Frag} {a : Addr} {xs : List V} {lo hi : Option Int} (hl : SqL K H a xs) (h : ∀ p, H p = none → Q (.ref p) (upd H p (.lst (cutV xs lo hi)))) : rSlL K (.ref a) lo hi H Q := ⟨a, xs, rfl, hl, h⟩
theorem w_cat {l b : Addr} {xs zs : List V} (h1 : H l = some (.lst xs)) (h2 : H b = some (.lst zs)) (hz : xs.length + zs.length ≤ sizeLine) (h : ∀ p, H p = none → Q (.ref p) (upd H p (.lst (xs ++ zs)))) : rCat (.ref l) (.ref b) H Q := ⟨l, b, xs, zs, rfl, rfl, h1, h2, hz, h⟩
theorem w_dput {td ty tv : TE} (h : tv σ H fun v H1 => td σ H1 fun x H2 => ty σ H2 (DPK nx σ v x)) : sDPut td ty tv ⟨nx, rt, bk, ct⟩ σ H := h
theorem w_dpT {a b : Addr} {kvs : List (List L2.Key × V)} {k : List L2.Key} {v : V} (h1 : H a = some (.dT kvs)) (h2 : H b = some (.tup (k.map kV))) (hl : kvs.length < sizeLine) (h : nx σ (upd H a (.dT (putK kvs k v)))) : DPK nx σ v (.ref a) (.ref b) H := ⟨a, _, rfl, DPut.t h1 h2 hl, h⟩
theorem w_dpK {a : Addr} {kvs : List (L2.Key × V)} {k : L2.Key} {v : V} (h1 : H a = some (.dK kvs)) (hl : kvs.length < sizeLine) (h : nx σ (upd H a (.dK (putK kvs k v)))) : DPK nx σ v (.ref a) (kV k) H := ⟨a, _, rfl, DPut.k h1 hl, h⟩
theorem w_din {ty td : TE} (h : ty σ H fun y H1 => td σ H1 (DInK y Q)) : tDIn ty td σ H Q := h
theorem w_dnotin {ty td : TE} (h : ty σ H fun y H1 => td σ H1 (DNotInK y Q)) : tDNotIn ty td σ H Q := h
theorem w_diT {a b : Addr} {kvs : List (List L2.Key × V)} {k : List L2.Key} (h1 : H a = some (.dT kvs)) (h2 : H b = some (.tup (k.map kV))) (h : Q (.bl (valV kvs k).isSome) H) : DInK (.ref b) Q (.ref a) H := ⟨a, _, rfl, DGet.t h1 h2, h⟩
theorem w_dniT {a b : Addr} {kvs : List (List L2.Key × V)} {k : List L2.Key} (h1 : H a = some (.dT kvs)) (h2 : H b = some (.tup (k.map kV))) (h : Q (.bl (!(valV kvs k).isSome)) H) : DNotInK (.ref b) Q (.ref a) H := ⟨a, _, rfl, DGet.t h1 h2, h⟩
theorem w_diK {a : Addr} {kvs : List (L2.Key × V)} {k : L2.Key} (h1 : H a = some (.dK kvs)) (h : Q (.bl (valV kvs k).isSome) H) : DInK (kV k) Q (.ref a) H := ⟨a, _, rfl, DGet.k h1, h⟩
theorem w_dniK {a : Addr} {kvs : List (L2.Key × V)} {k : L2.Key} (h1 : H a = some (.dK kvs)) (h : Q (.bl (!(valV kvs k).isSome)) H) : DNotInK (kV k) Q (.ref a) H := ⟨a, _, rfl, DGet.k h1, h⟩
theorem w_dget {td ty : TE} (h : td σ H fun x H1 => ty σ H1 (DGK x Q)) : tDGet td ty σ H Q := h
theorem w_dgT {a b : Addr} {kvs : List (List L2.Key × V)} {k : List L2.Key} {v : V} (h1 : H a = some (.dT kvs)) (h2 : H b = some (.tup (k.map kV))) (e : valV kvs k = some v) (h : Q v H) : DGK (.ref a) Q (.ref b) H := ⟨a, v, rfl, by rw [← e]; exact DGet.t h1 h2, h⟩
theorem w_dgK {a : Addr} {kvs : List (L2.Key × V)} {k : L2.Key} {v : V} (h1 : H a = some (.dK kvs)) (e : valV kvs k = some v) (h : Q v H) : DGK (.ref a) Q (kV k) H := ⟨a, v, rfl, by rw [← e]; exact DGet.k h1, h⟩
theorem w_dnewT (h : ∀ p, H p = none → Q (.ref p) (upd H p (.dT []))) : tDNewT σ H Q := h
theorem w_dnewK (h : ∀ p, H p = none → Q (.ref p) (upd H p (.dK []))) : tDNewK σ H Q := h
theorem w_for {wi : TI} (h : wi σ H (ForB g t nx rt σ)) : tFor wi g t ⟨nx, rt, bk, ct⟩ σ H := h
theorem w_iList {K : PySem.W.Frag} {R : It → Hp → Prop} (h : te σ H (RdL K R)) : iList K te σ H R := h
theorem w_iTup {K : PySem.W.Frag} {R : It → Hp → Prop} (h : te σ H (RdT K R)) : iTup K te σ H R := h
theorem w_rdL {K : PySem.W.Frag} {R : It → Hp → Prop} {a : Addr} {xs : List V} (hl : SqL K H a xs) (h : R (Itl K a) H) : RdL K R (.ref a) H := ⟨a, rfl, ⟨xs, hl⟩, h⟩
theorem w_rdT {K : PySem.W.Frag} {R : It → Hp → Prop} {a : Addr} {xs : List V} (hl : SqT K H a xs) (h : R (Itt K a) H) : RdT K R (.ref a) H := ⟨a, rfl, ⟨xs, hl⟩, h⟩
theorem w_iRng1 {t : TA} {R : It → Hp → Prop} (h : t σ H (Rg1 R)) : iRng1 t σ H R := h
theorem w_iRng2 {t : TA} {R : It → Hp → Prop} (h : t σ H (Rg2 R)) : iRng2 t σ H R := h
theorem w_rg1 {j : Int} {R : It → Hp → Prop} (h1 : -(2 ^ 62) ≤ j ∧ j < 2 ^ 62) (h : R (Itr 0 j.toNat) H) : Rg1 R [.int j] H := ⟨j, rfl, h1.1, h1.2, h⟩
theorem w_rg2 {i j : Int} {R : It → Hp → Prop} (h1 : (-(2 ^ 62) ≤ i ∧ i < 2 ^ 62) ∧ (-(2 ^ 62) ≤ j ∧ j < 2 ^ 62)) (h : R (Itr i (j - i).toNat) H) : Rg2 R [.int i, .int j] H := ⟨i, j, rfl, ⟨h1.1.1, h1.1.2, h1.2.1, h1.2.2⟩, h⟩
/-- for over a range, by what holds ahead of turn i -/
theorem w_forR {lo : Int} {n : Nat} (Pv : Nat → L2.St → Hp → Prop) (h0 : Pv 0 σ H) (hs : ∀ i σ H, i < n → Pv i σ H → g (.int (lo + i)) σ H fun σ2 H2 => t ⟨Pv (i + 1), rt, nx, Pv (i + 1)⟩ σ2 H2) (hd : ∀ σ H, Pv n σ H → nx σ H) : ForB g t nx rt σ (Itr lo n) H :=
  for_range (D := ⟨nx, rt, fun _ _ => False, fun _ _ => False⟩) Pv h0 hs hd
theorem w_forL {K : PySem.W.Frag} {a : Addr} {xs : List V} (Pv : Nat → L2.St → Hp → Prop) (h0 : Pv 0 σ H) (hl : ∀ i σ H, i ≤ xs.length → Pv i σ H → SqL K H a xs) (hs : ∀ i x σ H, xs[i]? = some x → Pv i σ H → g x σ H fun σ2 H2 => t ⟨Pv (i + 1), rt, nx, Pv (i + 1)⟩ σ2 H2) (hd : ∀ σ H, Pv xs.length σ H → nx σ H) : ForB g t nx rt σ (Itl K a) H :=
  for_list (D := ⟨nx, rt, fun _ _ => False, fun _ _ => False⟩) Pv h0 hl hs hd
theorem w_forT {K : PySem.W.Frag} {a : Addr} {xs : List V} (Pv : Nat → L2.St → Hp → Prop) (h0 : Pv 0 σ H) (hl : ∀ i σ H, i ≤ xs.length → Pv i σ H → SqT K H a xs) (hs : ∀ i x σ H, xs[i]? = some x → Pv i σ H → g x σ H fun σ2 H2 => t ⟨Pv (i + 1), rt, nx, Pv (i + 1)⟩ σ2 H2) (hd : ∀ σ H, Pv xs.length σ H → nx σ H) : ForB g t nx rt σ (Itt K a) H :=
  for_tup (D := ⟨nx, rt, fun _ _ => False, fun _ _ => False⟩) Pv h0 hl hs hd
/-- while, by an invariant with a measure -/
theorem w_while {c : TT} (Pv : Nat → L2.St → Hp → Prop) (m : Nat) (h0 : Pv m σ H) (hs : ∀ m σ H, Pv m σ H → c σ H (WhB t nx rt Pv m σ)) : tWhile c t ⟨nx, rt, bk, ct⟩ σ H := ⟨Pv, ⟨m, h0⟩, hs⟩
theorem w_whT {Pv : Nat → L2.St → Hp → Prop} {m : Nat} (h : t ⟨fun σ' H' => ∃ m', m' < m ∧ Pv m' σ' H', rt, nx, fun σ' H' => ∃ m', m' < m ∧ Pv m' σ' H'⟩ σ H) : WhB t nx rt Pv m σ true H := w_iteT ⟨_, fun _ _ h => h, h⟩
theorem w_whF {Pv : Nat → L2.St → Hp → Prop} {m : Nat} (h : nx σ H) : WhB t nx rt Pv m σ false H := w_iteF h
theorem w_wh {Pv : Nat → L2.St → Hp → Prop} {m : Nat} {p : Prop} [Decidable p] (h1 : p → t ⟨fun σ' H' => ∃ m', m' < m ∧ Pv m' σ' H', rt, nx, fun σ' H' => ∃ m', m' < m ∧ Pv m' σ' H'⟩ σ H) (h2 : ¬ p → nx σ H) : WhB t nx rt Pv m σ (decide p) H := by
  by_cases h : p
  · rw [decide_eq_true h]; exact w_whT (h1 h)
  · rw [decide_eq_false h]; exact w_whF (h2 h)
theorem w_lc {wi : TI} {tt : TT} {vs : List Nat} (h : wi σ H (LcB g tt te vs σ Q)) : tLc wi g tt te vs σ H Q := h
theorem w_yes (h : B true H) : tYes σ H B := h
theorem w_lcR {lo : Int} {n : Nat} {tt : TT} {vs : List Nat} (h : ∀ D, H D = none → ∃ Pv : Nat → Hp → Prop, Pv 0 (upd H D (.lst [])) ∧
    (∀ i H1, i < n → Pv i H1 → g (.int (lo + i)) (wipe σ vs) H1 (LcTurn tt te vs σ D (Pv (i + 1)))) ∧ ∀ H1, Pv n H1 → Q (.ref D) H1) : LcB g tt te vs σ Q (Itr lo n) H := fun D hD => by
  obtain ⟨Pv, h0, hs, hd⟩ := h D hD
  exact lc_range (Qd := Q (.ref D)) Pv h0 hs hd
theorem w_lcL {K : PySem.W.Frag} {a : Addr} {xs : List V} {tt : TT} {vs : List Nat} (h : ∀ D, H D = none → ∃ Pv : Nat → Hp → Prop, Pv 0 (upd H D (.lst [])) ∧ (∀ i H1, i ≤ xs.length → Pv i H1 → SqL K H1 a xs) ∧
    (∀ i x H1, xs[i]? = some x → Pv i H1 → g x (wipe σ vs) H1 (LcTurn tt te vs σ D (Pv (i + 1)))) ∧ ∀ H1, Pv xs.length H1 → Q (.ref D) H1) : LcB g tt te vs σ Q (Itl K a) H := fun D hD => by
  obtain ⟨Pv, h0, hl, hs, hd⟩ := h D hD
  exact lc_list (Qd := Q (.ref D)) Pv h0 hl hs hd
theorem w_turn {tt : TT} {vs : List Nat} {σ2 : L2.St} {D : Addr} {Nx : Hp → Prop} (e : wipe σ2 vs = wipe σ vs) (h : tt σ2 H fun b H3 => if b = true then te σ2 H3 (LcPut D Nx) else Nx H3) : LcTurn tt te vs σ D Nx σ2 H := ⟨e, h⟩
theorem w_put {D : Addr} {Nx : Hp → Prop} {acc : List V} {y : V} (hl : H D = some (.lst acc)) (hz : acc.length < sizeLine) (h : Nx (upd H D (.lst (acc ++ [y])))) : LcPut D Nx y H := ⟨acc, hl, hz, h⟩
theorem w_isiInt {K : PySem.W.Frag} {i : Int} {n : String} {b : Bool} (e : kitB "int" n = some b) (h : Q (.bl b) H) : rIsi K [.int i, .ty n] H Q := ⟨_, _, _, _, b, rfl, .ty n, .base (.int i), kit_ty e, h⟩
theorem w_isiBl {K : PySem.W.Frag} {i : Bool} {n : String} {b : Bool} (e : kitB "bool" n = some b) (h : Q (.bl b) H) : rIsi K [.bl i, .ty n] H Q := ⟨_, _, _, _, b, rfl, .ty n, .base (.bl i), kit_ty e, h⟩
theorem w_isiTup {K : PySem.W.Frag} {a : Addr} {xs : List V} {n : String} {b : Bool} (hl : SqT K H a xs) (e : kitB "tuple" n = some b) (h : Q (.bl b) H) : rIsi K [.ref a, .ty n] H Q := by
  rcases hl with (h1 | ⟨o, h1⟩) | ⟨o, its, m, h1, h2, h3⟩
  · exact ⟨_, _, _, _, b, rfl, .ty n, .base (.tup h1), kit_ty e, h⟩
  · exact ⟨_, _, _, _, b, rfl, .ty n, .fTuple h1, kit_ty e, h⟩
  · exact ⟨_, _, _, _, b, rfl, .ty n, .kTuple h1 h2, kit_ty e, h⟩
theorem w_isiLst {K : PySem.W.Frag} {a : Addr} {xs : List V} {n : String} {b : Bool} (hl : SqL K H a xs) (e : kitB "list" n = some b) (h : Q (.bl b) H) : rIsi K [.ref a, .ty n] H Q := by
  rcases hl with (h1 | ⟨o, h1⟩) | ⟨o, its, m, h1, h2, h3⟩
  · exact ⟨_, _, _, _, b, rfl, .ty n, .base (.lst h1), kit_ty e, h⟩
  · exact ⟨_, _, _, _, b, rfl, .ty n, .base (.frz h1), kit_ty e, h⟩
  · exact ⟨_, _, _, _, b, rfl, .ty n, .kList h1 h2, kit_ty e, h⟩
theorem inV_ints (i : Int) : ∀ ns : List Int, inV (.int i) (ns.map V.int) = decide (i ∈ ns)
  | [] => rfl
  | x :: r => by
    have ih := inV_ints i r
    show (eqV (.int x) (.int i) || inV (.int i) (r.map V.int)) = _
    rw [ih]
    show ((x == i) || decide (i ∈ r)) = _
    by_cases h : x = i
    · subst h; simp
    · have h2 : ¬ i = x := fun e => h e.symm
      simp [h, h2]
theorem w_inInts {K : PySem.W.Frag} {a : Addr} {i : Int} {ns : List Int} (hl : SqL K H a (ns.map V.int) ∨ SqT K H a (ns.map V.int)) (h : Q (.bl (decide (i ∈ ns))) H) : rIn K false (.int i) (.ref a) H Q := by
  refine ⟨a, _, rfl, hl, rfl, ?_, ?_⟩
  · rw [List.all_map]; exact List.all_eq_true.mpr fun _ _ => rfl
  · rw [if_neg Bool.false_ne_true, inV_ints]
    exact h
theorem w_ninInts {K : PySem.W.Frag} {a : Addr} {i : Int} {ns : List Int} (hl : SqL K H a (ns.map V.int) ∨ SqT K H a (ns.map V.int)) (h : Q (.bl (!decide (i ∈ ns))) H) : rIn K true (.int i) (.ref a) H Q := by
  refine ⟨a, _, rfl, hl, rfl, ?_, ?_⟩
  · rw [List.all_map]; exact List.all_eq_true.mpr fun _ _ => rfl
  · rw [if_pos rfl, inV_ints]
    exact h
theorem w_isX {K : PySem.W.Frag} {D a : Addr} {c : V} {cv : Value} {b : Bool} (C : ExcC K D) (hc : ∀ u, RelV c u → u = cv) (k : PySem.W.kitOne K (.ref D) cv = some b) (h : Q (.bl b) H) : rIsX K (.ref D) none a [.ref a, c] H Q := ⟨D, c, cv, b, rfl, rfl, C, rfl, hc, k, h⟩
theorem w_callS {sp : Sp} {E : L2.St → XK} {t : TA} (h : t σ H fun vs H1 => sp vs H1 Q (E σ)) : tCallS sp E t σ H Q := h
theorem eqv_ints2 (a b c d : Int) : PyData.eqv (.tuple [.int a, .int b]) (.tuple [.int c, .int d]) = decide (a = c ∧ b = d) := by
  simp only [PyData.eqv, PyData.eqvAll, Bool.and_true]
  by_cases h : a = c <;> by_cases h2 : b = d <;> simp [h, h2]
theorem dp_ints2 {K : PySem.W.Frag} {t : Addr} {a b : Int} (h : SqT K H t [.int a, .int b]) : Dp K H (.ref t) (.tuple [.int a, .int b]) := .tup h (.cons (.int a) (.cons (.int b) .nil))
theorem w_eqPair {K : PySem.W.Frag} {t u : Addr} {a b c d : Int} (h1 : SqT K H t [.int a, .int b]) (h2 : SqT K H u [.int c, .int d]) (h : Q (.bl (decide (a = c ∧ b = d))) H) : rEqD K (.ref t) (.ref u) H Q :=
  ⟨_, _, dp_ints2 h1, dp_ints2 h2, rfl, rfl, by rw [eqv_ints2]; exact h⟩
theorem w_nePair {K : PySem.W.Frag} {t u : Addr} {a b c d : Int} (h1 : SqT K H t [.int a, .int b]) (h2 : SqT K H u [.int c, .int d]) (h : Q (.bl (!decide (a = c ∧ b = d))) H) : rNeD K (.ref t) (.ref u) H Q :=
  ⟨_, _, dp_ints2 h1, dp_ints2 h2, rfl, rfl, by rw [eqv_ints2]; exact h⟩
theorem Same.tup {K : PySem.W.Frag} {H H' : Hp} {a : Addr} {xs : List V} (e : Same H H') (h : SqT K H a xs) : SqT K H' a xs := by
  rcases h with (h | ⟨o, h⟩) | h
  · exact .inl (.inl (e _ _ h))
  · exact .inl (.inr ⟨o, e _ _ h⟩)
  · exact .inr h
theorem w_sum {K : PySem.W.Frag} {a : Addr} {ns : List Int} (hl : SqL K H a (ns.map V.int)) (h : Q (.int ns.sum) H) : rSum K [V.ref a] H Q := ⟨a, ns, rfl, hl, h⟩
theorem w_isi {K : PySem.W.Frag} {x c : V} {t u : Value} {b : Bool} (k : ClsV c u) (ty : TyX K H x t) (e : PySem.W.kitOne K t u = some b) (h : Q (.bl b) H) : rIsi K [x, c] H Q := ⟨x, c, t, u, b, rfl, k, ty, e, h⟩
end
theorem same_new {H : Hp} {p : Addr} (h : H p = none) (o : HO) : Same H (upd H p o) := fun b u q => by rw [upd_ne (ne_of_none q h)]; exact q
theorem cut_take {xs : List V} {k : Int} (h0 : 0 ≤ k) (h : k ≤ (xs.length : Int)) : cutV xs none (some k) = xs.take k.toNat := by
  unfold cutV HT.sIx
  simp only
  rw [if_neg (by omega), List.drop_zero, Nat.sub_zero, Nat.min_eq_left (by omega)]
theorem cut_drop {xs : List V} {k : Int} (h0 : 0 ≤ k) (h : k ≤ (xs.length : Int)) : cutV xs (some k) none = xs.drop k.toNat := by
  unfold cutV HT.sIx
  simp only
  rw [if_neg (by omega), Nat.min_eq_left (by omega)]
  exact List.take_of_length_le (by rw [List.length_drop]; omega)
theorem cut_mid {xs : List V} {i k : Int} (h0 : 0 ≤ i) (h1 : 0 ≤ k) : cutV xs (some i) (some k) = (xs.drop i.toNat).take (k.toNat - i.toNat) := by
  unfold cutV HT.sIx
  simp only
  rw [if_neg (by omega), if_neg (by omega)]
  by_cases h : i.toNat ≤ xs.length
  · rw [Nat.min_eq_left h]
    by_cases h2 : k.toNat ≤ xs.length
    · rw [Nat.min_eq_left h2]
    · rw [Nat.min_eq_right (by omega), List.take_of_length_le (i := k.toNat - i.toNat) (by rw [List.length_drop]; omega)]
      exact List.take_of_length_le (by rw [List.length_drop]; omega)
  · rw [List.drop_of_length_le (i := min i.toNat xs.length) (by omega), List.drop_of_length_le (i := i.toNat) (by omega), List.take_nil, List.take_nil]
theorem putK_len {κ : Type} [DecidableEq κ] (kvs : List (κ × V)) (k : κ) (v : V) : (putK kvs k v).length ≤ kvs.length + 1 := by
  unfold putK
  split
  · rw [List.length_map]; omega
  · rw [List.length_append, List.length_singleton]; exact Nat.le_refl _
theorem _root_.L2.Room.u65 {A : Around} {k : Nat} (hr : Room k A) : A.units + 65 < cLine := by have := hr.un; omega
theorem hu65 {A : Around} {k : Nat} (hr : Room k A) : A.units + 65 < cLine := by have := hr.un; omega
theorem atI2 (a b : V) : atI [a, b] 0 = some a ∧ atI [a, b] 1 = some b := ⟨rfl, rfl⟩
theorem atI_int {ns : List Int} {i : Int} (h0 : 0 ≤ i) (h : i < (ns.length : Int)) : atI (ns.map V.int) i = some (.int (ns.getD i.toNat 0)) := by
  have hk : i.toNat < ns.length := by omega
  have ek : i = ((i.toNat : Nat) : Int) := by omega
  have q : atI (ns.map V.int) ((i.toNat : Nat) : Int) = some (.int ns[i.toNat]) := atI_nat (by rw [List.getElem?_map, List.getElem?_eq_getElem hk] <;> rfl)
  rw [← ek] at q
  rw [q, List.getD_eq_getElem?_getD, List.getElem?_eq_getElem hk] <;> rfl
theorem atI_getD {ns : List Int} {i : Nat} (h : i < ns.length) : atI (ns.map V.int) (i : Int) = some (.int (ns.getD i 0)) := by
  have := atI_int (ns := ns) (i := (i : Int)) (by omega) (by omega)
  rw [Int.toNat_natCast] at this
  exact this
end Pm
/-! ### lists of pairs of numbers -/
namespace Pm
open PySem PySem.Spec PyProof.Rows L2
/-- item by item -/
def All2 {α β : Type} (R : α → β → Prop) : List α → List β → Prop
  | [], [] => True
  | x :: xs, y :: ys => R x y ∧ All2 R xs ys
  | _, _ => False
section
variable {α β : Type} {R S : α → β → Prop}
theorem All2.nil : All2 R [] [] := trivial
theorem All2.cons {x : α} {y : β} {xs : List α} {ys : List β} (h : R x y) (t : All2 R xs ys) : All2 R (x :: xs) (y :: ys) := ⟨h, t⟩
theorem All2.length : ∀ {xs : List α} {ys : List β}, All2 R xs ys → xs.length = ys.length
  | [], [], _ => rfl
  | _ :: _, _ :: _, h => by rw [List.length_cons, List.length_cons, h.2.length]
theorem All2.mono (f : ∀ x y, R x y → S x y) : ∀ {xs : List α} {ys : List β}, All2 R xs ys → All2 S xs ys
  | [], [], _ => trivial
  | _ :: _, _ :: _, h => ⟨f _ _ h.1, h.2.mono f⟩
theorem All2.get : ∀ {xs : List α} {ys : List β} {i : Nat} {x : α}, All2 R xs ys → xs[i]? = some x → ∃ y, ys[i]? = some y ∧ R x y
  | [], [], _, _, _, e => by simp at e
  | _ :: _, _ :: _, 0, _, h, e => by simp at e; subst e; exact ⟨_, rfl, h.1⟩
  | _ :: _, _ :: _, i + 1, x, h, e => by
    obtain ⟨y, e1, r⟩ := All2.get (i := i) (x := x) h.2 (by simpa using e)
    exact ⟨y, by simpa using e1, r⟩
theorem All2.get' : ∀ {xs : List α} {ys : List β} {i : Nat} {y : β}, All2 R xs ys → ys[i]? = some y → ∃ x, xs[i]? = some x ∧ R x y
  | [], [], _, _, _, e => by simp at e
  | _ :: _, _ :: _, 0, _, h, e => by simp at e; subst e; exact ⟨_, rfl, h.1⟩
  | _ :: _, _ :: _, i + 1, y, h, e => by
    obtain ⟨x, e1, r⟩ := All2.get' (i := i) (y := y) h.2 (by simpa using e)
    exact ⟨x, by simpa using e1, r⟩
theorem All2.append : ∀ {xs : List α} {ys : List β} {xs' : List α} {ys' : List β}, All2 R xs ys → All2 R xs' ys' → All2 R (xs ++ xs') (ys ++ ys')
  | [], [], _, _, _, h => h
  | _ :: _, _ :: _, _, _, h, h' => ⟨h.1, h.2.append h'⟩
theorem All2.snoc {xs : List α} {ys : List β} {x : α} {y : β} (h : All2 R xs ys) (r : R x y) : All2 R (xs ++ [x]) (ys ++ [y]) := h.append ⟨r, trivial⟩
theorem All2.take : ∀ {xs : List α} {ys : List β} (n : Nat), All2 R xs ys → All2 R (xs.take n) (ys.take n)
  | [], [], n, _ => by rw [List.take_nil, List.take_nil]; trivial
  | _ :: _, _ :: _, 0, _ => trivial
  | _ :: _, _ :: _, n + 1, h => ⟨h.1, h.2.take n⟩
theorem All2.drop : ∀ {xs : List α} {ys : List β} (n : Nat), All2 R xs ys → All2 R (xs.drop n) (ys.drop n)
  | [], [], n, _ => by rw [List.drop_nil, List.drop_nil]; trivial
  | _ :: _, _ :: _, 0, h => h
  | _ :: _, _ :: _, n + 1, h => h.2.drop n
theorem All2.set : ∀ {xs : List α} {ys : List β} (i : Nat) {x : α} {y : β}, All2 R xs ys → R x y → All2 R (xs.set i x) (ys.set i y)
  | [], [], _, _, _, _, _ => trivial
  | _ :: _, _ :: _, 0, _, _, h, r => ⟨r, h.2⟩
  | _ :: _, _ :: _, i + 1, _, _, h, r => ⟨h.1, h.2.set i r⟩
theorem All2.mem : ∀ {xs : List α} {ys : List β} {x : α}, All2 R xs ys → x ∈ xs → ∃ y, y ∈ ys ∧ R x y
  | [], [], _, _, e => by simp at e
  | a :: _, b :: _, x, h, e => by
    rcases List.mem_cons.mp e with e | e
    · subst e; exact ⟨b, List.mem_cons_self, h.1⟩
    · obtain ⟨y, e1, r⟩ := h.2.mem e
      exact ⟨y, List.mem_cons_of_mem _ e1, r⟩
theorem All2.map_eq {f : α → β} : ∀ {xs : List α} {ys : List β}, All2 R xs ys → (∀ x y, R x y → f x = y) → xs.map f = ys
  | [], [], _, _ => rfl
  | _ :: _, _ :: _, h, q => by rw [List.map_cons, q _ _ h.1, h.2.map_eq q]
theorem All2.of_map {f : α → β} : ∀ {xs : List α}, (∀ x ∈ xs, R x (f x)) → All2 R xs (xs.map f)
  | [], _ => trivial
  | _ :: _, h => ⟨h _ List.mem_cons_self, All2.of_map fun x hx => h x (List.mem_cons_of_mem _ hx)⟩
end
/-- tuples stay -/
def Keeps (H H' : Hp) : Prop := ∀ t xs, H t = some (.tup xs) → H' t = some (.tup xs)
theorem Keeps.refl (H : Hp) : Keeps H H := fun _ _ h => h
theorem Keeps.trans {H H1 H2 : Hp} (a : Keeps H H1) (b : Keeps H1 H2) : Keeps H H2 := fun t xs h => b t xs (a t xs h)
theorem keeps {H H' : Hp} (s : Same H H') : Keeps H H' := fun _ _ h => s _ _ h
theorem keeps_lst {H : Hp} {a : Addr} {xs ys : List V} (h : H a = some (.lst xs)) : Keeps H (upd H a (.lst ys)) := fun t zs e => by
  rw [upd_ne (fun z => by subst z; rw [e] at h; cases h)]
  exact e
theorem keeps_dT {H : Hp} {a : Addr} {xs ys : List (List L2.Key × V)} (h : H a = some (.dT xs)) : Keeps H (upd H a (.dT ys)) := fun t zs e => by
  rw [upd_ne (fun z => by subst z; rw [e] at h; cases h)]
  exact e
theorem keeps_dK {H : Hp} {a : Addr} {xs ys : List (L2.Key × V)} (h : H a = some (.dK xs)) : Keeps H (upd H a (.dK ys)) := fun t zs e => by
  rw [upd_ne (fun z => by subst z; rw [e] at h; cases h)]
  exact e
/-- all but the object at a stays -/
theorem same_but {H H' : Hp} {a : Addr} {o : HO} (h0 : H a = none) (s : Same H H') : Same H (upd H' a o) := fun b u e => by
  rw [upd_ne (fun z => by subst z; rw [h0] at e; cases e)]
  exact s b u e
/-! #### pairs -/
abbrev IP := Int × Int
def Pr (H : Hp) (v : V) (p : IP) : Prop := ∃ t, v = .ref t ∧ H t = some (.tup [.int p.1, .int p.2])
abbrev Prs (H : Hp) : List V → List IP → Prop := All2 (Pr H)
theorem Pr.keep {H H' : Hp} (k : Keeps H H') {v : V} {p : IP} (h : Pr H v p) : Pr H' v p := by
  obtain ⟨t, e, ht⟩ := h
  exact ⟨t, e, k _ _ ht⟩
theorem prs_keep {H H' : Hp} (k : Keeps H H') {vs : List V} {ps : List IP} (h : Prs H vs ps) : Prs H' vs ps := h.mono fun _ _ r => r.keep k
theorem Pr.inj {H : Hp} {v : V} {p q : IP} (h : Pr H v p) (k : Pr H v q) : p = q := by
  obtain ⟨t, rfl, ht⟩ := h
  obtain ⟨u, e, hu⟩ := k
  cases e
  rw [ht] at hu
  have e := HO.tup.inj (Option.some.inj hu)
  injection e with e1 e2
  injection e2 with e2 _
  obtain ⟨a, b⟩ := p
  obtain ⟨c, d⟩ := q
  rw [show a = c from V.int.inj e1, show b = d from V.int.inj e2]
/-- the pair at a value -/
def kOf (H : Hp) : V → IP
  | .ref t => match H t with
    | some (.tup [.int a, .int b]) => (a, b)
    | _ => (0, 0)
  | _ => (0, 0)
theorem Pr.k {H : Hp} {v : V} {p : IP} (h : Pr H v p) : kOf H v = p := by
  obtain ⟨t, rfl, ht⟩ := h
  show (match H t with | some (.tup [.int a, .int b]) => (a, b) | _ => (0, 0)) = p
  rw [ht]
theorem Pr.tup {K : PySem.W.Frag} {H : Hp} {t : Addr} {p : IP} (h : Pr H (.ref t) p) : SqT K H t [.int p.1, .int p.2] := by
  obtain ⟨u, e, hu⟩ := h
  cases e
  exact SqT.of hu
theorem pr_new {H : Hp} {t : Addr} {a b : Int} (h : H t = some (.tup [.int a, .int b])) : Pr H (.ref t) (a, b) := ⟨t, rfl, h⟩
def pD (p : IP) : PyData := .tuple [.int p.1, .int p.2]
theorem dp_pr {K : PySem.W.Frag} {H : Hp} {v : V} {p : IP} (h : Pr H v p) : Dp K H v (pD p) := by
  obtain ⟨t, rfl, ht⟩ := h
  exact dp_ints2 (SqT.of ht)
theorem dp_prs {K : PySem.W.Frag} {H : Hp} : ∀ {vs : List V} {ps : List IP}, Prs H vs ps → DpAll K H vs (ps.map pD)
  | [], [], _ => .nil
  | _ :: _, _ :: _, h => .cons (dp_pr h.1) (dp_prs h.2)
theorem eqv_pD (p q : IP) : PyData.eqv (pD p) (pD q) = decide (p = q) := by
  obtain ⟨a, b⟩ := p
  obtain ⟨c, d⟩ := q
  rw [show PyData.eqv (pD (a, b)) (pD (c, d)) = decide (a = c ∧ b = d) from eqv_ints2 a b c d]
  exact decide_eq_decide.mpr ⟨fun h => by rw [h.1, h.2], fun h => ⟨congrArg Prod.fst h, congrArg Prod.snd h⟩⟩
theorem eqvAll_pD : ∀ ps qs : List IP, PyData.eqvAll (ps.map pD) (qs.map pD) = decide (ps = qs)
  | [], [] => by simp [PyData.eqvAll]
  | [], q :: qs => by simp [PyData.eqvAll]
  | p :: ps, [] => by simp [PyData.eqvAll]
  | p :: ps, q :: qs => by
    rw [List.map_cons, List.map_cons, PyData.eqvAll, eqv_pD, eqvAll_pD ps qs]
    by_cases h : p = q <;> by_cases h2 : ps = qs <;> simp [h, h2]
theorem eqv_list (ps qs : List IP) : PyData.eqv (.list (ps.map pD)) (.list (qs.map pD)) = decide (ps = qs) := by
  rw [PyData.eqv, eqvAll_pD]
theorem any_pD (q : IP) : ∀ ps : List IP, ((ps.map pD).any fun z => PyData.eqv z (pD q)) = decide (q ∈ ps)
  | [] => by simp
  | p :: ps => by
    rw [List.map_cons, List.any_cons, eqv_pD, any_pD q ps]
    by_cases h : p = q
    · subst h; simp
    · have h2 : ¬ q = p := fun e => h e.symm
      simp [h, h2]
theorem lay_pD (p : IP) : (pD p).canLay0 = true := by simp [pD, PyData.canLay0, PyData.canLayAll0]
theorem lays_pD : ∀ ps : List IP, PyData.canLayAll0 (ps.map pD) = true
  | [] => by simp [PyData.canLayAll0]
  | p :: ps => by simp [PyData.canLayAll0, lay_pD p, lays_pD ps]
theorem depth_pD (p : IP) : (pD p).depth = 1 := by simp [pD, PyData.depth, PyData.depthAll]
theorem depths_pD : ∀ ps : List IP, PyData.depthAll (ps.map pD) ≤ 1
  | [] => by simp [PyData.depthAll]
  | p :: ps => by
    have h1 := depths_pD ps
    have h2 := depth_pD p
    simp only [List.map_cons, PyData.depthAll]
    omega
theorem shaped_pD (p : IP) : SeqAt.shaped (pD p) = true := by
  show ((pD p).canLay0 && decide ((pD p).depth ≤ 64)) = true
  rw [lay_pD, depth_pD]
  rfl
theorem shaped_pDs (ps : List IP) : SeqAt.shaped (.list (ps.map pD)) = true := by
  have h1 := depths_pD ps
  have h2 : PyData.depth (.list (ps.map pD)) ≤ 64 := by
    simp only [PyData.depth]
    omega
  show (PyData.canLay0 (.list (ps.map pD)) && decide (PyData.depth (.list (ps.map pD)) ≤ 64)) = true
  rw [Bool.and_eq_true]
  exact ⟨by simp only [PyData.canLay0]; exact lays_pD ps, decide_eq_true h2⟩
section
variable {K : PySem.W.Frag} {H : Hp} {Q : VK} {a b t u : Addr} {v : V} {vs ws : List V} {p q : IP} {ps qs : List IP}
theorem w_eqPL (h1 : SqL K H a vs) (p1 : Prs H vs ps) (h2 : SqL K H b ws) (p2 : Prs H ws qs) (h : Q (.bl (decide (ps = qs))) H) : rEqD K (.ref a) (.ref b) H Q :=
  ⟨_, _, .lst h1 (dp_prs p1), .lst h2 (dp_prs p2), shaped_pDs _, shaped_pDs _, by rw [eqv_list]; exact h⟩
theorem w_nePL (h1 : SqL K H a vs) (p1 : Prs H vs ps) (h2 : SqL K H b ws) (p2 : Prs H ws qs) (h : Q (.bl (!decide (ps = qs))) H) : rNeD K (.ref a) (.ref b) H Q :=
  ⟨_, _, .lst h1 (dp_prs p1), .lst h2 (dp_prs p2), shaped_pDs _, shaped_pDs _, by rw [eqv_list]; exact h⟩
theorem w_eqP (h1 : Pr H (.ref t) p) (h2 : Pr H (.ref u) q) (h : Q (.bl (decide (p = q))) H) : rEqD K (.ref t) (.ref u) H Q :=
  ⟨_, _, dp_pr h1, dp_pr h2, shaped_pD _, shaped_pD _, by rw [eqv_pD]; exact h⟩
theorem w_neP (h1 : Pr H (.ref t) p) (h2 : Pr H (.ref u) q) (h : Q (.bl (!decide (p = q))) H) : rNeD K (.ref t) (.ref u) H Q :=
  ⟨_, _, dp_pr h1, dp_pr h2, shaped_pD _, shaped_pD _, by rw [eqv_pD]; exact h⟩
theorem w_inPL (h1 : Pr H v p) (h2 : SqL K H a vs) (p2 : Prs H vs ps) (h : Q (.bl (decide (p ∈ ps))) H) : rInD K v (.ref a) H Q :=
  ⟨_, _, dp_pr h1, .lst h2 (dp_prs p2), shaped_pD _, shaped_pDs _, by rw [any_pD]; exact h⟩
theorem w_ninPL (h1 : Pr H v p) (h2 : SqL K H a vs) (p2 : Prs H vs ps) (h : Q (.bl (!decide (p ∈ ps))) H) : rNotInD K v (.ref a) H Q :=
  ⟨_, _, dp_pr h1, .lst h2 (dp_prs p2), shaped_pD _, shaped_pDs _, by rw [any_pD]; exact h⟩
end
/-! #### lists of numbers -/
theorem dp_ints {K : PySem.W.Frag} {H : Hp} : ∀ ns : List Int, DpAll K H (ns.map V.int) (ns.map PyData.int)
  | [] => .nil
  | i :: r => .cons (.int i) (dp_ints r)
theorem eqvAll_ints : ∀ ns ms : List Int, PyData.eqvAll (ns.map PyData.int) (ms.map PyData.int) = decide (ns = ms)
  | [], [] => by simp [PyData.eqvAll]
  | [], q :: qs => by simp [PyData.eqvAll]
  | p :: ps, [] => by simp [PyData.eqvAll]
  | p :: ps, q :: qs => by
    rw [List.map_cons, List.map_cons, PyData.eqvAll, eqvAll_ints ps qs, PyData.eqv]
    by_cases h : p = q <;> by_cases h2 : ps = qs <;> simp [h, h2]
theorem lays_ints : ∀ ns : List Int, PyData.canLayAll0 (ns.map PyData.int) = true
  | [] => by simp [PyData.canLayAll0]
  | p :: ps => by simp [PyData.canLayAll0, PyData.canLay0, lays_ints ps]
theorem depths_ints : ∀ ns : List Int, PyData.depthAll (ns.map PyData.int) = 0
  | [] => by simp [PyData.depthAll]
  | p :: ps => by simp [PyData.depthAll, PyData.depth, depths_ints ps]
theorem shaped_ints (ns : List Int) : SeqAt.shaped (.list (ns.map PyData.int)) = true := by
  show (PyData.canLay0 (.list (ns.map PyData.int)) && decide (PyData.depth (.list (ns.map PyData.int)) ≤ 64)) = true
  rw [Bool.and_eq_true]
  exact ⟨by simp only [PyData.canLay0]; exact lays_ints ns, decide_eq_true (by simp only [PyData.depth]; rw [depths_ints]; decide)⟩
theorem w_eqIL {K : PySem.W.Frag} {H : Hp} {Q : VK} {a b : Addr} {ns ms : List Int} (h1 : SqL K H a (ns.map V.int)) (h2 : SqL K H b (ms.map V.int)) (h : Q (.bl (decide (ns = ms))) H) : rEqD K (.ref a) (.ref b) H Q :=
  ⟨_, _, .lst h1 (dp_ints ns), .lst h2 (dp_ints ms), shaped_ints _, shaped_ints _, by rw [PyData.eqv, eqvAll_ints]; exact h⟩
theorem w_neIL {K : PySem.W.Frag} {H : Hp} {Q : VK} {a b : Addr} {ns ms : List Int} (h1 : SqL K H a (ns.map V.int)) (h2 : SqL K H b (ms.map V.int)) (h : Q (.bl (!decide (ns = ms))) H) : rNeD K (.ref a) (.ref b) H Q :=
  ⟨_, _, .lst h1 (dp_ints ns), .lst h2 (dp_ints ms), shaped_ints _, shaped_ints _, by rw [PyData.eqv, eqvAll_ints]; exact h⟩
/-! #### in order -/
def lexLe (p q : IP) : Bool := decide (p.1 < q.1 ∨ (p.1 = q.1 ∧ p.2 ≤ q.2))
theorem lexLe_iff {p q : IP} : lexLe p q = true ↔ (p.1 < q.1 ∨ (p.1 = q.1 ∧ p.2 ≤ q.2)) := decide_eq_true_iff
theorem lexLe_trans (p q r : IP) (h : lexLe p q = true) (k : lexLe q r = true) : lexLe p r = true := by
  have h := lexLe_iff.mp h
  have k := lexLe_iff.mp k
  exact lexLe_iff.mpr (by omega)
theorem lexLe_total (p q : IP) : (lexLe p q || lexLe q p) = true := by
  rw [Bool.or_eq_true, lexLe_iff, lexLe_iff]
  omega
theorem lexLe_anti {p q : IP} (h : lexLe p q = true) (k : lexLe q p = true) : p = q := by
  have h := lexLe_iff.mp h
  have k := lexLe_iff.mp k
  obtain ⟨a, b⟩ := p
  obtain ⟨c, d⟩ := q
  simp only at h k
  have e1 : a = c := by omega
  have e2 : b = d := by omega
  rw [e1, e2]
abbrev Rising (ps : List IP) : Prop := ps.Pairwise fun p q => lexLe p q = true
def sortP (ps : List IP) : List IP := ps.mergeSort lexLe
theorem sortP_perm (ps : List IP) : (sortP ps).Perm ps := List.mergeSort_perm ps lexLe
theorem sortP_rising (ps : List IP) : Rising (sortP ps) := List.pairwise_mergeSort lexLe_trans lexLe_total ps
theorem rising_eq {ps qs : List IP} (h : Rising ps) (k : Rising qs) (e : ps.Perm qs) : ps = qs := List.Perm.eq_of_pairwise (fun _ _ _ _ a b => lexLe_anti a b) h k e
theorem sortP_eq {ps qs : List IP} (h : Rising ps) (e : ps.Perm qs) : sortP qs = ps := rising_eq (sortP_rising qs) h ((sortP_perm qs).trans e.symm)
theorem sortP_self {ps : List IP} (h : Rising ps) : sortP ps = ps := sortP_eq h (List.Perm.refl _)
theorem sortP_congr {ps qs : List IP} (e : ps.Perm qs) : sortP ps = sortP qs := sortP_eq (sortP_rising qs) ((sortP_perm qs).trans e.symm)
theorem sortP_len (ps : List IP) : (sortP ps).length = ps.length := (sortP_perm ps).length_eq
theorem mem_sortP {p : IP} {ps : List IP} : p ∈ sortP ps ↔ p ∈ ps := (sortP_perm ps).mem_iff
theorem lexB_le {p q : IP} (h : SrtO.lexB q p = false) : lexLe p q = true := by
  have h := SrtO.lexB_no.mp h
  exact lexLe_iff.mpr (by omega)
theorem w_sortP {K : PySem.W.Frag} {H : Hp} {Q : VK} {a : Addr} {vs : List V} {ps : List IP} (h1 : SqL K H a vs) (p1 : Prs H vs ps) (h : ∀ ys p, H p = none → Prs H ys (sortP ps) → Q (.ref p) (upd H p (.lst ys))) : rSortedPO K [.ref a] H Q := by
  refine ⟨a, vs, kOf H, rfl, h1, fun x hx => ?_, fun ys p hs hb hp => h ys p hp ?_⟩
  · obtain ⟨q, _, r⟩ := p1.mem hx
    rw [r.k]
    obtain ⟨t, rfl, ht⟩ := r
    exact ⟨t, rfl, ht⟩
  · have e1 : vs.map (kOf H) = ps := p1.map_eq fun _ _ r => r.k
    have pm : (ys.map (kOf H)).Perm ps := by rw [← e1]; exact hb.perm.map _
    have rs : Rising (ys.map (kOf H)) := List.pairwise_map.mpr (hs.imp fun {x y} q => lexB_le q)
    rw [sortP_eq rs pm]
    refine All2.of_map fun y hy => ?_
    obtain ⟨q, _, r⟩ := p1.mem (hb.perm.mem_iff.mp hy)
    rw [r.k]
    exact r
/-- a new list of pairs -/
def PLNew (H : Hp) (ps : List IP) (Q : VK) : Prop := ∀ (p : Addr) (H' : Hp) (ws : List V), Same H H' → H p = none → H' p = some (.lst ws) → Prs H' ws ps → Q (.ref p) H'
/-- a list of pairs that is handed in -/
def PL (K : PySem.W.Frag) (H : Hp) (a : Addr) (ps : List IP) : Prop := ∃ vs, SqL K H a vs ∧ Prs H vs ps
theorem PL.same {K : PySem.W.Frag} {H H' : Hp} {a : Addr} {ps : List IP} (h : PL K H a ps) (s : Same H H') : PL K H' a ps := by
  obtain ⟨vs, h1, h2⟩ := h
  exact ⟨vs, s.seq h1, prs_keep (keeps s) h2⟩
/-! #### comprehensions, item by item -/
section
variable {H : Hp} {Q : VK} {σ : L2.St} {g : TG} {tt : TT} {te : TE} {vs : List Nat} {β : Type} {R : Hp → V → β → Prop}
theorem put_next (mono : ∀ H H' v b, Keeps H H' → R H v b → R H' v b) {H0 H1 H4 : Hp} {D : Addr} {acc : List V} {bs : List β} {y : V} {b : β} {Pv : Hp → Prop} (hD : H0 D = none) (s1 : Same H0 H1) (hd : H1 D = some (.lst acc)) (ha : All2 (R H1) acc bs) (hz : bs.length < 1000000)
    (s4 : Same H1 H4) (hy : R H4 y b) (hp : ∀ H5 acc', Same H0 H5 → H5 D = some (.lst acc') → All2 (R H5) acc' (bs ++ [b]) → Pv H5) : LcPut D Pv y H4 := by
  refine w_put (s4 _ _ hd) (size_lt (by rw [ha.length]; omega)) (hp _ _ (same_but hD (s1.trans s4)) upd_same ?_)
  have k := keeps_lst (ys := acc ++ [y]) (s4 _ _ hd)
  exact (ha.mono fun _ _ r => mono _ _ _ _ k (mono _ _ _ _ (keeps s4) r)).snoc (mono _ _ _ _ k hy)
/-- [f(k) for k in range(n)] -/
theorem w_lcRm (mono : ∀ H H' v b, Keeps H H' → R H v b → R H' v b) {lo : Int} {n : Nat} (f : Nat → β) (hn : n < 1000000)
    (body : ∀ D i H1 (Nx : Hp → Prop), H D = none → i < n → Same H H1 → (∀ y H4, Same H1 H4 → R H4 y (f i) → LcPut D Nx y H4) → g (.int (lo + i)) (wipe σ vs) H1 (LcTurn tt te vs σ D Nx))
    (done : ∀ D H1 ws, H D = none → Same H H1 → H1 D = some (.lst ws) → All2 (R H1) ws ((List.range n).map f) → Q (.ref D) H1) : LcB g tt te vs σ Q (Itr lo n) H := by
  refine w_lcR fun D hD => ⟨fun i H1 => Same H H1 ∧ ∃ acc, H1 D = some (.lst acc) ∧ All2 (R H1) acc ((List.range i).map f), ⟨same_new hD _, [], upd_same, trivial⟩, ?_, ?_⟩
  · rintro i H1 hi ⟨s1, acc, hd, ha⟩
    refine body D i H1 _ hD hi s1 fun y H4 s4 hy => ?_
    refine put_next mono hD s1 hd ha (by rw [List.length_map, List.length_range]; omega) s4 hy fun H5 acc' s5 h5 a5 => ⟨s5, acc', h5, ?_⟩
    rw [List.range_succ, List.map_append]
    exact a5
  · rintro H1 ⟨s1, acc, hd, ha⟩
    exact done D H1 acc hD s1 hd ha
/-- [f(x) for x in xs if p(x)]: the items taken by a relation of their own -/
theorem w_lcLf (mono : ∀ H H' v b, Keeps H H' → R H v b → R H' v b) {K : PySem.W.Frag} {a : Addr} {xs : List V} {γ : Type} {S : Hp → V → γ → Prop} (monoS : ∀ H H' v b, Keeps H H' → S H v b → S H' v b) {cs : List γ} (hl : SqL K H a xs) (hx : All2 (S H) xs cs) (f : γ → β) (pr : γ → Bool) (hn : cs.length < 1000000)
    (body : ∀ D (x : V) (c : γ) H1 (Nx : Hp → Prop), H D = none → c ∈ cs → S H1 x c → Same H H1 → (∀ y H4, pr c = true → Same H1 H4 → R H4 y (f c) → LcPut D Nx y H4) → (∀ H4, pr c = false → Same H1 H4 → Nx H4) → g x (wipe σ vs) H1 (LcTurn tt te vs σ D Nx))
    (done : ∀ D H1 ws, H D = none → Same H H1 → H1 D = some (.lst ws) → All2 (R H1) ws ((cs.filter pr).map f) → Q (.ref D) H1) : LcB g tt te vs σ Q (Itl K a) H := by
  have hlen := hx.length
  refine w_lcL (xs := xs) fun D hD => ⟨fun i H1 => Same H H1 ∧ ∃ acc, H1 D = some (.lst acc) ∧ All2 (R H1) acc (((cs.take i).filter pr).map f), ⟨same_new hD _, [], upd_same, trivial⟩, ?_, ?_, ?_⟩
  · rintro i H1 _ ⟨s1, _⟩
    exact s1.seq hl
  · rintro i x H1 hi ⟨s1, acc, hd, ha⟩
    obtain ⟨c, hc, hs⟩ := hx.get hi
    have hlt : i < cs.length := (List.getElem?_eq_some_iff.mp hc).1
    have hle : (((cs.take i).filter pr).map f).length < 1000000 := by
      rw [List.length_map]
      have := List.length_filter_le pr (cs.take i)
      rw [List.length_take] at this
      omega
    have et : cs.take (i + 1) = cs.take i ++ [c] := by rw [List.take_add_one, hc] <;> rfl
    refine body D x c H1 _ hD (List.mem_of_getElem? hc) (monoS _ _ _ _ (keeps s1) hs) s1 (fun y H4 hp s4 hy => ?_) (fun H4 hp s4 => ?_)
    · refine put_next mono hD s1 hd ha hle s4 hy fun H5 acc' s5 h5 a5 => ⟨s5, acc', h5, ?_⟩
      rw [et, List.filter_append, List.map_append]
      have e1 : List.filter pr [c] = [c] := by simp [hp]
      rw [e1]
      exact a5
    · refine ⟨s1.trans s4, acc, s4 _ _ hd, ?_⟩
      have e1 : List.filter pr [c] = [] := by simp [hp]
      rw [et, List.filter_append, e1, List.append_nil]
      exact ha.mono fun _ _ r => mono _ _ _ _ (keeps s4) r
  · rintro H1 ⟨s1, acc, hd, ha⟩
    rw [hlen, List.take_length] at ha
    exact done D H1 acc hD s1 hd ha
end
theorem pr_mono (H H' : Hp) (v : V) (b : IP) (k : Keeps H H') (h : Pr H v b) : Pr H' v b := h.keep k
/-- an int as an item -/
def In (_ : Hp) (v : V) (i : Int) : Prop := v = .int i
theorem in_mono (H H' : Hp) (v : V) (b : Int) (_ : Keeps H H') (h : In H v b) : In H' v b := h
theorem ins_map {H : Hp} : ∀ {vs : List V} {ns : List Int}, All2 (In H) vs ns → vs = ns.map V.int
  | [], [], _ => rfl
  | _ :: _, _ :: _, h => by rw [List.map_cons, ← ins_map h.2, h.1]
theorem ins_of {H : Hp} : ∀ ns : List Int, All2 (In H) (ns.map V.int) ns
  | [] => trivial
  | _ :: r => ⟨rfl, ins_of r⟩
theorem take_snoc {α : Type} {l : List α} {i : Nat} {x : α} (h : l[i]? = some x) : l.take (i + 1) = l.take i ++ [x] := by rw [List.take_add_one, h] <;> rfl
end Pm
/-! ### cuttings as trees: a leaf is a tie of two neighbours, a node a tie with the post beside it -/
namespace Pm
inductive Tr where
  | leaf
  | node (l r : Tr)
namespace Tr
def w : Tr → Nat
  | leaf => 1
  | node l r => l.w + r.w
theorem w_pos : ∀ t : Tr, 1 ≤ t.w
  | leaf => Nat.le_refl _
  | node l r => by have := l.w_pos; show 1 ≤ l.w + r.w; omega
/-- all ties -/
def all : Nat → Tr → List (Nat × Nat)
  | lo, leaf => [(lo, lo + 1)]
  | lo, node l r => (lo, lo + (l.w + r.w)) :: (l.all lo ++ r.all (lo + l.w))
/-- the ties of nodes -/
def inn : Nat → Tr → List (Nat × Nat)
  | _, leaf => []
  | lo, node l r => (lo, lo + (l.w + r.w)) :: (l.inn lo ++ r.inn (lo + l.w))
/-- the ropes of the whole -/
def ropes : Nat → Tr → List (Nat × Nat)
  | _, leaf => []
  | lo, node l r => l.inn lo ++ r.inn (lo + l.w)
theorem inn_node {lo : Nat} {t : Tr} (h : 2 ≤ t.w) : t.inn lo = (lo, lo + t.w) :: t.ropes lo := by
  cases t with
  | leaf => exact absurd h (by show ¬ 2 ≤ 1; omega)
  | node l r => rfl
theorem bd : ∀ {t : Tr} {lo : Nat} {p : Nat × Nat}, p ∈ t.all lo → lo ≤ p.1 ∧ p.1 < p.2 ∧ p.2 ≤ lo + t.w
  | leaf, lo, p, h => by
    rw [List.mem_singleton.mp h]
    exact ⟨Nat.le_refl _, Nat.lt_succ_self _, Nat.le_refl _⟩
  | node l r, lo, p, h => by
    have wl := l.w_pos
    have wr := r.w_pos
    show lo ≤ p.1 ∧ p.1 < p.2 ∧ p.2 ≤ lo + (l.w + r.w)
    rcases List.mem_cons.mp h with h | h
    · rw [h]; simp only; omega
    · rcases List.mem_append.mp h with h | h
      · have := bd h; omega
      · have := bd h; omega
theorem mem_node {l r : Tr} {lo : Nat} {p : Nat × Nat} : p ∈ (node l r).all lo ↔ p = (lo, lo + (l.w + r.w)) ∨ p ∈ l.all lo ∨ p ∈ r.all (lo + l.w) := by
  show p ∈ _ :: (_ ++ _) ↔ _
  rw [List.mem_cons, List.mem_append]
theorem root_mem {t : Tr} {lo : Nat} : (lo, lo + t.w) ∈ t.all lo := by
  cases t with
  | leaf => exact List.mem_singleton.mpr rfl
  | node l r => exact List.mem_cons_self
theorem inn_all : ∀ {t : Tr} {lo : Nat} {p : Nat × Nat}, p ∈ t.inn lo → p ∈ t.all lo
  | leaf, _, _, h => by cases h
  | node l r, lo, p, h => by
    rw [mem_node]
    rcases List.mem_cons.mp h with h | h
    · exact .inl h
    · rcases List.mem_append.mp h with h | h
      · exact .inr (.inl (inn_all h))
      · exact .inr (.inr (inn_all h))
theorem inn_wide : ∀ {t : Tr} {lo : Nat} {p : Nat × Nat}, p ∈ t.inn lo → p.1 + 2 ≤ p.2
  | leaf, _, _, h => by cases h
  | node l r, lo, p, h => by
    have wl := l.w_pos
    have wr := r.w_pos
    rcases List.mem_cons.mp h with h | h
    · rw [h]; simp only; omega
    · rcases List.mem_append.mp h with h | h
      · exact inn_wide h
      · exact inn_wide h
/-- a tie is one of a node, or of two neighbours -/
theorem all_iff : ∀ {t : Tr} {lo : Nat} {p : Nat × Nat}, p ∈ t.all lo ↔ p ∈ t.inn lo ∨ (lo ≤ p.1 ∧ p.2 = p.1 + 1 ∧ p.2 ≤ lo + t.w)
  | leaf, lo, p => by
    show p ∈ [(lo, lo + 1)] ↔ p ∈ [] ∨ (lo ≤ p.1 ∧ p.2 = p.1 + 1 ∧ p.2 ≤ lo + 1)
    obtain ⟨a, b⟩ := p
    simp only [List.mem_singleton, Prod.mk.injEq, List.not_mem_nil, false_or]
    omega
  | node l r, lo, p => by
    have wl := l.w_pos
    have wr := r.w_pos
    rw [mem_node, all_iff (t := l), all_iff (t := r)]
    show _ ↔ p ∈ _ :: (_ ++ _) ∨ (lo ≤ p.1 ∧ p.2 = p.1 + 1 ∧ p.2 ≤ lo + (l.w + r.w))
    rw [List.mem_cons, List.mem_append]
    constructor
    · rintro (h | (h | h) | (h | h))
      · exact .inl (.inl h)
      · exact .inl (.inr (.inl h))
      · exact .inr (by omega)
      · exact .inl (.inr (.inr h))
      · exact .inr (by omega)
    · rintro ((h | h | h) | h)
      · exact .inl h
      · exact .inr (.inl (.inl h))
      · exact .inr (.inr (.inl h))
      · by_cases c : p.2 ≤ lo + l.w
        · exact .inr (.inl (.inr (by omega)))
        · exact .inr (.inr (.inr (by omega)))
/-- the one post between the ends of a node's tie -/
theorem apex_in : ∀ {t : Tr} {lo a b : Nat}, (a, b) ∈ t.inn lo → ∃ m, (a < m ∧ m < b) ∧ (a, m) ∈ t.all lo ∧ (m, b) ∈ t.all lo ∧ ∀ m', a < m' → m' < b → (a, m') ∈ t.all lo → (m', b) ∈ t.all lo → m' = m
  | leaf, _, _, _, h => by cases h
  | node l r, lo, a, b, h => by
    have wl := l.w_pos
    have wr := r.w_pos
    rcases List.mem_cons.mp h with h | h
    · obtain ⟨rfl, rfl⟩ := Prod.mk.inj h
      refine ⟨a + l.w, ⟨by omega, by omega⟩, mem_node.mpr (.inr (.inl root_mem)), mem_node.mpr (.inr (.inr (by rw [← Nat.add_assoc]; exact root_mem))), fun m' h1 h2 h3 h4 => ?_⟩
      rcases mem_node.mp h3 with e | e | e
      · have := (Prod.mk.inj e).2; omega
      · have q := (bd e).2.2
        simp only at q
        rcases mem_node.mp h4 with e | e | e
        · have := (Prod.mk.inj e).1; omega
        · have := (bd e).2.2; simp only at this; omega
        · have := (bd e).1; simp only at this; omega
      · have := (bd e).1; simp only at this; omega
    · rcases List.mem_append.mp h with h | h
      · have q := bd (inn_all h)
        simp only at q
        obtain ⟨m, hm, h1, h2, u⟩ := apex_in h
        refine ⟨m, hm, mem_node.mpr (.inr (.inl h1)), mem_node.mpr (.inr (.inl h2)), fun m' g1 g2 g3 g4 => u m' g1 g2 ?_ ?_⟩
        · rcases mem_node.mp g3 with e | e | e
          · have := (Prod.mk.inj e).2; omega
          · exact e
          · have := (bd e).1; simp only at this; omega
        · rcases mem_node.mp g4 with e | e | e
          · have := (Prod.mk.inj e).1; omega
          · exact e
          · have := (bd e).1; simp only at this; omega
      · have q := bd (inn_all h)
        simp only at q
        obtain ⟨m, hm, h1, h2, u⟩ := apex_in h
        refine ⟨m, hm, mem_node.mpr (.inr (.inr h1)), mem_node.mpr (.inr (.inr h2)), fun m' g1 g2 g3 g4 => u m' g1 g2 ?_ ?_⟩
        · rcases mem_node.mp g3 with e | e | e
          · have := (Prod.mk.inj e).1; omega
          · have := (bd e).2.2; simp only at this; omega
          · exact e
        · rcases mem_node.mp g4 with e | e | e
          · have := (Prod.mk.inj e).1; omega
          · have := (bd e).2.2; simp only at this; omega
          · exact e
/-- m makes a plot with (a, b) from outside -/
def Out (t : Tr) (lo a b m : Nat) : Prop := (m < a ∧ (m, a) ∈ t.all lo ∧ (m, b) ∈ t.all lo) ∨ (b < m ∧ (a, m) ∈ t.all lo ∧ (b, m) ∈ t.all lo)
theorem Out.up_l {l r : Tr} {lo a b m : Nat} (h : Out l lo a b m) : Out (node l r) lo a b m := by
  rcases h with ⟨h, h1, h2⟩ | ⟨h, h1, h2⟩
  · exact .inl ⟨h, mem_node.mpr (.inr (.inl h1)), mem_node.mpr (.inr (.inl h2))⟩
  · exact .inr ⟨h, mem_node.mpr (.inr (.inl h1)), mem_node.mpr (.inr (.inl h2))⟩
theorem Out.up_r {l r : Tr} {lo a b m : Nat} (h : Out r (lo + l.w) a b m) : Out (node l r) lo a b m := by
  rcases h with ⟨h, h1, h2⟩ | ⟨h, h1, h2⟩
  · exact .inl ⟨h, mem_node.mpr (.inr (.inr h1)), mem_node.mpr (.inr (.inr h2))⟩
  · exact .inr ⟨h, mem_node.mpr (.inr (.inr h1)), mem_node.mpr (.inr (.inr h2))⟩
theorem Out.down_l {l r : Tr} {lo a b m : Nat} (q : lo ≤ a ∧ a < b ∧ b ≤ lo + l.w) (n : ¬ (a = lo ∧ b = lo + l.w)) (h : Out (node l r) lo a b m) : Out l lo a b m := by
  have wr := r.w_pos
  rcases h with ⟨h, h1, h2⟩ | ⟨h, h1, h2⟩
  · refine .inl ⟨h, ?_, ?_⟩
    · rcases mem_node.mp h1 with e | e | e
      · have := (Prod.mk.inj e).2; omega
      · exact e
      · have := (bd e).1; simp only at this; omega
    · rcases mem_node.mp h2 with e | e | e
      · have := (Prod.mk.inj e).2; omega
      · exact e
      · have := (bd e).1; simp only at this; omega
  · have hb : (b, m) ∈ l.all lo ∨ b = lo + l.w := by
      rcases mem_node.mp h2 with e | e | e
      · have := (Prod.mk.inj e).1; omega
      · exact .inl e
      · have := (bd e).1; simp only at this; exact .inr (by omega)
    rcases hb with hb | hb
    · have z := (bd hb).2.2
      simp only at z
      refine .inr ⟨h, ?_, hb⟩
      rcases mem_node.mp h1 with e | e | e
      · have := (Prod.mk.inj e).2; omega
      · exact e
      · have := (bd e).1; simp only at this; omega
    · exfalso
      rcases mem_node.mp h1 with e | e | e
      · have := (Prod.mk.inj e).1; omega
      · have := (bd e).2.2; simp only at this; omega
      · have := (bd e).1; simp only at this; omega
theorem Out.down_r {l r : Tr} {lo a b m : Nat} (q : lo + l.w ≤ a ∧ a < b ∧ b ≤ lo + l.w + r.w) (n : ¬ (a = lo + l.w ∧ b = lo + l.w + r.w)) (h : Out (node l r) lo a b m) : Out r (lo + l.w) a b m := by
  have wl := l.w_pos
  rcases h with ⟨h, h1, h2⟩ | ⟨h, h1, h2⟩
  · have ha : (m, a) ∈ r.all (lo + l.w) ∨ a = lo + l.w := by
      rcases mem_node.mp h1 with e | e | e
      · have := (Prod.mk.inj e).2; omega
      · have := (bd e).2.2; simp only at this; exact .inr (by omega)
      · exact .inl e
    rcases ha with ha | ha
    · have z := (bd ha).1
      simp only at z
      refine .inl ⟨h, ha, ?_⟩
      rcases mem_node.mp h2 with e | e | e
      · have := (Prod.mk.inj e).1; omega
      · have := (bd e).2.2; simp only at this; omega
      · exact e
    · exfalso
      rcases mem_node.mp h2 with e | e | e
      · have := (Prod.mk.inj e).2; omega
      · have := (bd e).2.2; simp only at this; omega
      · have := (bd e).1; simp only at this; omega
  · refine .inr ⟨h, ?_, ?_⟩
    · rcases mem_node.mp h1 with e | e | e
      · have := (Prod.mk.inj e).1; omega
      · have := (bd e).2.2; simp only at this; omega
      · exact e
    · rcases mem_node.mp h2 with e | e | e
      · have := (Prod.mk.inj e).1; omega
      · have := (bd e).2.2; simp only at this; omega
      · exact e
theorem Out.bd {t : Tr} {lo a b m : Nat} (h : Out t lo a b m) : lo ≤ m ∧ m ≤ lo + t.w := by
  rcases h with ⟨h, h1, h2⟩ | ⟨h, h1, h2⟩
  · have := Tr.bd h1; simp only at this; omega
  · have := Tr.bd h1; simp only at this; omega
/-- the one post outside a tie that is not the whole's -/
theorem apex_out : ∀ {t : Tr} {lo a b : Nat}, (a, b) ∈ t.all lo → ¬ (a = lo ∧ b = lo + t.w) → ∃ m, Out t lo a b m ∧ ∀ m', Out t lo a b m' → m' = m
  | leaf, lo, a, b, h, n => by
    exfalso
    obtain ⟨e1, e2⟩ := Prod.mk.inj (List.mem_singleton.mp h)
    exact n ⟨e1, e2⟩
  | node l r, lo, a, b, h, n => by
    have wl := l.w_pos
    have wr := r.w_pos
    rcases mem_node.mp h with h | h | h
    · exact absurd (Prod.mk.inj h) n
    · have q := Tr.bd h
      simp only at q
      by_cases c : a = lo ∧ b = lo + l.w
      · obtain ⟨rfl, rfl⟩ := c
        refine ⟨a + (l.w + r.w), .inr ⟨by omega, mem_node.mpr (.inl rfl), mem_node.mpr (.inr (.inr (by rw [← Nat.add_assoc]; exact root_mem)))⟩, fun m' o => ?_⟩
        rcases o with ⟨h, h1, h2⟩ | ⟨h, h1, h2⟩
        · have := (Tr.bd h1).1; simp only at this; omega
        · rcases mem_node.mp h1 with e | e | e
          · exact (Prod.mk.inj e).2
          · have := (Tr.bd e).2.2; simp only at this; omega
          · have := (Tr.bd e).1; simp only at this; omega
      · obtain ⟨m, o, u⟩ := apex_out h c
        exact ⟨m, o.up_l, fun m' o' => u m' (o'.down_l q c)⟩
    · have q := Tr.bd h
      simp only at q
      by_cases c : a = lo + l.w ∧ b = lo + l.w + r.w
      · obtain ⟨rfl, rfl⟩ := c
        refine ⟨lo, .inl ⟨by omega, mem_node.mpr (.inr (.inl root_mem)), mem_node.mpr (.inl (by rw [Nat.add_assoc]))⟩, fun m' o => ?_⟩
        rcases o with ⟨h, h1, h2⟩ | ⟨h, h1, h2⟩
        · rcases mem_node.mp h2 with e | e | e
          · exact (Prod.mk.inj e).1
          · have := (Tr.bd e).2.2; simp only at this; omega
          · have := (Tr.bd e).1; simp only at this; omega
        · have := (Tr.bd h1).2.2; simp only at this; change m' ≤ lo + (l.w + r.w) at this; omega
      · obtain ⟨m, o, u⟩ := apex_out h c
        exact ⟨m, o.up_r, fun m' o' => u m' (o'.down_r q c)⟩
end Tr
end Pm
/-! ### a cutting drawn ear by ear is a tree -/
namespace Pm
namespace Tr
def graft : Tr → Nat → Tr
  | leaf, _ => node leaf leaf
  | node l r, j => if j < l.w then node (l.graft j) r else node l (r.graft (j - l.w))
theorem w_graft : ∀ {t : Tr} {j : Nat}, j < t.w → (t.graft j).w = t.w + 1
  | leaf, _, _ => rfl
  | node l r, j, h => by
    unfold graft
    split
    · rename_i c
      show (l.graft j).w + r.w = l.w + r.w + 1
      rw [w_graft c]; omega
    · rename_i c
      show l.w + (r.graft (j - l.w)).w = l.w + r.w + 1
      have : j < l.w + r.w := h
      rw [w_graft (by omega)]; omega
def sk (c i : Nat) : Nat := if i < c then i else i + 1
def skp (c : Nat) (p : Nat × Nat) : Nat × Nat := (sk c p.1, sk c p.2)
theorem inn_shift : ∀ (t : Tr) (lo : Nat), t.inn (lo + 1) = (t.inn lo).map fun p => (p.1 + 1, p.2 + 1)
  | leaf, _ => rfl
  | node l r, lo => by
    show (lo + 1, lo + 1 + (l.w + r.w)) :: (l.inn (lo + 1) ++ r.inn (lo + 1 + l.w)) = ((lo, lo + (l.w + r.w)) :: (l.inn lo ++ r.inn (lo + l.w))).map _
    rw [List.map_cons, List.map_append, inn_shift l lo, show lo + 1 + l.w = lo + l.w + 1 by omega, inn_shift r (lo + l.w)]
    congr 2
    omega
theorem ropes_shift (t : Tr) (lo : Nat) : t.ropes (lo + 1) = (t.ropes lo).map fun p => (p.1 + 1, p.2 + 1) := by
  cases t with
  | leaf => rfl
  | node l r =>
    show l.inn (lo + 1) ++ r.inn (lo + 1 + l.w) = (l.inn lo ++ r.inn (lo + l.w)).map _
    rw [List.map_append, inn_shift l lo, show lo + 1 + l.w = lo + l.w + 1 by omega, inn_shift r (lo + l.w)]
theorem skp_up {t : Tr} {lo c : Nat} (h : c ≤ lo) : (t.inn lo).map (skp c) = t.inn (lo + 1) := by
  rw [inn_shift]
  refine List.map_congr_left fun p hp => ?_
  have q := bd (inn_all hp)
  unfold skp sk
  rw [if_neg (by omega), if_neg (by omega)]
theorem skp_down {t : Tr} {lo c : Nat} (h : lo + t.w < c) : (t.inn lo).map (skp c) = t.inn lo := by
  conv => rhs; rw [← List.map_id (t.inn lo)]
  refine List.map_congr_left fun p hp => ?_
  have q := bd (inn_all hp)
  unfold skp sk
  rw [if_pos (by omega), if_pos (by omega)]
  rfl
theorem inn_graft : ∀ {t : Tr} {lo j : Nat}, j < t.w → ((t.graft j).inn lo).Perm ((lo + j, lo + j + 2) :: (t.inn lo).map (skp (lo + j + 1)))
  | leaf, lo, j, h => by
    have : j = 0 := by have h : j < 1 := h; omega
    subst this
    exact List.Perm.refl _
  | node l r, lo, j, h => by
    have h : j < l.w + r.w := h
    have wr := r.w_pos
    have wl := l.w_pos
    show ((graft (node l r) j).inn lo).Perm ((lo + j, lo + j + 2) :: ((lo, lo + (l.w + r.w)) :: (l.inn lo ++ r.inn (lo + l.w))).map _)
    rw [List.map_cons, List.map_append]
    have e0 : skp (lo + j + 1) (lo, lo + (l.w + r.w)) = (lo, lo + (l.w + r.w) + 1) := by
      unfold skp sk
      rw [if_pos (by omega), if_neg (by omega)]
    rw [e0]
    unfold graft
    split
    · rename_i c
      show ((lo, lo + ((l.graft j).w + r.w)) :: ((l.graft j).inn lo ++ r.inn (lo + (l.graft j).w))).Perm _
      rw [w_graft c, skp_up (t := r) (show lo + j + 1 ≤ lo + l.w by omega), show lo + (l.w + 1 + r.w) = lo + (l.w + r.w) + 1 by omega, show lo + (l.w + 1) = lo + l.w + 1 by omega]
      exact ((inn_graft c).append_right _).cons _ |>.trans (List.Perm.swap _ _ _)
    · rename_i c
      have c' : j - l.w < r.w := by omega
      show ((lo, lo + (l.w + (r.graft (j - l.w)).w)) :: (l.inn lo ++ (r.graft (j - l.w)).inn (lo + l.w))).Perm _
      have ih := inn_graft (t := r) (lo := lo + l.w) c'
      rw [show lo + l.w + (j - l.w) = lo + j by omega] at ih
      rw [w_graft c', skp_down (t := l) (show lo + l.w < lo + j + 1 by omega), show lo + (l.w + (r.w + 1)) = lo + (l.w + r.w) + 1 by omega]
      refine ((ih.append_left _).cons _).trans ?_
      refine (List.Perm.cons _ List.perm_middle).trans (List.Perm.swap _ _ _)
theorem ropes_graft {t : Tr} {j : Nat} (h : j < t.w) (h2 : 2 ≤ t.w) : ((t.graft j).ropes 0).Perm ((j, j + 2) :: (t.ropes 0).map (skp (j + 1))) := by
  have q := inn_graft (lo := 0) h
  rw [inn_node (t := t) h2, inn_node (t := t.graft j) (by rw [w_graft h]; omega), w_graft h, List.map_cons] at q
  have e0 : skp (0 + j + 1) (0, 0 + t.w) = (0, 0 + (t.w + 1)) := by
    unfold skp sk
    rw [if_pos (by omega), if_neg (by omega)]
    congr 1
  rw [e0] at q
  have q2 := q.trans (List.Perm.swap _ _ _)
  have q3 := q2.cons_inv
  rw [Nat.zero_add] at q3
  exact q3
end Tr
abbrev Ear := Int × Int × Int
/-- all ears of a ring, cut off one by one -/
inductive Ears : List Int → List Ear → Prop
  | done {L : List Int} (h : L.length ≤ 3) : Ears L []
  | step {L : List Int} {es : List Ear} (k : Nat) (h3 : 3 < L.length) (hk : k < L.length) (t : Ears (L.eraseIdx k) es) :
      Ears L ((L.getD k 0, L.getD ((k + L.length - 1) % L.length) 0, L.getD ((k + 1) % L.length) 0) :: es)
def tieOf (a b : Int) : IP := (min a b, max a b)
def ropeOf (e : Ear) : IP := tieOf e.2.1 e.2.2
theorem getD_erase (L : List Int) (k i : Nat) : (L.eraseIdx k).getD i 0 = L.getD (Tr.sk k i) 0 := by
  rw [List.getD_eq_getElem?_getD, List.getD_eq_getElem?_getD, List.getElem?_eraseIdx]
  unfold Tr.sk
  split <;> rfl
theorem rise_get {L : List Int} (h : L.Pairwise (· < ·)) {i j : Nat} (hij : i < j) (hj : j < L.length) : L.getD i 0 < L.getD j 0 := by
  have q := List.pairwise_iff_getElem.mp h i j (by omega) hj hij
  rw [List.getD_eq_getElem?_getD, List.getD_eq_getElem?_getD, List.getElem?_eq_getElem (by omega), List.getElem?_eq_getElem hj]
  exact q
def atP (L : List Int) (p : Nat × Nat) : IP := (L.getD p.1 0, L.getD p.2 0)
theorem atP_erase (L : List Int) (k : Nat) (p : Nat × Nat) : atP (L.eraseIdx k) p = atP L (Tr.skp k p) := by
  unfold atP Tr.skp
  rw [getD_erase, getD_erase]
theorem tie_lt {a b : Int} (h : a < b) : tieOf a b = (a, b) := by unfold tieOf; rw [Int.min_eq_left (by omega), Int.max_eq_right (by omega)]
theorem tie_gt {a b : Int} (h : a < b) : tieOf b a = (a, b) := by unfold tieOf; rw [Int.min_eq_right (by omega), Int.max_eq_left (by omega)]
theorem drawn_tree {L : List Int} {es : List Ear} (h : Ears L es) : L.Pairwise (· < ·) → 3 ≤ L.length → ∃ t : Tr, t.w + 1 = L.length ∧ (es.map ropeOf).Perm ((t.ropes 0).map (atP L)) := by
  induction h with
  | done h =>
    intro _ h3
    exact ⟨.node .leaf .leaf, by show 2 + 1 = _; omega, List.Perm.refl _⟩
  | @step L es k h3 hk _ ih =>
    intro rise _
    have le : (L.eraseIdx k).length = L.length - 1 := List.length_eraseIdx_of_lt hk
    obtain ⟨t, hw, hp⟩ := ih (rise.sublist (List.eraseIdx_sublist L k)) (by omega)
    have w2 : 2 ≤ t.w := by omega
    have hp : (es.map ropeOf).Perm ((t.ropes 0).map fun p => atP L (Tr.skp k p)) := by
      rw [show (fun p => atP L (Tr.skp k p)) = atP (L.eraseIdx k) from funext fun p => (atP_erase L k p).symm]
      exact hp
    by_cases k0 : k = 0
    · subst k0
      refine ⟨.node .leaf t, by show 1 + t.w + 1 = _; omega, ?_⟩
      have e1 : (Tr.node .leaf t).ropes 0 = (1, 1 + t.w) :: (t.ropes 0).map (Tr.skp 0) := by
        show [] ++ t.inn (0 + 1) = _
        rw [List.nil_append, Tr.inn_node w2, Tr.ropes_shift]
        rfl
      have e2 : (0 + L.length - 1) % L.length = L.length - 1 := by rw [Nat.zero_add]; exact Nat.mod_eq_of_lt (by omega)
      have e3 : (0 + 1) % L.length = 1 := Nat.mod_eq_of_lt (by omega)
      rw [List.map_cons, e1, List.map_cons, List.map_map]
      have e4 : ropeOf (L.getD 0 0, L.getD ((0 + L.length - 1) % L.length) 0, L.getD ((0 + 1) % L.length) 0) = atP L (1, 1 + t.w) := by
        unfold ropeOf atP
        rw [e2, e3]
        simp only
        rw [show 1 + t.w = L.length - 1 by omega]
        exact tie_gt (rise_get rise (by omega) (by omega))
      rw [e4]
      exact hp.cons _
    · by_cases km : k = L.length - 1
      · refine ⟨.node t .leaf, by show t.w + 1 + 1 = _; omega, ?_⟩
        have e1 : (Tr.node t .leaf).ropes 0 = (0, t.w) :: t.ropes 0 := by
          show t.inn 0 ++ [] = _
          rw [List.append_nil, Tr.inn_node w2, Nat.zero_add]
        have e2 : (k + L.length - 1) % L.length = k - 1 := by
          rw [show k + L.length - 1 = (k - 1) + L.length by omega, Nat.add_mod_right]
          exact Nat.mod_eq_of_lt (by omega)
        have e3 : (k + 1) % L.length = 0 := by
          rw [show k + 1 = L.length by omega]
          exact Nat.mod_self _
        have e5 : (t.ropes 0).map (fun p => atP L (Tr.skp k p)) = (t.ropes 0).map (atP L) := by
          refine List.map_congr_left fun p hp => ?_
          have hin : p ∈ t.inn 0 := by rw [Tr.inn_node w2]; exact List.mem_cons_of_mem _ hp
          have q := Tr.bd (Tr.inn_all hin)
          unfold Tr.skp Tr.sk
          rw [if_pos (by omega), if_pos (by omega)]
        rw [e5] at hp
        rw [List.map_cons, e1, List.map_cons]
        have e4 : ropeOf (L.getD k 0, L.getD ((k + L.length - 1) % L.length) 0, L.getD ((k + 1) % L.length) 0) = atP L (0, t.w) := by
          unfold ropeOf atP
          rw [e2, e3]
          simp only
          rw [show t.w = k - 1 by omega]
          exact tie_gt (rise_get rise (by omega) (by omega))
        rw [e4]
        exact hp.cons _
      · refine ⟨t.graft (k - 1), by rw [Tr.w_graft (by omega)]; omega, ?_⟩
        have e1 := Tr.ropes_graft (t := t) (j := k - 1) (by omega) w2
        rw [show k - 1 + 1 = k by omega, show k - 1 + 2 = k + 1 by omega] at e1
        have e2 : (k + L.length - 1) % L.length = k - 1 := by
          rw [show k + L.length - 1 = (k - 1) + L.length by omega, Nat.add_mod_right]
          exact Nat.mod_eq_of_lt (by omega)
        have e3 : (k + 1) % L.length = k + 1 := Nat.mod_eq_of_lt (by omega)
        have e4 : ropeOf (L.getD k 0, L.getD ((k + L.length - 1) % L.length) 0, L.getD ((k + 1) % L.length) 0) = atP L (k - 1, k + 1) := by
          unfold ropeOf atP
          rw [e2, e3]
          exact tie_lt (rise_get rise (by omega) (by omega))
        rw [List.map_cons, e4]
        refine (hp.cons _).trans ?_
        have q := (e1.map (atP L)).symm
        rw [List.map_cons, List.map_map] at q
        exact q
def castP (p : Nat × Nat) : IP := ((p.1 : Int), (p.2 : Int))
/-- the posts of a ring -/
def posts (n : Nat) : List Int := (List.range n).map fun i : Nat => (i : Int)
theorem posts_len (n : Nat) : (posts n).length = n := by rw [posts, List.length_map, List.length_range]
theorem posts_rise (n : Nat) : (posts n).Pairwise (· < ·) := by
  rw [posts, List.pairwise_map]
  exact List.pairwise_lt_range.imp fun h => by omega
theorem posts_get {n i : Nat} (h : i < n) : (posts n).getD i 0 = (i : Int) := by
  rw [posts, List.getD_eq_getElem?_getD, List.getElem?_map, List.getElem?_range h] <;> rfl
theorem ropes_bd {t : Tr} {p : Nat × Nat} (hp : p ∈ t.ropes 0) : p ∈ t.inn 0 ∧ ¬ (p.1 = 0 ∧ p.2 = t.w) := by
  cases t with
  | leaf => cases hp
  | node l r =>
    have wl := l.w_pos
    have wr := r.w_pos
    refine ⟨List.mem_cons_of_mem _ hp, ?_⟩
    show ¬ (p.1 = 0 ∧ p.2 = l.w + r.w)
    rcases List.mem_append.mp hp with h | h
    · have := Tr.bd (Tr.inn_all h); omega
    · have := Tr.bd (Tr.inn_all h); omega
theorem drawn_posts {n : Nat} {es : List Ear} (h : Ears (posts n) es) (hn : 3 ≤ n) : ∃ t : Tr, t.w + 1 = n ∧ (es.map ropeOf).Perm ((t.ropes 0).map castP) := by
  obtain ⟨t, hw, hp⟩ := drawn_tree h (posts_rise n) (by rw [posts_len]; exact hn)
  rw [posts_len] at hw
  refine ⟨t, hw, ?_⟩
  have e : (t.ropes 0).map (atP (posts n)) = (t.ropes 0).map castP := by
    refine List.map_congr_left fun p hp => ?_
    have q := Tr.bd (Tr.inn_all (ropes_bd hp).1)
    unfold atP castP
    rw [posts_get (by omega), posts_get (by omega)]
  rw [e] at hp
  exact hp
end Pm
namespace Pm
open PySem PySem.Spec PyProof.Rows L2
/-! ### sides, ties, the posts beside -/
def sides0 (n : Nat) : List IP := ((List.range (n - 1)).map fun k : Nat => ((k : Int), (k : Int) + 1)) ++ [(0, (n : Int) - 1)]
def sidesL (n : Nat) : List IP := sortP (sides0 n)
def tiesL (n : Nat) (cut : List IP) : List IP := sortP (sides0 n ++ cut)
theorem sides0_len {n : Nat} (h : 1 ≤ n) : (sides0 n).length = n := by
  rw [sides0, List.length_append, List.length_map, List.length_range, List.length_singleton]; omega
theorem tiesL_eq (n : Nat) (cut : List IP) : sortP (sidesL n ++ cut) = tiesL n cut := sortP_congr ((sortP_perm _).append_right _)
theorem mem_ties {n : Nat} {cut : List IP} {p : IP} : p ∈ tiesL n cut ↔ p ∈ sides0 n ∨ p ∈ cut := by rw [tiesL, mem_sortP, List.mem_append]
def isBeside (T : List IP) (a b : Int) (c : Nat) : Bool := decide (tieOf a c ∈ T) && decide (tieOf b c ∈ T)
def besideL (n : Nat) (T : List IP) (a b : Int) : List Int := ((List.range n).filter (isBeside T a b)).map fun c : Nat => (c : Int)
/-- a tracked list of pairs -/
def PLt (H : Hp) (a : Addr) (ps : List IP) : Prop := ∃ vs, H a = some (.lst vs) ∧ Prs H vs ps
theorem PLt.same {H H' : Hp} {a : Addr} {ps : List IP} (h : PLt H a ps) (s : Same H H') : PLt H' a ps := by
  obtain ⟨vs, h1, h2⟩ := h
  exact ⟨vs, s _ _ h1, prs_keep (keeps s) h2⟩
theorem PLt.upd {H : Hp} {a b : Addr} {ps : List IP} {xs ys : List V} (h : PLt H a ps) (n : a ≠ b) (hb : H b = some (.lst xs)) : PLt (upd H b (.lst ys)) a ps := by
  obtain ⟨vs, h1, h2⟩ := h
  exact ⟨vs, by rw [upd_ne n]; exact h1, prs_keep (keeps_lst hb) h2⟩
/-- an ear as a tuple -/
def Er (H : Hp) (v : V) (e : Ear) : Prop := ∃ t, v = .ref t ∧ H t = some (.tup [.int e.1, .int e.2.1, .int e.2.2])
theorem er_mono (H H' : Hp) (v : V) (e : Ear) (k : Keeps H H') (h : Er H v e) : Er H' v e := by
  obtain ⟨t, rfl, ht⟩ := h
  exact ⟨t, rfl, k _ _ ht⟩
theorem er_new {H : Hp} {t : Addr} {a b c : Int} (h : H t = some (.tup [.int a, .int b, .int c])) : Er H (.ref t) (a, b, c) := ⟨t, rfl, h⟩
end Pm
/-! ### cuttings and their ties -/
namespace Pm
open PySem PySem.Spec PyProof.Rows L2
/-- cut is the cutting of the tree t -/
structure Cutting (n : Nat) (cut : List IP) (t : Tr) : Prop where
  w : t.w + 1 = n
  n3 : 3 ≤ n
  perm : cut.Perm ((t.ropes 0).map castP)
  rise : Rising cut
theorem drawn_cutting {n : Nat} {es : List Ear} (h : Ears (posts n) es) (hn : 3 ≤ n) : ∃ t, Cutting n (sortP (es.map ropeOf)) t := by
  obtain ⟨t, hw, hp⟩ := drawn_posts h hn
  exact ⟨t, hw, hn, (sortP_perm _).trans hp, sortP_rising _⟩
theorem castP_inj {p q : Nat × Nat} (h : castP p = castP q) : p = q := by
  obtain ⟨a, b⟩ := p
  obtain ⟨c, d⟩ := q
  have e1 := congrArg Prod.fst h
  have e2 := congrArg Prod.snd h
  simp only [castP] at e1 e2
  rw [show a = c by omega, show b = d by omega]
theorem mem_sides0 {n : Nat} {p : IP} (hn : 2 ≤ n) : p ∈ sides0 n ↔ (∃ k : Nat, k + 1 < n ∧ p = castP (k, k + 1)) ∨ p = castP (0, n - 1) := by
  unfold sides0
  rw [List.mem_append, List.mem_map, List.mem_singleton]
  constructor
  · rintro (⟨k, hk, rfl⟩ | rfl)
    · exact .inl ⟨k, by have := List.mem_range.mp hk; omega, by simp [castP]⟩
    · exact .inr (by simp only [castP]; congr 1; omega)
  · rintro (⟨k, hk, rfl⟩ | rfl)
    · exact .inl ⟨k, List.mem_range.mpr (by omega), by simp [castP]⟩
    · exact .inr (by simp only [castP]; congr 1; omega)
section
variable {n : Nat} {cut : List IP} {t : Tr}
theorem Cutting.mem (C : Cutting n cut t) {p : IP} : p ∈ cut ↔ ∃ q, q ∈ t.ropes 0 ∧ p = castP q := by
  rw [C.perm.mem_iff, List.mem_map]
  exact ⟨fun ⟨q, h, e⟩ => ⟨q, h, e.symm⟩, fun ⟨q, h, e⟩ => ⟨q, h, e.symm⟩⟩
theorem Cutting.w2 (C : Cutting n cut t) : 2 ≤ t.w := by have := C.w; have := C.n3; omega
theorem inn_iff {q : Nat × Nat} (h : 2 ≤ t.w) : q ∈ t.inn 0 ↔ q = (0, t.w) ∨ q ∈ t.ropes 0 := by
  rw [Tr.inn_node h, List.mem_cons, Nat.zero_add]
theorem ropes_iff {q : Nat × Nat} (h : 2 ≤ t.w) : q ∈ t.ropes 0 ↔ q ∈ t.inn 0 ∧ q ≠ (0, t.w) := by
  constructor
  · intro hq
    have z := ropes_bd hq
    exact ⟨z.1, fun e => z.2 (by rw [e]; exact ⟨rfl, rfl⟩)⟩
  · rintro ⟨h1, h2⟩
    exact ((inn_iff h).mp h1).resolve_left h2
theorem Cutting.ties (C : Cutting n cut t) {p : IP} : p ∈ tiesL n cut ↔ ∃ q, q ∈ t.all 0 ∧ p = castP q := by
  have h2 := C.w2
  have hw := C.w
  rw [mem_ties, mem_sides0 (by omega), C.mem]
  constructor
  · rintro ((⟨k, hk, rfl⟩ | rfl) | ⟨q, hq, rfl⟩)
    · exact ⟨_, Tr.all_iff.mpr (.inr ⟨Nat.zero_le _, rfl, by simp only; omega⟩), rfl⟩
    · refine ⟨_, Tr.inn_all ((inn_iff h2).mpr (.inl rfl)), ?_⟩
      rw [← hw] <;> rfl
    · exact ⟨q, Tr.inn_all ((inn_iff h2).mpr (.inr hq)), rfl⟩
  · rintro ⟨q, hq, rfl⟩
    rcases Tr.all_iff.mp hq with h | ⟨_, h, h'⟩
    · rcases (inn_iff h2).mp h with rfl | h
      · refine .inl (.inr ?_)
        rw [← hw] <;> rfl
      · exact .inr ⟨q, h, rfl⟩
    · refine .inl (.inl ⟨q.1, by omega, ?_⟩)
      obtain ⟨a, b⟩ := q
      simp only at h
      rw [h]
theorem Cutting.tied (C : Cutting n cut t) {a b : Nat} : castP (a, b) ∈ tiesL n cut ↔ (a, b) ∈ t.all 0 := by
  rw [C.ties]
  exact ⟨fun ⟨q, h, e⟩ => by rw [castP_inj e]; exact h, fun h => ⟨_, h, rfl⟩⟩
theorem tie_cast (a c : Nat) : tieOf (a : Int) (c : Int) = castP (min a c, max a c) := by
  unfold tieOf castP
  simp only
  congr 1 <;> omega
theorem tie_comm (a b : Int) : tieOf a b = tieOf b a := by unfold tieOf; rw [Int.min_comm, Int.max_comm]
theorem beside_comm (T : List IP) (a b : Int) : besideL n T a b = besideL n T b a := by
  unfold besideL
  congr 2
  funext c
  unfold isBeside
  rw [Bool.and_comm]
/-- beside: between, or outside -/
theorem Cutting.beside_iff (C : Cutting n cut t) {a b c : Nat} (hab : a < b) : isBeside (tiesL n cut) a b c = true ↔ ((a < c ∧ c < b) ∧ (a, c) ∈ t.all 0 ∧ (c, b) ∈ t.all 0) ∨ Tr.Out t 0 a b c := by
  unfold isBeside
  rw [Bool.and_eq_true, decide_eq_true_iff, decide_eq_true_iff, tie_cast, tie_cast, C.tied, C.tied]
  rcases Nat.lt_trichotomy c a with h | h | h
  · rw [Nat.min_eq_right (by omega), Nat.max_eq_left (by omega), Nat.min_eq_right (by omega), Nat.max_eq_left (by omega)]
    unfold Tr.Out
    constructor
    · exact fun q => .inr (.inl ⟨h, q⟩)
    · rintro (⟨q, _⟩ | ⟨_, q⟩ | ⟨q, _⟩)
      · omega
      · exact q
      · omega
  · subst h
    rw [Nat.min_self, Nat.max_self]
    constructor
    · rintro ⟨q, _⟩
      have := (Tr.bd q).2.1
      simp only at this
      omega
    · unfold Tr.Out
      rintro (⟨q, _⟩ | ⟨q, _⟩ | ⟨q, _⟩) <;> omega
  · rw [Nat.min_eq_left (by omega), Nat.max_eq_right (by omega)]
    rcases Nat.lt_trichotomy c b with h' | h' | h'
    · rw [Nat.min_eq_right (by omega), Nat.max_eq_left (by omega)]
      unfold Tr.Out
      constructor
      · exact fun q => .inl ⟨⟨h, h'⟩, q⟩
      · rintro (⟨_, q⟩ | ⟨q, _⟩ | ⟨q, _⟩)
        · exact q
        · omega
        · omega
    · subst h'
      rw [Nat.min_self, Nat.max_self]
      constructor
      · rintro ⟨_, q⟩
        have := (Tr.bd q).2.1
        simp only at this
        omega
      · unfold Tr.Out
        rintro (⟨q, _⟩ | ⟨q, _⟩ | ⟨q, _⟩) <;> omega
    · rw [Nat.min_eq_left (by omega), Nat.max_eq_right (by omega)]
      unfold Tr.Out
      constructor
      · exact fun q => .inr (.inr ⟨h', q⟩)
      · rintro (⟨q, _⟩ | ⟨q, _⟩ | ⟨_, q⟩)
        · omega
        · omega
        · exact q
end
theorem filter_range_eq {n : Nat} {p : Nat → Bool} {l : List Nat} (hl : l.Pairwise (· < ·)) (h : ∀ c, c ∈ l ↔ c < n ∧ p c = true) : (List.range n).filter p = l := by
  have h1 : ((List.range n).filter p).Pairwise (· < ·) := List.pairwise_lt_range.sublist List.filter_sublist
  have nd : ∀ {l : List Nat}, l.Pairwise (· < ·) → l.Nodup := fun q => q.imp fun z => by omega
  refine List.Perm.eq_of_pairwise (le := (· < ·)) (fun a b _ _ h1 h2 => absurd h1 (by omega)) h1 hl ((List.perm_ext_iff_of_nodup (nd h1) (nd hl)).mpr fun c => ?_)
  rw [List.mem_filter, List.mem_range, h]
section
variable {n : Nat} {cut : List IP} {t : Tr}
/-- the posts beside a rope: the one between, the one outside -/
theorem Cutting.beside_rope (C : Cutting n cut t) {a b : Nat} (h : (a, b) ∈ t.ropes 0) : ∃ m o : Nat, (a < m ∧ m < b) ∧ (a, m) ∈ t.all 0 ∧ (m, b) ∈ t.all 0 ∧ Tr.Out t 0 a b o ∧ (o < a ∨ b < o) ∧ o < n ∧
    besideL n (tiesL n cut) a b = [((min m o : Nat) : Int), ((max m o : Nat) : Int)] := by
  have hw := C.w
  have hi := (ropes_bd h)
  have hb := Tr.bd (Tr.inn_all hi.1)
  simp only at hb
  obtain ⟨m, hm, h1, h2, u⟩ := Tr.apex_in hi.1
  obtain ⟨o, ho, uo⟩ := Tr.apex_out (Tr.inn_all hi.1) (by rw [Nat.zero_add]; exact hi.2)
  have bo := ho.bd
  have oo : o < a ∨ b < o := by
    rcases ho with ⟨q, _⟩ | ⟨q, _⟩
    · exact .inl q
    · exact .inr q
  refine ⟨m, o, hm, h1, h2, ho, oo, by omega, ?_⟩
  have e : (List.range n).filter (isBeside (tiesL n cut) a b) = [min m o, max m o] := by
    refine filter_range_eq ?_ fun c => ?_
    · refine List.pairwise_cons.mpr ⟨fun c hc => ?_, List.pairwise_singleton _ _⟩
      rw [List.mem_singleton.mp hc]
      omega
    · rw [C.beside_iff hb.2.1, List.mem_cons, List.mem_singleton]
      constructor
      · intro hc
        have : c = m ∨ c = o := by omega
        rcases this with rfl | rfl
        · exact ⟨by omega, .inl ⟨hm, h1, h2⟩⟩
        · exact ⟨by omega, .inr ho⟩
      · rintro ⟨_, ⟨hc, q1, q2⟩ | hc⟩
        · have := u c hc.1 hc.2 q1 q2; omega
        · have := uo c hc; omega
  unfold besideL
  rw [e]
  rfl
/-- one post beside a side -/
theorem Cutting.beside_side (C : Cutting n cut t) {a b : Nat} (h : (a, b) ∈ t.all 0) (h' : (a, b) ∉ t.ropes 0) : ∃ m : Nat, m < n ∧ besideL n (tiesL n cut) a b = [(m : Int)] := by
  have hw := C.w
  have w2 := C.w2
  have hb := Tr.bd h
  simp only at hb
  suffices hs : ∃ m : Nat, m < n ∧ ∀ c, (((a < c ∧ c < b) ∧ (a, c) ∈ t.all 0 ∧ (c, b) ∈ t.all 0) ∨ Tr.Out t 0 a b c) ↔ c = m by
    obtain ⟨m, hm, hc⟩ := hs
    refine ⟨m, hm, ?_⟩
    have e : (List.range n).filter (isBeside (tiesL n cut) a b) = [m] := by
      refine filter_range_eq (List.pairwise_singleton _ _) fun c => ?_
      rw [C.beside_iff hb.2.1, hc, List.mem_singleton]
      exact ⟨fun e => ⟨by omega, e⟩, fun e => e.2⟩
    unfold besideL
    rw [e]
    rfl
  rcases Tr.all_iff.mp h with hi | hi
  · have er : (a, b) = (0, t.w) := by
      rcases (inn_iff w2).mp hi with e | e
      · exact e
      · exact absurd e h'
    obtain ⟨rfl, rfl⟩ := Prod.mk.inj er
    obtain ⟨m, hm, h1, h2, u⟩ := Tr.apex_in hi
    refine ⟨m, by omega, fun c => ⟨?_, fun e => .inl (by rw [e]; exact ⟨hm, h1, h2⟩)⟩⟩
    rintro (⟨q, q1, q2⟩ | q)
    · exact u c q.1 q.2 q1 q2
    · have := q.bd
      rcases q with ⟨q, _⟩ | ⟨q, _⟩ <;> omega
  · simp only at hi
    have nr : ¬ (a = 0 ∧ b = 0 + t.w) := by omega
    obtain ⟨o, ho, uo⟩ := Tr.apex_out h nr
    have := ho.bd
    refine ⟨o, by omega, fun c => ⟨?_, fun e => .inr (by rw [e]; exact ho)⟩⟩
    rintro (⟨q, _⟩ | q)
    · omega
    · exact uo c q
/-- how many posts are beside a tie -/
theorem Cutting.beside_len (C : Cutting n cut t) {a b : Int} (h : tieOf a b ∈ tiesL n cut) : (besideL n (tiesL n cut) a b).length = 1 + (if tieOf a b ∈ cut then 1 else 0) := by
  obtain ⟨⟨x, y⟩, hq, e⟩ := C.ties.mp h
  have hb := Tr.bd hq
  simp only at hb
  have main : (besideL n (tiesL n cut) (x : Int) (y : Int)).length = 1 + (if castP (x, y) ∈ cut then 1 else 0) := by
    by_cases hr : (x, y) ∈ t.ropes 0
    · obtain ⟨m, o, _, _, _, _, _, _, z⟩ := C.beside_rope hr
      rw [z, if_pos (C.mem.mpr ⟨_, hr, rfl⟩)]
      rfl
    · obtain ⟨m, _, z⟩ := C.beside_side hq hr
      rw [z, if_neg (fun hc => by
        obtain ⟨q, h1, h2⟩ := C.mem.mp hc
        rw [← castP_inj h2] at h1
        exact hr h1)]
      rfl
  rw [e]
  have e1 := congrArg Prod.fst e
  have e2 := congrArg Prod.snd e
  simp only [tieOf, castP] at e1 e2
  by_cases hab : a ≤ b
  · rw [Int.min_eq_left hab] at e1
    rw [Int.max_eq_right hab] at e2
    rw [e1, e2]
    exact main
  · rw [Int.min_eq_right (by omega)] at e1
    rw [Int.max_eq_left (by omega)] at e2
    rw [beside_comm, e1, e2]
    exact main
end
end Pm
/-! ### a rope turned: the tree rotated -/
namespace Pm
namespace Tr
theorem noncross : ∀ {t : Tr} {lo : Nat} {p q : Nat × Nat}, p ∈ t.all lo → q ∈ t.all lo → ¬ (p.1 < q.1 ∧ q.1 < p.2 ∧ p.2 < q.2)
  | leaf, lo, p, q, hp, hq => by
    rw [List.mem_singleton.mp hp, List.mem_singleton.mp hq]
    simp only
    omega
  | node l r, lo, p, q, hp, hq => by
    have bp := bd hp
    have bq := bd hq
    have e : (node l r).w = l.w + r.w := rfl
    rw [e] at bp bq
    rcases mem_node.mp hp with h | h | h <;> rcases mem_node.mp hq with k | k | k
    · rw [h, k]; simp only; omega
    · rw [h]; simp only; omega
    · rw [h]; simp only; omega
    · rw [k]; simp only; omega
    · exact noncross h k
    · have := bd h; have := bd k; omega
    · rw [k]; simp only; omega
    · have := bd h; have := bd k; omega
    · exact noncross h k
theorem inn_nodup : ∀ (t : Tr) (lo : Nat), (t.inn lo).Nodup
  | leaf, _ => List.nodup_nil
  | node l r, lo => by
    have wl := l.w_pos
    have wr := r.w_pos
    show ((lo, lo + (l.w + r.w)) :: (l.inn lo ++ r.inn (lo + l.w))).Nodup
    refine List.nodup_cons.mpr ⟨fun h => ?_, List.nodup_append.mpr ⟨inn_nodup l lo, inn_nodup r _, fun a ha b hb e => ?_⟩⟩
    · rcases List.mem_append.mp h with h | h
      · have := bd (inn_all h); simp only at this; omega
      · have := bd (inn_all h); simp only at this; omega
    · subst e
      have := bd (inn_all ha)
      have := bd (inn_all hb)
      omega
theorem ropes_nodup (t : Tr) (lo : Nat) : (t.ropes lo).Nodup := by
  cases t with
  | leaf => exact List.nodup_nil
  | node l r => exact (List.nodup_cons.mp (inn_nodup (node l r) lo)).2
/-- the tree turned at the rope (x, y), its ropes by a common rest R; m between, o outside -/
structure Flip (t t' : Tr) (lo x y m o : Nat) (R : List (Nat × Nat)) : Prop where
  w : t'.w = t.w
  old : (t.ropes lo).Perm ((x, y) :: R)
  new : (t'.ropes lo).Perm ((min m o, max m o) :: R)
  btw : x < m ∧ m < y
  out : Out t lo x y o
  am : (x, m) ∈ t.all lo
  mb : (m, y) ∈ t.all lo
theorem flip_up_l {l l' r : Tr} {lo x y m o : Nat} {R : List (Nat × Nat)} (hl : 2 ≤ l.w) (F : Flip l l' lo x y m o R) : Flip (node l r) (node l' r) lo x y m o ((lo, lo + l.w) :: (R ++ r.inn (lo + l.w))) := by
  refine ⟨?_, ?_, ?_, F.btw, F.out.up_l, mem_node.mpr (.inr (.inl F.am)), mem_node.mpr (.inr (.inl F.mb))⟩
  · show l'.w + r.w = l.w + r.w
    rw [F.w]
  · show (l.inn lo ++ r.inn (lo + l.w)).Perm _
    rw [inn_node hl]
    exact ((F.old.append_right _).cons _).trans (List.Perm.swap _ _ _)
  · show (l'.inn lo ++ r.inn (lo + l'.w)).Perm _
    rw [inn_node (show 2 ≤ l'.w by rw [F.w]; exact hl), F.w]
    exact ((F.new.append_right _).cons _).trans (List.Perm.swap _ _ _)
theorem flip_up_r {l r r' : Tr} {lo x y m o : Nat} {R : List (Nat × Nat)} (hr : 2 ≤ r.w) (F : Flip r r' (lo + l.w) x y m o R) : Flip (node l r) (node l r') lo x y m o ((lo + l.w, lo + l.w + r.w) :: (R ++ l.inn lo)) := by
  refine ⟨?_, ?_, ?_, F.btw, F.out.up_r, mem_node.mpr (.inr (.inr F.am)), mem_node.mpr (.inr (.inr F.mb))⟩
  · show l.w + r'.w = l.w + r.w
    rw [F.w]
  · show (l.inn lo ++ r.inn (lo + l.w)).Perm _
    rw [inn_node hr]
    refine List.perm_append_comm.trans ?_
    exact ((F.old.append_right _).cons _).trans (List.Perm.swap _ _ _)
  · show (l.inn lo ++ r'.inn (lo + l.w)).Perm _
    rw [inn_node (show 2 ≤ r'.w by rw [F.w]; exact hr), F.w]
    refine List.perm_append_comm.trans ?_
    exact ((F.new.append_right _).cons _).trans (List.Perm.swap _ _ _)
theorem flip : ∀ {t : Tr} {lo x y : Nat}, (x, y) ∈ t.ropes lo → ∃ t' m o R, Flip t t' lo x y m o R
  | leaf, _, _, _, h => by cases h
  | node l r, lo, x, y, h => by
    have wl := l.w_pos
    have wr := r.w_pos
    rcases List.mem_append.mp h with h | h
    · have wl2 : 2 ≤ l.w := by
        cases l with
        | leaf => cases h
        | node a b => have := a.w_pos; have := b.w_pos; show 2 ≤ a.w + b.w; omega
      rw [inn_node wl2] at h
      rcases List.mem_cons.mp h with h | h
      · obtain ⟨rfl, rfl⟩ := Prod.mk.inj h
        cases l with
        | leaf => exact absurd wl2 (by show ¬ 2 ≤ 1; omega)
        | node a b =>
          have wa := a.w_pos
          have wb := b.w_pos
          refine ⟨node a (node b r), x + a.w, x + (a.w + b.w + r.w), a.inn x ++ (b.inn (x + a.w) ++ r.inn (x + (a.w + b.w))), ?_, ?_, ?_, ?_, ?_, ?_, ?_⟩
          · show a.w + (b.w + r.w) = a.w + b.w + r.w; omega
          · show (((x, x + (a.w + b.w)) :: (a.inn x ++ b.inn (x + a.w))) ++ r.inn (x + (a.w + b.w))).Perm _
            rw [List.cons_append, List.append_assoc]
            exact List.Perm.refl _
          · show (a.inn x ++ ((x + a.w, x + a.w + (b.w + r.w)) :: (b.inn (x + a.w) ++ r.inn (x + a.w + b.w)))).Perm _
            rw [Nat.min_eq_left (by omega), Nat.max_eq_right (by omega), show x + a.w + (b.w + r.w) = x + (a.w + b.w + r.w) by omega, show x + a.w + b.w = x + (a.w + b.w) by omega]
            exact List.perm_middle
          · show x < x + a.w ∧ x + a.w < x + (a.w + b.w); omega
          · refine .inr ⟨?_, mem_node.mpr (.inl rfl), mem_node.mpr (.inr (.inr ?_))⟩
            · show x + (a.w + b.w) < x + (a.w + b.w + r.w); omega
            · show (x + (a.w + b.w), x + (a.w + b.w + r.w)) ∈ r.all (x + (a.w + b.w))
              rw [show x + (a.w + b.w + r.w) = x + (a.w + b.w) + r.w by omega]; exact root_mem
          · exact mem_node.mpr (.inr (.inl (mem_node.mpr (.inr (.inl root_mem)))))
          · refine mem_node.mpr (.inr (.inl (mem_node.mpr (.inr (.inr ?_)))))
            show (x + a.w, x + (a.w + b.w)) ∈ b.all (x + a.w)
            rw [show x + (a.w + b.w) = x + a.w + b.w by omega]; exact root_mem
      · obtain ⟨l', m, o, R, F⟩ := flip h
        exact ⟨node l' r, m, o, _, flip_up_l wl2 F⟩
    · have wr2 : 2 ≤ r.w := by
        cases r with
        | leaf => cases h
        | node a b => have := a.w_pos; have := b.w_pos; show 2 ≤ a.w + b.w; omega
      rw [inn_node wr2] at h
      rcases List.mem_cons.mp h with h | h
      · obtain ⟨rfl, rfl⟩ := Prod.mk.inj h
        cases r with
        | leaf => exact absurd wr2 (by show ¬ 2 ≤ 1; omega)
        | node a b =>
          have wa := a.w_pos
          have wb := b.w_pos
          refine ⟨node (node l a) b, lo + l.w + a.w, lo, l.inn lo ++ (a.inn (lo + l.w) ++ b.inn (lo + l.w + a.w)), ?_, ?_, ?_, ?_, ?_, ?_, ?_⟩
          · show l.w + a.w + b.w = l.w + (a.w + b.w); omega
          · show (l.inn lo ++ ((lo + l.w, lo + l.w + (a.w + b.w)) :: (a.inn (lo + l.w) ++ b.inn (lo + l.w + a.w)))).Perm _
            exact List.perm_middle
          · show (((lo, lo + (l.w + a.w)) :: (l.inn lo ++ a.inn (lo + l.w))) ++ b.inn (lo + (l.w + a.w))).Perm _
            rw [Nat.min_eq_right (by omega), Nat.max_eq_left (by omega), List.cons_append, List.append_assoc, show lo + (l.w + a.w) = lo + l.w + a.w by omega]
          · show lo + l.w < lo + l.w + a.w ∧ lo + l.w + a.w < lo + l.w + (a.w + b.w); omega
          · refine .inl ⟨by omega, mem_node.mpr (.inr (.inl root_mem)), mem_node.mpr (.inl ?_)⟩
            show (lo, lo + l.w + (a.w + b.w)) = (lo, lo + (l.w + (a.w + b.w)))
            congr 1
            omega
          · exact mem_node.mpr (.inr (.inr (mem_node.mpr (.inr (.inl root_mem)))))
          · refine mem_node.mpr (.inr (.inr (mem_node.mpr (.inr (.inr ?_)))))
            show (lo + l.w + a.w, lo + l.w + (a.w + b.w)) ∈ b.all (lo + l.w + a.w)
            rw [show lo + l.w + (a.w + b.w) = lo + l.w + a.w + b.w by omega]; exact root_mem
      · obtain ⟨r', m, o, R, F⟩ := flip h
        exact ⟨node l r', m, o, _, flip_up_r wr2 F⟩
end Tr
open PySem PySem.Spec PyProof.Rows L2
/-- the cutting behind a turning -/
def turnedL (n : Nat) (cut : List IP) (a b : Int) : List IP :=
  let e := besideL n (tiesL n cut) a b
  sortP (cut.filter (fun p => !decide (p = tieOf a b)) ++ [(e.getD 0 0, e.getD 1 0)])
structure Turning (n : Nat) (cut : List IP) (t t' : Tr) (x y m o : Nat) (R : List (Nat × Nat)) : Prop where
  F : Tr.Flip t t' 0 x y m o R
  bes : besideL n (tiesL n cut) x y = [((min m o : Nat) : Int), ((max m o : Nat) : Int)]
  out : o < x ∨ y < o
  on : o < n
  rest : (cut.filter (fun p => !decide (p = castP (x, y)))).Perm (R.map castP)
  cut' : Cutting n (turnedL n cut x y) t'
theorem Cutting.turn {n : Nat} {cut : List IP} {t : Tr} (C : Cutting n cut t) {x y : Nat} (h : (x, y) ∈ t.ropes 0) : ∃ t' m o R, Turning n cut t t' x y m o R := by
  obtain ⟨t', m, o, R, F⟩ := Tr.flip h
  obtain ⟨m2, o2, hm2, h1, h2, ho2, oo, on, eb⟩ := C.beside_rope h
  have hi := (ropes_bd h).1
  obtain ⟨m3, _, _, _, u⟩ := Tr.apex_in hi
  have em : m = m2 := (u m F.btw.1 F.btw.2 F.am F.mb).trans (u m2 hm2.1 hm2.2 h1 h2).symm
  obtain ⟨o3, _, uo⟩ := Tr.apex_out (Tr.inn_all hi) (by rw [Nat.zero_add]; exact (ropes_bd h).2)
  have eo : o = o2 := (uo o F.out).trans (uo o2 ho2).symm
  subst em; subst eo
  have pc : cut.Perm (castP (x, y) :: R.map castP) := C.perm.trans (F.old.map castP)
  have hb := Tr.bd (Tr.inn_all hi)
  simp only at hb
  have nR : castP (x, y) ∉ R.map castP := fun q => by
    obtain ⟨z, hz, e⟩ := List.mem_map.mp q
    rw [castP_inj e] at hz
    have nd := (F.old.nodup_iff).mp (Tr.ropes_nodup t 0)
    exact (List.nodup_cons.mp nd).1 hz
  have rest : (cut.filter (fun p => !decide (p = castP (x, y)))).Perm (R.map castP) := by
    refine (pc.filter _).trans ?_
    rw [List.filter_cons_of_neg (by simp)]
    rw [List.filter_eq_self.mpr]
    intro p hp
    have : p ≠ castP (x, y) := fun e => nR (by rw [← e]; exact hp)
    simp [this]
  have tx : tieOf (x : Int) (y : Int) = castP (x, y) := by rw [tie_cast, Nat.min_eq_left (by omega), Nat.max_eq_right (by omega)]
  refine ⟨t', m, o, R, F, eb, oo, on, rest, ?_, C.n3, ?_, sortP_rising _⟩
  · rw [F.w]; exact C.w
  · unfold turnedL
    simp only
    rw [eb, tx]
    refine (sortP_perm _).trans ?_
    refine (rest.append_right _).trans ?_
    refine (List.perm_append_singleton _ _).trans ?_
    exact (F.new.map castP).symm
/-- the new rope of a turning -/
theorem turned_comm (n : Nat) (cut : List IP) (a b : Int) : turnedL n cut a b = turnedL n cut b a := by
  unfold turnedL
  rw [beside_comm, tie_comm]
section
variable {n : Nat} {cut : List IP} {t t' : Tr} {x y m o : Nat} {R : List (Nat × Nat)}
theorem Turning.all_iff (C : Cutting n cut t) (U : Turning n cut t t' x y m o R) {q : Nat × Nat} : q ∈ t'.all 0 ↔ (q ∈ t.all 0 ∧ q ≠ (x, y)) ∨ q = (min m o, max m o) := by
  have h : (x, y) ∈ t.ropes 0 := U.F.old.mem_iff.mpr List.mem_cons_self
  have w2 := C.w2
  have w2' : 2 ≤ t'.w := by rw [U.F.w]; exact w2
  have nd := (U.F.old.nodup_iff).mp (Tr.ropes_nodup t 0)
  have wide := Tr.inn_wide (ropes_bd h).1
  simp only at wide
  have hr := (ropes_iff w2).mp h
  rw [Tr.all_iff, Tr.all_iff, inn_iff w2, inn_iff w2', U.F.old.mem_iff, U.F.new.mem_iff, List.mem_cons, List.mem_cons, U.F.w]
  constructor
  · rintro ((e | e | e) | e)
    · refine .inl ⟨.inl (.inl e), fun z => hr.2 (by rw [← z]; exact e)⟩
    · exact .inr e
    · refine .inl ⟨.inl (.inr (.inr e)), fun z => (List.nodup_cons.mp nd).1 (by rw [← z]; exact e)⟩
    · refine .inl ⟨.inr e, fun z => ?_⟩
      rw [z] at e
      simp only at e
      omega
  · rintro (⟨(e | e | e) | e, ne⟩ | e)
    · exact .inl (.inl e)
    · exact absurd e ne
    · exact .inl (.inr (.inr e))
    · exact .inr e
    · exact .inl (.inr (.inl e))
/-- the new rope crosses the old one -/
theorem Turning.cross (C : Cutting n cut t) (U : Turning n cut t t' x y m o R) : (x < m ∧ m < y ∧ y < o ∧ min m o = m ∧ max m o = o) ∨ (o < x ∧ x < m ∧ m < y ∧ min m o = o ∧ max m o = m) := by
  have b := U.F.btw
  rcases U.out with h | h <;> omega
/-- turned again, the old cutting -/
theorem Turning.back (C : Cutting n cut t) (U : Turning n cut t t' x y m o R) : (min m o, max m o) ∈ t'.ropes 0 ∧ turnedL n (turnedL n cut x y) ((min m o : Nat) : Int) ((max m o : Nat) : Int) = cut := by
  have hnew : (min m o, max m o) ∈ t'.ropes 0 := U.F.new.mem_iff.mpr List.mem_cons_self
  refine ⟨hnew, ?_⟩
  obtain ⟨t2, m2, o2, R2, U2⟩ := U.cut'.turn hnew
  have hold : (x, y) ∈ t.ropes 0 := U.F.old.mem_iff.mpr List.mem_cons_self
  have b := U.F.btw
  have cr := U.cross C
  -- the four ties round the rope stay
  have keep : ∀ {q : Nat × Nat}, q ∈ t.all 0 → q ≠ (x, y) → q ∈ t'.all 0 := fun h1 h2 => (U.all_iff C).mpr (.inl ⟨h1, h2⟩)
  have hi2 := (ropes_bd hnew).1
  obtain ⟨m3, hm3, _, _, u⟩ := Tr.apex_in hi2
  obtain ⟨o3, ho3, uo⟩ := Tr.apex_out (Tr.inn_all hi2) (by rw [Nat.zero_add]; exact (ropes_bd hnew).2)
  have em2 : m2 = m3 := u m2 U2.F.btw.1 U2.F.btw.2 U2.F.am U2.F.mb
  have eo2 : o2 = o3 := uo o2 U2.F.out
  have kam : (x, m) ∈ t'.all 0 := keep U.F.am (fun e => by have := (Prod.mk.inj e).2; omega)
  have kmb : (m, y) ∈ t'.all 0 := keep U.F.mb (fun e => by have := (Prod.mk.inj e).1; omega)
  have both : min m2 o2 = x ∧ max m2 o2 = y := by
    rcases U.F.out with ⟨ho, h1, h2⟩ | ⟨ho, h1, h2⟩
    · have k1 := keep h1 (fun e => by have := (Prod.mk.inj e).2; omega)
      have k2 := keep h2 (fun e => by have := (Prod.mk.inj e).1; omega)
      have e1 : min m o = o := by omega
      have e2 : max m o = m := by omega
      rw [e1, e2] at u uo
      have ex : x = m3 := u x ho b.1 k1 kam
      have ey : y = o3 := uo y (.inr ⟨b.2, k2, kmb⟩)
      omega
    · have k1 := keep h1 (fun e => by have := (Prod.mk.inj e).2; omega)
      have k2 := keep h2 (fun e => by have := (Prod.mk.inj e).1; omega)
      have e1 : min m o = m := by omega
      have e2 : max m o = o := by omega
      rw [e1, e2] at u uo
      have ey : y = m3 := u y b.2 ho kmb k2
      have ex : x = o3 := uo x (.inl ⟨b.1, kam, k1⟩)
      omega
  refine rising_eq (sortP_rising _) C.rise ?_
  have p2 := U2.cut'.perm
  refine p2.trans ?_
  have q1 : (t2.ropes 0).Perm ((x, y) :: R2) := by have := U2.F.new; rw [both.1, both.2] at this; exact this
  have q2 : R2.Perm R := by
    have z := (U2.F.old.symm.trans U.F.new).cons_inv
    exact z
  refine (q1.map castP).trans ?_
  refine ((q2.cons _).map castP).trans ?_
  exact ((C.perm.trans (U.F.old.map castP))).symm
end
end Pm
namespace Pm
open PySem PySem.Spec PyProof.Rows L2
/-! ### two pairs that cross -/
def crossP (a b c d : Int) : Prop := (c ≠ min a b ∧ c ≠ max a b ∧ d ≠ min a b ∧ d ≠ max a b) ∧ ¬ ((min a b < c ∧ c < max a b) ↔ (min a b < d ∧ d < max a b))
instance (a b c d : Int) : Decidable (crossP a b c d) := by unfold crossP; exact inferInstance

theorem cross_no {a b c d : Int} (h : c = min a b ∨ c = max a b ∨ d = min a b ∨ d = max a b) : decide (crossP a b c d) = false := by
  refine decide_eq_false fun q => ?_
  obtain ⟨⟨h1, h2, h3, h4⟩, _⟩ := q
  rcases h with h | h | h | h
  · exact h1 h
  · exact h2 h
  · exact h3 h
  · exact h4 h
theorem cross_is {a b c d : Int} {x y : Bool} (h : c ≠ min a b ∧ c ≠ max a b ∧ d ≠ min a b ∧ d ≠ max a b) (hx : x = decide (min a b < c ∧ c < max a b)) (hy : y = decide (min a b < d ∧ d < max a b)) : (!(x == y)) = decide (crossP a b c d) := by
  subst hx; subst hy
  by_cases h1 : (min a b < c ∧ c < max a b) <;> by_cases h2 : (min a b < d ∧ d < max a b)
  · rw [decide_eq_true h1, decide_eq_true h2, decide_eq_false (show ¬ crossP a b c d from fun q => q.2 ⟨fun _ => h2, fun _ => h1⟩)]; rfl
  · rw [decide_eq_true h1, decide_eq_false h2, decide_eq_true (show crossP a b c d from ⟨h, fun q => h2 (q.mp h1)⟩)]; rfl
  · rw [decide_eq_false h1, decide_eq_true h2, decide_eq_true (show crossP a b c d from ⟨h, fun q => h1 (q.mpr h2)⟩)]; rfl
  · rw [decide_eq_false h1, decide_eq_false h2, decide_eq_false (show ¬ crossP a b c d from fun q => q.2 ⟨fun z => absurd z h1, fun z => absurd z h2⟩)]; rfl
def spCross (K : PySem.W.Frag) : Sp := fun vs H Q _ => ∃ (t u : Addr) (a b c d : Int), vs = [.ref t, .ref u] ∧ SqT K H t [.int a, .int b] ∧ SqT K H u [.int c, .int d] ∧ Q (.bl (decide (crossP a b c d))) H
theorem mem2 {a b c : Int} : c ∈ [a, b] ↔ c = min a b ∨ c = max a b := by
  rw [List.mem_cons, List.mem_singleton]
  omega
theorem cross_iff {a b c d : Int} (h1 : a < b) (h2 : c < d) : crossP a b c d ↔ (a < c ∧ c < b ∧ b < d) ∨ (c < a ∧ a < d ∧ d < b) := by
  unfold crossP
  rw [Int.min_eq_left (by omega), Int.max_eq_right (by omega)]
  omega
/-- ties of a cutting do not cross -/
theorem Cutting.nocross {n : Nat} {cut : List IP} {t : Tr} (C : Cutting n cut t) {p q : IP} (hp : p ∈ tiesL n cut) (hq : q ∈ tiesL n cut) : ¬ crossP p.1 p.2 q.1 q.2 := by
  obtain ⟨⟨a, b⟩, ha, rfl⟩ := C.ties.mp hp
  obtain ⟨⟨c, d⟩, hc, rfl⟩ := C.ties.mp hq
  have h1 := Tr.bd ha
  have h2 := Tr.bd hc
  simp only at h1 h2
  have n1 := Tr.noncross ha hc
  have n2 := Tr.noncross hc ha
  simp only at n1 n2
  simp only [castP]
  rw [cross_iff (by omega) (by omega)]
  omega
section
variable {n : Nat} {cut : List IP} {t t' : Tr} {x y m o : Nat} {R : List (Nat × Nat)}
theorem Turning.rope_mem (U : Turning n cut t t' x y m o R) : (x, y) ∈ t.ropes 0 := U.F.old.mem_iff.mpr List.mem_cons_self
theorem Turning.new_mem (U : Turning n cut t t' x y m o R) : (min m o, max m o) ∈ t'.ropes 0 := U.F.new.mem_iff.mpr List.mem_cons_self
theorem Turning.cutP (C : Cutting n cut t) (U : Turning n cut t t' x y m o R) : cut.Perm (castP (x, y) :: R.map castP) := C.perm.trans (U.F.old.map castP)
theorem Turning.newP (U : Turning n cut t t' x y m o R) : (turnedL n cut x y).Perm (castP (min m o, max m o) :: R.map castP) := U.cut'.perm.trans (U.F.new.map castP)
theorem Turning.len (C : Cutting n cut t) (U : Turning n cut t t' x y m o R) : (turnedL n cut x y).length = cut.length := by
  rw [U.newP.length_eq, (U.cutP C).length_eq] <;> rfl
theorem Turning.new_cross (C : Cutting n cut t) (U : Turning n cut t t' x y m o R) : crossP (castP (min m o, max m o)).1 (castP (min m o, max m o)).2 (castP (x, y)).1 (castP (x, y)).2 := by
  have c := U.cross C
  have b := U.F.btw
  simp only [castP]
  rw [cross_iff (by omega) (by omega)]
  omega
theorem Turning.new_notin (C : Cutting n cut t) (U : Turning n cut t t' x y m o R) : castP (min m o, max m o) ∉ tiesL n cut := fun h => by
  exact C.nocross h (mem_ties.mpr (.inr (C.mem.mpr ⟨_, U.rope_mem, rfl⟩))) (U.new_cross C)
theorem Turning.old_notin (C : Cutting n cut t) (U : Turning n cut t t' x y m o R) : castP (x, y) ∉ turnedL n cut x y := fun h => by
  have h2 : castP (x, y) ∈ tiesL n (turnedL n cut x y) := mem_ties.mpr (.inr h)
  have h3 : castP (min m o, max m o) ∈ tiesL n (turnedL n cut x y) := mem_ties.mpr (.inr (U.cut'.mem.mpr ⟨_, U.new_mem, rfl⟩))
  exact U.cut'.nocross h3 h2 (U.new_cross C)
theorem Turning.fresh (C : Cutting n cut t) (U : Turning n cut t t' x y m o R) : (turnedL n cut x y).filter (fun p => !decide (p ∈ cut)) = [castP (min m o, max m o)] := by
  have pp := U.newP.filter (fun p => !decide (p ∈ cut))
  rw [List.filter_cons_of_pos (by
    have : castP (min m o, max m o) ∉ cut := fun h => U.new_notin C (mem_ties.mpr (.inr h))
    simp [this])] at pp
  have e2 : (R.map castP).filter (fun p => !decide (p ∈ cut)) = [] := List.filter_eq_nil_iff.mpr (fun p hp => by
    have : p ∈ cut := (U.cutP C).mem_iff.mpr (List.mem_cons_of_mem _ hp)
    simp [this])
  rw [e2] at pp
  exact List.perm_singleton.mp pp
theorem Turning.keeps (C : Cutting n cut t) (U : Turning n cut t t' x y m o R) {p : IP} (hp : p ∈ cut) (hne : p ≠ castP (x, y)) : p ∈ turnedL n cut x y ∧ ¬ crossP p.1 p.2 (castP (min m o, max m o)).1 (castP (min m o, max m o)).2 := by
  have h1 : p ∈ turnedL n cut x y := by
    rcases List.mem_cons.mp ((U.cutP C).mem_iff.mp hp) with e | e
    · exact absurd e hne
    · exact U.newP.mem_iff.mpr (List.mem_cons_of_mem _ e)
  exact ⟨h1, U.cut'.nocross (mem_ties.mpr (.inr h1)) (mem_ties.mpr (.inr (U.cut'.mem.mpr ⟨_, U.new_mem, rfl⟩)))⟩
theorem Turning.new_bd (C : Cutting n cut t) (U : Turning n cut t t' x y m o R) : min m o < max m o ∧ max m o < n := by
  have h := Tr.bd (Tr.inn_all (ropes_bd U.new_mem).1)
  have := U.cut'.w
  simp only at h
  omega
end
/-- any two numbers that are a rope -/
theorem Cutting.rope_of {n : Nat} {cut : List IP} {t : Tr} (C : Cutting n cut t) {a b : Int} (h : tieOf a b ∈ cut) : ∃ x y : Nat, (x, y) ∈ t.ropes 0 ∧ tieOf a b = castP (x, y) ∧ x < y ∧ y < n ∧ ((a = x ∧ b = y) ∨ (a = y ∧ b = x)) := by
  obtain ⟨⟨x, y⟩, hq, e⟩ := C.mem.mp h
  have hb := Tr.bd (Tr.inn_all (ropes_bd hq).1)
  have hw := C.w
  simp only at hb
  refine ⟨x, y, hq, e, hb.2.1, by omega, ?_⟩
  have e1 := congrArg Prod.fst e
  have e2 := congrArg Prod.snd e
  simp only [tieOf, castP] at e1 e2
  omega
theorem Cutting.beside2 {n : Nat} {cut : List IP} {t : Tr} (C : Cutting n cut t) {a b : Int} (h : tieOf a b ∈ cut) : 2 ≤ (besideL n (tiesL n cut) a b).length := by
  rw [C.beside_len (mem_ties.mpr (.inr h)), if_pos h]
  decide
theorem Cutting.turned_any {n : Nat} {cut : List IP} {t : Tr} (C : Cutting n cut t) {a b : Int} (h : tieOf a b ∈ cut) : ∃ t' x y m o R, Turning n cut t t' x y m o R ∧ tieOf a b = castP (x, y) ∧ turnedL n cut a b = turnedL n cut x y := by
  obtain ⟨x, y, hq, e, _, _, c⟩ := C.rope_of h
  obtain ⟨t', m, o, R, U⟩ := C.turn hq
  refine ⟨t', x, y, m, o, R, U, e, ?_⟩
  rcases c with ⟨rfl, rfl⟩ | ⟨rfl, rfl⟩
  · rfl
  · exact turned_comm _ _ _ _
end Pm
/-! ### nested tuples of numbers, their order, sorted lists of them -/
namespace Pm
inductive ND where
  | i (n : Int)
  | t (xs : List ND)
namespace ND
mutual
def cmp : ND → ND → Ordering
  | .i a, .i b => compare a b
  | .i _, .t _ => .lt
  | .t _, .i _ => .gt
  | .t xs, .t ys => cmpL xs ys
def cmpL : List ND → List ND → Ordering
  | [], [] => .eq
  | [], _ :: _ => .lt
  | _ :: _, [] => .gt
  | x :: xs, y :: ys => (cmp x y).then (cmpL xs ys)
end
mutual
theorem cmp_swap : ∀ x y : ND, cmp y x = (cmp x y).swap
  | .i a, .i b => by simp only [cmp]; exact Std.OrientedCmp.eq_swap
  | .i _, .t _ => rfl
  | .t _, .i _ => rfl
  | .t xs, .t ys => by simp only [cmp]; exact cmpL_swap xs ys
theorem cmpL_swap : ∀ xs ys : List ND, cmpL ys xs = (cmpL xs ys).swap
  | [], [] => rfl
  | [], _ :: _ => rfl
  | _ :: _, [] => rfl
  | x :: xs, y :: ys => by
    simp only [cmpL]
    rw [cmp_swap x y, cmpL_swap xs ys]
    cases cmp x y <;> cases cmpL xs ys <;> rfl
end
mutual
theorem cmp_eq : ∀ {x y : ND}, cmp x y = .eq → x = y
  | .i a, .i b, h => by
    simp only [cmp] at h
    rw [show a = b from Std.LawfulEqCmp.eq_of_compare h]
  | .i _, .t _, h => by cases h
  | .t _, .i _, h => by cases h
  | .t xs, .t ys, h => by
    simp only [cmp] at h
    rw [cmpL_eq h]
theorem cmpL_eq : ∀ {xs ys : List ND}, cmpL xs ys = .eq → xs = ys
  | [], [], _ => rfl
  | [], _ :: _, h => by cases h
  | _ :: _, [], h => by cases h
  | x :: xs, y :: ys, h => by
    simp only [cmpL] at h
    cases e : cmp x y with
    | eq =>
      rw [e] at h
      rw [cmp_eq e, cmpL_eq (xs := xs) (ys := ys) h]
    | lt => rw [e] at h; cases h
    | gt => rw [e] at h; cases h
end
mutual
theorem cmp_self : ∀ x : ND, cmp x x = .eq
  | .i a => by simp only [cmp]; exact Std.ReflCmp.compare_self
  | .t xs => by simp only [cmp]; exact cmpL_self xs
theorem cmpL_self : ∀ xs : List ND, cmpL xs xs = .eq
  | [] => rfl
  | x :: xs => by simp only [cmpL]; rw [cmp_self x, cmpL_self xs]; rfl
end
theorem int_lt {a b : Int} : compare a b = .lt ↔ a < b := Int.compare_eq_lt
mutual
theorem cmp_trans : ∀ {x y z : ND}, cmp x y = .lt → cmp y z = .lt → cmp x z = .lt
  | .i a, .i b, .i c, h, k => by
    simp only [cmp] at h k ⊢
    rw [int_lt] at h k ⊢
    omega
  | .i _, .i _, .t _, _, _ => rfl
  | .i _, .t _, .i _, _, k => by cases k
  | .i _, .t _, .t _, _, _ => rfl
  | .t _, .i _, _, h, _ => by cases h
  | .t _, .t _, .i _, _, k => by cases k
  | .t xs, .t ys, .t zs, h, k => by
    simp only [cmp] at h k ⊢
    exact cmpL_trans h k
theorem cmpL_trans : ∀ {xs ys zs : List ND}, cmpL xs ys = .lt → cmpL ys zs = .lt → cmpL xs zs = .lt
  | [], [], _, h, _ => by cases h
  | [], _ :: _, [], _, k => by cases k
  | [], _ :: _, _ :: _, _, _ => rfl
  | _ :: _, [], _, h, _ => by cases h
  | _ :: _, _ :: _, [], _, k => by cases k
  | x :: xs, y :: ys, z :: zs, h, k => by
    simp only [cmpL] at h k ⊢
    cases e1 : cmp x y with
    | gt => rw [e1] at h; cases h
    | lt =>
      cases e2 : cmp y z with
      | gt => rw [e2] at k; cases k
      | lt => rw [cmp_trans e1 e2]; rfl
      | eq => rw [← cmp_eq e2, e1]; rfl
    | eq =>
      rw [e1] at h
      have h : cmpL xs ys = .lt := h
      have e := cmp_eq e1
      subst e
      cases e2 : cmp x z with
      | gt => rw [e2] at k; cases k
      | lt => rfl
      | eq =>
        rw [e2] at k
        have k : cmpL ys zs = .lt := k
        show (Ordering.eq).then (cmpL xs zs) = .lt
        exact cmpL_trans (xs := xs) h k
end
def ltB (x y : ND) : Bool := cmp x y == .lt
theorem ltB_iff {x y : ND} : ltB x y = true ↔ cmp x y = .lt := by unfold ltB; cases cmp x y <;> simp
theorem ltB_no {x y : ND} : ltB x y = false ↔ cmp x y ≠ .lt := by unfold ltB; cases cmp x y <;> simp
theorem ltB_asym {x y : ND} (h : ltB x y = true) : ltB y x = false := by
  rw [ltB_iff] at h
  rw [ltB_no, cmp_swap x y, h]
  simp
theorem ltB_tr {x y z : ND} (h1 : ltB y x = false) (h2 : ltB z y = false) : ltB z x = false := by
  rw [ltB_no] at *
  intro h
  cases e : cmp x y with
  | lt => exact h2 (cmp_trans h e)
  | eq => exact h2 (by rw [← cmp_eq e]; exact h)
  | gt => exact h1 (by rw [cmp_swap x y, e]; rfl)
def leB (x y : ND) : Bool := !ltB y x
theorem leB_trans (x y z : ND) (h : leB x y = true) (k : leB y z = true) : leB x z = true := by
  unfold leB at *
  rw [Bool.not_eq_true'] at *
  exact ltB_tr h k
theorem leB_total (x y : ND) : (leB x y || leB y x) = true := by
  unfold leB
  cases e : ltB y x with
  | false => rfl
  | true => rw [ltB_asym e]; rfl
theorem leB_anti {x y : ND} (h : leB x y = true) (k : leB y x = true) : x = y := by
  unfold leB at *
  rw [Bool.not_eq_true', ltB_no] at *
  cases e : cmp x y with
  | eq => exact cmp_eq e
  | lt => exact absurd e k
  | gt => exact absurd (by rw [cmp_swap x y, e]; rfl) h
abbrev Ris (ds : List ND) : Prop := ds.Pairwise fun x y => leB x y = true
def sort (ds : List ND) : List ND := ds.mergeSort leB
theorem sort_perm (ds : List ND) : (sort ds).Perm ds := List.mergeSort_perm ds leB
theorem sort_ris (ds : List ND) : Ris (sort ds) := List.pairwise_mergeSort leB_trans leB_total ds
theorem ris_eq {ds es : List ND} (h : Ris ds) (k : Ris es) (e : ds.Perm es) : ds = es := List.Perm.eq_of_pairwise (fun _ _ _ _ a b => leB_anti a b) h k e
theorem sort_eq {ds es : List ND} (h : Ris ds) (e : ds.Perm es) : sort es = ds := ris_eq (sort_ris es) h ((sort_perm es).trans e.symm)
/-! #### as data -/
mutual
def py : ND → PySem.PyData
  | .i n => .int n
  | .t xs => .tuple (pyL xs)
def pyL : List ND → List PySem.PyData
  | [] => []
  | x :: xs => py x :: pyL xs
end
theorem pyL_map : ∀ xs : List ND, pyL xs = xs.map py
  | [] => rfl
  | x :: xs => by rw [pyL, pyL_map xs]; rfl
mutual
def of : PySem.PyData → ND
  | .int n => .i n
  | .tuple xs => .t (ofL xs)
  | .list _ => .i 0
  | .dict _ => .i 0
  | .none => .i 0
  | .bool _ => .i 0
  | .str _ => .i 0
def ofL : List PySem.PyData → List ND
  | [] => []
  | x :: xs => of x :: ofL xs
end
mutual
theorem of_py : ∀ d : ND, of (py d) = d
  | .i n => by simp only [py, of]
  | .t xs => by simp only [py, of]; rw [ofL_pyL xs]
theorem ofL_pyL : ∀ ds : List ND, ofL (pyL ds) = ds
  | [] => rfl
  | x :: xs => by simp only [pyL, ofL]; rw [of_py x, ofL_pyL xs]
end
mutual
theorem lay : ∀ d : ND, (py d).canLay0 = true
  | .i n => by simp only [py, PySem.PyData.canLay0]
  | .t xs => by simp only [py, PySem.PyData.canLay0]; exact layL xs
theorem layL : ∀ ds : List ND, PySem.PyData.canLayAll0 (pyL ds) = true
  | [] => by simp only [pyL, PySem.PyData.canLayAll0]
  | x :: xs => by simp only [pyL, PySem.PyData.canLayAll0]; rw [lay x, layL xs]; rfl
end
mutual
theorem eqv_py : ∀ x y : ND, PySem.PyData.eqv (py x) (py y) = (cmp x y == .eq)
  | .i a, .i b => by
    simp only [py, PySem.PyData.eqv, cmp]
    by_cases h : a = b
    · subst h; simp
    · have : compare a b ≠ .eq := fun e => h (Std.LawfulEqCmp.eq_of_compare e)
      cases e : compare a b <;> simp_all
  | .i _, .t _ => by simp only [py, PySem.PyData.eqv, cmp]; rfl
  | .t _, .i _ => by simp only [py, PySem.PyData.eqv, cmp]; rfl
  | .t xs, .t ys => by simp only [py, PySem.PyData.eqv, cmp]; exact eqvAll_py xs ys
theorem eqvAll_py : ∀ xs ys : List ND, PySem.PyData.eqvAll (pyL xs) (pyL ys) = (cmpL xs ys == .eq)
  | [], [] => by simp [pyL, PySem.PyData.eqvAll, cmpL]
  | [], _ :: _ => by simp [pyL, PySem.PyData.eqvAll, cmpL]
  | _ :: _, [] => by simp [pyL, PySem.PyData.eqvAll, cmpL]
  | x :: xs, y :: ys => by
    simp only [pyL, PySem.PyData.eqvAll, cmpL]
    rw [eqv_py x y, eqvAll_py xs ys]
    cases cmp x y <;> cases cmpL xs ys <;> rfl
end
theorem eqv_false {x y : ND} (h : PySem.PyData.eqv (py x) (py y) = false) : cmp x y ≠ .eq := fun e => by
  rw [eqv_py, e] at h
  cases h
theorem eqv_true {x y : ND} (h : PySem.PyData.eqv (py x) (py y) = true) : cmp x y = .eq := by
  rw [eqv_py] at h
  cases e : cmp x y with
  | eq => rfl
  | lt => rw [e] at h; cases h
  | gt => rw [e] at h; cases h
mutual
def hom : ND → ND → Bool
  | .i _, .i _ => true
  | .t xs, .t ys => homL xs ys
  | .i _, .t _ => false
  | .t _, .i _ => false
def homL : List ND → List ND → Bool
  | [], _ => true
  | _ :: _, [] => true
  | x :: xs, y :: ys => hom x y && homL xs ys
end
def dep (d : ND) : Nat := (py d).depth
end ND
open PySem PySem.Spec PyProof.Rows L2
/-! #### < of nested tuples -/
theorem readsAll_at {h : Heap} : ∀ {vs : List Value} {ds : List PyData} {as : List Addr} {j : Nat} (_ : ReadsAll h vs ds as) (h1 : j < vs.length) (h2 : j < ds.length), ∃ bs, Reads h vs[j] ds[j] bs
  | _ :: _, _ :: _, _, 0, .cons r _, _, _ => ⟨_, r⟩
  | _ :: _, _ :: _, _, j + 1, .cons _ t, h1, h2 => readsAll_at t (Nat.lt_of_succ_lt_succ h1) (Nat.lt_of_succ_lt_succ h2)
theorem lexAt_shift (e r : Nat → Bool) (z : Bool) : ∀ (k i : Nat), Ob.lexAt (fun j => e (j + 1)) (fun j => r (j + 1)) z i k = Ob.lexAt e r z (i + 1) k
  | 0, _ => rfl
  | k + 1, i => by
    show (if e (i + 1) = true then Ob.lexAt _ _ z (i + 1) k else r (i + 1)) = (if e (i + 1) = true then Ob.lexAt e r z (i + 1 + 1) k else r (i + 1))
    rw [lexAt_shift e r z k (i + 1)]
theorem lexAt_cmp : ∀ (xs ys : List ND), Ob.lexAt (fun j => ND.cmp (xs.getD j (.i 0)) (ys.getD j (.i 0)) == .eq) (fun j => ND.ltB (xs.getD j (.i 0)) (ys.getD j (.i 0))) (decide (xs.length < ys.length)) 0 (min xs.length ys.length) = (ND.cmpL xs ys == .lt)
  | [], [] => rfl
  | [], y :: ys => by simp [Ob.lexAt, ND.cmpL]
  | x :: xs, [] => by simp [Ob.lexAt, ND.cmpL]
  | x :: xs, y :: ys => by
    have ih := lexAt_cmp xs ys
    rw [List.length_cons, List.length_cons, show min (xs.length + 1) (ys.length + 1) = min xs.length ys.length + 1 by omega, Ob.lexAt_succ]
    rw [← lexAt_shift]
    show (if (ND.cmp x y == .eq) = true then Ob.lexAt (fun j => ND.cmp (xs.getD j (.i 0)) (ys.getD j (.i 0)) == .eq) (fun j => ND.ltB (xs.getD j (.i 0)) (ys.getD j (.i 0))) (decide (xs.length + 1 < ys.length + 1)) 0 _ else ND.ltB x y) = ((ND.cmp x y).then (ND.cmpL xs ys) == .lt)
    rw [show decide (xs.length + 1 < ys.length + 1) = decide (xs.length < ys.length) from decide_eq_decide.mpr (by omega), ih]
    unfold ND.ltB
    cases ND.cmp x y <;> rfl
theorem py_getD (xs : List ND) {j : Nat} (h : j < (ND.pyL xs).length) : (ND.pyL xs)[j] = ND.py (xs.getD j (.i 0)) := by
  have h' : j < xs.length := by rw [ND.pyL_map, List.length_map] at h; exact h
  rw [List.getD_eq_getElem?_getD, List.getElem?_eq_getElem h']
  simp only [ND.pyL_map, List.getElem_map, Option.getD_some]
theorem depL (xs : List ND) (j : Nat) : (ND.py (xs.getD j (.i 0))).depth ≤ PyData.depthAll (ND.pyL xs) := by
  induction xs generalizing j with
  | nil => show PyData.depth (.int 0) ≤ _; simp [PyData.depth]
  | cons x xs ih =>
    cases j with
    | zero =>
      show (ND.py x).depth ≤ PyData.depthAll (ND.py x :: ND.pyL xs)
      simp only [PyData.depthAll]
      omega
    | succ j =>
      have := ih j
      show (ND.py (xs.getD j (.i 0))).depth ≤ PyData.depthAll (ND.py x :: ND.pyL xs)
      simp only [PyData.depthAll]
      omega
theorem hom_at : ∀ {xs ys : List ND} {j : Nat}, ND.homL xs ys = true → j < xs.length → j < ys.length → ND.hom (xs.getD j (.i 0)) (ys.getD j (.i 0)) = true
  | x :: xs, y :: ys, 0, h, _, _ => by
    simp only [ND.homL, Bool.and_eq_true] at h
    exact h.1
  | x :: xs, y :: ys, j + 1, h, h1, h2 => by
    simp only [ND.homL, Bool.and_eq_true] at h
    exact hom_at (xs := xs) (ys := ys) h.2 (Nat.lt_of_succ_lt_succ h1) (Nat.lt_of_succ_lt_succ h2)
theorem nd_size : ∀ (xs : List ND) (j : Nat), j < xs.length → sizeOf (xs.getD j (.i 0)) < sizeOf xs
  | x :: xs, 0, _ => by show sizeOf x < sizeOf (x :: xs); simp; omega
  | x :: xs, j + 1, h => by
    have := nd_size xs j (Nat.lt_of_succ_lt_succ h)
    show sizeOf (xs.getD j (.i 0)) < sizeOf (x :: xs)
    simp only [List.cons.sizeOf_spec]
    omega
/-- x < y of nested tuples of numbers of one form -/
theorem rc_lt : ∀ (x y : ND) (A : Around) (s : Shared) (a b : Value) (as bs : List Addr), Reads s.heap a x.py as → Reads s.heap b y.py bs → ND.hom x y = true → A.units + min x.dep y.dep < cLine → Ob.RcOp .Lt A s a b (ND.ltB x y)
  | .i p, .i q, A, s, a, b, as, bs, ra, rb, _, hu => by
    simp only [ND.py] at ra rb
    cases ra
    cases rb
    have e : ND.ltB (.i p) (.i q) = decide (p < q) := by
      unfold ND.ltB
      simp only [ND.cmp]
      by_cases h : p < q
      · rw [decide_eq_true h, ND.int_lt.mpr h]; rfl
      · rw [decide_eq_false h]
        have : compare p q ≠ .lt := fun e => h (ND.int_lt.mp e)
        cases e : compare p q <;> simp_all
    rw [e]
    exact Ob.RcOp.lt_int _ _ _ _
  | .t xs, .t ys, A, s, a, b, as, bs, ra, rb, hh, hu => by
    simp only [ND.py] at ra rb
    cases ra with
    | tuple k1 k2 k3 k4 =>
      cases rb with
      | tuple l1 l2 l3 l4 =>
        rename_i a oa vs na b ob ws nb
        have n1 := SeqAt.ReadsAll.length _ _ _ k4
        have n2 := SeqAt.ReadsAll.length _ _ _ l4
        simp only [ND.hom] at hh
        have dx : (ND.t xs).dep = PyData.depthAll (ND.pyL xs) + 1 := by simp only [ND.dep, ND.py, PyData.depth]
        have dy : (ND.t ys).dep = PyData.depthAll (ND.pyL ys) + 1 := by simp only [ND.dep, ND.py, PyData.depth]
        rw [dx, dy] at hu
        have px : (ND.pyL xs).length = xs.length := by rw [ND.pyL_map, List.length_map]
        have py' : (ND.pyL ys).length = ys.length := by rw [ND.pyL_map, List.length_map]
        have e1 : vs.size = xs.length := by rw [← px, ← n1, Array.length_toList]
        have e2 : ws.size = ys.length := by rw [← py', ← n2, Array.length_toList]
        have in1 : A.in1.units = A.units + 1 := rfl
        have R := Ob.RcOp.tuples_lt (A := A) (s := s) (e := fun j => ND.cmp (xs.getD j (.i 0)) (ys.getD j (.i 0)) == .eq) (r := fun j => ND.ltB (xs.getD j (.i 0)) (ys.getD j (.i 0))) ⟨_, k1, k2, _, k3⟩ ⟨_, l1, l2, _, l3⟩ (by omega)
          (fun j h1 h2 => by
            obtain ⟨cs, r1⟩ := readsAll_at (j := j) k4 (by simpa using h1) (by omega)
            obtain ⟨ds, r2⟩ := readsAll_at (j := j) l4 (by simpa using h2) (by omega)
            rw [py_getD] at r1 r2
            have z := SeqAt.eqAt_reads _ _ A.in1 s _ _ _ _ r1 r2 (ND.lay _) (ND.lay _) (by have := depL xs j; have := depL ys j; rw [in1]; omega)
            rw [ND.eqv_py] at z
            simpa using z)
          (fun j h1 h2 _ => by
            obtain ⟨cs, r1⟩ := readsAll_at (j := j) k4 (by simpa using h1) (by omega)
            obtain ⟨ds, r2⟩ := readsAll_at (j := j) l4 (by simpa using h2) (by omega)
            rw [py_getD] at r1 r2
            have sz := nd_size xs j (by omega)
            have z := rc_lt (xs.getD j (.i 0)) (ys.getD j (.i 0)) A.in1 s _ _ _ _ r1 r2 (hom_at hh (by omega) (by omega)) (by have := depL xs j; have := depL ys j; rw [in1]; simp only [ND.dep]; omega)
            simpa using z)
        rw [e1, e2, lexAt_cmp] at R
        exact R
  | .i _, .t _, _, _, _, _, _, _, _, _, h, _ => by simp [ND.hom] at h
  | .t _, .i _, _, _, _, _, _, _, _, _, h, _ => by simp [ND.hom] at h
termination_by x => sizeOf x
decreasing_by simp only [ND.t.sizeOf_spec]; omega
theorem lexAt_not (e r : Nat → Bool) (z : Bool) : ∀ (k i : Nat), Ob.lexAt e (fun j => !r j) (!z) i k = !Ob.lexAt e r z i k
  | 0, _ => rfl
  | k + 1, i => by
    rw [Ob.lexAt_succ, Ob.lexAt_succ, lexAt_not e r z k (i + 1)]
    split <;> rfl
/-- x >= y of nested tuples of numbers of one form -/
theorem rc_ge : ∀ (x y : ND) (A : Around) (s : Shared) (a b : Value) (as bs : List Addr), Reads s.heap a x.py as → Reads s.heap b y.py bs → ND.hom x y = true → A.units + min x.dep y.dep < cLine → Ob.RcOp .GtE A s a b (!ND.ltB x y)
  | .i p, .i q, A, s, a, b, as, bs, ra, rb, _, hu => by
    simp only [ND.py] at ra rb
    cases ra
    cases rb
    have e : ND.ltB (.i p) (.i q) = decide (p < q) := by
      unfold ND.ltB
      simp only [ND.cmp]
      by_cases h : p < q
      · rw [decide_eq_true h, ND.int_lt.mpr h]; rfl
      · rw [decide_eq_false h]
        have : compare p q ≠ .lt := fun e => h (ND.int_lt.mp e)
        cases e : compare p q <;> simp_all
    rw [e, show (!decide (p < q)) = decide (q ≤ p) by by_cases h : p < q <;> simp [h] <;> omega]
    exact Ob.RcOp.ge_int _ _ _ _
  | .t xs, .t ys, A, s, a, b, as, bs, ra, rb, hh, hu => by
    simp only [ND.py] at ra rb
    cases ra with
    | tuple k1 k2 k3 k4 =>
      cases rb with
      | tuple l1 l2 l3 l4 =>
        rename_i a oa vs na b ob ws nb
        have n1 := SeqAt.ReadsAll.length _ _ _ k4
        have n2 := SeqAt.ReadsAll.length _ _ _ l4
        simp only [ND.hom] at hh
        have dx : (ND.t xs).dep = PyData.depthAll (ND.pyL xs) + 1 := by simp only [ND.dep, ND.py, PyData.depth]
        have dy : (ND.t ys).dep = PyData.depthAll (ND.pyL ys) + 1 := by simp only [ND.dep, ND.py, PyData.depth]
        rw [dx, dy] at hu
        have px : (ND.pyL xs).length = xs.length := by rw [ND.pyL_map, List.length_map]
        have py' : (ND.pyL ys).length = ys.length := by rw [ND.pyL_map, List.length_map]
        have e1 : vs.size = xs.length := by rw [← px, ← n1, Array.length_toList]
        have e2 : ws.size = ys.length := by rw [← py', ← n2, Array.length_toList]
        have in1 : A.in1.units = A.units + 1 := rfl
        have R := Ob.RcOp.tuples_ge (A := A) (s := s) (e := fun j => ND.cmp (xs.getD j (.i 0)) (ys.getD j (.i 0)) == .eq) (r := fun j => !ND.ltB (xs.getD j (.i 0)) (ys.getD j (.i 0))) ⟨_, k1, k2, _, k3⟩ ⟨_, l1, l2, _, l3⟩ (by omega)
          (fun j h1 h2 => by
            obtain ⟨cs, r1⟩ := readsAll_at (j := j) k4 (by simpa using h1) (by omega)
            obtain ⟨ds, r2⟩ := readsAll_at (j := j) l4 (by simpa using h2) (by omega)
            rw [py_getD] at r1 r2
            have z := SeqAt.eqAt_reads _ _ A.in1 s _ _ _ _ r1 r2 (ND.lay _) (ND.lay _) (by have := depL xs j; have := depL ys j; rw [in1]; omega)
            rw [ND.eqv_py] at z
            simpa using z)
          (fun j h1 h2 _ => by
            obtain ⟨cs, r1⟩ := readsAll_at (j := j) k4 (by simpa using h1) (by omega)
            obtain ⟨ds, r2⟩ := readsAll_at (j := j) l4 (by simpa using h2) (by omega)
            rw [py_getD] at r1 r2
            have sz := nd_size xs j (by omega)
            have z := rc_ge (xs.getD j (.i 0)) (ys.getD j (.i 0)) A.in1 s _ _ _ _ r1 r2 (hom_at hh (by omega) (by omega)) (by have := depL xs j; have := depL ys j; rw [in1]; simp only [ND.dep]; omega)
            simpa using z)
        rw [e1, e2, show decide (xs.length ≥ ys.length) = !decide (xs.length < ys.length) by by_cases h : xs.length < ys.length <;> simp [h] <;> omega, lexAt_not, lexAt_cmp] at R
        exact R
  | .i _, .t _, _, _, _, _, _, _, _, _, h, _ => by simp [ND.hom] at h
  | .t _, .i _, _, _, _, _, _, _, _, _, h, _ => by simp [ND.hom] at h
termination_by x => sizeOf x
decreasing_by simp only [ND.t.sizeOf_spec]; omega

/-! #### sorted(l) -/
mutual
theorem reads_keep {h h' : Heap} (k : ∀ b o, h.get? b = some o → o.cls = .type "tuple" → h'.get? b = some o) : ∀ (d : ND) (v : Value) (as : List Addr), Reads h v d.py as → Reads h' v d.py as
  | .i n, v, as, r => by
    simp only [ND.py] at r ⊢
    cases r
    exact .int _ _
  | .t xs, v, as, r => by
    simp only [ND.py] at r ⊢
    cases r with
    | tuple k1 k2 k3 k4 => exact .tuple (k _ _ k1 k2) k2 k3 (readsL_keep k xs _ _ k4)
theorem readsL_keep {h h' : Heap} (k : ∀ b o, h.get? b = some o → o.cls = .type "tuple" → h'.get? b = some o) : ∀ (ds : List ND) (vs : List Value) (as : List Addr), ReadsAll h vs (ND.pyL ds) as → ReadsAll h' vs (ND.pyL ds) as
  | [], vs, as, r => by
    simp only [ND.pyL] at r ⊢
    cases r
    exact .nil
  | d :: ds, vs, as, r => by
    simp only [ND.pyL] at r ⊢
    cases r with
    | cons r1 r2 => exact .cons (reads_keep k d _ _ r1) (readsL_keep k ds _ _ r2)
end
section
variable {prog : Program} {w : World} {A : Around} {E : Value → Shared → Prop} {s : Shared}
theorem kat_all {b : Bool} : ∀ (xs ys : List ND) (vs ws : List Value) (as bs : List Addr) (i : Nat), ReadsAll s.heap vs (ND.pyL xs) as → ReadsAll s.heap ws (ND.pyL ys) bs → ND.homL xs ys = true → A.units + max (PyData.depthAll (ND.pyL xs)) (PyData.depthAll (ND.pyL ys)) < cLine →
    ((b && i == 0) = true → ∀ x ∈ xs, ∃ n r, xs = .i n :: r) → PySem.W.KatLex prog w A b (decide (xs.length < ys.length)) (fun r s' => s' = s ∧ r = (ND.cmpL xs ys == .lt)) (vs.zip ws) i s
  | [], [], vs, ws, as, bs, i, ra, rb, _, _, _ => by
    simp only [ND.pyL] at ra rb
    cases ra
    cases rb
    exact PySem.W.kat_nil ⟨rfl, rfl⟩
  | [], y :: ys, vs, ws, as, bs, i, ra, rb, _, _, _ => by
    simp only [ND.pyL] at ra rb
    cases ra
    exact PySem.W.kat_nil ⟨rfl, by simp [ND.cmpL]⟩
  | x :: xs, [], vs, ws, as, bs, i, ra, rb, _, _, _ => by
    simp only [ND.pyL] at ra rb
    cases rb
    rw [List.zip_nil_right]
    exact PySem.W.kat_nil ⟨rfl, by simp [ND.cmpL]⟩
  | x :: xs, y :: ys, vs, ws, as, bs, i, ra, rb, hh, hu, hb => by
    simp only [ND.pyL] at ra rb hu
    simp only [PyData.depthAll] at hu
    simp only [ND.homL, Bool.and_eq_true] at hh
    cases ra with
    | cons r1 r2 =>
      cases rb with
      | cons q1 q2 =>
        rename_i v vs' as1 as2 u us' bs1 bs2
        rw [List.zip_cons_cons]
        have ee := SeqAt.eqAt_reads _ _ A s _ _ _ _ r1 q1 (ND.lay x) (ND.lay y) (by omega)
        refine PySem.W.kat_cons (ee prog w _ _ ?_)
        refine PySem.W.kat_go (fun e1 => ?_) (fun e1 => ?_)
        · have ec := ND.eqv_true e1
          have ih := kat_all (b := b) xs ys vs' us' _ _ (i + 1) r2 q2 hh.2 (by omega) (fun z => by simp at z)
          rw [List.length_cons, List.length_cons, show decide (xs.length + 1 < ys.length + 1) = decide (xs.length < ys.length) from decide_eq_decide.mpr (by omega)]
          refine PySem.W.kat_yes ?_
          have ev : ND.cmpL (x :: xs) (y :: ys) = ND.cmpL xs ys := by simp only [ND.cmpL]; rw [ec]; rfl
          rw [ev]
          exact ih
        · have ec := ND.eqv_false e1
          have ev : (ND.cmpL (x :: xs) (y :: ys) == .lt) = ND.ltB x y := by
            simp only [ND.cmpL, ND.ltB]
            cases e : ND.cmp x y with
            | eq => exact absurd e ec
            | lt => rfl
            | gt => rfl
          rw [ev]
          refine PySem.W.kat_no ?_
          cases hc : (b && i == 0) with
          | true =>
            obtain ⟨n, r, en⟩ := hb hc x List.mem_cons_self
            injection en with en _
            subst en
            cases y with
            | t _ => simp [ND.hom] at hh
            | i m =>
              simp only [ND.py] at r1 q1
              cases r1
              cases q1
              refine TS.oneLt_ints true ?_
              refine ⟨rfl, ?_⟩
              unfold ND.ltB
              simp only [ND.cmp]
              by_cases h : n < m
              · rw [decide_eq_true h, ND.int_lt.mpr h]; rfl
              · rw [decide_eq_false h]
                have : compare n m ≠ .lt := fun e => h (ND.int_lt.mp e)
                cases e : compare n m <;> simp_all
          | false =>
            refine PySem.W.kat_one _ _ ?_
            exact rc_lt x y A s _ _ _ _ r1 q1 hh.1 (by simp only [ND.dep]; omega) prog w _ _ ⟨rfl, rfl⟩
noncomputable def datOf (h : Heap) (v : Value) : ND := ND.of (SeqAt.readOf h v)
theorem datOf_eq {h : Heap} {v : Value} {d : ND} {as : List Addr} (r : Reads h v d.py as) : datOf h v = d := by
  unfold datOf
  rw [SeqAt.readOf_eq (ND.lay d) r, ND.of_py]
/-- what a list to be sorted holds: tuples, not empty, of one form -/
structure SrtOk (ds : List ND) : Prop where
  tup : ∀ d ∈ ds, ∃ f r, d = .t (f :: r)
  hom : ∀ d ∈ ds, ∀ e ∈ ds, ND.hom d e = true
  dep : ∀ d ∈ ds, d.dep ≤ 8
theorem swo_dat (f : Value → ND) : SrtO.Swo fun v u => ND.ltB (f v) (f u) := ⟨fun _ _ h => ND.ltB_asym h, fun _ _ _ h1 h2 => ND.ltB_tr h1 h2⟩
theorem firsts_nd : ∀ {h : Heap} {vs : List Value} {ds : List ND}, All2 (fun v d => ∃ as, Reads h v (ND.py d) as) vs ds → (∀ d ∈ ds, ∃ f r, d = .t (f :: r)) →
    ∃ fs : List Value, PySem.W.KatTups h vs fs ∧ fs.length = vs.length ∧ ∀ f ∈ fs, ∃ d g r as, d ∈ ds ∧ d = .t (g :: r) ∧ Reads h f g.py as
  | _, [], [], _, _ => ⟨[], .nil, rfl, fun _ hf => absurd hf List.not_mem_nil⟩
  | h, v :: vs, d :: ds, ha, ht => by
    obtain ⟨⟨as, r⟩, ha'⟩ := ha
    obtain ⟨fs, k, kl, kf⟩ := firsts_nd ha' fun d hd => ht d (List.mem_cons_of_mem _ hd)
    obtain ⟨g, rr, e⟩ := ht d List.mem_cons_self
    subst e
    simp only [ND.py, ND.pyL] at r
    cases r with
    | tuple k1 k2 k3 k4 =>
      rename_i a o ws n
      obtain ⟨wl⟩ := ws
      cases k4 with
      | cons q1 q2 =>
        rename_i x xs bs cs
        refine ⟨x :: fs, .cons k1 k2 k3 (by simp) k, by simp [kl], fun f hf => ?_⟩
        rcases List.mem_cons.mp hf with e | e
        · subst e
          exact ⟨_, g, rr, _, List.mem_cons_self, rfl, q1⟩
        · obtain ⟨d, g', r', as', h1, h2, h3⟩ := kf f e
          exact ⟨d, g', r', as', List.mem_cons_of_mem _ h1, h2, h3⟩
theorem nd_sortable {a : Addr} {vs : List Value} {ds : List ND} (h0 : 0 < vs.length) (hp : All2 (fun v d => ∃ as, Reads s.heap v (ND.py d) as) vs ds) (ok : SrtOk ds) (hu : A.units + 16 < cLine) (ha : ∀ o, s.heap.get? a = some o → o.cls ≠ .type "tuple") (f : Value → ND) (hf : ∀ v ∈ vs, ∀ d as, Reads s.heap v (ND.py d) as → f v = d) : SrtO.SortableO prog w A s a vs fun v u => ND.ltB (f v) (f u) := by
  intro h' keep
  have kt : ∀ b o, s.heap.get? b = some o → o.cls = .type "tuple" → h'.get? b = some o := fun b o e c => keep b o (fun z => by subst z; exact ha o e c) e
  have hp' : All2 (fun v d => ∃ as, Reads h' v (ND.py d) as) vs ds := hp.mono fun v d ⟨as, r⟩ => ⟨as, reads_keep kt d v as r⟩
  obtain ⟨fs, k1, k2, k3⟩ := firsts_nd hp' ok.tup
  -- the kind
  obtain ⟨f0, hf0⟩ : ∃ f0, f0 ∈ fs := by
    match fs, k2 with
    | [], k => simp at k; omega
    | x :: _, _ => exact ⟨x, List.mem_cons_self⟩
  obtain ⟨d0, g0, r0, as0, hd0, e0, rd0⟩ := k3 f0 hf0
  have same : ∀ f ∈ fs, ∃ g as, Reads h' f (ND.py g) as ∧ ND.hom g g0 = true := fun f hf => by
    obtain ⟨d, g, r, as, hd, e, rd⟩ := k3 f hf
    have hh := ok.hom d hd d0 hd0
    rw [e, e0] at hh
    simp only [ND.hom, ND.homL, Bool.and_eq_true] at hh
    exact ⟨g, as, rd, hh.1⟩
  have cmpB : ∀ b : Bool, (b = true → ∀ d ∈ ds, ∃ n r, d = .t (.i n :: r)) → SrtO.Cmp prog w A { s with heap := h' } (tuples' b) (fun p => p.1 ∈ vs) (SrtO.lt2 fun v u => ND.ltB (f v) (f u)) := fun b hb p q hm hm' => by
    obtain ⟨d, hd, as, rd⟩ := hp.mem hm
    obtain ⟨e, he, bs, re⟩ := hp.mem hm'
    have ef := hf _ hm d as rd
    have eg := hf _ hm' e bs re
    show wpAny (model prog w) A (keyLt' (tuples' b) p.1 q.1) (fun r s' => s' = _ ∧ r = ND.ltB (f p.1) (f q.1)) (fun _ _ => False) _
    rw [ef, eg]
    have rd' := reads_keep kt d _ _ rd
    have re' := reads_keep kt e _ _ re
    have hh := ok.hom d hd e he
    have dd := ok.dep d hd
    have de := ok.dep e he
    obtain ⟨g, r, rfl⟩ := ok.tup d hd
    obtain ⟨g', r', rfl⟩ := ok.tup e he
    have hb' : b = true → ∃ n, g = .i n := fun z => by
      obtain ⟨n, rr, en⟩ := hb z _ hd
      injection en with en
      injection en with en _
      exact ⟨n, en⟩
    generalize hv : p.1 = v at rd'
    generalize hw : q.1 = u at re'
    have dx : ∀ xs : List ND, (ND.t xs).dep = PyData.depthAll (ND.pyL xs) + 1 := fun xs => by simp only [ND.dep, ND.py, PyData.depth]
    rw [dx] at dd de
    have rd2 : Reads h' v (.tuple (ND.pyL (g :: r))) as := by simpa only [ND.py] using rd'
    have re2 : Reads h' u (.tuple (ND.pyL (g' :: r'))) bs := by simpa only [ND.py] using re'
    cases rd2 with
    | tuple k1 k2 k3 k4 =>
      cases re2 with
      | tuple l1 l2 l3 l4 =>
        rename_i va vo vvs vn ua uo uvs un
        refine PySem.W.kat_lt k1 k3 l1 l3 ?_
        have z := kat_all (prog := prog) (w := w) (A := A) (s := { s with heap := h' }) (b := b) (g :: r) (g' :: r') vvs.toList uvs.toList _ _ 0 k4 l4 (by simpa only [ND.hom] using hh) (by omega) (fun z x _ => by
          obtain ⟨n, en⟩ := hb' (by simpa using z)
          exact ⟨n, r, by rw [en]⟩)
        have n1 := SeqAt.ReadsAll.length _ _ _ k4
        have n2 := SeqAt.ReadsAll.length _ _ _ l4
        have m1 : vvs.size = (g :: r).length := by rw [← Array.length_toList, n1, ND.pyL_map, List.length_map]
        have m2 : uvs.size = (g' :: r').length := by rw [← Array.length_toList, n2, ND.pyL_map, List.length_map]
        rw [m1, m2]
        have ev : ND.ltB (.t (g :: r)) (.t (g' :: r')) = (ND.cmpL (g :: r) (g' :: r') == .lt) := by simp only [ND.ltB, ND.cmp]
        rw [ev]
        exact z
  cases g0 with
  | i n0 =>
    refine ⟨tuples' true, fun Q E hq => ?_, cmpB true fun _ d hd => ?_⟩
    · refine PySem.W.kat_kind (T := .type "int") k1 (by omega) (fun f hm => ?_) (by rfl) ?_
      · obtain ⟨g, as, rd, hh⟩ := same f hm
        cases g with
        | t _ => simp [ND.hom] at hh
        | i n =>
          simp only [ND.py] at rd
          cases rd
          exact PySem.W.Looks.now
      · have e : (Value.type "int" != Value.type "tuple") = true := by first | decide +kernel | rfl | decide
        rw [e]
        exact hq
    · have hh := ok.hom d hd d0 hd0
      obtain ⟨g, r, rfl⟩ := ok.tup d hd
      rw [e0] at hh
      simp only [ND.hom, ND.homL, Bool.and_eq_true] at hh
      cases g with
      | t _ => simp [ND.hom] at hh
      | i n => exact ⟨n, r, rfl⟩
  | t x0 =>
    refine ⟨tuples' false, fun Q E hq => ?_, cmpB false fun z => by cases z⟩
    refine PySem.W.kat_kind (T := .type "tuple") k1 (by omega) (fun f hm => ?_) (by rfl) ?_
    · obtain ⟨g, as, rd, hh⟩ := same f hm
      cases g with
      | i _ => simp [ND.hom] at hh
      | t xs =>
        simp only [ND.py] at rd
        cases rd with
        | tuple q1 q2 q3 q4 =>
          rename_i ga go gvs gn
          have z : PySem.W.Looks (model prog w) h' (typeOf (.ref ga)) go.cls := (PySem.W.Looks.ld q1).andThen .now
          rw [q2] at z
          exact z
    · have e : (Value.type "tuple" != Value.type "tuple") = false := by first | decide +kernel | rfl | decide
      rw [e]
      exact hq
end
section
variable {X : Cx} {K : PySem.W.Frag}
def rSortN (K : PySem.W.Frag) : List V → Hp → VK → Prop := fun vs H Q => ∃ (a : Addr) (xs : List V) (ds : List ND), vs = [V.ref a] ∧ SqL K H a xs ∧ All2 (fun x d => Dp K H x (ND.py d)) xs ds ∧ (∀ x ∈ xs, ∃ t, x = .ref t) ∧ SrtOk ds ∧
  ∀ (zs : List (V × ND)) p, zs.Perm (xs.zip ds) → zs.map (·.2) = ND.sort ds → H p = none → Q (.ref p) (upd H p (.lst (zs.map (·.1))))
theorem zip_map2 {α β γ : Type} (f : α → β) (g : α → γ) : ∀ l : List α, (l.map f).zip (l.map g) = l.map fun x => (f x, g x)
  | [] => rfl
  | x :: l => by rw [List.map_cons, List.map_cons, List.zip_cons_cons, zip_map2 f g l]; rfl
theorem reads2 {pins : List (Addr × Obj)} {σ : L2.St} {H : Hp} {s : Shared} (I : Inv X pins σ H s) : ∀ {xs : List V} {us : List Value} {ds : List ND}, Vals xs us → All2 (fun x d => Dp X.K H x (ND.py d)) xs ds → All2 (fun v d => ∃ as, Reads s.heap v (ND.py d) as) us ds
  | [], [], [], _, _ => trivial
  | _ :: _, _ :: _, _ :: _, .cons r t, h => ⟨Dp.reads I _ _ _ h.1 r, reads2 I t h.2⟩
  | [], _ :: _, _, r, _ => by cases r
  | _ :: _, [], _, r, _ => by cases r
theorem cr_sortN (hu : X.A.units + 40 < cLine) (e : X.K = K := by rfl) : CallR X (.builtin "sorted") (rSortN K) := by
  subst e
  intro pins s σ H vs us Q I r h
  obtain ⟨a, xs, ds, rfl, hs, hx, hrf, ok, q⟩ := h
  obtain ⟨its, rv, hl, hz⟩ := I.list hs
  obtain ⟨u, rfl, ru⟩ := vals1 r
  obtain rfl : u = Value.ref a := ru
  obtain ⟨e1, e2⟩ := refs_back rv fun x m => hrf x m
  have hR := reads2 I rv hx
  have hf : ∀ v ∈ its, ∀ d as, Reads s.heap v (ND.py d) as → datOf s.heap v = d := fun v _ d as r => datOf_eq r
  have hd : ∀ v ∈ its, ∃ as, Reads s.heap v (ND.py (datOf s.heap v)) as := fun v hv => by
    obtain ⟨d, _, as, rd⟩ := hR.mem hv
    rw [hf v hv d as rd]
    exact ⟨as, rd⟩
  have em : its.map (datOf s.heap) = ds := hR.map_eq fun v d ⟨as, rd⟩ => datOf_eq rd
  refine SrtO.sorted_ord (swo_dat (datOf s.heap)) hl.isList (by rw [← rv.length]; exact hz) (fun h2 h₁ b hb kk => ?_) fun out hs1 hs2 => ?_
  · have kt : ∀ c o, s.heap.get? c = some o → o.cls = .type "tuple" → h₁.get? c = some o := fun c o e _ => (kk c o e).2
    refine nd_sortable (s := { s with heap := h₁ }) (ds := ds) (by omega) (hR.mono fun v d ⟨as, rd⟩ => ⟨as, reads_keep kt d v as rd⟩) ok (by show X.A.units + 1 + 1 + 16 < cLine; omega) (fun o e => ?_) (datOf s.heap) (fun v hv d as rd => ?_)
    · have e' : some o = some (seqObj "list" its.toArray 0) := e.symm.trans hb
      cases e'
      intro c
      exact absurd (Value.type.inj c) (by decide)
    · obtain ⟨d', _, as', rd'⟩ := hR.mem hv
      rw [hf v hv d' as' rd']
      have z1 := datOf_eq (reads_keep kt d' v as' rd')
      have z2 := datOf_eq rd
      exact z1.symm.trans z2
  · have h3 : ∀ u ∈ out, ∃ a, u = Value.ref a := fun u hu => e2 u (hs2.perm.mem_iff.mp hu)
    have pm : (out.map backV).Perm xs := by rw [e1]; exact hs2.perm.map _
    have so : out.map (datOf s.heap) = ND.sort ds := by
      refine (ND.sort_eq ?_ ?_).symm
      · refine List.pairwise_map.mpr (hs1.imp fun {x y} z => ?_)
        have z : ND.ltB (datOf s.heap y) (datOf s.heap x) = false := z
        unfold ND.leB
        rw [z]
        rfl
      · rw [← em]; exact hs2.perm.map _
    obtain ⟨n, hn⟩ := sortedAll_at s.heap its out.toArray
    have ez : (out.map fun v => (backV v, datOf s.heap v)).map (·.1) = out.map backV := by rw [List.map_map]; rfl
    have ez2 : (out.map fun v => (backV v, datOf s.heap v)).map (·.2) = out.map (datOf s.heap) := by rw [List.map_map]; rfl
    refine ⟨.ref (s.heap.objs.size + 1), upd H (s.heap.objs.size + 1) (.lst (out.map backV)), I.laid (t' := s.toks) (fun b o e => sortedAll_old e) (Nat.le_succ _) ⟨?_, out, n, vals_back h3, hn⟩, rfl, ?_⟩
    · rw [pm.length_eq]; exact hz
    · have z := q (out.map fun v => (backV v, datOf s.heap v)) (s.heap.objs.size + 1) ?_ (by rw [ez2]; exact so) (I.hok.fresh (Nat.le_succ _))
      · rw [ez] at z
        exact z
      · rw [← em, e1, zip_map2]
        exact hs2.perm.map _
end
section
variable {X : Cx} {K : PySem.W.Frag}
def rGeN (K : PySem.W.Frag) : R2 := fun x y H Q => ∃ d e : ND, Dp K H x d.py ∧ Dp K H y e.py ∧ ND.hom d e = true ∧ d.dep ≤ 8 ∧ Q (.bl (!ND.ltB d e)) H
def rLtN (K : PySem.W.Frag) : R2 := fun x y H Q => ∃ d e : ND, Dp K H x d.py ∧ Dp K H y e.py ∧ ND.hom d e = true ∧ d.dep ≤ 8 ∧ Q (.bl (ND.ltB d e)) H
theorem op_geN (hu : X.A.units + 40 < cLine) (e : X.K = K := by rfl) : OpR X (compareOp .GtE) (rGeN K) := by
  subst e
  intro pins s σ H x y v u Q I rx ry h
  obtain ⟨d, e, hd, he, hh, dd, q⟩ := h
  obtain ⟨as, r1⟩ := Dp.reads I _ x v hd rx
  obtain ⟨bs, r2⟩ := Dp.reads I _ y u he ry
  have R := rc_ge d e X.A s v u as bs r1 r2 hh (by omega)
  exact R X.prog X.w X.xe (EP X pins σ Q) ⟨.bl _, H, I, rfl, q⟩
theorem op_ltN (hu : X.A.units + 40 < cLine) (e : X.K = K := by rfl) : OpR X (compareOp .Lt) (rLtN K) := by
  subst e
  intro pins s σ H x y v u Q I rx ry h
  obtain ⟨d, e, hd, he, hh, dd, q⟩ := h
  obtain ⟨as, r1⟩ := Dp.reads I _ x v hd rx
  obtain ⟨bs, r2⟩ := Dp.reads I _ y u he ry
  have R := rc_lt d e X.A s v u as bs r1 r2 hh (by omega)
  exact R X.prog X.w X.xe (EP X pins σ Q) ⟨.bl _, H, I, rfl, q⟩
end
theorem all2_zip {α : Type} {R : V → α → Prop} {enc : α → ND} (inj : ∀ a b, enc a = enc b → a = b) : ∀ {zs : List (V × ND)} {qs : List α}, (∀ z ∈ zs, ∃ p, R z.1 p ∧ z.2 = enc p) → zs.map (·.2) = qs.map enc → All2 R (zs.map (·.1)) qs
  | [], [], _, _ => trivial
  | [], _ :: _, _, e => by cases e
  | _ :: _, [], _, e => by cases e
  | z :: zs, q :: qs, h, e => by
    rw [List.map_cons, List.map_cons] at e
    injection e with e1 e2
    obtain ⟨p, r, ep⟩ := h z List.mem_cons_self
    rw [ep] at e1
    have := inj _ _ e1
    subst this
    exact ⟨r, all2_zip inj (fun z hz => h z (List.mem_cons_of_mem _ hz)) e2⟩
theorem zip_mem {α : Type} {R : V → α → Prop} {enc : α → ND} : ∀ {xs : List V} {ps : List α}, All2 R xs ps → ∀ z ∈ xs.zip (ps.map enc), ∃ p, R z.1 p ∧ z.2 = enc p
  | [], [], _, z, hz => by simp at hz
  | x :: xs, p :: ps, h, z, hz => by
    rw [List.map_cons, List.zip_cons_cons] at hz
    rcases List.mem_cons.mp hz with e | e
    · subst e
      exact ⟨p, h.1, rfl⟩
    · exact zip_mem h.2 z e
/-- sorted of a list of things that are written by enc -/
theorem w_sortN {α : Type} {K : PySem.W.Frag} {H : Hp} {Q : VK} {a : Addr} {vs : List V} {ps qs : List α} {R : V → α → Prop} {enc : α → ND} (inj : ∀ a b, enc a = enc b → a = b) (hd : ∀ v p, R v p → Dp K H v (enc p).py ∧ ∃ t, v = .ref t)
    (h1 : SqL K H a vs) (p1 : All2 R vs ps) (ok : SrtOk (ps.map enc)) (hs : ND.sort (ps.map enc) = qs.map enc) (h : ∀ ys p, H p = none → All2 R ys qs → Q (.ref p) (upd H p (.lst ys))) : rSortN K [.ref a] H Q := by
  refine ⟨a, vs, ps.map enc, rfl, h1, ?_, fun x hx => ?_, ok, fun zs p pm hz hp => h _ p hp ?_⟩
  · clear h h1 ok hs
    induction vs generalizing ps with
    | nil => cases ps with
      | nil => trivial
      | cons _ _ => exact p1.elim
    | cons v vs ih => cases ps with
      | nil => exact p1.elim
      | cons q qs => exact ⟨(hd _ _ p1.1).1, ih p1.2⟩
  · obtain ⟨q, _, r⟩ := p1.mem hx
    exact (hd _ _ r).2
  · exact all2_zip inj (fun z hz' => zip_mem p1 z (pm.mem_iff.mp hz')) (hz.trans hs)
theorem _root_.L2.Room.u40 {A : Around} {k : Nat} (hr : Room k A) : A.units + 40 < cLine := by have := hr.un; omega
/-! #### a sorted list through a way to write it -/
theorem sort_enc {α : Type} {enc : α → ND} {le : α → α → Bool} (he : ∀ a b, ND.leB (enc a) (enc b) = le a b) (tr : ∀ a b c, le a b = true → le b c = true → le a c = true) (tot : ∀ a b, (le a b || le b a) = true) (xs : List α) : ND.sort (xs.map enc) = (xs.mergeSort le).map enc := by
  refine ND.sort_eq (List.pairwise_map.mpr ((List.pairwise_mergeSort tr tot xs).imp fun {a b} h => ?_)) ((List.mergeSort_perm xs le).map enc)
  rw [he]
  exact h
theorem leB_i (a b : Int) : ND.leB (.i a) (.i b) = decide (a ≤ b) := by
  unfold ND.leB ND.ltB
  simp only [ND.cmp]
  by_cases h : b < a
  · rw [ND.int_lt.mpr h, decide_eq_false (by omega)]; rfl
  · rw [decide_eq_true (by omega)]
    have : compare b a ≠ .lt := fun e => h (ND.int_lt.mp e)
    cases e : compare b a <;> simp_all
theorem leB_tcons (x y : ND) (xs ys : List ND) : ND.leB (.t (x :: xs)) (.t (y :: ys)) = (if ND.cmp x y = .eq then ND.leB (.t xs) (.t ys) else ND.leB x y) := by
  unfold ND.leB ND.ltB
  simp only [ND.cmp, ND.cmpL]
  rw [ND.cmp_swap x y]
  cases e : ND.cmp x y with
  | eq => rfl
  | lt => rfl
  | gt => rfl
theorem leB_tnil (ys : List ND) : ND.leB (.t []) (.t ys) = true := by
  unfold ND.leB ND.ltB
  cases ys <;> simp [ND.cmp, ND.cmpL]
theorem cmp_i_eq (a b : Int) : (ND.cmp (.i a) (.i b) = .eq) ↔ a = b := by
  simp only [ND.cmp]
  exact ⟨fun h => Std.LawfulEqCmp.eq_of_compare h, fun h => by subst h; exact Std.ReflCmp.compare_self⟩
end Pm
/-! ### plots -/
namespace Pm
abbrev I3 := Int × Int × Int
namespace Tr
def plots : Nat → Tr → List (Nat × Nat × Nat)
  | _, leaf => []
  | lo, node l r => (lo, lo + l.w, lo + (l.w + r.w)) :: (l.plots lo ++ r.plots (lo + l.w))
theorem plots_len : ∀ (t : Tr) (lo : Nat), (t.plots lo).length + 1 = t.w
  | leaf, _ => rfl
  | node l r, lo => by
    show ((lo, lo + l.w, lo + (l.w + r.w)) :: (l.plots lo ++ r.plots (lo + l.w))).length + 1 = l.w + r.w
    rw [List.length_cons, List.length_append]
    have h1 := plots_len l lo
    have h2 := plots_len r (lo + l.w)
    omega
theorem plots_bd : ∀ {t : Tr} {lo : Nat} {p : Nat × Nat × Nat}, p ∈ t.plots lo → lo ≤ p.1 ∧ p.1 < p.2.1 ∧ p.2.1 < p.2.2 ∧ p.2.2 ≤ lo + t.w
  | leaf, _, _, h => by cases h
  | node l r, lo, p, h => by
    have wl := l.w_pos
    have wr := r.w_pos
    show lo ≤ p.1 ∧ p.1 < p.2.1 ∧ p.2.1 < p.2.2 ∧ p.2.2 ≤ lo + (l.w + r.w)
    rcases List.mem_cons.mp h with h | h
    · rw [h]; simp only; omega
    · rcases List.mem_append.mp h with h | h
      · have := plots_bd h; omega
      · have := plots_bd h; omega
theorem plots_nodup : ∀ (t : Tr) (lo : Nat), (t.plots lo).Nodup
  | leaf, _ => List.nodup_nil
  | node l r, lo => by
    have wl := l.w_pos
    have wr := r.w_pos
    refine List.nodup_cons.mpr ⟨fun h => ?_, List.nodup_append.mpr ⟨plots_nodup l lo, plots_nodup r _, fun a ha b hb e => ?_⟩⟩
    · rcases List.mem_append.mp h with h | h
      · have := plots_bd h; simp only at this; omega
      · have := plots_bd h; simp only at this; omega
    · subst e
      have := plots_bd ha
      have := plots_bd hb
      omega
/-- three posts each two of which are tied -/
theorem plots_iff : ∀ {t : Tr} {lo a b c : Nat}, (a, b, c) ∈ t.plots lo ↔ (a < b ∧ b < c) ∧ (a, b) ∈ t.all lo ∧ (b, c) ∈ t.all lo ∧ (a, c) ∈ t.all lo
  | leaf, lo, a, b, c => by
    constructor
    · intro h; cases h
    · rintro ⟨h, h1, h2, h3⟩
      have := Prod.mk.inj (List.mem_singleton.mp h1)
      have := Prod.mk.inj (List.mem_singleton.mp h3)
      omega
  | node l r, lo, a, b, c => by
    have wl := l.w_pos
    have wr := r.w_pos
    constructor
    · intro h
      rcases List.mem_cons.mp h with h | h
      · obtain ⟨rfl, h⟩ := Prod.mk.inj h
        obtain ⟨rfl, rfl⟩ := Prod.mk.inj h
        exact ⟨⟨by omega, by omega⟩, mem_node.mpr (.inr (.inl root_mem)), mem_node.mpr (.inr (.inr (by rw [← Nat.add_assoc]; exact root_mem))), mem_node.mpr (.inl rfl)⟩
      · rcases List.mem_append.mp h with h | h
        · obtain ⟨q, h1, h2, h3⟩ := plots_iff.mp h
          exact ⟨q, mem_node.mpr (.inr (.inl h1)), mem_node.mpr (.inr (.inl h2)), mem_node.mpr (.inr (.inl h3))⟩
        · obtain ⟨q, h1, h2, h3⟩ := plots_iff.mp h
          exact ⟨q, mem_node.mpr (.inr (.inr h1)), mem_node.mpr (.inr (.inr h2)), mem_node.mpr (.inr (.inr h3))⟩
    · rintro ⟨q, h1, h2, h3⟩
      show (a, b, c) ∈ _ :: (_ ++ _)
      rw [List.mem_cons, List.mem_append]
      rcases mem_node.mp h3 with e | e | e
      · obtain ⟨rfl, rfl⟩ := Prod.mk.inj e
        have eb : b = a + l.w := by
          rcases mem_node.mp h1 with e | e | e
          · have := (Prod.mk.inj e).2; omega
          · have x1 := (bd e).2.2
            simp only at x1
            rcases mem_node.mp h2 with e | e | e
            · have := (Prod.mk.inj e).1; omega
            · have := (bd e).2.2; simp only at this; omega
            · have := (bd e).1; simp only at this; omega
          · have := (bd e).1; simp only at this; omega
        rw [eb]
        exact .inl rfl
      · have b3 := bd e
        simp only at b3
        refine .inr (.inl (plots_iff.mpr ⟨q, ?_, ?_, e⟩))
        · rcases mem_node.mp h1 with e | e | e
          · have := (Prod.mk.inj e).2; omega
          · exact e
          · have := (bd e).1; simp only at this; omega
        · rcases mem_node.mp h2 with e | e | e
          · have := (Prod.mk.inj e).1; omega
          · exact e
          · have := (bd e).1; simp only at this; omega
      · have b3 := bd e
        simp only at b3
        refine .inr (.inr (plots_iff.mpr ⟨q, ?_, ?_, e⟩))
        · rcases mem_node.mp h1 with e | e | e
          · have := (Prod.mk.inj e).1; omega
          · have := (bd e).2.2; simp only at this; omega
          · exact e
        · rcases mem_node.mp h2 with e | e | e
          · have := (Prod.mk.inj e).1; omega
          · have := (bd e).2.2; simp only at this; omega
          · exact e
end Tr
/-! #### triples in order -/
def lex3 (p q : I3) : Bool := decide (p.1 < q.1 ∨ (p.1 = q.1 ∧ (p.2.1 < q.2.1 ∨ (p.2.1 = q.2.1 ∧ p.2.2 ≤ q.2.2))))
theorem lex3_iff {p q : I3} : lex3 p q = true ↔ (p.1 < q.1 ∨ (p.1 = q.1 ∧ (p.2.1 < q.2.1 ∨ (p.2.1 = q.2.1 ∧ p.2.2 ≤ q.2.2)))) := decide_eq_true_iff
theorem lex3_trans (p q r : I3) (h : lex3 p q = true) (k : lex3 q r = true) : lex3 p r = true := by
  have h := lex3_iff.mp h
  have k := lex3_iff.mp k
  exact lex3_iff.mpr (by omega)
theorem lex3_total (p q : I3) : (lex3 p q || lex3 q p) = true := by
  rw [Bool.or_eq_true, lex3_iff, lex3_iff]
  omega
theorem lex3_anti {p q : I3} (h : lex3 p q = true) (k : lex3 q p = true) : p = q := by
  have h := lex3_iff.mp h
  have k := lex3_iff.mp k
  obtain ⟨a, b, e⟩ := p
  obtain ⟨c, d, f⟩ := q
  simp only at h k
  have e1 : a = c := by omega
  have e2 : b = d := by omega
  have e3 : e = f := by omega
  rw [e1, e2, e3]
abbrev Rising3 (ps : List I3) : Prop := ps.Pairwise fun p q => lex3 p q = true
def sort3 (ps : List I3) : List I3 := ps.mergeSort lex3
theorem sort3_perm (ps : List I3) : (sort3 ps).Perm ps := List.mergeSort_perm ps lex3
theorem sort3_rising (ps : List I3) : Rising3 (sort3 ps) := List.pairwise_mergeSort lex3_trans lex3_total ps
theorem rising3_eq {ps qs : List I3} (h : Rising3 ps) (k : Rising3 qs) (e : ps.Perm qs) : ps = qs := List.Perm.eq_of_pairwise (fun _ _ _ _ a b => lex3_anti a b) h k e
theorem sort3_eq {ps qs : List I3} (h : Rising3 ps) (e : ps.Perm qs) : sort3 qs = ps := rising3_eq (sort3_rising qs) h ((sort3_perm qs).trans e.symm)
/-! #### the plots of a list of ties -/
def cast3 (p : Nat × Nat × Nat) : I3 := ((p.1 : Int), (p.2.1 : Int), (p.2.2 : Int))
theorem cast3_inj {p q : Nat × Nat × Nat} (h : cast3 p = cast3 q) : p = q := by
  obtain ⟨a, b, e⟩ := p
  obtain ⟨c, d, f⟩ := q
  have e1 := congrArg Prod.fst h
  have e2 := congrArg (fun z => z.2.1) h
  have e3 := congrArg (fun z => z.2.2) h
  simp only [cast3] at e1 e2 e3
  rw [show a = c by omega, show b = d by omega, show e = f by omega]
/-- the third posts above a tie -/
def above (n : Nat) (T : List IP) (p : IP) : List Nat := (List.range (((n : Int) - (p.2 + 1)).toNat)).filter fun i => decide ((p.1, p.2 + 1 + (i : Int)) ∈ T) && decide ((p.2, p.2 + 1 + (i : Int)) ∈ T)
def plots0 (n : Nat) (T S : List IP) : List I3 := S.flatMap fun p => (above n T p).map fun i : Nat => (p.1, p.2, p.2 + 1 + (i : Int))
def plotsL (n : Nat) (cut : List IP) : List I3 := sort3 (plots0 n (tiesL n cut) (tiesL n cut))
theorem mem_plots0 {n : Nat} {T S : List IP} {q : I3} : q ∈ plots0 n T S ↔ (q.1, q.2.1) ∈ S ∧ q.2.1 < q.2.2 ∧ q.2.2 < n ∧ (q.1, q.2.2) ∈ T ∧ (q.2.1, q.2.2) ∈ T := by
  unfold plots0
  rw [List.mem_flatMap]
  constructor
  · rintro ⟨p, hp, hq⟩
    obtain ⟨i, hi, rfl⟩ := List.mem_map.mp hq
    unfold above at hi
    rw [List.mem_filter, List.mem_range, Bool.and_eq_true, decide_eq_true_iff, decide_eq_true_iff] at hi
    exact ⟨hp, by simp only; omega, by simp only; omega, hi.2.1, hi.2.2⟩
  · rintro ⟨h1, h2, h3, h4, h5⟩
    refine ⟨_, h1, List.mem_map.mpr ⟨(q.2.2 - (q.2.1 + 1)).toNat, ?_, ?_⟩⟩
    · unfold above
      rw [List.mem_filter, List.mem_range, Bool.and_eq_true, decide_eq_true_iff, decide_eq_true_iff]
      have e : q.2.1 + 1 + ((q.2.2 - (q.2.1 + 1)).toNat : Int) = q.2.2 := by omega
      simp only
      rw [e]
      exact ⟨by omega, h4, h5⟩
    · obtain ⟨a, b, c⟩ := q
      simp only at h2 ⊢
      have e : b + 1 + ((c - (b + 1)).toNat : Int) = c := by omega
      rw [e]
section
variable {n : Nat} {cut : List IP} {t : Tr}
theorem plots0_nodup {T S : List IP} (h : S.Nodup) : (plots0 n T S).Nodup := by
  unfold plots0
  induction S with
  | nil => exact List.nodup_nil
  | cons p S ih =>
    obtain ⟨h1, h2⟩ := List.nodup_cons.mp h
    rw [List.flatMap_cons]
    refine List.nodup_append.mpr ⟨?_, ih h2, fun a ha b hb e => ?_⟩
    · have nd : (above n T p).Nodup := (List.nodup_range (n := ((n : Int) - (p.2 + 1)).toNat)).sublist List.filter_sublist
      refine List.Pairwise.map _ ?_ nd
      intro i j hij e
      have := congrArg (fun z => z.2.2) e
      simp only at this
      exact hij (by omega)
    · subst e
      obtain ⟨i, _, rfl⟩ := List.mem_map.mp ha
      have := mem_plots0.mp hb
      exact h1 this.1
theorem Cutting.ties_nodup (C : Cutting n cut t) : (tiesL n cut).Nodup := by
  have w2 := C.w2
  have hw := C.w
  refine ((sortP_perm _).nodup_iff).mpr (List.nodup_append.mpr ⟨?_, ?_, fun a ha b hb e => ?_⟩)
  · unfold sides0
    refine List.nodup_append.mpr ⟨?_, by simp, fun a ha b hb e => ?_⟩
    · refine List.Pairwise.map _ ?_ (List.nodup_range (n := n - 1))
      intro i j hij e
      have := congrArg Prod.fst e
      simp only at this
      exact hij (by omega)
    · subst e
      obtain ⟨k, hk, rfl⟩ := List.mem_map.mp ha
      have := List.mem_singleton.mp hb
      have e1 := congrArg Prod.fst this
      have e2 := congrArg Prod.snd this
      simp only at e1 e2
      omega
  · refine (C.perm.nodup_iff).mpr (List.Pairwise.map _ ?_ (Tr.ropes_nodup t 0))
    intro p q hpq e
    exact hpq (castP_inj e)
  · subst e
    obtain ⟨q, hq, rfl⟩ := C.mem.mp hb
    have hr := (ropes_iff w2).mp hq
    have hwid := Tr.inn_wide hr.1
    rcases (mem_sides0 (by omega)).mp ha with ⟨k, hk, e⟩ | e
    · rw [castP_inj e] at hwid
      simp only at hwid
      omega
    · refine hr.2 ?_
      rw [castP_inj e, ← hw] <;> rfl
theorem Cutting.plots_perm (C : Cutting n cut t) : (plots0 n (tiesL n cut) (tiesL n cut)).Perm ((t.plots 0).map cast3) := by
  have hw := C.w
  refine (List.perm_ext_iff_of_nodup (plots0_nodup C.ties_nodup) (List.Pairwise.map _ (fun p q hpq e => hpq (cast3_inj e)) (Tr.plots_nodup t 0))).mpr fun q => ?_
  rw [mem_plots0, List.mem_map]
  obtain ⟨a, b, c⟩ := q
  simp only
  constructor
  · rintro ⟨h1, h2, h3, h4, h5⟩
    obtain ⟨⟨x, y⟩, hx, ex⟩ := C.ties.mp h1
    obtain ⟨⟨x2, z⟩, hz, ez⟩ := C.ties.mp h4
    obtain ⟨⟨y2, z2⟩, hy, ey⟩ := C.ties.mp h5
    simp only [castP, Prod.mk.injEq] at ex ez ey
    obtain ⟨rfl, rfl⟩ := ex
    obtain ⟨e1, rfl⟩ := ez
    obtain ⟨e2, e3⟩ := ey
    have f1 : x2 = x := by omega
    have f2 : y2 = y := by omega
    have f3 : z2 = z := by omega
    subst f1 f2 f3
    have b1 := Tr.bd hx
    have b2 := Tr.bd hy
    simp only at b1 b2
    exact ⟨(x2, y2, z2), Tr.plots_iff.mpr ⟨⟨by omega, by omega⟩, hx, hy, hz⟩, rfl⟩
  · rintro ⟨⟨x, y, z⟩, hp, e⟩
    obtain ⟨q, h1, h2, h3⟩ := Tr.plots_iff.mp hp
    have b1 := Tr.plots_bd hp
    simp only at b1
    have e1 := congrArg Prod.fst e
    have e2 := congrArg (fun z => z.2.1) e
    have e3 := congrArg (fun z => z.2.2) e
    simp only [cast3] at e1 e2 e3
    subst e1 e2 e3
    exact ⟨C.tied.mpr h1, by omega, by omega, C.tied.mpr h3, C.tied.mpr h2⟩
theorem Cutting.plots_len (C : Cutting n cut t) : (plotsL n cut).length + 2 = n := by
  have hw := C.w
  have h := Tr.plots_len t 0
  rw [plotsL, (sort3_perm _).length_eq, C.plots_perm.length_eq, List.length_map]
  omega
theorem Cutting.mem_plots (C : Cutting n cut t) {q : I3} : q ∈ plotsL n cut ↔ ∃ p, p ∈ t.plots 0 ∧ q = cast3 p := by
  rw [plotsL, (sort3_perm _).mem_iff, C.plots_perm.mem_iff, List.mem_map]
  exact ⟨fun ⟨q, h, e⟩ => ⟨q, h, e.symm⟩, fun ⟨q, h, e⟩ => ⟨q, h, e.symm⟩⟩
theorem Cutting.plots_nodup (C : Cutting n cut t) : (plotsL n cut).Nodup := ((sort3_perm _).nodup_iff).mpr (plots0_nodup C.ties_nodup)
end
/-! #### triples as data -/
section
open PySem PySem.Spec PyProof.Rows L2
def nd3 (q : I3) : ND := .t [.i q.1, .i q.2.1, .i q.2.2]
theorem leB_nd3 (p q : I3) : ND.leB (nd3 p) (nd3 q) = lex3 p q := by
  unfold nd3
  rw [leB_tcons, leB_tcons, leB_tcons, leB_tnil, leB_i, leB_i, leB_i]
  simp only [cmp_i_eq]
  unfold lex3
  by_cases h1 : p.1 = q.1 <;> by_cases h2 : p.2.1 = q.2.1 <;> by_cases h3 : p.2.2 = q.2.2 <;> simp [h1, h2, h3] <;> omega
theorem sort_nd3 (ps : List I3) : ND.sort (ps.map nd3) = (sort3 ps).map nd3 := sort_enc leB_nd3 lex3_trans lex3_total ps
theorem nd3_inj {p q : I3} (h : nd3 p = nd3 q) : p = q := by
  obtain ⟨a, b, c⟩ := p
  obtain ⟨d, e, f⟩ := q
  unfold nd3 at h
  injection h with h
  injection h with h1 h
  injection h with h2 h
  injection h with h3 _
  injection h1 with h1
  injection h2 with h2
  injection h3 with h3
  simp only at h1 h2 h3
  rw [h1, h2, h3]
theorem dp_er {K : PySem.W.Frag} {H : Hp} {v : V} {q : I3} (h : Er H v q) : Dp K H v (nd3 q).py := by
  obtain ⟨t, rfl, ht⟩ := h
  simp only [nd3, ND.py, ND.pyL]
  exact .tup (SqT.of ht) (.cons (.int _) (.cons (.int _) (.cons (.int _) .nil)))
theorem srt3 (ps : List I3) : SrtOk (ps.map nd3) := by
  refine ⟨fun d hd => ?_, fun d hd e he => ?_, fun d hd => ?_⟩
  · obtain ⟨p, _, rfl⟩ := List.mem_map.mp hd
    exact ⟨_, _, rfl⟩
  · obtain ⟨p, _, rfl⟩ := List.mem_map.mp hd
    obtain ⟨q, _, rfl⟩ := List.mem_map.mp he
    simp [nd3, ND.hom, ND.homL]
  · obtain ⟨p, _, rfl⟩ := List.mem_map.mp hd
    simp [nd3, ND.dep, ND.py, ND.pyL, PyData.depth, PyData.depthAll]
/-- sorted of a list of triples -/
theorem w_sort3 {K : PySem.W.Frag} {H : Hp} {Q : VK} {a : Addr} {vs : List V} {ps : List I3} (h1 : SqL K H a vs) (p1 : All2 (Er H) vs ps) (h : ∀ ys p, H p = none → All2 (Er H) ys (sort3 ps) → Q (.ref p) (upd H p (.lst ys))) : rSortN K [.ref a] H Q :=
  w_sortN (fun _ _ => nd3_inj) (fun v p r => ⟨dp_er r, by obtain ⟨t, e, _⟩ := r; exact ⟨t, e⟩⟩) h1 p1 (srt3 ps) (sort_nd3 ps) h
end
/-! #### how many plots hold a tie -/
theorem nodup_map_on {α β : Type} {f : α → β} : ∀ {l : List α}, (∀ x ∈ l, ∀ y ∈ l, f x = f y → x = y) → l.Nodup → (l.map f).Nodup
  | [], _, _ => List.nodup_nil
  | a :: l, h, nd => by
    obtain ⟨h1, h2⟩ := List.nodup_cons.mp nd
    refine List.nodup_cons.mpr ⟨fun hm => ?_, nodup_map_on (fun x hx y hy => h x (List.mem_cons_of_mem _ hx) y (List.mem_cons_of_mem _ hy)) h2⟩
    obtain ⟨b, hb, e⟩ := List.mem_map.mp hm
    exact h1 (by rw [← h b (List.mem_cons_of_mem _ hb) a List.mem_cons_self e]; exact hb)
def holds3 (q : I3) (p : IP) : Bool := decide (p.1 = q.1 ∨ p.1 = q.2.1 ∨ p.1 = q.2.2) && decide (p.2 = q.1 ∨ p.2 = q.2.1 ∨ p.2 = q.2.2)
theorem holds3_iff {q : I3} {p : IP} : holds3 q p = true ↔ (p.1 = q.1 ∨ p.1 = q.2.1 ∨ p.1 = q.2.2) ∧ (p.2 = q.1 ∨ p.2 = q.2.1 ∨ p.2 = q.2.2) := by
  unfold holds3
  rw [Bool.and_eq_true, decide_eq_true_iff, decide_eq_true_iff]
def third (q : I3) (p : IP) : Int := q.1 + q.2.1 + q.2.2 - p.1 - p.2
section
variable {n : Nat} {cut : List IP} {t : Tr}
theorem Cutting.holds_len (C : Cutting n cut t) {p : IP} (hp : p ∈ tiesL n cut) : ((plotsL n cut).filter fun q => holds3 q p).length = 1 + (if p ∈ cut then 1 else 0) := by
  have hw := C.w
  obtain ⟨⟨x, y⟩, hxy, rfl⟩ := C.ties.mp hp
  have bx := Tr.bd hxy
  simp only at bx
  have et : tieOf (x : Int) (y : Int) = castP (x, y) := by rw [tie_cast, Nat.min_eq_left (by omega), Nat.max_eq_right (by omega)]
  have hl := C.beside_len (a := x) (b := y) (by rw [et]; exact hp)
  rw [et] at hl
  rw [← hl]
  have pm : (((plotsL n cut).filter fun q => holds3 q (castP (x, y))).map fun q => third q (castP (x, y))).Perm (besideL n (tiesL n cut) x y) := by
    refine (List.perm_ext_iff_of_nodup ?_ ?_).mpr fun c => ?_
    · refine nodup_map_on (fun q hq q' hq' e => ?_) (C.plots_nodup.sublist List.filter_sublist)
      obtain ⟨hq, h1⟩ := List.mem_filter.mp hq
      obtain ⟨hq', h2⟩ := List.mem_filter.mp hq'
      obtain ⟨⟨a, b, c⟩, ha, rfl⟩ := C.mem_plots.mp hq
      obtain ⟨⟨a', b', c'⟩, ha', rfl⟩ := C.mem_plots.mp hq'
      have b1 := Tr.plots_bd ha
      have b2 := Tr.plots_bd ha'
      have h1 := holds3_iff.mp h1
      have h2 := holds3_iff.mp h2
      simp only [third, castP, cast3] at h1 h2 e b1 b2
      have : a = a' ∧ b = b' ∧ c = c' := by omega
      rw [this.1, this.2.1, this.2.2]
    · unfold besideL
      refine List.Pairwise.map _ ?_ ((List.nodup_range (n := n)).sublist List.filter_sublist)
      intro i j hij e
      exact hij (by omega)
    · rw [List.mem_map]
      unfold besideL
      rw [List.mem_map]
      constructor
      · rintro ⟨q, hq, rfl⟩
        obtain ⟨hq, h1⟩ := List.mem_filter.mp hq
        obtain ⟨⟨a, b, c⟩, ha, rfl⟩ := C.mem_plots.mp hq
        obtain ⟨o, k1, k2, k3⟩ := Tr.plots_iff.mp ha
        have b1 := Tr.plots_bd ha
        have h1 := holds3_iff.mp h1
        simp only [third, castP, cast3] at h1 b1 ⊢
        have cs : (x = a ∧ y = b) ∨ (x = b ∧ y = c) ∨ (x = a ∧ y = c) := by omega
        rcases cs with ⟨rfl, rfl⟩ | ⟨rfl, rfl⟩ | ⟨rfl, rfl⟩
        · exact ⟨c, List.mem_filter.mpr ⟨List.mem_range.mpr (by omega), (C.beside_iff bx.2.1).mpr (.inr (.inr ⟨by omega, k3, k2⟩))⟩, by omega⟩
        · exact ⟨a, List.mem_filter.mpr ⟨List.mem_range.mpr (by omega), (C.beside_iff bx.2.1).mpr (.inr (.inl ⟨by omega, k1, k3⟩))⟩, by omega⟩
        · exact ⟨b, List.mem_filter.mpr ⟨List.mem_range.mpr (by omega), (C.beside_iff bx.2.1).mpr (.inl ⟨o, k1, k2⟩)⟩, by omega⟩
      · rintro ⟨m, hm, rfl⟩
        obtain ⟨_, hb⟩ := List.mem_filter.mp hm
        rcases (C.beside_iff bx.2.1).mp hb with ⟨o, k1, k2⟩ | ⟨o, k1, k2⟩ | ⟨o, k1, k2⟩
        · refine ⟨cast3 (x, m, y), List.mem_filter.mpr ⟨C.mem_plots.mpr ⟨_, Tr.plots_iff.mpr ⟨o, k1, k2, hxy⟩, rfl⟩, ?_⟩, ?_⟩
          · simp [holds3, castP, cast3]
          · simp only [third, castP, cast3]; omega
        · refine ⟨cast3 (m, x, y), List.mem_filter.mpr ⟨C.mem_plots.mpr ⟨_, Tr.plots_iff.mpr ⟨⟨o, bx.2.1⟩, k1, hxy, k2⟩, rfl⟩, ?_⟩, ?_⟩
          · simp [holds3, castP, cast3]
          · simp only [third, castP, cast3]; omega
        · refine ⟨cast3 (x, y, m), List.mem_filter.mpr ⟨C.mem_plots.mpr ⟨_, Tr.plots_iff.mpr ⟨⟨bx.2.1, o⟩, hxy, k2, k1⟩, rfl⟩, ?_⟩, ?_⟩
          · simp [holds3, castP, cast3]
          · simp only [third, castP, cast3]; omega
  have l := pm.length_eq
  rw [List.length_map] at l
  exact l
end
end Pm
/-! ### fractions: a tuple (top, bottom) in lowest terms is a Rat -/
namespace Pm
open PySem PySem.Spec PyProof.Rows L2
theorem gcd_turn (x y : Nat) (hy : 0 < y) : Nat.gcd y (x % y) = Nat.gcd x y := by
  rw [Nat.gcd_comm x y, Nat.gcd_rec y x, Nat.gcd_comm]
theorem gcd_abs (a b : Int) : Nat.gcd (if a < 0 then -a else a).natAbs (if b < 0 then -b else b).natAbs = Int.gcd a b := by
  unfold Int.gcd
  have e : ∀ c : Int, (if c < 0 then -c else c).natAbs = c.natAbs := fun c => by split <;> omega
  rw [e, e]
theorem div_pos_num {a b : Int} (h : 0 < b) : a / ((Int.gcd a b : Nat) : Int) = (Rat.divInt a b).num ∧ b / ((Int.gcd a b : Nat) : Int) = ((Rat.divInt a b).den : Int) := by
  rw [Rat.num_divInt, Rat.den_divInt, if_neg (by omega), Int.sign_eq_one_of_pos h, Int.one_mul, Int.gcd_comm b a]
  refine ⟨rfl, ?_⟩
  rw [Int.natCast_ediv]
  congr 1
  omega
theorem div_neg_num {a b : Int} (h : b < 0) : -a / ((Int.gcd (-a) (-b) : Nat) : Int) = (Rat.divInt a b).num ∧ -b / ((Int.gcd (-a) (-b) : Nat) : Int) = ((Rat.divInt a b).den : Int) := by
  have q := div_pos_num (a := -a) (b := -b) (by omega)
  have e : Rat.divInt (-a) (-b) = Rat.divInt a b := Rat.neg_divInt_neg a b
  rw [e] at q
  exact q
theorem gcd_le_right {a b : Int} (h : 0 < b) : ((Int.gcd a b : Nat) : Int) ≤ b := Int.gcd_le_right a h
theorem gcd_pos {a b : Int} (h : b ≠ 0) : 0 < ((Int.gcd a b : Nat) : Int) := by
  have := Int.gcd_pos_of_ne_zero_right a h
  omega
/-- the size of a fraction -/
def rb (r : Rat) (n : Nat) : Prop := r.num.natAbs < 2 ^ n ∧ r.den < 2 ^ n
theorem rb.mono {r : Rat} {n m : Nat} (h : rb r n) (k : n ≤ m) : rb r m :=
  ⟨Nat.lt_of_lt_of_le h.1 (Nat.pow_le_pow_right (by decide) k), Nat.lt_of_lt_of_le h.2 (Nat.pow_le_pow_right (by decide) k)⟩
theorem rb_div {a b : Int} {n : Nat} (hb : b ≠ 0) (h1 : a.natAbs < 2 ^ n) (h2 : b.natAbs < 2 ^ n) : rb (Rat.divInt a b) n := by
  have hg : 0 < Int.gcd b a := Int.gcd_pos_of_ne_zero_left a hb
  constructor
  · rw [Rat.num_divInt]
    refine Nat.lt_of_le_of_lt ?_ h1
    have e : (b.sign * a).natAbs ≤ a.natAbs := by
      rw [Int.natAbs_mul]
      have := Int.natAbs_sign_of_ne_zero hb
      rw [this, Nat.one_mul]
      exact Nat.le_refl _
    refine Nat.le_trans ?_ e
    exact Int.natAbs_ediv_le_natAbs _ _
  · rw [Rat.den_divInt, if_neg hb]
    exact Nat.lt_of_le_of_lt (Nat.div_le_self _ _) h2
theorem rb_divW {a b : Int} {n m : Nat} (hb : b ≠ 0) (h1 : a.natAbs < 2 ^ n) (h2 : b.natAbs < 2 ^ m) : rb (Rat.divInt a b) (max n m) :=
  rb_div hb (Nat.lt_of_lt_of_le h1 (Nat.pow_le_pow_right (by decide) (Nat.le_max_left _ _))) (Nat.lt_of_lt_of_le h2 (Nat.pow_le_pow_right (by decide) (Nat.le_max_right _ _)))
theorem wide_add {i j : Int} {a b : Nat} (ha : i.natAbs < 2 ^ a) (hb : j.natAbs < 2 ^ a) : (i + j).natAbs < 2 ^ (a + 1) := by
  have := Int.natAbs_add_le i j
  rw [Nat.pow_succ]
  omega
theorem wide_sub {i j : Int} {a : Nat} (ha : i.natAbs < 2 ^ a) (hb : j.natAbs < 2 ^ a) : (i - j).natAbs < 2 ^ (a + 1) := by
  rw [Nat.pow_succ]
  omega
theorem den_ne (r : Rat) : (r.den : Int) ≠ 0 := by have := r.den_nz; omega
theorem divInt_self' (r : Rat) : Rat.divInt r.num r.den = r := Rat.num_divInt_den r
theorem plus_is (x y : Rat) : Rat.divInt (x.num * y.den + y.num * x.den) (x.den * y.den) = x + y := by
  rw [← Rat.divInt_add_divInt _ _ (den_ne x) (den_ne y), divInt_self', divInt_self']
theorem less_is (x y : Rat) : Rat.divInt (x.num * y.den - y.num * x.den) (x.den * y.den) = x - y := by
  rw [← Rat.divInt_sub_divInt _ _ (den_ne x) (den_ne y), divInt_self', divInt_self']
theorem times_is (x y : Rat) : Rat.divInt (x.num * y.num) (x.den * y.den) = x * y := by
  rw [← Rat.divInt_mul_divInt, divInt_self', divInt_self']
theorem over_is (x y : Rat) : Rat.divInt (x.num * y.den) (x.den * y.num) = x / y := by
  rw [← Rat.divInt_mul_divInt, divInt_self', Rat.div_def, Rat.inv_def]
theorem rb_pos {r : Rat} {n : Nat} (h : rb r n) : 0 < n := by
  rcases Nat.eq_zero_or_pos n with z | z
  · subst z
    have := h.2
    have := r.den_nz
    omega
  · exact z
theorem rb_den {r : Rat} {n : Nat} (h : rb r n) : (r.den : Int).natAbs < 2 ^ n := by have := h.2; omega
theorem den_mul (x y : Rat) : (x.den : Int) * (y.den : Int) ≠ 0 := Int.mul_ne_zero (den_ne x) (den_ne y)
theorem lt_dec (x y : Rat) : decide (x < y) = decide (x.num * (y.den : Int) < y.num * (x.den : Int)) := by
  have e : (x < y) ↔ (x.num * (y.den : Int) < y.num * (x.den : Int)) := Rat.lt_iff x y
  exact decide_eq_decide.mpr e
theorem rb_add {x y : Rat} {n m : Nat} (h : rb x n) (k : rb y m) : rb (x + y) (n + m + 1) := by
  rw [← plus_is]
  refine rb_div (den_mul x y) (wide_add (b := 0) (wide_lt h.1 (rb_den k)) ?_) ?_
  · rw [Nat.add_comm n m]; exact wide_lt k.1 (rb_den h)
  · exact Nat.lt_of_lt_of_le (wide_lt (rb_den h) (rb_den k)) (Nat.pow_le_pow_right (by decide) (by omega))
theorem rb_sub {x y : Rat} {n m : Nat} (h : rb x n) (k : rb y m) : rb (x - y) (n + m + 1) := by
  rw [← less_is]
  refine rb_div (den_mul x y) (wide_sub (wide_lt h.1 (rb_den k)) ?_) ?_
  · rw [Nat.add_comm n m]; exact wide_lt k.1 (rb_den h)
  · exact Nat.lt_of_lt_of_le (wide_lt (rb_den h) (rb_den k)) (Nat.pow_le_pow_right (by decide) (by omega))
theorem rb_mul {x y : Rat} {n m : Nat} (h : rb x n) (k : rb y m) : rb (x * y) (n + m) := by
  rw [← times_is]
  exact rb_div (den_mul x y) (wide_lt h.1 k.1) (wide_lt (rb_den h) (rb_den k))
theorem rb_quot {x y : Rat} {n m : Nat} (hy : y ≠ 0) (h : rb x n) (k : rb y m) : rb (x / y) (n + m) := by
  rw [← over_is]
  exact rb_div (Int.mul_ne_zero (den_ne x) (fun z => hy (Rat.num_eq_zero.mp z))) (wide_lt h.1 (rb_den k)) (wide_lt (rb_den h) k.1)
theorem cross_div {x y : Int} (h : y ≠ 0) : (Rat.divInt x y).num * y = (Rat.divInt x y).den * x := by
  have q : Rat.divInt (Rat.divInt x y).num (Rat.divInt x y).den = Rat.divInt x y := divInt_self' _
  rw [Rat.divInt_eq_divInt_iff (den_ne _) h] at q
  rw [q, Int.mul_comm]
/-- a new tuple that is the fraction r -/
def FrNew (H : Hp) (r : Rat) (Q : VK) : Prop := ∀ (t : Addr) (H' : Hp), Same H H' → H t = none → H' t = some (.tup [.int r.num, .int r.den]) → Q (.ref t) H'
end Pm
/-! ### lengths: two numbers for each post, a tie's length is their determinant -/
namespace Pm
structure V2 where
  p : Rat
  q : Rat
def det (a b : V2) : Rat := a.p * b.q - b.p * a.q
theorem det_pl (a b c d : V2) : det a c * det b d = det a b * det c d + det b c * det a d := by unfold det; grind
theorem det_anti (a b : V2) : det b a = - det a b := by unfold det; grind
theorem det_self (a : V2) : det a a = 0 := by unfold det; grind
def mix (a : V2) (x : Rat) (b : V2) (y : Rat) : V2 := ⟨a.p * x + b.p * y, a.q * x + b.q * y⟩
theorem det_mix_l (a b : V2) (x y : Rat) : det a (mix a x b y) = y * det a b := by unfold det mix; grind
theorem det_mix_r (a b : V2) (x y : Rat) : det (mix a x b y) b = x * det a b := by unfold det mix; grind
theorem rat_mul_pos {a b : Rat} (h : 0 < a) (k : 0 < b) : 0 < a * b := Rat.mul_pos h k
theorem rat_pos_of_mul {a b : Rat} (hb : 0 < b) (h : 0 < a * b) : 0 < a := by
  by_cases z : 0 < a
  · exact z
  · have z1 : a ≤ 0 := by grind
    have z2 : 0 ≤ -a := by grind
    have := Rat.mul_nonneg z2 (show (0 : Rat) ≤ b by grind)
    grind
theorem rat_cancel_l {X A B : Rat} (h : 0 < X) (e : X * A = X * B) : A = B := by
  have : X ≠ 0 := by grind
  clear h
  grind
theorem rat_cancel_r {X A B : Rat} (h : 0 < X) (e : A * X = B * X) : A = B := by
  have : X ≠ 0 := by grind
  clear h
  grind
theorem rat_div_pos {a b : Rat} (h : 0 < a) (k : 0 < b) : 0 < a / b := by
  refine rat_pos_of_mul k ?_
  have : a / b * b = a := by grind
  rw [this]; exact h
abbrev Len := Nat × Nat → Rat
namespace Tr
def Stood (t : Tr) (lo : Nat) (L : Len) (S : Nat → V2) : Prop := ∀ p ∈ t.all lo, det (S p.1) (S p.2) = L p
def Pos (t : Tr) (lo : Nat) (L : Len) : Prop := ∀ p ∈ t.all lo, 0 < L p
theorem mem_l {l r : Tr} {lo : Nat} {p : Nat × Nat} (h : p ∈ l.all lo) : p ∈ (node l r).all lo := mem_node.mpr (.inr (.inl h))
theorem mem_r {l r : Tr} {lo : Nat} {p : Nat × Nat} (h : p ∈ r.all (lo + l.w)) : p ∈ (node l r).all lo := mem_node.mpr (.inr (.inr h))
theorem mem_root {l r : Tr} {lo : Nat} : (lo, lo + (l.w + r.w)) ∈ (node l r).all lo := mem_node.mpr (.inl rfl)
def std : Tr → Nat → Len → V2 → V2 → Nat → V2
  | leaf, lo, _, a, b, i => if i ≤ lo then a else b
  | node l r, lo, L, a, b, i =>
    if i ≤ lo + l.w then std l lo L a (mix a (L (lo + l.w, lo + (l.w + r.w)) / L (lo, lo + (l.w + r.w))) b (L (lo, lo + l.w) / L (lo, lo + (l.w + r.w)))) i
    else std r (lo + l.w) L (mix a (L (lo + l.w, lo + (l.w + r.w)) / L (lo, lo + (l.w + r.w))) b (L (lo, lo + l.w) / L (lo, lo + (l.w + r.w)))) b i
theorem std_lo : ∀ (t : Tr) (lo : Nat) (L : Len) (a b : V2), t.std lo L a b lo = a
  | leaf, lo, L, a, b => by unfold std; rw [if_pos (Nat.le_refl _)]
  | node l r, lo, L, a, b => by unfold std; rw [if_pos (by omega), std_lo l]
theorem std_hi : ∀ (t : Tr) (lo : Nat) (L : Len) (a b : V2), t.std lo L a b (lo + t.w) = b
  | leaf, lo, L, a, b => by unfold std w; rw [if_neg (by omega)]
  | node l r, lo, L, a, b => by
    have := w_pos r
    unfold std
    rw [if_neg (by simp only [w]; omega), show lo + (node l r).w = lo + l.w + r.w by simp only [w]; omega, std_hi r]
theorem std_stood : ∀ {t : Tr} {lo : Nat} {L : Len} {a b : V2}, t.Pos lo L → det a b = L (lo, lo + t.w) → t.Stood lo L (t.std lo L a b)
  | leaf, lo, L, a, b, _, h, p, hp => by
    have e : p = (lo, lo + 1) := by simpa [all] using hp
    subst e
    have e2 : lo + 1 = lo + leaf.w := rfl
    simp only
    rw [std_lo, e2, std_hi]
    exact h
  | node l r, lo, L, a, b, hP, h, p, hp => by
    have hL0 : 0 < L (lo, lo + (l.w + r.w)) := hP _ mem_root
    have hw : (node l r).w = l.w + r.w := rfl
    rw [hw] at h
    generalize hc : mix a (L (lo + l.w, lo + (l.w + r.w)) / L (lo, lo + (l.w + r.w))) b (L (lo, lo + l.w) / L (lo, lo + (l.w + r.w))) = c
    have h1 : det a c = L (lo, lo + l.w) := by
      rw [← hc, det_mix_l, h]; grind
    have h2 : det c b = L (lo + l.w, lo + l.w + r.w) := by
      rw [← hc, det_mix_r, h, Nat.add_assoc]; grind
    have ihl := std_stood (t := l) (lo := lo) (L := L) (a := a) (b := c) (fun p hp => hP p (mem_l hp)) h1
    have ihr := std_stood (t := r) (lo := lo + l.w) (L := L) (a := c) (b := b) (fun p hp => hP p (mem_r hp)) h2
    have eL : ∀ i, i ≤ lo + l.w → (node l r).std lo L a b i = l.std lo L a c i := fun i hi => by
      show (if i ≤ lo + l.w then _ else _) = _
      rw [if_pos hi, hc]
    have eR : ∀ i, lo + l.w ≤ i → (node l r).std lo L a b i = r.std (lo + l.w) L c b i := fun i hi => by
      rcases Nat.eq_or_lt_of_le hi with e | e
      · subst e
        rw [eL _ (Nat.le_refl _), std_hi, std_lo]
      · show (if i ≤ lo + l.w then _ else _) = _
        rw [if_neg (by omega), hc]
    rcases mem_node.mp hp with rfl | q | q
    · simp only
      have := std_hi (node l r) lo L a b
      rw [hw] at this
      rw [std_lo, this]; exact h
    · have b1 := bd q
      rw [eL _ (by omega), eL _ (by omega)]
      exact ihl p q
    · have b1 := bd q
      rw [eR _ (by omega), eR _ (by omega)]
      exact ihr p q
theorem ends_eq : ∀ {t : Tr} {lo : Nat} {L : Len} {S S' : Nat → V2}, t.Pos lo L → t.Stood lo L S → t.Stood lo L S' → ∀ i, lo ≤ i → i ≤ lo + t.w →
    det (S lo) (S i) = det (S' lo) (S' i) ∧ det (S i) (S (lo + t.w)) = det (S' i) (S' (lo + t.w))
  | leaf, lo, L, S, S', _, h, h', i, h1, h2 => by
    have e := h (lo, lo + 1) (by simp [all])
    have e' := h' (lo, lo + 1) (by simp [all])
    simp only [w] at *
    rcases Nat.eq_or_lt_of_le h1 with z | z
    · subst z
      rw [det_self, det_self, e, e']; exact ⟨rfl, rfl⟩
    · have z : i = lo + 1 := by omega
      subst z
      rw [det_self, det_self, e, e']; exact ⟨rfl, rfl⟩
  | node l r, lo, L, S, S', hP, h, h', i, h1, h2 => by
    have hw : (node l r).w = l.w + r.w := rfl
    rw [hw] at h2 ⊢
    have r0 := h _ (mem_root (l := l) (r := r) (lo := lo))
    have r0' := h' _ (mem_root (l := l) (r := r) (lo := lo))
    have l0 := h _ (mem_l (r := r) (root_mem (t := l) (lo := lo)))
    have l0' := h' _ (mem_l (r := r) (root_mem (t := l) (lo := lo)))
    have k0 := h _ (mem_r (l := l) (root_mem (t := r) (lo := lo + l.w)))
    have k0' := h' _ (mem_r (l := l) (root_mem (t := r) (lo := lo + l.w)))
    have pl := hP _ (mem_l (r := r) (root_mem (t := l) (lo := lo)))
    have pr := hP _ (mem_r (l := l) (root_mem (t := r) (lo := lo + l.w)))
    simp only at r0 r0' l0 l0' k0 k0' pl pr
    rw [Nat.add_assoc] at k0 k0' pr
    by_cases z : i ≤ lo + l.w
    · have ih := ends_eq (t := l) (fun p hp => hP p (mem_l hp)) (fun p hp => h p (mem_l hp)) (fun p hp => h' p (mem_l hp)) i h1 z
      refine ⟨ih.1, ?_⟩
      have p1 := det_pl (S lo) (S i) (S (lo + l.w)) (S (lo + (l.w + r.w)))
      have p2 := det_pl (S' lo) (S' i) (S' (lo + l.w)) (S' (lo + (l.w + r.w)))
      generalize det (S i) (S (lo + (l.w + r.w))) = A at *
      generalize det (S' i) (S' (lo + (l.w + r.w))) = B at *
      rw [l0, r0, k0, ih.1, ih.2] at p1
      rw [l0', r0', k0'] at p2
      generalize L (lo, lo + l.w) = X at *
      exact rat_cancel_l pl (by rw [p1, p2])
    · have ih := ends_eq (t := r) (lo := lo + l.w) (fun p hp => hP p (mem_r hp)) (fun p hp => h p (mem_r hp)) (fun p hp => h' p (mem_r hp)) i (by omega) (by omega)
      rw [Nat.add_assoc] at ih
      refine ⟨?_, ih.2⟩
      have p1 := det_pl (S lo) (S (lo + l.w)) (S i) (S (lo + (l.w + r.w)))
      have p2 := det_pl (S' lo) (S' (lo + l.w)) (S' i) (S' (lo + (l.w + r.w)))
      generalize det (S lo) (S i) = A at *
      generalize det (S' lo) (S' i) = B at *
      rw [l0, r0, k0, ih.1, ih.2] at p1
      rw [l0', r0', k0'] at p2
      generalize L (lo + l.w, lo + (l.w + r.w)) = X at *
      exact rat_cancel_r pr (by rw [p1, p2])
theorem det_eq {t : Tr} {lo : Nat} {L : Len} {S S' : Nat → V2} (hP : t.Pos lo L) (h : t.Stood lo L S) (h' : t.Stood lo L S') {i k : Nat} (hi : lo ≤ i ∧ i ≤ lo + t.w) (hk : lo ≤ k ∧ k ≤ lo + t.w) : det (S i) (S k) = det (S' i) (S' k) := by
  have e1 := ends_eq hP h h' i hi.1 hi.2
  have e2 := ends_eq hP h h' k hk.1 hk.2
  have r0 := h _ (root_mem (t := t) (lo := lo))
  have r0' := h' _ (root_mem (t := t) (lo := lo))
  have p0 := hP _ (root_mem (t := t) (lo := lo))
  have p1 := det_pl (S lo) (S i) (S k) (S (lo + t.w))
  have p2 := det_pl (S' lo) (S' i) (S' k) (S' (lo + t.w))
  simp only at r0 r0' p0
  rw [r0, e2.1, e2.2, e1.1, e1.2] at p1
  rw [r0'] at p2
  generalize det (S i) (S k) = A at *
  generalize det (S' i) (S' k) = B at *
  generalize L (lo, lo + t.w) = X at *
  exact rat_cancel_r p0 (by grind)
theorem ends_pos : ∀ {t : Tr} {lo : Nat} {L : Len} {S : Nat → V2}, t.Pos lo L → t.Stood lo L S → ∀ i, (lo < i → i ≤ lo + t.w → 0 < det (S lo) (S i)) ∧ (lo ≤ i → i < lo + t.w → 0 < det (S i) (S (lo + t.w)))
  | leaf, lo, L, S, hP, h, i => by
    have e := h (lo, lo + 1) (by simp [all])
    have p := hP (lo, lo + 1) (by simp [all])
    simp only [w] at *
    refine ⟨fun h1 h2 => ?_, fun h1 h2 => ?_⟩
    · have z : i = lo + 1 := by omega
      subst z
      rw [e]; exact p
    · have z : i = lo := by omega
      subst z
      rw [e]; exact p
  | node l r, lo, L, S, hP, h, i => by
    have hw : (node l r).w = l.w + r.w := rfl
    rw [hw]
    have r0 := h _ (mem_root (l := l) (r := r) (lo := lo))
    have l0 := h _ (mem_l (r := r) (root_mem (t := l) (lo := lo)))
    have k0 := h _ (mem_r (l := l) (root_mem (t := r) (lo := lo + l.w)))
    have pp := hP _ (mem_root (l := l) (r := r) (lo := lo))
    have pl := hP _ (mem_l (r := r) (root_mem (t := l) (lo := lo)))
    have pr := hP _ (mem_r (l := l) (root_mem (t := r) (lo := lo + l.w)))
    simp only at r0 l0 k0 pl pr
    rw [Nat.add_assoc] at k0 pr
    have il := ends_pos (t := l) (fun p hp => hP p (mem_l hp)) (fun p hp => h p (mem_l hp)) i
    have ir := ends_pos (t := r) (lo := lo + l.w) (fun p hp => hP p (mem_r hp)) (fun p hp => h p (mem_r hp)) i
    rw [Nat.add_assoc] at ir
    refine ⟨fun h1 h2 => ?_, fun h1 h2 => ?_⟩
    · by_cases z : i ≤ lo + l.w
      · exact il.1 h1 z
      · have a1 := ir.1 (by omega) (by omega)
        have p1 := det_pl (S lo) (S (lo + l.w)) (S i) (S (lo + (l.w + r.w)))
        rw [l0, r0, k0] at p1
        refine rat_pos_of_mul pr ?_
        rw [p1]
        have := rat_mul_pos a1 pp
        rcases Nat.eq_or_lt_of_le h2 with z2 | z2
        · subst z2
          rw [det_self]
          grind
        · have a2 := ir.2 (by omega) (by omega)
          have := rat_mul_pos pl a2
          grind
    · by_cases z : lo + l.w ≤ i
      · exact ir.2 z (by omega)
      · have a1 := il.2 (by omega) (by omega)
        have p1 := det_pl (S lo) (S i) (S (lo + l.w)) (S (lo + (l.w + r.w)))
        rw [l0, r0, k0] at p1
        refine rat_pos_of_mul pl ?_
        rw [Rat.mul_comm, p1]
        have := rat_mul_pos a1 pp
        rcases Nat.eq_or_lt_of_le h1 with z2 | z2
        · subst z2
          rw [det_self]
          grind
        · have a2 := il.1 (by omega) (by omega)
          have := rat_mul_pos a2 pr
          grind
theorem det_pos : ∀ {t : Tr} {lo : Nat} {L : Len} {S : Nat → V2}, t.Pos lo L → t.Stood lo L S → ∀ i k, lo ≤ i → i < k → k ≤ lo + t.w → 0 < det (S i) (S k)
  | leaf, lo, L, S, hP, h, i, k, h1, h2, h3 => by
    have e := h (lo, lo + 1) (by simp [all])
    have p := hP (lo, lo + 1) (by simp [all])
    simp only [w] at *
    have z : i = lo := by omega
    have z2 : k = lo + 1 := by omega
    subst z z2
    rw [e]; exact p
  | node l r, lo, L, S, hP, h, i, k, h1, h2, h3 => by
    have hw : (node l r).w = l.w + r.w := rfl
    have il := det_pos (t := l) (fun p hp => hP p (mem_l hp)) (fun p hp => h p (mem_l hp)) i
    have ir := det_pos (t := r) (lo := lo + l.w) (fun p hp => hP p (mem_r hp)) (fun p hp => h p (mem_r hp))
    have ie := (ends_pos hP h i).2
    rw [hw] at h3 ie
    by_cases z : k ≤ lo + l.w
    · exact il k h1 h2 z
    · by_cases z2 : lo + l.w ≤ i
      · exact ir i k z2 h2 (by omega)
      · have a1 := il (lo + l.w) h1 (by omega) (Nat.le_refl _)
        have a2 := ir (lo + l.w) k (by omega) (by omega) (by omega)
        have a3 := ie (by omega) (by omega)
        have a4 := ir (lo + l.w) (lo + (l.w + r.w)) (by omega) (by have := w_pos r; omega) (by omega)
        have p1 := det_pl (S i) (S (lo + l.w)) (S k) (S (lo + (l.w + r.w)))
        refine rat_pos_of_mul a4 ?_
        rw [p1]
        have := rat_mul_pos a2 a3
        rcases Nat.eq_or_lt_of_le h3 with z2 | z2
        · subst z2
          rw [det_self]
          grind
        · have a5 := ir k (lo + (l.w + r.w)) (by omega) z2 (by omega)
          have := rat_mul_pos a1 a5
          grind
/-! #### posts that stand spread over plots -/
def Closed (t : Tr) (lo : Nat) (Z : Nat → Prop) : Prop := ∀ a b c, (a, b, c) ∈ t.plots lo → (Z a → Z b → Z c) ∧ (Z a → Z c → Z b) ∧ (Z b → Z c → Z a)
theorem mem_plots_node {l r : Tr} {lo : Nat} {q : Nat × Nat × Nat} : q ∈ (node l r).plots lo ↔ q = (lo, lo + l.w, lo + (l.w + r.w)) ∨ q ∈ l.plots lo ∨ q ∈ r.plots (lo + l.w) := by
  simp only [plots, List.mem_cons, List.mem_append]
theorem closed_down : ∀ {t : Tr} {lo : Nat} {Z : Nat → Prop}, t.Closed lo Z → Z lo → Z (lo + t.w) → ∀ i, lo ≤ i → i ≤ lo + t.w → Z i
  | leaf, lo, Z, _, h1, h2, i, h3, h4 => by
    simp only [w] at *
    rcases Nat.eq_or_lt_of_le h3 with z | z
    · subst z; exact h1
    · rw [show i = lo + 1 by omega]; exact h2
  | node l r, lo, Z, hC, h1, h2, i, h3, h4 => by
    have hw : (node l r).w = l.w + r.w := rfl
    rw [hw] at h2 h4
    have hm := (hC lo (lo + l.w) (lo + (l.w + r.w)) (mem_plots_node.mpr (.inl rfl))).2.1 h1 h2
    by_cases z : i ≤ lo + l.w
    · exact closed_down (t := l) (fun a b c h => hC a b c (mem_plots_node.mpr (.inr (.inl h)))) h1 hm i h3 z
    · exact closed_down (t := r) (lo := lo + l.w) (fun a b c h => hC a b c (mem_plots_node.mpr (.inr (.inr h)))) hm (by rw [Nat.add_assoc]; exact h2) i (by omega) (by omega)
theorem closed_up : ∀ {t : Tr} {lo : Nat} {Z : Nat → Prop}, t.Closed lo Z → ∀ {a b : Nat}, (a, b) ∈ t.all lo → Z a → Z b → Z lo ∧ Z (lo + t.w)
  | leaf, lo, Z, _, a, b, h, ha, hb => by
    have e : a = lo ∧ b = lo + 1 := by simpa [all] using h
    obtain ⟨rfl, rfl⟩ := e
    exact ⟨ha, hb⟩
  | node l r, lo, Z, hC, a, b, h, ha, hb => by
    have hw : (node l r).w = l.w + r.w := rfl
    rw [hw]
    have hp := hC lo (lo + l.w) (lo + (l.w + r.w)) (mem_plots_node.mpr (.inl rfl))
    rcases mem_node.mp h with e | q | q
    · injection e with e1 e2
      subst e1 e2
      exact ⟨ha, hb⟩
    · have := closed_up (t := l) (fun a b c h => hC a b c (mem_plots_node.mpr (.inr (.inl h)))) q ha hb
      exact ⟨this.1, hp.1 this.1 this.2⟩
    · have := closed_up (t := r) (lo := lo + l.w) (fun a b c h => hC a b c (mem_plots_node.mpr (.inr (.inr h)))) q ha hb
      rw [Nat.add_assoc] at this
      exact ⟨hp.2.2 this.1 this.2, this.2⟩
theorem closed_all {t : Tr} {Z : Nat → Prop} (hC : t.Closed 0 Z) {a b : Nat} (h : (a, b) ∈ t.all 0) (ha : Z a) (hb : Z b) {i : Nat} (hi : i ≤ t.w) : Z i := by
  obtain ⟨h1, h2⟩ := closed_up hC h ha hb
  exact closed_down hC h1 h2 i (by omega) (by omega)
end Tr
/-! #### what is measured -/
structure Meas (n : Nat) (t : Tr) (L : Len) (D : Nat → Nat → Rat) : Prop where
  w : t.w + 1 = n
  pos : t.Pos 0 L
  ex : ∃ S, t.Stood 0 L S ∧ ∀ i k, i < n → k < n → D i k = det (S i) (S k)
section
variable {n : Nat} {t : Tr} {L : Len} {D : Nat → Nat → Rat}
theorem Meas.tie (M : Meas n t L D) {i k : Nat} (h : (i, k) ∈ t.all 0) : D i k = L (i, k) := by
  obtain ⟨S, h1, h2⟩ := M.ex
  have b := Tr.bd h
  have := M.w
  rw [h2 i k (by omega) (by omega)]
  exact h1 _ h
theorem Meas.anti (M : Meas n t L D) {i k : Nat} (hi : i < n) (hk : k < n) : D k i = - D i k := by
  obtain ⟨S, h1, h2⟩ := M.ex
  rw [h2 i k hi hk, h2 k i hk hi, det_anti]
theorem Meas.self (M : Meas n t L D) {i : Nat} (hi : i < n) : D i i = 0 := by
  obtain ⟨S, h1, h2⟩ := M.ex
  rw [h2 i i hi hi, det_self]
theorem Meas.pl (M : Meas n t L D) {a b c d : Nat} (ha : a < n) (hb : b < n) (hc : c < n) (hd : d < n) : D a c * D b d = D a b * D c d + D b c * D a d := by
  obtain ⟨S, h1, h2⟩ := M.ex
  rw [h2 a c ha hc, h2 b d hb hd, h2 a b ha hb, h2 c d hc hd, h2 b c hb hc, h2 a d ha hd]
  exact det_pl _ _ _ _
theorem Meas.above (M : Meas n t L D) {i k : Nat} (h : i < k) (hk : k < n) : 0 < D i k := by
  obtain ⟨S, h1, h2⟩ := M.ex
  have := M.w
  rw [h2 i k (by omega) hk]
  exact Tr.det_pos M.pos h1 i k (by omega) h (by omega)
theorem Meas.ne (M : Meas n t L D) {i k : Nat} (h : i ≠ k) (hi : i < n) (hk : k < n) : D i k ≠ 0 := by
  rcases Nat.lt_or_gt_of_ne h with z | z
  · have := M.above z hk; grind
  · have := M.above z hi
    have := M.anti hk hi
    grind
theorem Meas.uniq {D' : Nat → Nat → Rat} (M : Meas n t L D) (M' : Meas n t L D') {i k : Nat} (hi : i < n) (hk : k < n) : D i k = D' i k := by
  obtain ⟨S, h1, h2⟩ := M.ex
  obtain ⟨S', h1', h2'⟩ := M'.ex
  have := M.w
  rw [h2 i k hi hk, h2' i k hi hk]
  exact Tr.det_eq M.pos h1 h1' (by omega) (by omega)
end
def Mt (t : Tr) (L : Len) (i k : Nat) : Rat := det (t.std 0 L ⟨1, 0⟩ ⟨0, L (0, t.w)⟩ i) (t.std 0 L ⟨1, 0⟩ ⟨0, L (0, t.w)⟩ k)
theorem meas_mt {n : Nat} {t : Tr} {L : Len} (hw : t.w + 1 = n) (hP : t.Pos 0 L) : Meas n t L (Mt t L) :=
  ⟨hw, hP, _, Tr.std_stood (t := t) (lo := 0) (a := ⟨1, 0⟩) (b := ⟨0, L (0, t.w)⟩) hP (by unfold det; rw [Nat.zero_add]; grind), fun _ _ _ _ => rfl⟩
/-- a rope turned: the same lengths are measured -/
theorem Meas.turn {n : Nat} {cut : List IP} {t t' : Tr} {x y m o : Nat} {R : List (Nat × Nat)} {L L' : Len} {D : Nat → Nat → Rat} (M : Meas n t L D) (C : Cutting n cut t) (U : Turning n cut t t' x y m o R)
    (h1 : ∀ p ∈ t.all 0, p ≠ (x, y) → L' p = L p) (h2 : L' (min m o, max m o) = D (min m o) (max m o)) : Meas n t' L' D := by
  have hw := U.cut'.w
  have bd : min m o < max m o ∧ max m o < n := by
    have z := U.cross C
    have z2 := Tr.bd (U.all_iff C |>.mpr (.inr rfl))
    omega
  refine ⟨U.cut'.w, fun p hp => ?_, ?_⟩
  · rcases (U.all_iff C).mp hp with ⟨q, ne⟩ | rfl
    · rw [h1 p q ne]; exact M.pos p q
    · rw [h2]; exact M.above bd.1 bd.2
  · obtain ⟨S, s1, s2⟩ := M.ex
    refine ⟨S, fun p hp => ?_, s2⟩
    rcases (U.all_iff C).mp hp with ⟨q, ne⟩ | rfl
    · rw [h1 p q ne]; exact s1 p q
    · rw [h2, s2 _ _ (by omega) (by omega)]
/-! #### how great the numbers may be -/
structure Bd (n : Nat) (D : Nat → Nat → Rat) (F : Nat) (B : Nat) : Prop where
  f0 : 0 < F
  fb : F < 2 ^ B
  all : ∀ i k, i < n → k < n → ∃ z : Int, D i k * F = z ∧ z.natAbs < 2 ^ B
theorem rat_of_mul {x : Rat} {F : Nat} {z : Int} (f0 : 0 < F) (h : x * F = z) : x = Rat.divInt z F := by
  rw [Rat.divInt_eq_div]
  have : (F : Rat) ≠ 0 := by
    intro e
    have : (F : Rat) = ((0 : Nat) : Rat) := by rw [e]; rfl
    have := Rat.natCast_inj.mp this
    omega
  have e2 : ((F : Int) : Rat) = (F : Rat) := rfl
  rw [e2, ← h]
  grind
theorem Bd.rb {n : Nat} {D : Nat → Nat → Rat} {F B : Nat} (h : Bd n D F B) {i k : Nat} (hi : i < n) (hk : k < n) : rb (D i k) B := by
  obtain ⟨z, h1, h2⟩ := h.all i k hi hk
  rw [rat_of_mul h.f0 h1]
  have := h.fb
  exact rb_div (by have := h.f0; omega) h2 (by omega)
theorem Bd.quot {n : Nat} {D : Nat → Nat → Rat} {F B : Nat} (h : Bd n D F B) {i k a b : Nat} (hi : i < n) (hk : k < n) (ha : a < n) (hb : b < n) (ne : D a b ≠ 0) : Pm.rb (D i k / D a b) B := by
  obtain ⟨z, h1, h2⟩ := h.all i k hi hk
  obtain ⟨y, h3, h4⟩ := h.all a b ha hb
  have y0 : y ≠ 0 := by
    rintro rfl
    have e := rat_of_mul h.f0 h3
    rw [Rat.zero_divInt] at e
    exact ne e
  have e : D i k / D a b = Rat.divInt z y := by
    rw [Rat.divInt_eq_div, ← h1, ← h3]
    have f : (F : Rat) ≠ 0 := by
      intro e
      have : (F : Rat) = ((0 : Nat) : Rat) := by rw [e]; rfl
      have := Rat.natCast_inj.mp this
      have := h.f0
      omega
    grind
  rw [e]
  exact rb_div y0 h2 h4
end Pm
/-! ### dicts with tuple keys: walked by pairs and by keys, copied, compared -/
namespace Pm
open PySem PySem.Spec PyProof.Rows L2
/-- the pairs of the locked dict at d, each a new tuple of the key's own tuple and the value -/
def Itit (d : Addr) (o : Obj) (kvs : List (List L2.Key × V)) : It :=
  ⟨fun i H => H d = some (.frz o (.dT kvs)) ∧ i < kvs.length, fun i H x H' => ∃ (T : Addr) (k : List L2.Key) (v : V) (q : Addr), kvs[i]? = some (k, v) ∧ x = .ref T ∧ H T = none ∧ H q = some (.tup (k.map kV)) ∧ H' = upd H T (.tup [.ref q, v]), fun i H => H d = some (.frz o (.dT kvs)) ∧ kvs.length ≤ i⟩
section
variable {X : Cx} {pins : List (Addr × Obj)} {σ : L2.St} {H : Hp} {s : Shared} {d : Addr} {o : Obj}
theorem frzT2 {kvs : List (List L2.Key × V)} (I : Inv X pins σ H s) (h : H d = some (.frz o (.dT kvs))) :
    (d == sysModules) = false ∧ s.heap.get? d = some o ∧ o.ExactDict ∧ ∃ (es : Array DictEntry) (ep : Nat), o.data = .dict es ep ∧ es.size = kvs.length ∧
      ∀ (i : Nat) (k : List L2.Key) (v : V), kvs[i]? = some (k, v) → ∃ (en : DictEntry) (q : Addr), es[i]? = some en ∧ en.key = .ref q ∧ H q = some (.tup (k.map kV)) ∧ RelV v en.val := by
  obtain ⟨hd, z, hs, xs, pr, o', es, ep, ho, hx, hdt, he, _⟩ := I.hok d _ h
  rw [hd] at ho
  cases ho
  refine ⟨hs, hd, hx, es, ep, hdt, ?_, fun i k v e => ?_⟩
  · have l1 : es.size = xs.length := size_of_entries he
    have l2 : kvs.length = xs.length := Paired.length pr
    omega
  · obtain ⟨b, hb, e1, e2, e3⟩ := paired_get pr e
    have q := entry_at he i
    rw [hb] at q
    exact ⟨_, b.2.1, q, rfl, e2, e3⟩
end
section
variable {P : Program} {w : World} {K : PySem.W.Frag} {d : Addr} {o : Obj} {es : Array DictEntry} {ep : Nat}
theorem turn_itemsT {kvs : List (List L2.Key × V)} {elts : List Expr} {kk : Nat} {tpos : Pos} (it : Addr) (hod : o.data = .dict es ep) :
    Turn P w K (.Tuple elts kk tpos) (Itit d o kvs) [it] it (fun i h => ∃ ok ov, IsItemIter h it d i kvs.length ep ok ov) where
  mem := by simp
  obj := fun i h st b hb => by
    have e : b = it := by simpa using hb
    subst e
    obtain ⟨ok, ov, e⟩ := st
    exact ⟨_, e, fun v z => nomatch z⟩
  keep := fun i h h' st k => let ⟨ok, ov, e⟩ := st; ⟨ok, ov, k it (by simp) _ e⟩
  item := by
    intro X hP hw hK hc i pins s σ H E I hf st hg
    subst hP hw hK
    obtain ⟨hd, hi⟩ := hg
    obtain ⟨hs, hgd, hx, es', ep', hdt, hsz, ent⟩ := frzT2 I hd
    obtain ⟨rfl, rfl⟩ := dict_ep hod hdt
    obtain ⟨⟨k, v⟩, hkv⟩ : ∃ p, kvs[i]? = some p := ⟨kvs[i], List.getElem?_eq_getElem hi⟩
    obtain ⟨en, q, hen, hkey, hq, rv⟩ := ent i k v hkv
    obtain ⟨ok, ov, he⟩ := st
    have hlt : it < s.heap.objs.size := Heap.lt_size he
    have hie : i < es'.size := by omega
    have een : es'[i] = en := by rw [Array.getElem?_eq_getElem hie] at hen; exact Option.some.inj hen
    rw [← hsz] at he
    refine DT.nextI he ⟨o, hgd, hx, hdt⟩ hie fun h' ho hT hz hk => ?_
    rw [een] at ho hT
    refine ⟨_, rfl, wpAny_letOwnedTupleGo_items (s := { s with heap := h' }) ho fun h'' he' sb => ?_⟩
    have hT2 : h''.get? s.heap.objs.size = some { cls := .type "tuple", data := .seq #[en.key, en.val] } := (sb.2 _ (Nat.ne_of_gt hlt)).trans hT
    have new : ObjOk X.prog X.w (upd H s.heap.objs.size (.tup [.ref q, v])) h'' s.heap.objs.size (.tup [.ref q, v]) :=
      ⟨by show 2 ≤ sizeLine; decide, [en.key, en.val], .cons hkey (.cons rv .nil), ⟨_, hT2, rfl, _, rfl⟩⟩
    have I1 : Inv X pins σ (upd H s.heap.objs.size (.tup [.ref q, v])) { s with heap := h'' } :=
      I.turnedNew (t' := s.toks) (ch := [it]) (fun b ob hb e => (sb.2 b (by simpa using hb)).trans (hk b ob (by simpa using hb) e)) hf (Nat.le_refl _) new
    refine ⟨.ref s.heap.objs.size, _, I1, rfl, ⟨_, k, v, q, hkv, rfl, I.hok.fresh (Nat.le_refl _), hq, rfl⟩, ⟨en.key, en.val, ?_⟩, fun b hb => ?_⟩
    · rw [← hsz]; exact he'
    · have e : b = it := by simpa using hb
      rw [e, upd_ne (Nat.ne_of_lt hlt)]
      exact (hf it (by simp)).1
  done := by
    intro X hP hw hK hc i pins s σ H E I hf st hg
    subst hP hw hK
    obtain ⟨hd, hi⟩ := hg
    obtain ⟨f0, f1, f2, f3, f4, f5⟩ := hf it (by simp)
    obtain ⟨hs, hgd, hx, es', ep', hdt, hsz, ent⟩ := frzT2 I hd
    obtain ⟨rfl, rfl⟩ := dict_ep hod hdt
    obtain ⟨ok, ov, he⟩ := st
    rw [← hsz] at he
    exact DT.endI (I.ok.hd hc) he ⟨o, hgd, hx, hdt⟩ (by omega) fun h' eb => ⟨rfl, I.turned (t' := s.toks) (fun b ob hb e => eb b ob hb e) f0 f1 f3 f4 f5⟩
  self := fun A i s Q E st h => let ⟨_, _, e⟩ := st; PySem.W.kcp_self e h
end
def iItemsT (td : TE) : TI := fun σ H R => td σ H fun x H1 => ∃ d o kvs, x = .ref d ∧ H1 d = some (.frz o (.dT kvs)) ∧ R (Itit d o kvs) H1
section
variable {X : Cx} {e : Expr} {td : TE} {apos cpos : Pos}
theorem pi_itemsT {elts : List Expr} {kk : Nat} {tpos : Pos} (he : PE X e td) (hbase : attributeBase e "items" X.env (eval e X.env) = eval e X.env := by rfl) (hline : (apos.endLine == cpos.line) = true := by rfl) :
    PI X (.Tuple elts kk tpos) (.Call (.Attribute e "items" apos) [] [] cpos) (iItemsT td) := by
  refine ⟨fun pins s σ H R I h => ?_⟩
  refine wpAny_Call_method (T := "dict") (id := "dict.items") hbase rfl hline F.plainAttrs_dict F.slot_dict_items F.type_dict_items (thn (he.run pins s σ H _ I h) fun u s1 ⟨x, H1, I1, rx, d, o, kvs, ex, hd, q⟩ => ?_)
  subst ex
  obtain rfl : u = Value.ref d := rx
  obtain ⟨hs, hgd, hx, es, ep, hdt, hsz, ent⟩ := frzT2 I1 hd
  have hraw : DT.Raw s1.heap d es ep := ⟨o, hgd, hx, hdt⟩
  refine ⟨hraw.typeIs, fun o' ho' => ?_, ?_⟩
  · cases ho'
    exact ⟨o, hgd, hx.2.1⟩
  have I2 : Inv X pins σ H1 { s1 with heap := s1.heap.push { cls := .type "dict_items", data := .fields #[.ref d] } } := I1.kept (t' := s1.toks) fun b ob q => Heap.get?_push_of_some _ q
  have fin : wpAny (model X.prog X.w) X.A (pyIter (.ref s1.heap.objs.size)) (PIE X pins σ (.Tuple elts kk tpos) R) X.xe { s1 with heap := s1.heap.push { cls := .type "dict_items", data := .fields #[.ref d] } } := by
    refine DT.iterI (d := d) ⟨_, Heap.get?_push_size _ rfl, rfl, rfl⟩ (hraw.push _) (pi_one (tk := s1.toks) I2 _ (turn_itemsT _ hdt) ⟨.none, .none, ?_⟩ q)
    rw [← hsz]
    exact Heap.get?_push_size _ rfl
  show wpAny _ _ (callWith cpos (.builtin "dict.items") [.ref d] [] []) _ X.xe s1
  exact method_meetsIn F.slot_dict_items F.entry_dict_items rfl (PySem.evalArgs_none ⟨rfl, hraw.typeIs, F.args_dict_items_1 _, _, DT.meetsItems (es := es) (ep := ep) hs, hraw, fin⟩)
end
/-! #### d.keys() walked -/
def iKeysT (td : TE) : TI := fun σ H R => td σ H fun x H1 => ∃ d o kvs, x = .ref d ∧ H1 d = some (.frz o (.dT kvs)) ∧ R (Itkt d o kvs) H1
section
variable {X : Cx} {tg e : Expr} {td : TE} {apos cpos : Pos}
theorem pi_keysT (he : PE X e td) (hbase : attributeBase e "keys" X.env (eval e X.env) = eval e X.env := by rfl) (hline : (apos.endLine == cpos.line) = true := by rfl) : PI X tg (.Call (.Attribute e "keys" apos) [] [] cpos) (iKeysT td) := by
  refine ⟨fun pins s σ H R I h => ?_⟩
  refine wpAny_Call_method (T := "dict") (id := "dict.keys") hbase rfl hline F.plainAttrs_dict F.slot_dict_keys F.type_dict_keys (thn (he.run pins s σ H _ I h) fun u s1 ⟨x, H1, I1, rx, d, o, kvs, ex, hd, q⟩ => ?_)
  subst ex
  obtain rfl : u = Value.ref d := rx
  obtain ⟨hs, hgd, hx, es, ep, hdt, hsz, ent⟩ := I1.frzT hd
  have hraw : s1.heap.DictRaw d es ep := ⟨o, hgd, hx, hdt⟩
  refine ⟨hraw.typeIs, fun o' ho' => ?_, ?_⟩
  · cases ho'
    exact ⟨o, hgd, hx.2.1⟩
  have I2 : Inv X pins σ H1 { s1 with heap := s1.heap.push { cls := .type "dict_keys", data := .fields #[.ref d] } } := I1.kept (t' := s1.toks) fun b ob q => Heap.get?_push_of_some _ q
  have fin : wpAny (model X.prog X.w) X.A (pyIter (.ref s1.heap.objs.size)) (PIE X pins σ tg R) X.xe { s1 with heap := s1.heap.push { cls := .type "dict_keys", data := .fields #[.ref d] } } := by
    refine wpAny_pyIter_keys_raw (d := d) ⟨_, Heap.get?_push_size _ rfl, rfl, rfl⟩ (hraw.push _) (pi_one (tk := s1.toks) I2 _ (turn_keysT _ hdt) ⟨_, Heap.get?_push_size _ rfl, rfl, ?_⟩ q)
    rw [hsz] <;> rfl
  show wpAny _ _ (callWith cpos (.builtin "dict.keys") [.ref d] [] []) _ X.xe s1
  exact method_meetsIn F.slot_dict_keys F.entry_dict_keys rfl (PySem.evalArgs_none ⟨rfl, hraw.typeIs, F.args_dict_keys_1 _, _, meets_dict_keys_raw d hs, ⟨⟨es, ep, hraw⟩, fin⟩⟩)
end
/-! #### dict(d), d.pop(k) -/
section
variable {prog : Program} {w : World} {κ : Type} [DecidableEq κ] {knd : HeapKind prog w κ} {A : Around} {E : Value → Shared → Prop} {s : Shared}
theorem call_dictH {o : Addr} {more : List (κ × Addr × Value)} {Q : Value → Shared → Prop} (hu : ∀ A' : Around, A'.units ≤ A.units + 2 → knd.room A') (hoS : (o == sysModules) = false) (ho : s.heap.DictOfH knd o more) (hsz : more.length ≤ sizeLine)
    (hty : ∀ x ∈ more, s.TypeIs (.ref x.2.1) "tuple") (hap : (more.map fun x => knd.hash x.1).Nodup) (hst : ∀ x ∈ more, knd.is (s.heap.push { cls := .type "dict", data := .dict #[] }) x.1 x.2.1)
    (h : ∀ h', h'.DictOfH knd s.heap.objs.size more → Heap.SameBut s.heap.objs.size (s.heap.push { cls := .type "dict", data := .dict #[] }) h' → Q (.ref s.heap.objs.size) { s with heap := h' }) :
    wpAny (model prog w) A (call (.type "dict") [.ref o]) Q E s := by
  refine callType_codes (Q₁ := fun obj s₁ => obj = .ref s.heap.objs.size ∧ s₁ = { s with heap := s.heap.push { cls := .type "dict", data := .dict #[] } }) F.kt_called_dict (F.kt_typeCall_dict_1 _) F.entry_dict_init (kt_code_dict_new _ ⟨rfl, rfl⟩) ?_
  rintro obj s₁ ⟨rfl, rfl⟩
  have hnew : (s.heap.push { cls := .type "dict", data := .dict #[] }).DictOfH knd s.heap.objs.size [] := Heap.DictOfH.new s.heap
  have hdo : s.heap.objs.size ≠ o := by
    obtain ⟨_, _, _, hg, _⟩ := ho
    exact fun e => absurd (Heap.lt_size hg) (by rw [e]; exact Nat.lt_irrefl _)
  have ho' : (s.heap.push { cls := .type "dict", data := .dict #[] }).DictOfH knd o more := by
    obtain ⟨ob, es, ep, h1, h2, h3, h4, h5, h6⟩ := ho
    exact ⟨ob, es, ep, Heap.get?_push_of_some _ h1, h2, h3, h4, hst, h6⟩
  have hn := ho.nodup
  refine ⟨hnew.typeIs, F.args_dict_init_2 _ _, ?_⟩
  unfold Builtin.«dict.__init__»
  refine wpAny_bind ?_
  unfold Builtin.Dict.selfAndRest
  refine wpAny_bind (wpAny_notOrdered_dict hnew.typeIs ?_)
  show wpAny _ _ (pure (s.heap.objs.size, [Value.ref o])) _ _ _
  refine wpAny_pure ?_
  show wpAny _ _ (Builtin.Dict.updateFrom "dict.__init__" s.heap.objs.size (.ref o) [] .none) _ _ _
  unfold Builtin.Dict.updateFrom
  refine wpAny_bind (wpAny_typeOf ho'.typeIs ?_)
  rw [if_neg (by decide)]
  refine wpAny_bind ?_
  unfold Builtin.Dict.merge
  refine wpAny_bind ?_
  unfold Builtin.Dict.readDirectly
  refine wpAny_bind (wpAny_isInstance ho'.typeIs isSubtype_dict_dict ?_)
  simp only [Bool.not_true, Bool.false_eq_true, if_false]
  refine wpAny_bind (wpAny_specialOf ho'.typeIs F.slot_dict_iter.lookup (wpAny_pure ?_))
  simp only [beq_self_eq_true, if_true]
  refine wpAny_bind (wpAny_pure ?_)
  refine wpAny_mergeDict_heap (hsz := by simpa using hsz) (hu _ ?_) hdo hoS hnew ho' (.inr ⟨fun x hx => ?_, hap⟩) fun h' hd' _ hs' => ?_
  · exact Nat.le_refl _
  · obtain ⟨ob, h1, h2⟩ := hty x hx
    exact ⟨ob, Heap.get?_push_of_some _ h1, h2⟩
  show wpAny _ _ (Builtin.Dict.addKeywords s.heap.objs.size [] >>= _) _ _ _
  rw [storedAllH_nil_of_nodup more hn] at hd'
  exact wpAny_bind (wpAny_pure (wpAny_pure ⟨rfl, h h' hd' hs'⟩))
end
/-- the hash of a pair of small numbers -/
def ph (p : Int × Int) : Int := reduceHash (Builtin.Tuple.tupleHashOf [hashInt p.1, hashInt p.2])
def smalls : List (Int × Int) := (List.range 16).flatMap fun a : Nat => (List.range 16).map fun b : Nat => ((a : Int) - 1, (b : Int) - 1)
theorem ph_nodup : (smalls.map ph).Nodup := by decide +kernel
def smallP (p : Int × Int) : Prop := (-1 ≤ p.1 ∧ p.1 ≤ 14) ∧ (-1 ≤ p.2 ∧ p.2 ≤ 14)
theorem mem_smalls {p : Int × Int} (h : smallP p) : p ∈ smalls := by
  unfold smalls
  rw [List.mem_flatMap]
  obtain ⟨a, b⟩ := p
  obtain ⟨⟨h1, h2⟩, h3, h4⟩ := h
  simp only at h1 h2 h3 h4
  refine ⟨(a + 1).toNat, List.mem_range.mpr (by omega), List.mem_map.mpr ⟨(b + 1).toNat, List.mem_range.mpr (by omega), ?_⟩⟩
  congr 1 <;> omega
theorem inj_of_nodup_map {α β : Type} {f : α → β} : ∀ {l : List α}, (l.map f).Nodup → ∀ {x y}, x ∈ l → y ∈ l → f x = f y → x = y
  | [], _, x, y, h, _, _ => nomatch h
  | z :: l, h, x, y, hx, hy, e => by
    rw [List.map_cons, List.nodup_cons] at h
    rcases List.mem_cons.mp hx with ex | mx
    · rcases List.mem_cons.mp hy with ey | my
      · rw [ex, ey]
      · rw [ex] at e
        exact absurd (List.mem_map.mpr ⟨y, my, e.symm⟩) h.1
    · rcases List.mem_cons.mp hy with ey | my
      · rw [ey] at e
        exact absurd (List.mem_map.mpr ⟨x, mx, e⟩) h.1
      · exact inj_of_nodup_map h.2 mx my e
/-- a pair as a key -/
def kk (p : IP) : List L2.Key := [.inl p.1, .inl p.2]
theorem kk_inj {p q : IP} (h : kk p = kk q) : p = q := by
  unfold kk at h
  injection h with h1 h2
  injection h2 with h2 _
  injection h1 with h1
  injection h2 with h2
  exact Prod.ext h1 h2
theorem ph_is {prog : Program} {w : World} (p : IP) : (tupleKind (mixKind prog w)).hash (kk p) = ph p := rfl
/-- dict(d) of a dict with keys that are pairs of small numbers -/
def rDictT : List V → Hp → VK → Prop := fun xs H Q => ∃ (a : Addr) (kvs : List (List L2.Key × V)), xs = [.ref a] ∧ Rd H a (.dT kvs) ∧ (∀ e ∈ kvs, ∃ p, e.1 = kk p ∧ smallP p) ∧ ∀ p, H p = none → Q (.ref p) (upd H p (.dT kvs))
theorem KT_mem {H : Hp} : ∀ {kvs : List (List L2.Key × V)} {xs : List (List L2.Key × Addr × Value)}, KT H kvs xs → ∀ x ∈ xs, ∃ v, (x.1, v) ∈ kvs ∧ H x.2.1 = some (.tup (x.1.map kV))
  | [], _, h, x, hx => by cases h; exact nomatch hx
  | e :: kvs, _, h, x, hx => by
    cases h with
    | cons h1 h2 =>
      rcases List.mem_cons.mp hx with rfl | hx
      · exact ⟨e.2, List.mem_cons.mpr (.inl (by rw [← h1.1])), by rw [← h1.1]; exact h1.2.1⟩
      · obtain ⟨v, m, q⟩ := KT_mem h2 x hx
        exact ⟨v, List.mem_cons_of_mem _ m, q⟩
theorem KT_stay {H H' : Hp} (k : ∀ t ys, H t = some (.tup ys) → H' t = some (.tup ys)) : ∀ {kvs : List (List L2.Key × V)} {xs : List (List L2.Key × Addr × Value)}, KT H kvs xs → KT H' kvs xs
  | [], _, h => by cases h; exact .nil
  | e :: kvs, _, h => by
    cases h with
    | cons h1 h2 => exact .cons ⟨h1.1, k _ _ h1.2.1, h1.2.2⟩ (KT_stay k h2)
theorem nodup_map_inj {α β : Type} {f : α → β} : ∀ {l : List α}, (∀ x ∈ l, ∀ y ∈ l, f x = f y → x = y) → l.Nodup → (l.map f).Nodup
  | [], _, _ => List.nodup_nil
  | x :: l, h, n => by
    rw [List.nodup_cons] at n
    rw [List.map_cons, List.nodup_cons]
    refine ⟨fun m => ?_, nodup_map_inj (fun a ha b hb => h a (List.mem_cons_of_mem _ ha) b (List.mem_cons_of_mem _ hb)) n.2⟩
    obtain ⟨y, hy, e⟩ := List.mem_map.mp m
    have := h y (List.mem_cons_of_mem _ hy) x List.mem_cons_self e
    subst this
    exact n.1 hy
section
variable {X : Cx}
theorem call_dictT (hu : X.A.units + 2 < cLine) : CallR X (.type "dict") rDictT := by
  intro pins s σ H xs us Q I r q
  obtain ⟨a, kvs, ex, hd, hk, q⟩ := q
  subst ex
  obtain ⟨u, eu, rx⟩ := vals1 r
  subst eu
  cases rx
  obtain ⟨z, lo, vs, rel, dd⟩ := dt_rd I.hok hd
  have keyOk : ∀ x ∈ vs, ∃ p, x.1 = kk p ∧ smallP p := fun x hx => by
    obtain ⟨v, m, _⟩ := KT_mem rel x hx
    exact hk _ m
  have hap : (vs.map fun x => (tupleKind (mixKind X.prog X.w)).hash x.1).Nodup := by
    have e : (vs.map fun x => (tupleKind (mixKind X.prog X.w)).hash x.1) = (vs.map (·.1)).map (tupleKind (mixKind X.prog X.w)).hash := by rw [List.map_map] <;> rfl
    rw [e]
    refine nodup_map_inj (fun x hx y hy exy => ?_) dd.nodup
    obtain ⟨x', hx', rfl⟩ := List.mem_map.mp hx
    obtain ⟨y', hy', rfl⟩ := List.mem_map.mp hy
    obtain ⟨p, ep, sp⟩ := keyOk x' hx'
    obtain ⟨p', ep', sp'⟩ := keyOk y' hy'
    rw [ep, ep'] at exy ⊢
    rw [ph_is, ph_is] at exy
    rw [inj_of_nodup_map ph_nodup (mem_smalls sp) (mem_smalls sp') exy]
  have tupOf : ∀ x ∈ vs, ∃ its : List Value, IsTup s.heap x.2.1 its.toArray := fun x hx => by
    obtain ⟨v, m, e⟩ := KT_mem rel x hx
    obtain ⟨_, its, _, it⟩ := (show ObjOk X.prog X.w H s.heap x.2.1 (.tup (x.1.map kV)) from I.hok _ _ e)
    exact ⟨its, it⟩
  refine call_dictH (knd := tupleKind (mixKind X.prog X.w)) (fun A' hA => show A'.units < cLine by omega) lo dd (by rw [← Paired.length rel]; exact z) (fun x hx => ?_) hap (fun x hx => ?_) fun h' d' hs => ?_
  · obtain ⟨its, o, h1, h2, _⟩ := tupOf x hx
    exact ⟨o, h1, h2⟩
  · obtain ⟨_, _, _, _, _, _, _, his, _⟩ := dd
    obtain ⟨o, items, n, h1, h2, h3, h4⟩ := his x hx
    exact ⟨o, items, n, Heap.get?_push_of_some _ h1, h2, h3, h4⟩
  have hm : (s.heap.objs.size == sysModules) = false := beq_eq_false_iff_ne.mpr (Nat.ne_of_gt I.big)
  have hfree := I.hok.fresh (Nat.le_refl _)
  obtain ⟨o, es, ep, g1, g2, g3, g4, _, g6⟩ := d'
  refine ⟨.ref s.heap.objs.size, upd H s.heap.objs.size (.dT kvs), I.laid (t' := s.toks) (fun b u e => (hs.2 b (Nat.ne_of_lt (Heap.lt_size e))).trans (Heap.get?_push_of_some _ e)) (Nat.le_refl _)
    (show ObjOk X.prog X.w _ _ _ (.dT kvs) from ⟨z, hm, vs, KT_stay (fun t ys e => by rw [upd_ne (ne_of_none e hfree)]; exact e) rel, o, es, ep, g1, g2, g3, g4, g6⟩), rfl, q _ hfree⟩
end
theorem _root_.L2.Room.u2 {A : Around} {k : Nat} (hr : Room k A) : A.units + 2 < cLine := by have := hr.un; omega
/-! #### d.pop(k), the key is there -/
theorem meetsPop1 {prog : Program} {w : World} {κ : Type} [DecidableEq κ] {knd : HeapKind prog w κ} {d b : Addr} {k : κ} (hd : (d == sysModules) = false) :
    MeetsIn prog w (Builtin.«dict.pop» ⟨[.ref d, .ref b], []⟩) (fun A R s => ∃ xs, knd.room A.in1 ∧ knd.is s.heap k b ∧ s.heap.DictOfH knd d xs ∧ xs.length ≤ sizeLine ∧ (∃ p, atKey xs k = some p) ∧
      ∀ p, atKey xs k = some p → ∀ h' tk, h'.DictOfH knd d (DT.dropH xs k) → Heap.SameBut d s.heap h' → R (.ok (.ret p.2)) { s with heap := h', toks := tk }) :=
  .of_wp fun A R s ⟨xs, hu, hkey, hm, hsz, ⟨p0, hp0⟩, hsome⟩ => by
    obtain ⟨o, es, ep, ho, hc, hdat, he, his, hn⟩ := id hm
    have hes : es.size = xs.length := size_of_entries he
    have hpart : (keyPart (Value.ref b)).isSome = false := rfl
    unfold Builtin.«dict.pop»
    refine wpAny_bind ?_
    unfold Builtin.Dict.keyAndDefault
    refine wpAny_bind (wpAny_notOrdered_dict hm.typeIs ?_)
    show wpAny _ _ (pure (d, Value.ref b, none)) _ _ s
    refine wpAny_pure ?_
    simp only [hpart, Bool.false_eq_true, if_false]
    refine wpAny_bind (wpAny_dictEntries ho hdat (wpAny_bind (wpAny_pure ?_)))
    cases hem : es.isEmpty with
    | true =>
      have h0 : xs = [] := by
        have z : es.size = 0 := by simpa using hem
        exact List.length_eq_zero_iff.mp (by omega)
      subst h0
      exact nomatch hp0
    | false =>
      simp only [Bool.false_eq_true, if_false]
      refine wpAny_bind (DT.takeH hu hkey hm hsz (fun hno => ?_) fun p e hp hev h' hm' hs' => ?_)
      · rw [hno] at hp0
        exact nomatch hp0
      · simp only [Option.isNone_some, Bool.false_eq_true, if_false]
        exact wpAny_bind (wpAny_letGo (wpAny_pure ⟨e.val, rfl, by rw [hev]; exact hsome p hp h' _ hm' hs'⟩))
def rPop1T : V → List V → Hp → VK → Prop := fun x xs H Q => ∃ (a : Addr) (kvs : List (List L2.Key × V)) (k : List L2.Key) (b : Addr) (v : V), x = .ref a ∧ xs = [.ref b] ∧ H a = some (.dT kvs) ∧ H b = some (.tup (k.map kV)) ∧ valV kvs k = some v ∧ Q v (upd H a (.dT (dropK kvs k)))
theorem mt_pop1T {X : Cx} (hu : X.A.units + 2 < cLine) : MtR X "dict.pop" rPop1T := by
  intro pins s σ H x xs v us Q I rx rxs h
  obtain ⟨a, kvs, k, b, v1, rfl, rfl, ha, hb, ev, q1⟩ := h
  cases rx
  obtain ⟨u1, rfl, r1⟩ := vals1 rxs
  cases r1
  obtain ⟨z, hd, xs', rel, dd⟩ := dt_of I.hok ha
  have hz : xs'.length ≤ sizeLine := by rw [← Paired.length rel]; exact z
  have r := rel.val k
  rw [ev] at r
  refine call_meetsIn PySem.F.slot_dict_pop dd.typeIs PySem.F.entry_dict_pop (PySem.F.args_dict_pop_2 _ _) (meetsPop1 (knd := tupleKind (mixKind X.prog X.w)) (k := k) hd)
    ⟨xs', tupleKind_room_in1 (by omega), key_of I.hok hb, dd, hz, ?_, fun p hp h' tk dd' hs => ?_⟩
  · cases ea : atKey xs' k with
    | none => rw [ea] at r; exact (show False from r).elim
    | some p => exact ⟨p, rfl⟩
  · rw [hp] at r
    obtain ⟨o, es, ep, hq, h2, h3, h4, _, h5⟩ := dd'
    have I2 : Inv X pins σ (upd H a (.dT (dropK kvs k))) { s with heap := h', toks := tk } :=
      d_write I (by rw [ha]; exact True.intro) hs ⟨o, hq⟩ ⟨Nat.le_trans (dropK_le kvs k) z, hd, _, (DX.KT_drop k rel).keeps (fun c ys ec => (by rw [upd_ne (ne_of ec ha (fun z => nomatch z))]; exact ec)), o, es, ep, hq, h2, h3, h4, h5⟩
    show EP X pins σ Q p.2 _
    exact ⟨v1, _, I2, r, q1⟩
end Pm
/-! ### dicts from pairs of numbers to pairs of numbers -/
namespace Pm
open PySem PySem.Spec PyProof.Rows L2
/-- a pair of numbers: tracked, or written in the top -/
def FrV (K : PySem.W.Frag) (H : Hp) (v : V) (p : IP) : Prop := ∃ t, v = .ref t ∧ (H t = some (.tup [.int p.1, .int p.2]) ∨ ∀ H', SqT K H' t [.int p.1, .int p.2])
section
variable {K : PySem.W.Frag} {H H' : Hp} {v : V} {p q : IP}
theorem FrV.keep (k : Keeps H H') (h : FrV K H v p) : FrV K H' v p := by
  obtain ⟨t, e, h | h⟩ := h
  · exact ⟨t, e, .inl (k _ _ h)⟩
  · exact ⟨t, e, .inr h⟩
theorem FrV.tup {t : Addr} (h : FrV K H (.ref t) p) : SqT K H t [.int p.1, .int p.2] := by
  obtain ⟨t, e, h | h⟩ := h
  · cases e; exact SqT.of h
  · cases e; exact h H
theorem FrV.of (h : Pr H v p) : FrV K H v p := by
  obtain ⟨t, e, h⟩ := h
  exact ⟨t, e, .inl h⟩
theorem frv_mono (H H' : Hp) (v : V) (p : IP) (k : Keeps H H') (h : FrV K H v p) : FrV K H' v p := h.keep k
theorem FrV.dp (h : FrV K H v p) : Dp K H v (pD p) := by
  obtain ⟨t, rfl, h⟩ := h
  exact .tup (FrV.tup ⟨t, rfl, h⟩) (.cons (.int _) (.cons (.int _) .nil))
end
theorem w_eqFr {K : PySem.W.Frag} {H : Hp} {Q : VK} {v u : V} {p q : IP} (h1 : FrV K H v p) (h2 : FrV K H u q) (h : Q (.bl (decide (p = q))) H) : rEqD K v u H Q :=
  ⟨_, _, h1.dp, h2.dp, shaped_pD _, shaped_pD _, by rw [eqv_pD]; exact h⟩
theorem w_neFr {K : PySem.W.Frag} {H : Hp} {Q : VK} {v u : V} {p q : IP} (h1 : FrV K H v p) (h2 : FrV K H u q) (h : Q (.bl (!decide (p = q))) H) : rNeD K v u H Q :=
  ⟨_, _, h1.dp, h2.dp, shaped_pD _, shaped_pD _, by rw [eqv_pD]; exact h⟩
/-- the fraction as a pair -/
def rp (r : Rat) : IP := (r.num, (r.den : Int))
theorem rp_inj {r s : Rat} (h : rp r = rp s) : r = s := by
  unfold rp at h
  injection h with h1 h2
  exact Rat.ext h1 (by omega)
def En (K : PySem.W.Frag) (H : Hp) (L : IP → IP) (e : List L2.Key × V) (k : IP) : Prop := e.1 = kk k ∧ FrV K H e.2 (L k)
/-- the dict at d: its keys in order, and what each holds -/
structure LD (K : PySem.W.Frag) (H : Hp) (d : Addr) (ks : List IP) (L : IP → IP) : Prop where
  nd : ks.Nodup
  ex : ∃ es, H d = some (.dT es) ∧ All2 (En K H L) es ks
def updF (L : IP → IP) (k : IP) (p : IP) : IP → IP := fun j => if j = k then p else L j
theorem updF_same {L : IP → IP} {k p : IP} : updF L k p k = p := if_pos rfl
theorem updF_ne {L : IP → IP} {k p j : IP} (h : j ≠ k) : updF L k p j = L j := if_neg h
def putk (ks : List IP) (k : IP) : List IP := if k ∈ ks then ks else ks ++ [k]
theorem mem_putk {ks : List IP} {k j : IP} : j ∈ putk ks k ↔ j ∈ ks ∨ j = k := by
  unfold putk
  split
  · rename_i h
    constructor
    · exact .inl
    · rintro (z | rfl)
      · exact z
      · exact h
  · rw [List.mem_append, List.mem_singleton]
theorem putk_new {ks : List IP} {k : IP} (h : k ∉ ks) : putk ks k = ks ++ [k] := if_neg h
theorem putk_old {ks : List IP} {k : IP} (h : k ∈ ks) : putk ks k = ks := if_pos h
theorem putk_nodup {ks : List IP} {k : IP} (h : ks.Nodup) : (putk ks k).Nodup := by
  unfold putk
  split
  · exact h
  · rename_i n
    rw [List.nodup_append]
    exact ⟨h, by simp, fun a ha b hb => by rw [List.mem_singleton.mp hb]; rintro rfl; exact n ha⟩
theorem putk_len (ks : List IP) (k : IP) : (putk ks k).length ≤ ks.length + 1 := by
  unfold putk
  split
  · omega
  · rw [List.length_append, List.length_singleton]; exact Nat.le_refl _
section
variable {K : PySem.W.Frag} {H H' : Hp} {L : IP → IP}
theorem ens_keep (k : Keeps H H') {es : List (List L2.Key × V)} {ks : List IP} (h : All2 (En K H L) es ks) : All2 (En K H' L) es ks := h.mono fun _ _ q => ⟨q.1, q.2.keep k⟩
theorem ens_congr {L' : IP → IP} : ∀ {es : List (List L2.Key × V)} {ks : List IP}, (∀ k ∈ ks, L' k = L k) → All2 (En K H L) es ks → All2 (En K H L') es ks
  | [], [], _, _ => trivial
  | _ :: _, _ :: _, e, h => ⟨⟨h.1.1, by rw [e _ List.mem_cons_self]; exact h.1.2⟩, ens_congr (fun k hk => e k (List.mem_cons_of_mem _ hk)) h.2⟩
theorem ens_val : ∀ {es : List (List L2.Key × V)} {ks : List IP}, All2 (En K H L) es ks → ∀ k, (k ∉ ks → valV es (kk k) = none) ∧ (k ∈ ks → ∃ v, valV es (kk k) = some v ∧ FrV K H v (L k))
  | [], [], _, k => ⟨fun _ => rfl, fun h => nomatch h⟩
  | e :: es, j :: ks, h, k => by
    have ih := ens_val h.2 k
    by_cases z : j = k
    · subst z
      refine ⟨fun n => absurd List.mem_cons_self n, fun _ => ⟨e.2, valV_pos h.1.1, h.1.2⟩⟩
    · have ne : ¬ e.1 = kk k := fun q => z (kk_inj (h.1.1.symm.trans q))
      rw [valV_neg ne]
      refine ⟨fun n => ih.1 fun m => n (List.mem_cons_of_mem _ m), fun m => ih.2 ?_⟩
      rcases List.mem_cons.mp m with q | q
      · exact absurd q.symm z
      · exact q
theorem ens_some {es : List (List L2.Key × V)} {ks : List IP} (h : All2 (En K H L) es ks) (k : IP) : (valV es (kk k)).isSome = decide (k ∈ ks) := by
  obtain ⟨h1, h2⟩ := ens_val h k
  by_cases m : k ∈ ks
  · obtain ⟨v, e, _⟩ := h2 m
    rw [e, decide_eq_true m] <;> rfl
  · rw [h1 m, decide_eq_false m] <;> rfl
theorem ens_map {v : V} {k p : IP} (hv : FrV K H v p) : ∀ {es : List (List L2.Key × V)} {ks : List IP}, All2 (En K H L) es ks → All2 (En K H (updF L k p)) (es.map fun kv => if kv.1 = kk k then (kv.1, v) else kv) ks
  | [], [], _ => trivial
  | e :: es, j :: ks, h => by
    refine ⟨?_, ens_map hv h.2⟩
    by_cases z : j = k
    · subst z
      show En K H _ (if e.1 = kk j then (e.1, v) else e) j
      rw [if_pos h.1.1]
      exact ⟨h.1.1, by rw [updF_same]; exact hv⟩
    · have ne : ¬ e.1 = kk k := fun q => z (kk_inj (h.1.1.symm.trans q))
      show En K H _ (if e.1 = kk k then (e.1, v) else e) j
      rw [if_neg ne]
      exact ⟨h.1.1, by rw [updF_ne z]; exact h.1.2⟩
theorem ens_put {v : V} {k p : IP} (hv : FrV K H v p) {es : List (List L2.Key × V)} {ks : List IP} (h : All2 (En K H L) es ks) : All2 (En K H (updF L k p)) (putK es (kk k) v) (putk ks k) := by
  unfold putK putk
  rw [valV_any, ens_some h]
  by_cases m : k ∈ ks
  · rw [decide_eq_true m, if_pos rfl, if_pos m]
    exact ens_map hv h
  · rw [decide_eq_false m, if_neg Bool.false_ne_true, if_neg m]
    refine All2.snoc (ens_congr (fun j hj => updF_ne (fun z => m (z ▸ hj))) h) ⟨rfl, by rw [updF_same]; exact hv⟩
theorem ens_drop {k : IP} : ∀ {es : List (List L2.Key × V)} {ks : List IP}, All2 (En K H L) es ks → All2 (En K H L) (dropK es (kk k)) (ks.filter fun j => decide (j ≠ k))
  | [], [], _ => trivial
  | e :: es, j :: ks, h => by
    have ih := ens_drop (k := k) h.2
    unfold dropK at ih ⊢
    by_cases z : j = k
    · subst z
      rw [List.filter_cons_of_neg (by simp [h.1.1]), List.filter_cons_of_neg (by simp)]
      exact ih
    · have ne : ¬ e.1 = kk k := fun q => z (kk_inj (h.1.1.symm.trans q))
      rw [List.filter_cons_of_pos (by simp [ne]), List.filter_cons_of_pos (by simp [z])]
      exact ⟨h.1, ih⟩
end
section
variable {K : PySem.W.Frag} {H H' : Hp} {d b : Addr} {ks : List IP} {L : IP → IP} {k : IP} {Q : VK} {nx : L2.St → Hp → Prop} {σ : L2.St}
theorem LD.same (h : LD K H d ks L) (s : Same H H') : LD K H' d ks L := by
  obtain ⟨n, es, h1, h2⟩ := h
  exact ⟨n, es, s _ _ h1, ens_keep (keeps s) h2⟩
theorem LD.keep {o : HO} (h : LD K H d ks L) (k : Keeps H H') (e : H' d = H d) : LD K H' d ks L := by
  obtain ⟨n, es, h1, h2⟩ := h
  exact ⟨n, es, by rw [e]; exact h1, ens_keep k h2⟩
theorem LD.congr {L' : IP → IP} (h : LD K H d ks L) (e : ∀ k ∈ ks, L' k = L k) : LD K H d ks L' := by
  obtain ⟨n, es, h1, h2⟩ := h
  exact ⟨n, es, h1, ens_congr e h2⟩
theorem ld_nil (h : H d = some (.dT [])) (L : IP → IP) : LD K H d [] L := ⟨List.nodup_nil, [], h, trivial⟩
theorem kk_map (p : IP) : (kk p).map kV = [.int p.1, .int p.2] := rfl
theorem Pr.kkey (h : Pr H (.ref b) k) : H b = some (.tup ((kk k).map kV)) := by
  obtain ⟨t, e, h⟩ := h
  cases e
  exact h
theorem w_ldIn (h : LD K H d ks L) (hb : Pr H (.ref b) k) (q : Q (.bl (decide (k ∈ ks))) H) : DInK (.ref b) Q (.ref d) H := by
  obtain ⟨n, es, h1, h2⟩ := h
  exact w_diT h1 hb.kkey (by rw [ens_some h2]; exact q)
theorem w_ldNotIn (h : LD K H d ks L) (hb : Pr H (.ref b) k) (q : Q (.bl (!decide (k ∈ ks))) H) : DNotInK (.ref b) Q (.ref d) H := by
  obtain ⟨n, es, h1, h2⟩ := h
  exact w_dniT h1 hb.kkey (by rw [ens_some h2]; exact q)
theorem w_ldGet (h : LD K H d ks L) (hb : Pr H (.ref b) k) (m : k ∈ ks) (q : ∀ t, FrV K H (.ref t) (L k) → Q (.ref t) H) : DGK (.ref d) Q (.ref b) H := by
  obtain ⟨n, es, h1, h2⟩ := h
  obtain ⟨v, e, hv⟩ := (ens_val h2 k).2 m
  obtain ⟨t, rfl, ht⟩ := id hv
  exact w_dgT h1 hb.kkey e (q t hv)
theorem w_ldPut {v : V} {p : IP} (h : LD K H d ks L) (hb : Pr H (.ref b) k) (hv : FrV K H v p) (hl : ks.length < 1000000) (q : ∀ es, LD K (upd H d (.dT es)) d (putk ks k) (updF L k p) → Keeps H (upd H d (.dT es)) → nx σ (upd H d (.dT es))) : DPK nx σ v (.ref d) (.ref b) H := by
  obtain ⟨n, es, h1, h2⟩ := h
  have k0 : Keeps H (upd H d (.dT (putK es (kk k) v))) := keeps_dT h1
  exact w_dpT h1 hb.kkey (size_lt (by rw [h2.length]; omega)) (q _ ⟨putk_nodup n, _, upd_same, ens_keep k0 (ens_put hv h2)⟩ k0)
theorem w_ldLen (h : LD K H d ks L) (q : Q (.int ks.length) H) : rLenT [.ref d] H Q := by
  obtain ⟨n, es, h1, h2⟩ := h
  exact ⟨d, es, rfl, h1, by rw [h2.length]; exact q⟩
theorem w_ldDict (h : LD K H d ks L) (sm : ∀ k ∈ ks, smallP k) (q : ∀ p es, H p = none → LD K (upd H p (.dT es)) p ks L → Q (.ref p) (upd H p (.dT es))) : rDictT [.ref d] H Q := by
  obtain ⟨n, es, h1, h2⟩ := h
  refine ⟨d, es, rfl, .inl h1, fun e he => ?_, fun p hp => q p es hp ⟨n, es, upd_same, ens_keep (keeps (same_new hp _)) h2⟩⟩
  obtain ⟨k, hk, r⟩ := h2.mem he
  exact ⟨k, r.1, sm k hk⟩
theorem w_isiLd {nm : String} {bb : Bool} (h : LD K H d ks L) (e : kitB "dict" nm = some bb) (q : Q (.bl bb) H) : rIsi K [.ref d, .ty nm] H Q := by
  obtain ⟨n, es, h1, h2⟩ := h
  exact ⟨_, _, _, _, bb, rfl, .ty nm, .base (.dT h1), kit_ty e, q⟩
/-- heaps alike but for the object at d, which is locked -/
theorem same_lock {H0 H H1 : Hp} {d : Addr} {od : Obj} {u : HO} (hd : H0 d = some u) (s : Same (upd H0 d (.frz od u)) H1) : Same H0 (upd H1 d u) := fun b o e => by
  by_cases z : b = d
  · subst z
    rw [upd_same, ← hd]; exact e
  · rw [upd_ne z]
    exact s _ _ (by rw [upd_ne z]; exact e)
theorem lock_keeps {H0 H1 : Hp} {d : Addr} {od : Obj} {es : List (List L2.Key × V)} (hd : H0 d = some (.dT es)) (s : Same (upd H0 d (.frz od (.dT es))) H1) : Keeps H0 H1 := fun t xs e => by
  refine s _ _ ?_
  rw [upd_ne (ne_of e hd (fun z => nomatch z))]
  exact e
theorem lock_get {H0 H1 : Hp} {d b : Addr} {od : Obj} {u o : HO} (s : Same (upd H0 d (.frz od u)) H1) (e : H0 b = some o) (n : b ≠ d) : H1 b = some o := s _ _ (by rw [upd_ne n]; exact e)
theorem lock_mono {H0 H : Hp} {d : Addr} {od : Obj} {u : HO} (s : Same H0 H) : Same (upd H0 d (.frz od u)) (upd H d (.frz od u)) := fun b o e => by
  by_cases z : b = d
  · subst z
    rw [upd_same] at e ⊢; exact e
  · rw [upd_ne z] at e ⊢
    exact s _ _ e
theorem lock_none {H0 : Hp} {d b : Addr} {od : Obj} {u v : HO} (hd : H0 d = some u) (h : H0 b = none) : upd H0 d (.frz od v) b = none := by
  rw [upd_ne (ne_of_none hd h).symm]; exact h
/-- an end behind a locked walk -/
def LkE {α : Type} (d : Addr) (od : Obj) (u : HO) (R : α → Hp → Prop) : α → Hp → Prop := fun x H' => H' d = some (.frz od u) ∧ R x (upd H' d u)
theorem w_lkE {α : Type} {od : Obj} {u : HO} {R : α → Hp → Prop} {x : α} (h1 : H d = some (.frz od u)) (h : R x (upd H d u)) : LkE d od u R x H := ⟨h1, h⟩
end
section
variable {K : PySem.W.Frag} {bk ct nx : L2.St → Hp → Prop} {rt : VK} {σ : L2.St} {g : TG} {t : TS} {L : IP → IP} {ks : List IP} {d : Addr} {td : TE} {H0 H : Hp}
/-- for .. in d.items() -/
theorem w_forItems (hd0 : LD K H0 d ks L) (s0 : Same H0 H) (Iv : Obj → HO → Nat → L2.St → Hp → Prop) (htd : ∀ od u Q, u = u → H d = some u → Q (V.ref d) (upd H d (.frz od u)) → td σ (upd H d (.frz od u)) Q)
    (h0 : ∀ od u, H0 d = some u → Iv od u 0 σ (upd H d (.frz od u)))
    (hs : ∀ od es i k σ H1, H0 d = some (.dT es) → ks[i]? = some k → Same (upd H0 d (.frz od (.dT es))) H1 → Keeps H0 H1 → Iv od (.dT es) i σ H1 → ∀ (T q : Addr) (v : V), H1 T = none → Pr H1 (.ref q) k → FrV K H1 v (L k) →
      g (.ref T) σ (upd H1 T (.tup [.ref q, v])) fun σ2 H2 => t ⟨fun σ' H' => Same (upd H0 d (.frz od (.dT es))) H' ∧ Iv od (.dT es) (i + 1) σ' H', LkE d od (.dT es) rt, LkE d od (.dT es) nx, fun σ' H' => Same (upd H0 d (.frz od (.dT es))) H' ∧ Iv od (.dT es) (i + 1) σ' H'⟩ σ2 H2)
    (he : ∀ od es σ H1, H0 d = some (.dT es) → Same (upd H0 d (.frz od (.dT es))) H1 → Iv od (.dT es) ks.length σ H1 → Same H0 (upd H1 d (.dT es)) → nx σ (upd H1 d (.dT es))) :
    tLock (tFor (iItemsT td) g t) ⟨nx, rt, bk, ct⟩ σ H := by
  obtain ⟨n, es, h1, h2⟩ := hd0
  have hd : H d = some (.dT es) := s0 _ _ h1
  refine ⟨d, .dT es, hd, True.intro, fun od => ?_⟩
  show iItemsT td σ _ _
  refine htd od _ _ rfl hd ⟨d, od, es, rfl, upd_same, ?_⟩
  refine ⟨fun i m σ' H' => i + m = es.length ∧ Same (upd H0 d (.frz od (.dT es))) H' ∧ Iv od (.dT es) i σ' H', ⟨es.length, by omega, lock_mono s0, h0 _ _ h1⟩, ?_⟩
  rintro i m σ' H' ⟨hm, s1, iv⟩
  have lk : H' d = some (.frz od (.dT es)) := s1 _ _ upd_same
  rcases Nat.eq_zero_or_pos m with z | z
  · subst z
    refine .inl ⟨⟨lk, by omega⟩, lk, ?_⟩
    have e : i = ks.length := by rw [← h2.length]; omega
    subst e
    exact he od es σ' H' h1 s1 iv (same_lock (H := H) h1 s1)
  · refine .inr ⟨⟨lk, by omega⟩, _, fun σ2 H2 q => ⟨m - 1, by omega, by omega, q⟩, ?_⟩
    rintro x H2 ⟨T, k, v, q, ek, rfl, hT, hq, rfl⟩
    have kp := lock_keeps h1 s1
    obtain ⟨j, hj, r1, r2⟩ := h2.get ek
    have hq' : Pr H' (.ref q) j := by
      simp only at r1
      rw [r1, kk_map] at hq
      exact ⟨q, rfl, hq⟩
    exact hs od es i j σ' H' h1 hj s1 kp iv T q v hT hq' (r2.keep kp)
/-- for .. in d.keys() -/
theorem w_forKeysT (hd0 : LD K H0 d ks L) (s0 : Same H0 H) (Iv : Obj → HO → Nat → L2.St → Hp → Prop) (htd : ∀ od u Q, u = u → H d = some u → Q (V.ref d) (upd H d (.frz od u)) → td σ (upd H d (.frz od u)) Q)
    (h0 : ∀ od u, H0 d = some u → Iv od u 0 σ (upd H d (.frz od u)))
    (hs : ∀ od es i k σ H1, H0 d = some (.dT es) → ks[i]? = some k → Same (upd H0 d (.frz od (.dT es))) H1 → Keeps H0 H1 → Iv od (.dT es) i σ H1 → ∀ (q : Addr), Pr H1 (.ref q) k →
      g (.ref q) σ H1 fun σ2 H2 => t ⟨fun σ' H' => Same (upd H0 d (.frz od (.dT es))) H' ∧ Iv od (.dT es) (i + 1) σ' H', LkE d od (.dT es) rt, LkE d od (.dT es) nx, fun σ' H' => Same (upd H0 d (.frz od (.dT es))) H' ∧ Iv od (.dT es) (i + 1) σ' H'⟩ σ2 H2)
    (he : ∀ od es σ H1, H0 d = some (.dT es) → Same (upd H0 d (.frz od (.dT es))) H1 → Iv od (.dT es) ks.length σ H1 → Same H0 (upd H1 d (.dT es)) → nx σ (upd H1 d (.dT es))) :
    tLock (tFor (iKeysT td) g t) ⟨nx, rt, bk, ct⟩ σ H := by
  obtain ⟨n, es, h1, h2⟩ := hd0
  have hd : H d = some (.dT es) := s0 _ _ h1
  refine ⟨d, .dT es, hd, True.intro, fun od => ?_⟩
  show iKeysT td σ _ _
  refine htd od _ _ rfl hd ⟨d, od, es, rfl, upd_same, ?_⟩
  refine ⟨fun i m σ' H' => i + m = es.length ∧ Same (upd H0 d (.frz od (.dT es))) H' ∧ Iv od (.dT es) i σ' H', ⟨es.length, by omega, lock_mono s0, h0 _ _ h1⟩, ?_⟩
  rintro i m σ' H' ⟨hm, s1, iv⟩
  have lk : H' d = some (.frz od (.dT es)) := s1 _ _ upd_same
  rcases Nat.eq_zero_or_pos m with z | z
  · subst z
    refine .inl ⟨⟨lk, by omega⟩, lk, ?_⟩
    have e : i = ks.length := by rw [← h2.length]; omega
    subst e
    exact he od es σ' H' h1 s1 iv (same_lock (H := H) h1 s1)
  · refine .inr ⟨⟨lk, by omega⟩, _, fun σ2 H2 q => ⟨m - 1, by omega, by omega, q⟩, ?_⟩
    rintro x H2 ⟨rfl, k, v, q, ek, rfl, hq⟩
    have kp := lock_keeps h1 s1
    obtain ⟨j, hj, r1, r2⟩ := h2.get ek
    have hq' : Pr H2 (.ref q) j := by
      simp only at r1
      rw [r1, kk_map] at hq
      exact ⟨q, rfl, hq⟩
    exact hs od es i j σ' H2 h1 hj s1 kp iv q hq'
end
theorem LD.lock {K : PySem.W.Frag} {H H1 : Hp} {f d : Addr} {od : Obj} {es : List (List L2.Key × V)} {ks : List IP} {L : IP → IP} (h : LD K H f ks L) (hd : H d = some (.dT es)) (ne : f ≠ d) (s : Same (upd H d (.frz od (.dT es))) H1) : LD K H1 f ks L := by
  obtain ⟨n, es', h1, h2⟩ := h
  exact ⟨n, es', lock_get s h1 ne, ens_keep (lock_keeps hd s) h2⟩
theorem perm_len {α : Type} {l l' : List α} (h : l.Nodup) (h' : l'.Nodup) (e : ∀ x, x ∈ l ↔ x ∈ l') : l.length = l'.length := ((List.perm_ext_iff_of_nodup h h').mpr e).length_eq
/-! #### d.clear() -/
def rClearT : V → List V → Hp → VK → Prop := fun x xs H Q => ∃ (a : Addr) (kvs : List (List L2.Key × V)), x = .ref a ∧ xs = [] ∧ H a = some (.dT kvs) ∧ Q .non (upd H a (.dT []))
theorem mt_clearT {X : Cx} : MtR X "dict.clear" rClearT := by
  intro pins s σ H x xs v us Q I rx rv h
  obtain ⟨a, kvs, rfl, rfl, ha, q⟩ := h
  obtain rfl : v = Value.ref a := rx
  have hus := rv.zero
  subst hus
  obtain ⟨z, hd, xs', rel, dd⟩ := dt_of I.hok ha
  obtain ⟨o, es, ep, h1, h2, h3, h4, _, h5⟩ := id dd
  have raw : s.heap.DictRaw a es ep := ⟨o, h1, h2, h3⟩
  have hz : es.size ≤ sizeLine := by rw [size_of_entries h4, ← Paired.length rel]; exact z
  refine call_meetsIn PySem.F.slot_dict_clear dd.typeIs PySem.F.entry_dict_clear (PySem.F.args_dict_clear_1 _) (meets_dict_clear_raw a) ⟨es, ep, raw, hz, fun h' raw' hs => ?_⟩
  obtain ⟨o', g1, g2, g3⟩ := raw'
  have I2 : Inv X pins σ (upd H a (.dT [])) { s with heap := h' } :=
    d_write (t' := s.toks) (ob := .dT []) I (by rw [ha]; exact True.intro) hs ⟨o', g1⟩ ⟨Nat.zero_le _, hd, [], .nil, o', #[], _, g1, g2, g3, rfl, List.nodup_nil⟩
  show EP X pins σ Q .none _
  exact ⟨.non, _, I2, rfl, q⟩
theorem lenOk_rat {a b : Int} (hb : 0 < b) (g : Int.gcd a b = 1) : (a, b) = rp (Rat.divInt a b) := by
  have z := div_pos_num (a := a) hb
  rw [g] at z
  unfold rp
  rw [← z.1, ← z.2]
  simp
end Pm
/-! ### pairs of fractions, dicts of them by post, the lengths of a cutting -/
namespace Pm
open PySem PySem.Spec PyProof.Rows L2
/-- a fraction that stands somewhere -/
def FrA (K : PySem.W.Frag) (H : Hp) (r : Rat) (Q : VK) : Prop := ∀ (t : Addr) (H' : Hp), Same H H' → FrV K H' (.ref t) (rp r) → Q (.ref t) H'
theorem FrV.rat {K : PySem.W.Frag} {H : Hp} {t : Addr} {r : Rat} (h : FrV K H (.ref t) (rp r)) : SqT K H t [.int r.num, .int r.den] := h.tup
theorem frv_new {K : PySem.W.Frag} {H : Hp} {t : Addr} {r : Rat} (h : H t = some (.tup [.int r.num, .int r.den])) : FrV K H (.ref t) (rp r) := ⟨t, rfl, .inl h⟩
/-- a pair of fractions -/
def PrV (K : PySem.W.Frag) (H : Hp) (v : V) (s : V2) : Prop := ∃ t u w, v = .ref t ∧ H t = some (.tup [.ref u, .ref w]) ∧ FrV K H (.ref u) (rp s.p) ∧ FrV K H (.ref w) (rp s.q)
section
variable {K : PySem.W.Frag} {H H' : Hp}
theorem PrV.keep (k : Keeps H H') {v : V} {s : V2} (h : PrV K H v s) : PrV K H' v s := by
  obtain ⟨t, u, w, e, h1, h2, h3⟩ := h
  exact ⟨t, u, w, e, k _ _ h1, h2.keep k, h3.keep k⟩
theorem prv_mono (H H' : Hp) (v : V) (s : V2) (k : Keeps H H') (h : PrV K H v s) : PrV K H' v s := h.keep k
end
/-! #### dicts by post -/
def SEn (K : PySem.W.Frag) (H : Hp) (S : Nat → V2) (e : L2.Key × V) (i : Nat) : Prop := e.1 = .inl (i : Int) ∧ PrV K H e.2 (S i)
structure SD (K : PySem.W.Frag) (H : Hp) (d : Addr) (ks : List Nat) (S : Nat → V2) : Prop where
  nd : ks.Nodup
  ex : ∃ es, H d = some (.dK es) ∧ All2 (SEn K H S) es ks
section
variable {K : PySem.W.Frag} {H H' : Hp} {S : Nat → V2}
theorem sens_keep (k : Keeps H H') {es : List (L2.Key × V)} {ks : List Nat} (h : All2 (SEn K H S) es ks) : All2 (SEn K H' S) es ks := h.mono fun _ _ q => ⟨q.1, q.2.keep k⟩
theorem key_inj {i j : Nat} (h : (Sum.inl (i : Int) : L2.Key) = Sum.inl (j : Int)) : i = j := by
  have := Sum.inl.inj h
  omega
theorem sens_val : ∀ {es : List (L2.Key × V)} {ks : List Nat}, All2 (SEn K H S) es ks → ∀ k : Nat, (k ∉ ks → valV es (.inl (k : Int)) = none) ∧ (k ∈ ks → ∃ v, valV es (.inl (k : Int)) = some v ∧ PrV K H v (S k))
  | [], [], _, k => ⟨fun _ => rfl, fun h => nomatch h⟩
  | e :: es, j :: ks, h, k => by
    have ih := sens_val h.2 k
    by_cases z : j = k
    · subst z
      refine ⟨fun n => absurd List.mem_cons_self n, fun _ => ⟨e.2, valV_pos h.1.1, h.1.2⟩⟩
    · have ne : ¬ e.1 = .inl (k : Int) := fun q => z (key_inj (h.1.1.symm.trans q))
      rw [valV_neg ne]
      refine ⟨fun n => ih.1 fun m => n (List.mem_cons_of_mem _ m), fun m => ih.2 ?_⟩
      rcases List.mem_cons.mp m with q | q
      · exact absurd q.symm z
      · exact q
theorem sens_some {es : List (L2.Key × V)} {ks : List Nat} (h : All2 (SEn K H S) es ks) (k : Nat) : (valV es (.inl (k : Int))).isSome = decide (k ∈ ks) := by
  obtain ⟨h1, h2⟩ := sens_val h k
  by_cases m : k ∈ ks
  · obtain ⟨v, e, _⟩ := h2 m
    rw [e, decide_eq_true m] <;> rfl
  · rw [h1 m, decide_eq_false m] <;> rfl
end
section
variable {K : PySem.W.Frag} {H H' : Hp} {d : Addr} {ks : List Nat} {S : Nat → V2} {k : Nat} {Q : VK} {nx : L2.St → Hp → Prop} {σ : L2.St}
theorem SD.same (h : SD K H d ks S) (s : Same H H') : SD K H' d ks S := by
  obtain ⟨n, es, h1, h2⟩ := h
  exact ⟨n, es, s _ _ h1, sens_keep (keeps s) h2⟩
theorem keeps_dK' {a : Addr} {xs ys : List (L2.Key × V)} (h : H a = some (.dK xs)) : Keeps H (upd H a (.dK ys)) := keeps_dK h
theorem w_sdIn (h : SD K H d ks S) (q : Q (.bl (decide (k ∈ ks))) H) : DInK (.int (k : Int)) Q (.ref d) H := by
  obtain ⟨n, es, h1, h2⟩ := h
  exact w_diK (k := .inl (k : Int)) h1 (by rw [sens_some h2]; exact q)
theorem w_sdNotIn (h : SD K H d ks S) (q : Q (.bl (!decide (k ∈ ks))) H) : DNotInK (.int (k : Int)) Q (.ref d) H := by
  obtain ⟨n, es, h1, h2⟩ := h
  exact w_dniK (k := .inl (k : Int)) h1 (by rw [sens_some h2]; exact q)
theorem w_sdGet (h : SD K H d ks S) (m : k ∈ ks) (q : ∀ t, PrV K H (.ref t) (S k) → Q (.ref t) H) : DGK (.ref d) Q (.int (k : Int)) H := by
  obtain ⟨n, es, h1, h2⟩ := h
  obtain ⟨v, e, hv⟩ := (sens_val h2 k).2 m
  obtain ⟨t, u, w, rfl, ht⟩ := id hv
  exact w_dgK (k := .inl (k : Int)) h1 e (q t hv)
theorem w_sdPut {v : V} (h : SD K H d ks S) (m : k ∉ ks) (hv : PrV K H v (S k)) (hl : ks.length < 1000000) (q : ∀ es, SD K (upd H d (.dK es)) d (ks ++ [k]) S → Keeps H (upd H d (.dK es)) → nx σ (upd H d (.dK es))) : DPK nx σ v (.ref d) (.int (k : Int)) H := by
  obtain ⟨n, es, h1, h2⟩ := h
  refine w_dpK (k := .inl (k : Int)) h1 (size_lt (by rw [h2.length]; omega)) ?_
  rw [putK_new v ((sens_val h2 k).1 m)]
  have k0 : Keeps H (upd H d (.dK (es ++ [(.inl (k : Int), v)]))) := keeps_dK h1
  refine q _ ⟨?_, _, upd_same, All2.snoc (sens_keep k0 h2) ⟨rfl, hv.keep k0⟩⟩ k0
  rw [List.nodup_append]
  exact ⟨n, by simp, fun a ha b hb => by rw [List.mem_singleton.mp hb]; rintro rfl; exact m ha⟩
def rLenD : List V → Hp → VK → Prop := fun xs H Q => ∃ (a : Addr) (kvs : List (L2.Key × V)), xs = [.ref a] ∧ H a = some (.dK kvs) ∧ Q (.int kvs.length) H
theorem c_lenD {X : Cx} : CallR X (.builtin "len") rLenD := call_lenD
theorem w_sdLen (h : SD K H d ks S) (q : Q (.int ks.length) H) : rLenD [.ref d] H Q := by
  obtain ⟨n, es, h1, h2⟩ := h
  exact ⟨d, es, rfl, h1, by rw [h2.length]; exact q⟩
end
/-- the display of two posts -/
def DispK (p : Addr) (Q : VK) : List (V × V) → Hp → Prop := fun ps H2 => H2 p = some (.dK []) ∧ ∃ kvs : List (L2.Key × V), ps = kvs.map (fun kv => (kV kv.1, kv.2)) ∧ kvs.length ≤ 15 ∧ Q (.ref p) (upd H2 p (.dK (mergeK [] kvs)))
theorem w_disp {trs : List (TE × TE)} {σ : L2.St} {H : Hp} {Q : VK} (h : ∀ p, H p = none → tPairs trs σ (upd H p (.dK [])) (DispK p Q)) : tDisp trs σ H Q := h
theorem w_pairs {tk tv : TE} {r : List (TE × TE)} {σ : L2.St} {H : Hp} {R : List (V × V) → Hp → Prop} (h : tk σ H fun x H1 => tv σ H1 fun y H2 => tPairs r σ H2 fun ps H3 => R ((x, y) :: ps) H3) : tPairs ((tk, tv) :: r) σ H R := h
theorem w_pairs0 {σ : L2.St} {H : Hp} {R : List (V × V) → Hp → Prop} (h : R [] H) : tPairs [] σ H R := h
theorem w_sdDisp {K : PySem.W.Frag} {H : Hp} {p : Addr} {a b : Nat} {x y : V} {S : Nat → V2} {Q : VK} (hp : H p = some (.dK [])) (ne : a ≠ b) (hx : PrV K H x (S a)) (hy : PrV K H y (S b))
    (q : ∀ es, SD K (upd H p (.dK es)) p [a, b] S → Keeps H (upd H p (.dK es)) → Q (.ref p) (upd H p (.dK es))) : DispK p Q [(.int (a : Int), x), (.int (b : Int), y)] H := by
  refine ⟨hp, [(.inl (a : Int), x), (.inl (b : Int), y)], rfl, by simp, ?_⟩
  have ne' : ¬ (Sum.inl (b : Int) : L2.Key) = Sum.inl (a : Int) := fun z => ne (key_inj z).symm
  have e : mergeK [] [((Sum.inl (a : Int) : L2.Key), x), ((Sum.inl (b : Int) : L2.Key), y)] = [((Sum.inl (a : Int) : L2.Key), x), ((Sum.inl (b : Int) : L2.Key), y)] := by
    show putK (putK [] _ x) _ y = _
    rw [putK_new x valV_nil, List.nil_append, putK_new y (by rw [valV_neg (fun z => ne' z.symm)]; rfl)]
    rfl
  rw [e]
  have k0 : Keeps H (upd H p (.dK [((Sum.inl (a : Int) : L2.Key), x), ((Sum.inl (b : Int) : L2.Key), y)])) := keeps_dK hp
  exact q _ ⟨by simpa using ne, _, upd_same, ⟨rfl, hx.keep k0⟩, ⟨rfl, hy.keep k0⟩, trivial⟩ k0
/-! #### the lengths of a cutting, as a dict -/
structure LenD (K : PySem.W.Frag) (H : Hp) (d : Addr) (t : Tr) (D : Nat → Nat → Rat) : Prop where
  ex : ∃ ks L, LD K H d ks L ∧ (∀ p, p ∈ ks ↔ ∃ q, q ∈ t.all 0 ∧ p = castP q) ∧ ∀ q ∈ t.all 0, L (castP q) = rp (D q.1 q.2)
theorem LenD.same {K : PySem.W.Frag} {H H' : Hp} {d : Addr} {t : Tr} {D : Nat → Nat → Rat} (h : LenD K H d t D) (s : Same H H') : LenD K H' d t D := by
  obtain ⟨ks, L, h1, h2⟩ := h
  exact ⟨ks, L, h1.same s, h2⟩
theorem w_lenGet {K : PySem.W.Frag} {H : Hp} {d b : Addr} {t : Tr} {D : Nat → Nat → Rat} {i k : Nat} {Q : VK} (h : LenD K H d t D) (hb : Pr H (.ref b) (castP (i, k))) (m : (i, k) ∈ t.all 0) (q : ∀ u, FrV K H (.ref u) (rp (D i k)) → Q (.ref u) H) : DGK (.ref d) Q (.ref b) H := by
  obtain ⟨ks, L, h1, h2, h3⟩ := h
  refine w_ldGet h1 hb ((h2 _).mpr ⟨_, m, rfl⟩) fun u hu => q u ?_
  rw [h3 _ m] at hu
  exact hu
/-- the target of stands: the two numbers of a post, by the first plot's a and b -/
def tgt (D : Nat → Nat → Rat) (a b : Nat) (i : Nat) : V2 := ⟨D i b / D a b, D a i⟩
section
variable {n : Nat} {t : Tr} {L : Len} {D : Nat → Nat → Rat} {F B a b : Nat}
theorem tgt_det (M : Meas n t L D) (ha : a < n) (hb : b < n) (ne : a ≠ b) {i k : Nat} (hi : i < n) (hk : k < n) : det (tgt D a b i) (tgt D a b k) = D i k := by
  have n0 := M.ne ne ha hb
  have p := M.pl ha hi hb hk
  have a1 := M.anti hk hb
  have a2 := M.anti ha hi
  unfold det tgt
  simp only
  grind
theorem tgt_a (M : Meas n t L D) (ha : a < n) (hb : b < n) (ne : a ≠ b) : tgt D a b a = ⟨1, 0⟩ := by
  have n0 := M.ne ne ha hb
  unfold tgt
  rw [M.self ha]
  congr 1
  grind
theorem tgt_b (M : Meas n t L D) (ha : a < n) (hb : b < n) (ne : a ≠ b) : tgt D a b b = ⟨0, D a b⟩ := by
  unfold tgt
  rw [M.self hb]
  congr 1
  grind
theorem tgt_mix (M : Meas n t L D) (ha : a < n) (hb : b < n) (ne : a ≠ b) {x y z : Nat} (hx : x < n) (hy : y < n) (hz : z < n) (nxy : x ≠ y) : mix (tgt D a b x) (D z y / D x y) (tgt D a b y) (D x z / D x y) = tgt D a b z := by
  have n0 := M.ne ne ha hb
  have n1 := M.ne nxy hx hy
  have p1 := M.pl hx hz hy hb
  have p2 := M.pl ha hx hz hy
  have a1 := M.anti hy hz
  have a2 := M.anti hz hb
  have a3 := M.anti hx hz
  have a4 := M.anti ha hx
  have a5 := M.anti hx hy
  unfold mix tgt
  congr 1
  · simp only
    grind
  · simp only
    grind
theorem tgt_rb (M : Meas n t L D) (Z : Bd n D F B) (ha : a < n) (hb : b < n) (ne : a ≠ b) {i : Nat} (hi : i < n) : rb (tgt D a b i).p B ∧ rb (tgt D a b i).q B :=
  ⟨Z.quot hi hb ha hb (M.ne ne ha hb), Z.rb ha hi⟩
end
def spBetween (K : PySem.W.Frag) : Sp := fun vs H Q _ => ∃ (d : Addr) (t : Tr) (D : Nat → Nat → Rat) (a b : Nat), vs = [.ref d, .int a, .int b] ∧ LenD K H d t D ∧ (min a b, max a b) ∈ t.all 0 ∧ a ≠ b ∧ D a b = - D b a ∧ FrA K H (D a b) Q
def spSpread (K : PySem.W.Frag) : Sp := fun vs H Q _ => ∃ (x y : Addr) (s r : V2) (n : Nat), vs = [.ref x, .ref y] ∧ PrV K H (.ref x) s ∧ PrV K H (.ref y) r ∧ rb s.p n ∧ rb s.q n ∧ rb r.p n ∧ rb r.q n ∧ 4 * n ≤ 9000 ∧ FrNew H (det s r) Q
end Pm
/-! ### how great the numbers of drawn lengths are -/
namespace Pm
def vb (v : V2) (E B : Nat) : Prop := ∃ x y : Int, v.p * E = x ∧ v.q * E = y ∧ x.natAbs ≤ B ∧ y.natAbs ≤ B
theorem cast_mul_nat (a b : Nat) : ((a * b : Nat) : Rat) = (a : Rat) * (b : Rat) := Rat.natCast_mul a b
theorem vb.scale {v : V2} {E B : Nat} (h : vb v E B) (k C : Nat) (hk : k ≤ C) : vb v (E * k) (B * C) := by
  obtain ⟨x, y, h1, h2, h3, h4⟩ := h
  refine ⟨x * k, y * k, ?_, ?_, ?_, ?_⟩
  · rw [cast_mul_nat, ← Rat.mul_assoc, h1, Rat.intCast_mul]; rfl
  · rw [cast_mul_nat, ← Rat.mul_assoc, h2, Rat.intCast_mul]; rfl
  · rw [Int.natAbs_mul, Int.natAbs_natCast]; exact Nat.mul_le_mul h3 hk
  · rw [Int.natAbs_mul, Int.natAbs_natCast]; exact Nat.mul_le_mul h4 hk
theorem vb.mono {v : V2} {E B C : Nat} (h : vb v E B) (k : B ≤ C) : vb v E C := by
  obtain ⟨x, y, h1, h2, h3, h4⟩ := h
  exact ⟨x, y, h1, h2, by omega, by omega⟩
/-- a length above nought with a small top and bottom -/
def szd (r : Rat) (N M : Nat) : Prop := 0 < r ∧ r.num.natAbs ≤ N ∧ r.den ≤ M
theorem rat_num_den (r : Rat) : r * (r.den : Rat) = (r.num : Rat) := by
  have e : r = (r.num : Rat) / ((r.den : Int) : Rat) := by
    conv => lhs; rw [← Rat.num_divInt_den r]
    exact Rat.divInt_eq_div _ _
  have i0 : ((r.den : Int) : Rat) = (r.den : Rat) := rfl
  have d0 : (r.den : Rat) ≠ 0 := fun z => by
    have : (r.den : Rat) = ((0 : Nat) : Rat) := by rw [z]; rfl
    exact r.den_nz (Rat.natCast_inj.mp this)
  rw [i0] at e
  generalize (r.den : Rat) = A at *
  generalize (r.num : Rat) = C at *
  grind
theorem pos_num {r : Rat} (h : 0 < r) : 0 < r.num := by
  have h1 := Rat.num_nonneg.mpr (show 0 ≤ r by grind)
  have h2 : r.num ≠ 0 := fun z => by rw [Rat.num_eq_zero.mp z] at h; exact absurd h (by grind)
  omega
theorem vb_mix {a b : V2} {E B N M : Nat} {l0 l1 l2 : Rat} (ha : vb a E B) (hb : vb b E B) (h0 : szd l0 N M) (h1 : szd l1 N M) (h2 : szd l2 N M) :
    ∃ k : Nat, 0 < k ∧ k ≤ N * M * M ∧ vb (mix a (l1 / l0) b (l2 / l0)) (E * k) (B * (2 * (N * M * M))) ∧ ∀ v, vb v E B → vb v (E * k) (B * (2 * (N * M * M))) := by
  have p0 := pos_num h0.1
  have e0 : l0.num = (l0.num.natAbs : Int) := by omega
  refine ⟨l1.den * l2.den * l0.num.natAbs, ?_, ?_, ?_, ?_⟩
  · exact Nat.mul_pos (Nat.mul_pos (Nat.pos_of_ne_zero l1.den_nz) (Nat.pos_of_ne_zero l2.den_nz)) (by omega)
  · have q := Nat.mul_le_mul (Nat.mul_le_mul h1.2.2 h2.2.2) h0.2.1
    rw [show N * M * M = M * M * N by rw [Nat.mul_assoc, Nat.mul_comm]]
    exact q
  · obtain ⟨x, y, a1, a2, a3, a4⟩ := ha
    obtain ⟨z, u, b1, b2, b3, b4⟩ := hb
    have d0 : l0 ≠ 0 := by have := h0.1; grind
    have q0 := rat_num_den l0
    have q1 := rat_num_den l1
    have q2 := rat_num_den l2
    have c0 : ((l0.num.natAbs : Nat) : Rat) = (l0.num : Rat) := by
      conv => rhs; rw [e0]
      rfl
    have key : ∀ (s r : Rat) (m n : Int), s * E = m → r * E = n → (s * (l1 / l0) + r * (l2 / l0)) * ((E * (l1.den * l2.den * l0.num.natAbs) : Nat) : Rat) = ((m * (l1.num * l0.den * l2.den) + n * (l2.num * l0.den * l1.den) : Int) : Rat) := by
      intro s r m n hm hn
      rw [cast_mul_nat, cast_mul_nat, cast_mul_nat, c0, Rat.intCast_add, Rat.intCast_mul, Rat.intCast_mul, Rat.intCast_mul, Rat.intCast_mul, Rat.intCast_mul, Rat.intCast_mul, ← q0, ← q1, ← q2, ← hm, ← hn]
      have i0 : ((l0.den : Int) : Rat) = (l0.den : Rat) := rfl
      have i1 : ((l1.den : Int) : Rat) = (l1.den : Rat) := rfl
      have i2 : ((l2.den : Int) : Rat) = (l2.den : Rat) := rfl
      rw [i0, i1, i2]
      generalize (l0.den : Rat) = A
      generalize (l1.den : Rat) = C
      generalize (l2.den : Rat) = G
      generalize (E : Rat) = W
      clear q0 q1 q2 c0 hm hn
      grind
    have bnd : ∀ m n : Int, m.natAbs ≤ B → n.natAbs ≤ B → (m * (l1.num * l0.den * l2.den) + n * (l2.num * l0.den * l1.den) : Int).natAbs ≤ B * (2 * (N * M * M)) := by
      intro m n hm hn
      refine Nat.le_trans (Int.natAbs_add_le _ _) ?_
      rw [Int.natAbs_mul, Int.natAbs_mul, Int.natAbs_mul, Int.natAbs_mul, Int.natAbs_mul, Int.natAbs_mul, Int.natAbs_natCast, Int.natAbs_natCast, Int.natAbs_natCast]
      have r1 := Nat.mul_le_mul hm (Nat.mul_le_mul (Nat.mul_le_mul h1.2.1 h0.2.2) h2.2.2)
      have r2 := Nat.mul_le_mul hn (Nat.mul_le_mul (Nat.mul_le_mul h2.2.1 h0.2.2) h1.2.2)
      have e : B * (2 * (N * M * M)) = B * (N * M * M) + B * (N * M * M) := by rw [Nat.two_mul, Nat.mul_add]
      rw [e]
      exact Nat.add_le_add r1 r2
    exact ⟨_, _, key _ _ _ _ a1 b1, key _ _ _ _ a2 b2, bnd _ _ a3 b3, bnd _ _ a4 b4⟩
  · intro v hv
    refine (hv.scale _ (N * M * M) ?_).mono (Nat.mul_le_mul (Nat.le_refl _) (by omega))
    have q := Nat.mul_le_mul (Nat.mul_le_mul h1.2.2 h2.2.2) h0.2.1
    rw [show N * M * M = M * M * N by rw [Nat.mul_assoc, Nat.mul_comm]]
    exact q
theorem Tr.std_bd {N M : Nat} : ∀ {t : Tr} {lo : Nat} {L : Len} {a b : V2} {E B : Nat}, (∀ p ∈ t.all lo, szd (L p) N M) → vb a E B → vb b E B → ∃ k : Nat, 0 < k ∧ k ≤ (N * M * M) ^ (t.w - 1) ∧ ∀ i, vb (t.std lo L a b i) (E * k) (B * (2 * (N * M * M)) ^ (t.w - 1))
  | leaf, lo, L, a, b, E, B, _, ha, hb => ⟨1, by decide, by simp [w], fun i => by
      have e : (2 * (N * M * M)) ^ (leaf.w - 1) = 1 := by simp [w]
      rw [Nat.mul_one, e, Nat.mul_one]
      unfold std
      split
      · exact ha
      · exact hb⟩
  | node l r, lo, L, a, b, E, B, hL, ha, hb => by
    have wl := w_pos l
    have wr := w_pos r
    obtain ⟨k0, k0p, k0b, hc, hsc⟩ := vb_mix ha hb (hL _ (mem_root (l := l) (r := r))) (hL (lo + l.w, lo + (l.w + r.w)) (mem_r (by have := root_mem (t := r) (lo := lo + l.w); rw [Nat.add_assoc] at this; exact this))) (hL (lo, lo + l.w) (mem_l root_mem))
    obtain ⟨k1, k1p, k1b, h1⟩ := Tr.std_bd (t := l) (lo := lo) (L := L) (fun p hp => hL p (mem_l hp)) (hsc _ ha) hc
    obtain ⟨k2, k2p, k2b, h2⟩ := Tr.std_bd (t := r) (lo := lo + l.w) (L := L) (fun p hp => hL p (mem_r hp)) hc (hsc _ hb)
    have hw : (node l r).w - 1 = 1 + (l.w - 1) + (r.w - 1) := by show l.w + r.w - 1 = _; omega
    have one : ∀ m : Nat, (N * M * M) ^ m ≤ (2 * (N * M * M)) ^ m := fun m => Nat.pow_le_pow_left (by omega) m
    refine ⟨k0 * k1 * k2, Nat.mul_pos (Nat.mul_pos k0p k1p) k2p, ?_, fun i => ?_⟩
    · rw [hw, Nat.pow_add, Nat.pow_add, Nat.pow_one]
      exact Nat.mul_le_mul (Nat.mul_le_mul k0b k1b) k2b
    · rw [hw, Nat.pow_add, Nat.pow_add, Nat.pow_one]
      unfold std
      split
      · have q := (h1 i).scale k2 _ (Nat.le_trans k2b (one _))
        rw [show E * (k0 * k1 * k2) = E * k0 * k1 * k2 by rw [← Nat.mul_assoc, ← Nat.mul_assoc], show B * (2 * (N * M * M) * (2 * (N * M * M)) ^ (l.w - 1) * (2 * (N * M * M)) ^ (r.w - 1)) = B * (2 * (N * M * M)) * (2 * (N * M * M)) ^ (l.w - 1) * (2 * (N * M * M)) ^ (r.w - 1) by rw [← Nat.mul_assoc, ← Nat.mul_assoc]]
        exact q
      · have q := (h2 i).scale k1 _ (Nat.le_trans k1b (one _))
        rw [show E * (k0 * k1 * k2) = E * k0 * k2 * k1 by rw [← Nat.mul_assoc, ← Nat.mul_assoc, Nat.mul_right_comm], show B * (2 * (N * M * M) * (2 * (N * M * M)) ^ (l.w - 1) * (2 * (N * M * M)) ^ (r.w - 1)) = B * (2 * (N * M * M)) * (2 * (N * M * M)) ^ (r.w - 1) * (2 * (N * M * M)) ^ (l.w - 1) by rw [← Nat.mul_assoc, ← Nat.mul_assoc, Nat.mul_right_comm]]
        exact q
/-- lengths with tops below 2 ^ 10 and bottoms below 2 ^ 7 of up to 12 posts -/
theorem meas_bd {n : Nat} {t : Tr} {L : Len} (hw : t.w + 1 = n) (hn : n ≤ 12) (hL : ∀ p ∈ t.all 0, szd (L p) 1024 128) : ∃ F, Bd n (Mt t L) F 550 := by
  have r0 := hL _ (Tr.root_mem (t := t) (lo := 0))
  rw [Nat.zero_add] at r0
  have q0 := rat_num_den (L (0, t.w))
  have dp := Nat.pos_of_ne_zero (L (0, t.w)).den_nz
  have d1 : ((L (0, t.w)).den : Rat) * 1 = (((L (0, t.w)).den : Int) : Rat) := by rw [Rat.mul_one]; rfl
  obtain ⟨k, kp, kb, h⟩ := Tr.std_bd (t := t) (lo := 0) (L := L) (a := ⟨1, 0⟩) (b := ⟨0, L (0, t.w)⟩) (E := (L (0, t.w)).den) (B := 1024) hL
    ⟨(L (0, t.w)).den, 0, by simp only; rw [Rat.one_mul]; rfl, by simp only; rw [Rat.zero_mul]; rfl, by have := r0.2.2; omega, by omega⟩
    ⟨0, (L (0, t.w)).num, by simp only; rw [Rat.zero_mul]; rfl, q0, by omega, r0.2.1⟩
  generalize hE : (L (0, t.w)).den * k = E at h
  have Eb : E ≤ 2 ^ 260 := by
    rw [← hE]
    have : (1024 * 128 * 128) ^ (t.w - 1) ≤ (1024 * 128 * 128) ^ 10 := Nat.pow_le_pow_right (by decide) (by omega)
    refine Nat.le_trans (Nat.mul_le_mul r0.2.2 (Nat.le_trans kb this)) (by decide)
  have E0 : 0 < E := by rw [← hE]; exact Nat.mul_pos dp kp
  have Bb : 1024 * (2 * (1024 * 128 * 128)) ^ (t.w - 1) ≤ 2 ^ 260 := by
    have : (2 * (1024 * 128 * 128)) ^ (t.w - 1) ≤ (2 * (1024 * 128 * 128)) ^ 10 := Nat.pow_le_pow_right (by decide) (by omega)
    refine Nat.le_trans (Nat.mul_le_mul (Nat.le_refl _) this) (by decide)
  refine ⟨E * E, Nat.mul_pos E0 E0, Nat.lt_of_le_of_lt (Nat.mul_le_mul Eb Eb) (by decide), fun i k _ _ => ?_⟩
  obtain ⟨x, y, h1, h2, h3, h4⟩ := h i
  obtain ⟨z, u, g1, g2, g3, g4⟩ := h k
  refine ⟨x * u - z * y, ?_, ?_⟩
  · unfold Mt det
    rw [cast_mul_nat, Rat.intCast_sub, Rat.intCast_mul, Rat.intCast_mul, ← h1, ← h2, ← g1, ← g2]
    generalize (E : Rat) = W
    grind
  · have a1 : (x * u).natAbs ≤ 2 ^ 260 * 2 ^ 260 := by rw [Int.natAbs_mul]; exact Nat.mul_le_mul (Nat.le_trans h3 Bb) (Nat.le_trans g4 Bb)
    have a2 : (z * y).natAbs ≤ 2 ^ 260 * 2 ^ 260 := by rw [Int.natAbs_mul]; exact Nat.mul_le_mul (Nat.le_trans g3 Bb) (Nat.le_trans h4 Bb)
    have a3 := Int.natAbs_sub_le (x * u) (z * y)
    have a4 : 2 ^ 260 * 2 ^ 260 + 2 ^ 260 * 2 ^ 260 < 2 ^ 550 := by decide
    omega
end Pm
/-! ### tables: lists of lists of pairs -/
namespace Pm
open PySem PySem.Spec PyProof.Rows L2
/-- a row: a list of pairs -/
def Row (K : PySem.W.Frag) (H : Hp) (a : Addr) (row : List IP) : Prop := ∃ vs, H a = some (.lst vs) ∧ All2 (FrV K H) vs row
structure Tb (K : PySem.W.Frag) (H : Hp) (l : Addr) (as : List Addr) (R : List (List IP)) : Prop where
  top : H l = some (.lst (as.map V.ref))
  nd : as.Nodup
  out : l ∉ as
  rows : All2 (Row K H) as R
section
variable {K : PySem.W.Frag} {H H' : Hp} {l : Addr} {as : List Addr} {R : List (List IP)}
theorem frvs_keep (k : Keeps H H') {vs : List V} {row : List IP} (h : All2 (FrV K H) vs row) : All2 (FrV K H') vs row := h.mono fun _ _ q => q.keep k
theorem Row.same {a : Addr} {row : List IP} (h : Row K H a row) (s : Same H H') : Row K H' a row := by
  obtain ⟨vs, h1, h2⟩ := h
  exact ⟨vs, s _ _ h1, frvs_keep (keeps s) h2⟩
theorem Row.keep {a : Addr} {row : List IP} (h : Row K H a row) (k : Keeps H H') (e : H' a = H a) : Row K H' a row := by
  obtain ⟨vs, h1, h2⟩ := h
  exact ⟨vs, by rw [e]; exact h1, frvs_keep k h2⟩
theorem Tb.same (h : Tb K H l as R) (s : Same H H') : Tb K H' l as R := ⟨s _ _ h.top, h.nd, h.out, h.rows.mono fun _ _ q => q.same s⟩
theorem Tb.len (h : Tb K H l as R) : as.length = R.length := h.rows.length
theorem nodup_get {α : Type} : ∀ {l : List α} {i j : Nat} {x : α}, l.Nodup → l[i]? = some x → l[j]? = some x → i = j
  | [], i, j, x, _, h, _ => by simp at h
  | y :: l, 0, 0, x, _, _, _ => rfl
  | y :: l, 0, j + 1, x, n, h, k => by
    simp only [List.getElem?_cons_zero, Option.some.injEq, List.getElem?_cons_succ] at h k
    subst h
    exact absurd (List.mem_of_getElem? k) (List.nodup_cons.mp n).1
  | y :: l, i + 1, 0, x, n, h, k => by
    simp only [List.getElem?_cons_zero, Option.some.injEq, List.getElem?_cons_succ] at h k
    subst k
    exact absurd (List.mem_of_getElem? h) (List.nodup_cons.mp n).1
  | y :: l, i + 1, j + 1, x, n, h, k => by
    simp only [List.getElem?_cons_succ] at h k
    rw [nodup_get (List.nodup_cons.mp n).2 h k]
theorem all2_of_get {α β : Type} {P : α → β → Prop} : ∀ {xs : List α} {ys : List β}, xs.length = ys.length → (∀ (i : Nat) (x : α) (y : β), xs[i]? = some x → ys[i]? = some y → P x y) → All2 P xs ys
  | [], [], _, _ => trivial
  | x :: xs, [], h, _ => by simp at h
  | [], y :: ys, h, _ => by simp at h
  | x :: xs, y :: ys, h, f => ⟨f 0 x y rfl rfl, all2_of_get (by simpa using h) fun i a b ha hb => f (i + 1) a b (by simpa using ha) (by simpa using hb)⟩
theorem Tb.row (h : Tb K H l as R) {i : Nat} {row : List IP} (e : R[i]? = some row) : ∃ a vs, as[i]? = some a ∧ H a = some (.lst vs) ∧ All2 (FrV K H) vs row := by
  obtain ⟨a, ha, vs, h1, h2⟩ := h.rows.get' e
  exact ⟨a, vs, ha, h1, h2⟩
/-- a place of a table set -/
theorem Tb.put (h : Tb K H l as R) {i k : Nat} {a : Addr} {vs : List V} {row : List IP} {v : V} {p : IP} (e : R[i]? = some row) (ha : as[i]? = some a) (hv : H a = some (.lst vs)) (hr : All2 (FrV K H) vs row) (fv : FrV K H v p) :
    Tb K (upd H a (.lst (vs.set k v))) l as (R.set i (row.set k p)) := by
  have kp : Keeps H (upd H a (.lst (vs.set k v))) := keeps_lst hv
  have ma : a ∈ as := List.mem_of_getElem? ha
  have nl : l ≠ a := fun z => h.out (by rw [z]; exact ma)
  refine ⟨by rw [upd_ne nl]; exact h.top, h.nd, h.out, all2_of_get (by rw [List.length_set]; exact h.len) fun j b r hb hrj => ?_⟩
  by_cases z : j = i
  · subst z
    rw [ha] at hb
    cases hb
    have el : j < R.length := (List.getElem?_eq_some_iff.mp e).1
    rw [List.getElem?_set_self el] at hrj
    cases hrj
    exact ⟨_, upd_same, frvs_keep kp (hr.set k fv)⟩
  · rw [List.getElem?_set_ne (fun q => z q.symm)] at hrj
    obtain ⟨r', hr', q⟩ := h.rows.get hb
    rw [hrj] at hr'
    cases hr'
    exact q.keep kp (upd_ne fun q : b = a => z (nodup_get h.nd hb (by rw [q]; exact ha)))
end
/-- a square of n rows -/
def mat (n : Nat) (g : Nat → Nat → IP) : List (List IP) := (List.range n).map fun i => (List.range n).map fun k => g i k
theorem mat_row {n i : Nat} {g : Nat → Nat → IP} (h : i < n) : (mat n g)[i]? = some ((List.range n).map fun k => g i k) := by
  unfold mat
  rw [List.getElem?_map, List.getElem?_range h]
  rfl
theorem mat_len (n : Nat) (g : Nat → Nat → IP) : (mat n g).length = n := by unfold mat; rw [List.length_map, List.length_range]
theorem mat_congr {n : Nat} {g g' : Nat → Nat → IP} (h : ∀ i k, i < n → k < n → g i k = g' i k) : mat n g = mat n g' := by
  unfold mat
  refine List.map_congr_left fun i hi => List.map_congr_left fun k hk => ?_
  exact h i k (List.mem_range.mp hi) (List.mem_range.mp hk)
theorem map_set_range {n k : Nat} {f : Nat → IP} {p : IP} : ((List.range n).map f).set k p = (List.range n).map fun j => if j = k then p else f j := by
  refine List.ext_getElem? fun j => ?_
  by_cases z : j < n
  · rw [List.getElem?_map, List.getElem?_range z]
    by_cases e : j = k
    · subst e
      rw [List.getElem?_set_self (by rw [List.length_map, List.length_range]; exact z)]
      simp
    · rw [List.getElem?_set_ne (fun q => e q.symm), List.getElem?_map, List.getElem?_range z]
      simp [e]
  · rw [List.getElem?_eq_none (by rw [List.length_set, List.length_map, List.length_range]; omega), List.getElem?_eq_none (by rw [List.length_map, List.length_range]; omega)]
theorem mat_set {n i k : Nat} {g : Nat → Nat → IP} {p : IP} (hi : i < n) : (mat n g).set i (((List.range n).map fun j => g i j).set k p) = mat n fun x y => if x = i ∧ y = k then p else g x y := by
  rw [map_set_range]
  refine List.ext_getElem? fun j => ?_
  by_cases z : j < n
  · rw [mat_row z]
    by_cases e : j = i
    · subst e
      rw [List.getElem?_set_self (by rw [mat_len]; exact z)]
      simp
    · rw [List.getElem?_set_ne (fun q => e q.symm), mat_row z]
      simp [e]
  · rw [List.getElem?_eq_none (by rw [List.length_set, mat_len]; omega), List.getElem?_eq_none (by rw [mat_len]; omega)]
section
variable {K : PySem.W.Frag} {H : Hp} {Q : VK} {l : Addr} {as : List Addr} {n i k : Nat} {g : Nat → Nat → IP}
/-- rows[i] -/
theorem w_tbRow (h : Tb K H l as (mat n g)) (hi : i < n) {j : Int} (ej : j = (i : Int)) (q : ∀ a vs, as[i]? = some a → H a = some (.lst vs) → All2 (FrV K H) vs ((List.range n).map fun k => g i k) → Q (.ref a) H) : rIxL K (.ref l) (.int j) H Q := by
  obtain ⟨a, vs, ha, h1, h2⟩ := h.row (mat_row hi)
  subst ej
  refine w_ixL (v := .ref a) (SqL.of h.top) (atI_nat ?_) (q a vs ha h1 h2)
  rw [List.getElem?_map, ha]; rfl
/-- row[k] -/
theorem w_rowAt {a : Addr} {vs : List V} {f : Nat → IP} (h1 : H a = some (.lst vs)) (h2 : All2 (FrV K H) vs ((List.range n).map f)) (hk : k < n) {j : Int} (ej : j = (k : Int)) (q : ∀ t, FrV K H (.ref t) (f k) → Q (.ref t) H) : rIxL K (.ref a) (.int j) H Q := by
  have e : ((List.range n).map f)[k]? = some (f k) := by rw [List.getElem?_map, List.getElem?_range hk]; rfl
  obtain ⟨v, hv, t, rfl, ht⟩ := h2.get' e
  subst ej
  exact w_ixL (v := .ref t) (SqL.of h1) (atI_nat hv) (q t ⟨t, rfl, ht⟩)
end
/-- a new table -/
def TbNew (K : PySem.W.Frag) (H : Hp) (R : List (List IP)) (Q : VK) : Prop := ∀ (l : Addr) (H' : Hp) (as : List Addr), Same H H' → H l = none → (∀ a ∈ as, H a = none) → Tb K H' l as R → Q (.ref l) H'
/-- the table of pairs -/
def sprd (S : Nat → V2) (i k : Nat) : IP := rp (if i = k then 0 else det (S (min i k)) (S (max i k)))
/-! #### all posts are among so many -/
theorem nodup_le : ∀ {ks l : List Nat}, ks.Nodup → (∀ k ∈ ks, k ∈ l) → ks.length ≤ l.length
  | [], _, _, _ => Nat.zero_le _
  | k :: ks, l, hn, hs => by
    rw [List.nodup_cons] at hn
    have hk := hs k List.mem_cons_self
    have := nodup_le (l := l.erase k) hn.2 fun j hj => (List.mem_erase_of_ne (fun z : j = k => hn.1 (by rw [← z]; exact hj))).mpr (hs j (List.mem_cons_of_mem _ hj))
    rw [List.length_erase_of_mem hk] at this
    have := List.length_pos_of_mem hk
    simp only [List.length_cons]
    omega
theorem all_in {n : Nat} {ks : List Nat} (hn : ks.Nodup) (hs : ∀ k ∈ ks, k < n) (hl : n ≤ ks.length) {i : Nat} (hi : i < n) : i ∈ ks := by
  by_cases z : i ∈ ks
  · exact z
  · have := nodup_le (ks := i :: ks) (l := List.range n) (List.nodup_cons.mpr ⟨z, hn⟩) fun k hk => by
      rcases List.mem_cons.mp hk with rfl | hk
      · exact List.mem_range.mpr hi
      · exact List.mem_range.mpr (hs k hk)
    rw [List.length_range, List.length_cons] at this
    omega
theorem nodup_bd {n : Nat} {ks : List Nat} (hn : ks.Nodup) (hs : ∀ k ∈ ks, k < n) : ks.length ≤ n := by
  have := nodup_le (l := List.range n) hn fun k hk => List.mem_range.mpr (hs k hk)
  rw [List.length_range] at this
  exact this
/-! #### posts that stand, plot by plot -/
def st3 (ks : List Nat) (x y z : Nat) : List Nat := if x ∈ ks ∧ y ∈ ks ∧ z ∉ ks then ks ++ [z] else ks
def st9 (ks : List Nat) (q : Nat × Nat × Nat) : List Nat := st3 (st3 (st3 ks q.1 q.2.1 q.2.2) q.1 q.2.2 q.2.1) q.2.1 q.2.2 q.1
theorem st3_cases (ks : List Nat) (x y z : Nat) : (st3 ks x y z = ks ∧ (x ∈ ks → y ∈ ks → z ∈ ks)) ∨ (st3 ks x y z = ks ++ [z] ∧ z ∉ ks) := by
  unfold st3
  split
  · rename_i h
    exact .inr ⟨rfl, h.2.2⟩
  · rename_i h
    exact .inl ⟨rfl, fun a b => by
      by_cases c : z ∈ ks
      · exact c
      · exact absurd ⟨a, b, c⟩ h⟩
theorem st3_len (ks : List Nat) (x y z : Nat) : ks.length ≤ (st3 ks x y z).length ∧ ((st3 ks x y z).length = ks.length → st3 ks x y z = ks) := by
  rcases st3_cases ks x y z with ⟨h, _⟩ | ⟨h, _⟩
  · rw [h]; exact ⟨Nat.le_refl _, fun _ => rfl⟩
  · rw [h, List.length_append, List.length_singleton]; exact ⟨by omega, fun z => by omega⟩
theorem st9_len (ks : List Nat) (q : Nat × Nat × Nat) : ks.length ≤ (st9 ks q).length := by
  unfold st9
  exact Nat.le_trans (Nat.le_trans (st3_len ks q.1 q.2.1 q.2.2).1 (st3_len _ q.1 q.2.2 q.2.1).1) (st3_len _ q.2.1 q.2.2 q.1).1
theorem st9_same {ks : List Nat} {q : Nat × Nat × Nat} (h : (st9 ks q).length = ks.length) : st9 ks q = ks ∧ (q.1 ∈ ks → q.2.1 ∈ ks → q.2.2 ∈ ks) ∧ (q.1 ∈ ks → q.2.2 ∈ ks → q.2.1 ∈ ks) ∧ (q.2.1 ∈ ks → q.2.2 ∈ ks → q.1 ∈ ks) := by
  unfold st9 at h ⊢
  have a1 := st3_len ks q.1 q.2.1 q.2.2
  have a2 := st3_len (st3 ks q.1 q.2.1 q.2.2) q.1 q.2.2 q.2.1
  have a3 := st3_len (st3 (st3 ks q.1 q.2.1 q.2.2) q.1 q.2.2 q.2.1) q.2.1 q.2.2 q.1
  have e1 := a1.2 (by omega)
  rw [e1] at a2 a3 h ⊢
  have e2 := a2.2 (by omega)
  rw [e2] at a3 h ⊢
  have e3 := a3.2 (by omega)
  refine ⟨e3, ?_, ?_, ?_⟩
  · rcases st3_cases ks q.1 q.2.1 q.2.2 with ⟨_, h⟩ | ⟨h, _⟩
    · exact h
    · rw [e1] at h; exact absurd (congrArg List.length h) (by rw [List.length_append, List.length_singleton]; omega)
  · rcases st3_cases ks q.1 q.2.2 q.2.1 with ⟨_, h⟩ | ⟨h, _⟩
    · exact h
    · rw [e2] at h; exact absurd (congrArg List.length h) (by rw [List.length_append, List.length_singleton]; omega)
  · rcases st3_cases ks q.2.1 q.2.2 q.1 with ⟨_, h⟩ | ⟨h, _⟩
    · exact h
    · rw [e3] at h; exact absurd (congrArg List.length h) (by rw [List.length_append, List.length_singleton]; omega)
theorem st3_mem {ks : List Nat} {x y z n : Nat} (h : ∀ k ∈ ks, k < n) (hz : z < n) : ∀ k ∈ st3 ks x y z, k < n := by
  rcases st3_cases ks x y z with ⟨e, _⟩ | ⟨e, _⟩
  · rw [e]; exact h
  · rw [e]
    intro k hk
    rcases List.mem_append.mp hk with q | q
    · exact h k q
    · rw [List.mem_singleton.mp q]; exact hz
theorem st3_sub {ks : List Nat} {x y z k : Nat} (h : k ∈ ks) : k ∈ st3 ks x y z := by
  rcases st3_cases ks x y z with ⟨e, _⟩ | ⟨e, _⟩
  · rw [e]; exact h
  · rw [e]; exact List.mem_append.mpr (.inl h)
theorem st9_sub {ks : List Nat} {q : Nat × Nat × Nat} {k : Nat} (h : k ∈ ks) : k ∈ st9 ks q := st3_sub (st3_sub (st3_sub h))
def runs (ks : List Nat) (qs : List (Nat × Nat × Nat)) : List Nat := qs.foldl st9 ks
theorem runs_snoc (ks : List Nat) (qs : List (Nat × Nat × Nat)) (q : Nat × Nat × Nat) : runs ks (qs ++ [q]) = st9 (runs ks qs) q := by unfold runs; rw [List.foldl_append]; rfl
theorem runs_len : ∀ (qs : List (Nat × Nat × Nat)) (ks : List Nat), ks.length ≤ (runs ks qs).length
  | [], ks => Nat.le_refl _
  | q :: qs, ks => Nat.le_trans (st9_len ks q) (runs_len qs (st9 ks q))
theorem runs_sub : ∀ {qs : List (Nat × Nat × Nat)} {ks : List Nat} {k : Nat}, k ∈ ks → k ∈ runs ks qs
  | [], ks, k, h => h
  | q :: qs, ks, k, h => runs_sub (qs := qs) (st9_sub h)
theorem runs_same : ∀ {qs : List (Nat × Nat × Nat)} {ks : List Nat}, (runs ks qs).length = ks.length → ∀ q ∈ qs, (q.1 ∈ ks → q.2.1 ∈ ks → q.2.2 ∈ ks) ∧ (q.1 ∈ ks → q.2.2 ∈ ks → q.2.1 ∈ ks) ∧ (q.2.1 ∈ ks → q.2.2 ∈ ks → q.1 ∈ ks)
  | [], ks, _, q, h => nomatch h
  | p :: qs, ks, h, q, hq => by
    have l1 := st9_len ks p
    have l2 := runs_len qs (st9 ks p)
    have h' : (runs (st9 ks p) qs).length = ks.length := h
    obtain ⟨e, r⟩ := st9_same (ks := ks) (q := p) (by omega)
    rcases List.mem_cons.mp hq with rfl | hq
    · exact r
    · rw [e] at h'
      exact runs_same h' q hq
/-- a pass over all plots brings a post more, unless all stand -/
theorem runs_more {n : Nat} {cut : List IP} {t : Tr} (C : Cutting n cut t) {qs : List (Nat × Nat × Nat)} (hq : ∀ q, q ∈ t.plots 0 → q ∈ qs) {ks : List Nat} (hn : ks.Nodup) {a b : Nat} (hab : (a, b) ∈ t.all 0) (ha : a ∈ ks) (hb : b ∈ ks) (hl : ks.length < n) (hs : ∀ k ∈ ks, k < n) : ks.length < (runs ks qs).length := by
  rcases Nat.lt_or_ge ks.length (runs ks qs).length with z | z
  · exact z
  · have e : (runs ks qs).length = ks.length := Nat.le_antisymm z (runs_len qs ks)
    have cl := runs_same e
    have w := C.w
    have all : ∀ i, i < n → i ∈ ks := fun i hi => Tr.closed_all (t := t) (Z := fun k => k ∈ ks) (fun x y z h => cl (x, y, z) (hq _ h)) hab ha hb (by omega)
    have := nodup_le (ks := List.range n) (l := ks) List.nodup_range fun k hk => all k (List.mem_range.mp hk)
    rw [List.length_range] at this
    omega
theorem Tr.inn_len' : ∀ (t : Tr) (lo : Nat), (t.inn lo).length + 1 = t.w
  | .leaf, lo => by simp [Tr.inn, Tr.w]
  | .node l r, lo => by
    have h1 := Tr.inn_len' l lo
    have h2 := Tr.inn_len' r (lo + l.w)
    simp only [Tr.inn, Tr.w, List.length_cons, List.length_append]
    omega
theorem Cutting.cut_len {n : Nat} {cut : List IP} {t : Tr} (C : Cutting n cut t) : cut.length + 3 = n := by
  have h := C.perm.length_eq
  have w := C.w
  rw [List.length_map] at h
  have q := t.inn_len' 0
  rw [Tr.inn_node C.w2, List.length_cons] at q
  have := C.w2
  omega
/-! #### comprehensions that make rows -/
structure RowsAt (K : PySem.W.Frag) (H0 H : Hp) (D : Addr) (f : Nat → List IP) (i : Nat) (as : List Addr) : Prop where
  same : Same H0 H
  top : H D = some (.lst (as.map V.ref))
  nd : as.Nodup
  out : D ∉ as
  fresh : ∀ a ∈ as, H0 a = none
  rows : All2 (Row K H) as ((List.range i).map f)
theorem RowsAt.put {K : PySem.W.Frag} {H0 H1 H2 : Hp} {D r : Addr} {f : Nat → List IP} {i : Nat} {as : List Addr} (h : RowsAt K H0 H1 D f i as) (hD : H0 D = none) (s : Same H1 H2) (nr : H1 r = none) (hr : Row K H2 r (f i)) : RowsAt K H0 (upd H2 D (.lst (as.map V.ref ++ [.ref r]))) D f (i + 1) (as ++ [r]) := by
  have top2 := s _ _ h.top
  have kp : Keeps H2 (upd H2 D (.lst (as.map V.ref ++ [.ref r]))) := keeps_lst top2
  have nD : r ≠ D := (ne_of_none h.top nr).symm
  have na : r ∉ as := fun z => by
    obtain ⟨row, _, vs, e, _⟩ := h.rows.mem z
    rw [nr] at e
    cases e
  refine ⟨same_but hD (h.same.trans s), by rw [upd_same, List.map_append]; rfl, ?_, ?_, ?_, ?_⟩
  · rw [List.nodup_append]
    exact ⟨h.nd, by simp, fun a ha b hb => by rw [List.mem_singleton.mp hb]; rintro rfl; exact na ha⟩
  · intro z
    rcases List.mem_append.mp z with z | z
    · exact h.out z
    · exact nD (List.mem_singleton.mp z).symm
  · intro a ha
    rcases List.mem_append.mp ha with z | z
    · exact h.fresh a z
    · rw [List.mem_singleton.mp z]; exact h.same.free nr
  · rw [List.range_succ, List.map_append]
    refine All2.append ?_ ⟨hr.keep kp (upd_ne nD), trivial⟩
    refine all2_of_get (by have := h.rows.length; exact this) fun j b row hb hrow => ?_
    obtain ⟨row', e', q⟩ := h.rows.get hb
    rw [hrow] at e'
    cases e'
    have nb : b ≠ D := fun z => h.out (by rw [← z]; exact List.mem_of_getElem? hb)
    exact (q.same s).keep kp (upd_ne nb)
section
variable {K : PySem.W.Frag} {H : Hp} {Q : VK} {σ : L2.St} {vs : List Nat} {g : TG} {tt : TT} {te : TE}
theorem w_lcRowsL {a : Addr} {xs : List V} (hl : SqL K H a xs) (f : Nat → List IP) (hx : xs.length < 1000000)
    (step : ∀ D i x H1 Nx, H D = none → xs[i]? = some x → Same H H1 → (∀ r H2, Same H1 H2 → H1 r = none → Row K H2 r (f i) → LcPut D Nx (.ref r) H2) → g x (wipe σ vs) H1 (LcTurn tt te vs σ D Nx))
    (done : ∀ D H1 as, H D = none → Same H H1 → (∀ a ∈ as, H a = none) → Tb K H1 D as ((List.range xs.length).map f) → Q (.ref D) H1) : LcB g tt te vs σ Q (Itl K a) H := by
  refine w_lcL (xs := xs) fun D hD => ⟨fun i H1 => ∃ as, RowsAt K H H1 D f i as, ?_, ?_, ?_, ?_⟩
  · exact ⟨[], same_new hD _, upd_same, List.nodup_nil, List.not_mem_nil, (fun _ h => nomatch h), trivial⟩
  · rintro i H1 _ ⟨as, h⟩
    exact h.same.seq hl
  · rintro i x H1 hi ⟨as, h⟩
    refine step D i x H1 _ hD hi h.same fun r H2 s nr hr => ?_
    have la : as.length = i := by have := h.rows.length; rw [List.length_map, List.length_range] at this; exact this
    have li : i < xs.length := (List.getElem?_eq_some_iff.mp hi).1
    exact w_put (s _ _ h.top) (size_lt (by rw [List.length_map]; omega)) ⟨_, h.put hD s nr hr⟩
  · rintro H1 ⟨as, h⟩
    exact done D H1 as hD h.same h.fresh ⟨h.top, h.nd, h.out, h.rows⟩
theorem w_lcRowsR {lo : Int} {n : Nat} (f : Nat → List IP) (hx : n < 1000000)
    (step : ∀ D i H1 Nx, H D = none → i < n → Same H H1 → (∀ r H2, Same H1 H2 → H1 r = none → Row K H2 r (f i) → LcPut D Nx (.ref r) H2) → g (.int (lo + (i : Nat))) (wipe σ vs) H1 (LcTurn tt te vs σ D Nx))
    (done : ∀ D H1 as, H D = none → Same H H1 → (∀ a ∈ as, H a = none) → Tb K H1 D as ((List.range n).map f) → Q (.ref D) H1) : LcB g tt te vs σ Q (Itr lo n) H := by
  refine w_lcR fun D hD => ⟨fun i H1 => ∃ as, RowsAt K H H1 D f i as, ?_, ?_, ?_⟩
  · exact ⟨[], same_new hD _, upd_same, List.nodup_nil, List.not_mem_nil, (fun _ h => nomatch h), trivial⟩
  · rintro i H1 hi ⟨as, h⟩
    refine step D i H1 _ hD hi h.same fun r H2 s nr hr => ?_
    have la : as.length = i := by have := h.rows.length; rw [List.length_map, List.length_range] at this; exact this
    exact w_put (s _ _ h.top) (size_lt (by rw [List.length_map]; omega)) ⟨_, h.put hD s nr hr⟩
  · rintro H1 ⟨as, h⟩
    exact done D H1 as hD h.same h.fresh ⟨h.top, h.nd, h.out, h.rows⟩
end
/-! #### a table filled pair by pair -/
/-- what is set once all pairs below k, and those of k with less than i, are -/
def fil (S : Nat → V2) (k i x y : Nat) : IP := rp (if x ≠ y ∧ (max x y < k ∨ (max x y = k ∧ min x y < i)) then det (S (min x y)) (S (max x y)) else 0)
theorem fil_zero (S : Nat → V2) (x y : Nat) : fil S 0 0 x y = rp 0 := by
  unfold fil
  rw [if_neg (by omega)]
theorem fil_next (S : Nat → V2) (k x y : Nat) : fil S k k x y = fil S (k + 1) 0 x y := by
  unfold fil
  congr 1
  by_cases h : x ≠ y ∧ (max x y < k ∨ (max x y = k ∧ min x y < k))
  · rw [if_pos h, if_pos (by omega)]
  · rw [if_neg h, if_neg (by omega)]
theorem fil_set (S : Nat → V2) {k i : Nat} (h : i < k) (x y : Nat) : (if x = k ∧ y = i then rp (det (S i) (S k)) else if x = i ∧ y = k then rp (det (S i) (S k)) else fil S k i x y) = fil S k (i + 1) x y := by
  unfold fil
  by_cases h1 : x = k ∧ y = i
  · obtain ⟨rfl, rfl⟩ := h1
    rw [if_pos ⟨rfl, rfl⟩, if_pos (by omega), Nat.min_eq_right (by omega), Nat.max_eq_left (by omega)]
  · rw [if_neg h1]
    by_cases h2 : x = i ∧ y = k
    · obtain ⟨rfl, rfl⟩ := h2
      rw [if_pos ⟨rfl, rfl⟩, if_pos (by omega), Nat.min_eq_left (by omega), Nat.max_eq_right (by omega)]
    · rw [if_neg h2]
      congr 1
      by_cases h3 : x ≠ y ∧ (max x y < k ∨ (max x y = k ∧ min x y < i))
      · rw [if_pos h3, if_pos (by omega)]
      · rw [if_neg h3, if_neg (by omega)]
theorem fil_all (S : Nat → V2) {n x y : Nat} (hx : x < n) (hy : y < n) : fil S n 0 x y = sprd S x y := by
  unfold fil sprd
  congr 1
  by_cases h : x = y
  · rw [if_pos h, if_neg (by omega)]
  · rw [if_neg h, if_pos (by omega)]
theorem row_set {K : PySem.W.Frag} {H : Hp} {l a : Addr} {as : List Addr} {n i k : Nat} {g : Nat → Nat → IP} {vs : List V} {v : V} {p : IP} (h : Tb K H l as (mat n g)) (hi : i < n) (ha : as[i]? = some a) (hv : H a = some (.lst vs)) (hr : All2 (FrV K H) vs ((List.range n).map fun k => g i k)) (fv : FrV K H v p) :
    Tb K (upd H a (.lst (vs.set k v))) l as (mat n fun x y => if x = i ∧ y = k then p else g x y) := by
  have q := h.put (k := k) (mat_row hi) ha hv hr fv
  rw [mat_set hi] at q
  exact q
end Pm
/-! ### None, lists turned about -/
namespace Pm
open PySem PySem.Spec PyProof.Rows L2
/-! #### None -/
def rNotN : R2 := fun x y H Q => y = .non ∧ Q (.bl (!decide (x = .non))) H
def rIsN : R2 := fun x y H Q => y = .non ∧ Q (.bl (decide (x = .non))) H
theorem op_notNK {X : Cx} : OpR X (compareOp .IsNot) rNotN := op_notN
theorem op_isNK {X : Cx} : OpR X (compareOp .Is) rIsN := op_isN
section
variable {H : Hp} {Q : VK} {a : Addr}
theorem w_notN_ref (h : Q (.bl true) H) : rNotN (.ref a) .non H Q := ⟨rfl, h⟩
theorem w_notN_non (h : Q (.bl false) H) : rNotN .non .non H Q := ⟨rfl, h⟩
theorem w_isN_ref (h : Q (.bl false) H) : rIsN (.ref a) .non H Q := ⟨rfl, h⟩
theorem w_isN_non (h : Q (.bl true) H) : rIsN .non .non H Q := ⟨rfl, h⟩
end
theorem k_revL {X : Cx} {K : PySem.W.Frag} {ex : Expr} {te : TE} (h : PE X ex (tRevL X.K te)) (e : X.K = K := by rfl) : PE X ex (tRevL K te) := e ▸ h
def RevK (K : PySem.W.Frag) (Q : VK) : VK := fun x H1 => ∃ a xs, x = .ref a ∧ SqL K H1 a xs ∧ ∀ p, H1 p = none → Q (.ref p) (upd H1 p (.lst xs.reverse))
theorem w_revL {K : PySem.W.Frag} {te : TE} {σ : L2.St} {H : Hp} {Q : VK} (h : te σ H (RevK K Q)) : tRevL K te σ H Q := h
theorem w_revK {K : PySem.W.Frag} {H : Hp} {Q : VK} {a : Addr} {xs : List V} (hl : SqL K H a xs) (h : ∀ p, H p = none → Q (.ref p) (upd H p (.lst xs.reverse))) : RevK K Q (.ref a) H := ⟨a, xs, rfl, hl, h⟩
theorem All2.reverse {α β : Type} {R : α → β → Prop} : ∀ {xs : List α} {ys : List β}, All2 R xs ys → All2 R xs.reverse ys.reverse
  | [], [], _ => trivial
  | _ :: _, _ :: _, h => by
    rw [List.reverse_cons, List.reverse_cons]
    exact h.2.reverse.snoc h.1
theorem cr_sortIK {X : Cx} {K : PySem.W.Frag} (e : X.K = K := by rfl) : CallR X (.builtin "sorted") (rSortedI K) := e ▸ cr_sortedI
/-- sorted of a list of numbers -/
theorem w_sortI {K : PySem.W.Frag} {H : Hp} {Q : VK} {a : Addr} {ns ms : List Int} (hl : SqL K H a (ns.map V.int)) (hp : ms.Perm ns) (hs : ms.Pairwise (· ≤ ·)) (q : ∀ p, H p = none → Q (.ref p) (upd H p (.lst (ms.map V.int)))) : rSortedI K [.ref a] H Q := by
  refine ⟨a, ns, rfl, hl, fun ns' p h1 h2 h3 => ?_⟩
  have e : ns' = ms := List.Perm.eq_of_pairwise (le := fun a b => a ≤ b) (fun a b _ _ x y => by omega) h2 hs (h1.trans hp.symm)
  rw [e]
  exact q p h3
end Pm
/-! ### ears put back one by one: the ties of each, and where its posts stand -/
namespace Pm
theorem mod_next {i m : Nat} (h : i < m) : (i + 1) % m = if i + 1 = m then 0 else i + 1 := by
  split
  · rename_i e; rw [e, Nat.mod_self]
  · exact Nat.mod_eq_of_lt (by omega)
theorem mod_prev {i m : Nat} (h : i < m) : (i + m - 1) % m = if i = 0 then m - 1 else i - 1 := by
  split
  · rename_i e; subst e; rw [Nat.zero_add]; exact Nat.mod_eq_of_lt (by omega)
  · rw [show i + m - 1 = (i - 1) + m by omega, Nat.add_mod_right]; exact Nat.mod_eq_of_lt (by omega)
/-- each two neighbours of a ring are tied -/
def Ring (T : List IP) (L : List Int) : Prop := ∀ i, i < L.length → tieOf (L.getD i 0) (L.getD (if i + 1 = L.length then 0 else i + 1) 0) ∈ T
theorem getD_mem {L : List Int} {i : Nat} (h : i < L.length) : L.getD i 0 ∈ L := by
  rw [List.getD_eq_getElem?_getD, List.getElem?_eq_getElem h]
  exact List.getElem_mem h
theorem ring_erase {T : List IP} {L : List Int} {k : Nat} (h : Ring T L) (h3 : 3 < L.length) (hk : k < L.length) (hr : tieOf (L.getD (if k = 0 then L.length - 1 else k - 1) 0) (L.getD (if k + 1 = L.length then 0 else k + 1) 0) ∈ T) : Ring T (L.eraseIdx k) := by
  have le : (L.eraseIdx k).length = L.length - 1 := List.length_eraseIdx_of_lt hk
  intro i hi
  rw [le] at hi ⊢
  rw [getD_erase, getD_erase]
  unfold Tr.sk
  by_cases last : i + 1 = L.length - 1
  · rw [if_pos last]
    by_cases k0 : k = 0
    · subst k0
      rw [if_pos rfl, if_neg (by omega)] at hr
      rw [if_neg (by omega), if_neg (by omega), last]
      exact hr
    · rw [if_neg k0] at hr
      by_cases km : k + 1 = L.length
      · rw [if_pos km] at hr
        rw [if_pos (by omega), if_pos (by omega), show i = k - 1 by omega]
        exact hr
      · rw [if_neg (by omega), if_pos (by omega)]
        have q := h (i + 1) (by omega)
        rw [if_pos (by omega)] at q
        exact q
  · rw [if_neg last]
    by_cases c1 : i + 1 < k
    · rw [if_pos (by omega), if_pos c1]
      have q := h i (by omega)
      rw [if_neg (by omega)] at q
      exact q
    · by_cases c2 : i < k
      · rw [if_neg (show ¬ k = 0 by omega), if_neg (by omega)] at hr
        rw [if_pos c2, if_neg c1, show i = k - 1 by omega, show k - 1 + 1 + 1 = k + 1 by omega]
        exact hr
      · rw [if_neg c2, if_neg c1]
        have q := h (i + 1) (by omega)
        rw [if_neg (by omega)] at q
        exact q
/-- the ears of rs put back one by one to the three posts F -/
structure EarOk (T : List IP) (Z : List Int) (e : Ear) : Prop where
  a : e.2.1 ∈ Z
  b : e.2.2 ∈ Z
  out : e.1 ∉ Z
  ab : tieOf e.2.1 e.2.2 ∈ T
  pa : tieOf e.1 e.2.1 ∈ T
  pb : tieOf e.1 e.2.2 ∈ T
  ne : e.2.1 ≠ e.2.2
def Built (T : List IP) (F : List Int) (rs : List Ear) : Prop := ∀ (i : Nat) e, rs[i]? = some e → EarOk T (F ++ (rs.take i).map (·.1)) e
theorem mem_erase_iff {L : List Int} {k : Nat} (rise : L.Pairwise (· < ·)) (hk : k < L.length) (x : Int) : x ∈ L.eraseIdx k ↔ x ∈ L ∧ x ≠ L.getD k 0 := by
  constructor
  · intro h
    refine ⟨List.mem_of_mem_eraseIdx h, fun e => ?_⟩
    obtain ⟨i, hi, ei⟩ := List.mem_iff_getElem.mp h
    have le : (L.eraseIdx k).length = L.length - 1 := List.length_eraseIdx_of_lt hk
    have g := getD_erase L k i
    rw [List.getD_eq_getElem?_getD, List.getElem?_eq_getElem hi, Option.getD_some, ei, e] at g
    unfold Tr.sk at g
    split at g
    · rename_i c
      have := rise_get rise c hk
      omega
    · rename_i c
      have := rise_get rise (show k < i + 1 by omega) (by omega)
      omega
  · rintro ⟨h, ne⟩
    obtain ⟨i, hi, ei⟩ := List.mem_iff_getElem.mp h
    have ei' : L.getD i 0 = x := by rw [List.getD_eq_getElem?_getD, List.getElem?_eq_getElem hi]; exact ei
    have nk : i ≠ k := fun z => ne (by rw [← ei', z])
    have le : (L.eraseIdx k).length = L.length - 1 := List.length_eraseIdx_of_lt hk
    by_cases c : i < k
    · have g := getD_erase L k i
      unfold Tr.sk at g
      rw [if_pos c, ei'] at g
      rw [← g]
      exact getD_mem (by omega)
    · have g := getD_erase L k (i - 1)
      unfold Tr.sk at g
      rw [if_neg (by omega), show i - 1 + 1 = i by omega, ei'] at g
      rw [← g]
      exact getD_mem (by omega)
theorem ears_built {T : List IP} {L : List Int} {es : List Ear} (h : Ears L es) : L.Pairwise (· < ·) → 3 ≤ L.length → (∀ e ∈ es, ropeOf e ∈ T) → Ring T L →
    ∃ F : List Int, F.length = 3 ∧ F.Pairwise (· < ·) ∧ Ring T F ∧ (∀ x, x ∈ L ↔ x ∈ F ∨ x ∈ es.map (·.1)) ∧ (∀ x ∈ F, x ∉ es.map (·.1)) ∧ Built T F es.reverse := by
  induction h with
  | @done L h =>
    intro rise h3 _ ring
    exact ⟨L, by omega, rise, ring, (fun x => by simp), (fun x _ => by simp), (fun i e h => by simp at h)⟩
  | @step L es k h3 hk _ ih =>
    intro rise _ hT ring
    have le : (L.eraseIdx k).length = L.length - 1 := List.length_eraseIdx_of_lt hk
    have hr := hT _ List.mem_cons_self
    have hr' : tieOf (L.getD (if k = 0 then L.length - 1 else k - 1) 0) (L.getD (if k + 1 = L.length then 0 else k + 1) 0) ∈ T := by
      unfold ropeOf at hr
      simp only at hr
      rw [mod_next hk, mod_prev hk] at hr
      exact hr
    obtain ⟨F, f3, fr, fR, fm, fo, fb⟩ := ih (rise.sublist (List.eraseIdx_sublist L k)) (by omega) (fun e he => hT e (List.mem_cons_of_mem _ he)) (ring_erase ring h3 hk hr')
    have mi := mem_erase_iff rise hk
    refine ⟨F, f3, fr, fR, fun x => ?_, fun x hx => ?_, ?_⟩
    · rw [List.map_cons, List.mem_cons]
      have q := mi x
      rw [fm x] at q
      constructor
      · intro hx
        by_cases e : x = L.getD k 0
        · exact .inr (.inl e)
        · rcases q.mpr ⟨hx, e⟩ with z | z
          · exact .inl z
          · exact .inr (.inr z)
      · rintro (z | z | z)
        · exact (q.mp (.inl z)).1
        · rw [z]; exact getD_mem hk
        · exact (q.mp (.inr z)).1
    · rw [List.map_cons, List.mem_cons]
      rintro (z | z)
      · exact ((mi x).mp ((fm x).mpr (.inl hx))).2 z
      · exact fo x hx z
    · rw [List.reverse_cons]
      intro i e he
      by_cases c : i < es.reverse.length
      · rw [List.getElem?_append_left c] at he
        rw [List.take_append_of_le_length (Nat.le_of_lt c)]
        exact fb i e he
      · have hi : i = es.reverse.length := by
          have := (List.getElem?_eq_some_iff.mp he).1
          rw [List.length_append, List.length_singleton] at this
          omega
        subst hi
        rw [List.getElem?_append_right (Nat.le_refl _), Nat.sub_self] at he
        simp only [List.getElem?_cons_zero, Option.some.injEq] at he
        subst he
        rw [List.take_append_of_le_length (Nat.le_refl _), List.take_length]
        have Z : ∀ x, x ∈ F ++ es.reverse.map (·.1) ↔ x ∈ L ∧ x ≠ L.getD k 0 := fun x => by
          rw [← mi x, fm x, List.mem_append, List.map_reverse, List.mem_reverse]
        have kn : ∀ j, j < L.length → j ≠ k → L.getD j 0 ∈ L ∧ L.getD j 0 ≠ L.getD k 0 := fun j hj ne => ⟨getD_mem hj, fun e => by
          rcases Nat.lt_or_gt_of_ne ne with z | z
          · have := rise_get rise z hk; omega
          · have := rise_get rise z hj; omega⟩
        have r1 := ring k hk
        have r2 := ring (if k = 0 then L.length - 1 else k - 1) (by split <;> omega)
        have r2' : tieOf (L.getD (if k = 0 then L.length - 1 else k - 1) 0) (L.getD k 0) ∈ T := by
          by_cases k0 : k = 0
          · subst k0
            rw [if_pos rfl, if_pos (by omega)] at r2
            rw [if_pos rfl]
            exact r2
          · rw [if_neg k0, if_neg (by omega), show k - 1 + 1 = k by omega] at r2
            rw [if_neg k0]
            exact r2
        refine ⟨?_, ?_, ?_, ?_, ?_, ?_, ?_⟩
        · simp only
          rw [mod_prev hk, Z]
          exact kn _ (by split <;> omega) (by split <;> omega)
        · simp only
          rw [mod_next hk, Z]
          exact kn _ (by split <;> omega) (by split <;> omega)
        · simp only
          rw [Z]
          exact fun z => z.2 rfl
        · simp only
          rw [mod_prev hk, mod_next hk]
          exact hr'
        · simp only
          rw [mod_prev hk, tie_comm]
          exact r2'
        · simp only
          rw [mod_next hk]
          exact r1
        · simp only
          rw [mod_prev hk, mod_next hk]
          intro e
          have a : ∀ i j, i < L.length → j < L.length → i ≠ j → L.getD i 0 ≠ L.getD j 0 := fun i j hi hj ne e => by
            rcases Nat.lt_or_gt_of_ne ne with z | z
            · have := rise_get rise z hj; omega
            · have := rise_get rise z hi; omega
          refine a _ _ (by split <;> omega) (by split <;> omega) ?_ e
          split <;> split <;> omega
theorem ring_posts {n : Nat} {cut : List IP} (hn : 3 ≤ n) : Ring (tiesL n cut) (posts n) := by
  intro i hi
  rw [posts_len] at hi ⊢
  rw [posts_get hi]
  rw [mem_ties]
  refine .inl ((mem_sides0 (by omega)).mpr ?_)
  by_cases c : i + 1 = n
  · rw [if_pos c, posts_get (by omega)]
    refine .inr ?_
    rw [tie_cast, Nat.min_eq_right (by omega), Nat.max_eq_left (by omega), show i = n - 1 by omega]
  · rw [if_neg c, posts_get (by omega)]
    exact .inl ⟨i, by omega, by rw [tie_cast, Nat.min_eq_left (by omega), Nat.max_eq_right (by omega)]⟩
theorem pairwise_lt_eq {l l' : List Int} (h : l.Pairwise (· < ·)) (h' : l'.Pairwise (· < ·)) (e : ∀ x, x ∈ l ↔ x ∈ l') : l = l' := by
  have nd : ∀ {l : List Int}, l.Pairwise (· < ·) → l.Nodup := fun h => h.imp fun q => by omega
  refine List.Perm.eq_of_pairwise (le := fun a b => a < b) (fun a b _ _ h1 h2 => by omega) h h' ?_
  exact (List.perm_ext_iff_of_nodup (nd h) (nd h')).mpr e
section
open PySem PySem.Spec PyProof.Rows L2
variable {β : Type} {R : Hp → V → β → Prop} {H : Hp} {Q : VK} {σ : L2.St} {vs : List Nat} {g : TG} {tt : TT} {te : TE}
/-- [f(k) for k in range(n) if p(k)] -/
theorem w_lcRf (mono : ∀ H H' v b, Keeps H H' → R H v b → R H' v b) {lo : Int} {n : Nat} (f : Nat → β) (pr : Nat → Bool) (hn : n < 1000000)
    (body : ∀ D i H1 (Nx : Hp → Prop), H D = none → i < n → Same H H1 → (∀ y H4, pr i = true → Same H1 H4 → R H4 y (f i) → LcPut D Nx y H4) → (∀ H4, pr i = false → Same H1 H4 → Nx H4) → g (.int (lo + (i : Nat))) (wipe σ vs) H1 (LcTurn tt te vs σ D Nx))
    (done : ∀ D H1 ws, H D = none → Same H H1 → H1 D = some (.lst ws) → All2 (R H1) ws (((List.range n).filter pr).map f) → Q (.ref D) H1) : LcB g tt te vs σ Q (Itr lo n) H := by
  refine w_lcR fun D hD => ⟨fun i H1 => Same H H1 ∧ ∃ acc, H1 D = some (.lst acc) ∧ All2 (R H1) acc (((List.range i).filter pr).map f), ⟨same_new hD _, [], upd_same, trivial⟩, ?_, ?_⟩
  · rintro i H1 hi ⟨s1, acc, hd, ha⟩
    have et : (List.range (i + 1)).filter pr = (List.range i).filter pr ++ [i].filter pr := by rw [List.range_succ, List.filter_append]
    refine body D i H1 _ hD hi s1 (fun y H4 hp s4 hy => ?_) (fun H4 hp s4 => ?_)
    · have hle : (((List.range i).filter pr).map f).length < 1000000 := by
        rw [List.length_map]
        have := List.length_filter_le pr (List.range i)
        rw [List.length_range] at this
        omega
      refine put_next mono hD s1 hd ha hle s4 hy fun H5 acc' s5 h5 a5 => ⟨s5, acc', h5, ?_⟩
      rw [et, List.map_append]
      have e1 : List.filter pr [i] = [i] := by simp [hp]
      rw [e1]
      exact a5
    · refine ⟨s1.trans s4, acc, s4 _ _ hd, ?_⟩
      have e1 : List.filter pr [i] = [] := by simp [hp]
      rw [et, e1, List.append_nil]
      exact ha.mono fun _ _ r => mono _ _ _ _ (keeps s4) r
  · rintro H1 ⟨s1, acc, hd, ha⟩
    exact done D H1 acc hD s1 hd ha
end
/-- two unlike posts -/
def twoOk (n : Nat) (a b : Int) : Prop := (0 ≤ a ∧ a < n) ∧ (0 ≤ b ∧ b < n) ∧ a ≠ b
instance (n : Nat) (a b : Int) : Decidable (twoOk n a b) := by unfold twoOk; infer_instance
/-! #### tables that are good, the least four that break the rule -/
/-- lengths between n posts -/
structure GoodT (n : Nat) (G : Nat → Nat → Rat) (B : Nat) : Prop where
  self : ∀ i, i < n → G i i = 0
  pos : ∀ i k, i < n → k < n → i ≠ k → 0 < G i k
  sym : ∀ i k, i < n → k < n → G i k = G k i
  rb : ∀ i k, i < n → k < n → rb (G i k) B
def Rule4 (G : Nat → Nat → Rat) (a b c d : Nat) : Prop := G a c * G b d = G a b * G c d + G b c * G a d
instance (G : Nat → Nat → Rat) (a b c d : Nat) : Decidable (Rule4 G a b c d) := by unfold Rule4; infer_instance
def lex4 (a b c d a' b' c' d' : Nat) : Prop := a < a' ∨ (a = a' ∧ (b < b' ∨ (b = b' ∧ (c < c' ∨ (c = c' ∧ d < d')))))
def in4 (n a b c d : Nat) : Prop := a < b ∧ b < c ∧ c < d ∧ d < n
def Least4 (P : Nat → Nat → Nat → Nat → Prop) (n : Nat) : Option (Nat × Nat × Nat × Nat) → Prop
  | none => ∀ a b c d, in4 n a b c d → P a b c d
  | some q => in4 n q.1 q.2.1 q.2.2.1 q.2.2.2 ∧ ¬ P q.1 q.2.1 q.2.2.1 q.2.2.2 ∧ ∀ a b c d, in4 n a b c d → lex4 a b c d q.1 q.2.1 q.2.2.1 q.2.2.2 → P a b c d
theorem least4_uniq {P : Nat → Nat → Nat → Nat → Prop} {n : Nat} : ∀ {q q' : Option (Nat × Nat × Nat × Nat)}, Least4 P n q → Least4 P n q' → q = q'
  | none, none, _, _ => rfl
  | none, some _, h, h' => absurd (h _ _ _ _ h'.1) h'.2.1
  | some _, none, h, h' => absurd (h' _ _ _ _ h.1) h.2.1
  | some (a, b, c, d), some (a', b', c', d'), h, h' => by
    have n1 : ¬ lex4 a b c d a' b' c' d' := fun z => h.2.1 (h'.2.2 _ _ _ _ h.1 z)
    have n2 : ¬ lex4 a' b' c' d' a b c d := fun z => h'.2.1 (h.2.2 _ _ _ _ h'.1 z)
    unfold lex4 at n1 n2
    have e1 : a = a' := by omega
    have e2 : b = b' := by omega
    have e3 : c = c' := by omega
    have e4 : d = d' := by omega
    rw [e1, e2, e3, e4]
/-- what four posts are told as -/
def Four (K : PySem.W.Frag) (H : L2.Hp) (v : L2.V) : Option (Nat × Nat × Nat × Nat) → Prop
  | none => v = .non
  | some q => ∃ t, v = .ref t ∧ H t = some (.tup [.int (q.1 : Int), .int (q.2.1 : Int), .int (q.2.2.1 : Int), .int (q.2.2.2 : Int)])
/-! #### a post stretched -/
def strD (D : Nat → Nat → Rat) (p : Nat) (f : Rat) (i k : Nat) : Rat := if i = p ∨ k = p then f * D i k else D i k
theorem Meas.stretch {n : Nat} {t : Tr} {L : Len} {D : Nat → Nat → Rat} (M : Meas n t L D) {p : Nat} {f : Rat} (hf : 0 < f) : Meas n t (fun q => strD D p f q.1 q.2) (strD D p f) := by
  obtain ⟨S, s1, s2⟩ := M.ex
  have w := M.w
  refine ⟨M.w, fun q hq => ?_, fun i => if i = p then ⟨f * (S i).p, f * (S i).q⟩ else S i, fun q hq => ?_, fun i k hi hk => ?_⟩
  · have b := Tr.bd hq
    have pos := M.above (show q.1 < q.2 by omega) (by omega)
    unfold strD
    split
    · exact rat_mul_pos hf pos
    · exact pos
  · have b := Tr.bd hq
    simp only [strD]
    rw [s2 q.1 q.2 (by omega) (by omega)]
    by_cases e1 : q.1 = p
    · rw [if_pos e1, if_neg (by omega), if_pos (.inl e1)]
      unfold det; grind
    · rw [if_neg e1]
      by_cases e2 : q.2 = p
      · rw [if_pos e2, if_pos (.inr e2)]
        unfold det; grind
      · rw [if_neg e2, if_neg (by omega)]
  · unfold strD
    simp only
    rw [s2 i k hi hk]
    by_cases e1 : i = p
    · rw [if_pos (.inl e1), if_pos e1]
      by_cases e2 : k = p
      · rw [if_pos e2, e1, e2, det_self]
        unfold det; grind
      · rw [if_neg e2]
        unfold det; grind
    · rw [if_neg e1]
      by_cases e2 : k = p
      · rw [if_pos (.inr e2), if_pos e2]
        unfold det; grind
      · rw [if_neg (by omega), if_neg e2]
theorem Bd.stretch {n : Nat} {D : Nat → Nat → Rat} {F B m : Nat} (Z : Bd n D F B) {p : Nat} {f : Rat} (hf : Pm.rb f m) : Bd n (strD D p f) (F * f.den) (B + m) := by
  have m0 := rb_pos hf
  refine ⟨Nat.mul_pos Z.f0 (Nat.pos_of_ne_zero f.den_nz), ?_, fun i k hi hk => ?_⟩
  · rw [Nat.pow_add]
    exact Nat.mul_lt_mul'' Z.fb hf.2
  · obtain ⟨z, h1, h2⟩ := Z.all i k hi hk
    have q := rat_num_den f
    unfold strD
    split
    · refine ⟨z * f.num, ?_, ?_⟩
      · rw [cast_mul_nat, Rat.intCast_mul, ← h1, ← q]
        generalize (F : Rat) = W
        generalize (f.den : Rat) = V
        clear q
        grind
      · rw [Int.natAbs_mul, Nat.pow_add]
        exact Nat.mul_lt_mul'' h2 hf.1
    · refine ⟨z * (f.den : Int), ?_, ?_⟩
      · rw [cast_mul_nat, Rat.intCast_mul, ← h1, ← Rat.mul_assoc]
        rfl
      · rw [Int.natAbs_mul, Nat.pow_add, Int.natAbs_natCast]
        exact Nat.mul_lt_mul'' h2 hf.2
end Pm
/-! ### pairs that are a cutting -/
namespace Pm
open PySem PySem.Spec PyProof.Rows L2
def ropeOk (n : Int) (p : IP) : Prop := 0 ≤ p.1 ∧ p.2 < n ∧ 2 ≤ p.2 - p.1 ∧ p.2 - p.1 < n - 1
instance (n : Int) (p : IP) : Decidable (ropeOk n p) := by unfold ropeOk; exact inferInstance
def okPair (p q : IP) : Prop := p ≠ q ∧ ¬ crossP p.1 p.2 q.1 q.2
instance (p q : IP) : Decidable (okPair p q) := by unfold okPair; exact inferInstance
structure GoodP (n : Int) (l : List IP) : Prop where
  ok : ∀ p ∈ l, ropeOk n p
  pw : l.Pairwise okPair
theorem good_nil (n : Int) : GoodP n [] := ⟨fun _ h => absurd h List.not_mem_nil, List.Pairwise.nil⟩
theorem good_snoc {n : Int} {l : List IP} {x : IP} : GoodP n (l ++ [x]) ↔ GoodP n l ∧ ropeOk n x ∧ ∀ p ∈ l, okPair p x := by
  constructor
  · rintro ⟨h1, h2⟩
    have h2 := List.pairwise_append.mp h2
    exact ⟨⟨fun p hp => h1 p (List.mem_append_left _ hp), h2.1⟩, h1 x (List.mem_append_right _ (List.mem_singleton.mpr rfl)), fun p hp => h2.2.2 p hp x (List.mem_singleton.mpr rfl)⟩
  · rintro ⟨⟨h1, h2⟩, h3, h4⟩
    refine ⟨fun p hp => ?_, List.pairwise_append.mpr ⟨h2, List.pairwise_singleton _ _, fun a ha b hb => ?_⟩⟩
    · rcases List.mem_append.mp hp with h | h
      · exact h1 p h
      · rw [List.mem_singleton.mp h]; exact h3
    · rw [List.mem_singleton.mp hb]; exact h4 a ha
theorem good_take {n : Int} {l : List IP} {k : Nat} (h : GoodP n l) : GoodP n (l.take k) := ⟨fun p hp => h.ok p (List.mem_of_mem_take hp), h.pw.sublist (List.take_sublist k l)⟩
theorem okPair_symm {n : Int} {p q : IP} (hp : ropeOk n p) (hq : ropeOk n q) (h : okPair p q) : okPair q p := by
  unfold ropeOk at hp hq
  refine ⟨fun e => h.1 e.symm, fun c => h.2 ?_⟩
  rw [cross_iff (by omega) (by omega)] at c ⊢
  omega
theorem good_perm {n : Int} {l m : List IP} (e : l.Perm m) (h : GoodP n l) : GoodP n m := by
  have hok : ∀ p ∈ m, ropeOk n p := fun p hp => h.ok p (e.mem_iff.mpr hp)
  refine ⟨hok, ?_⟩
  have h1 : l.Pairwise (fun p q => (ropeOk n p ∧ ropeOk n q) ∧ okPair p q) := by
    have := h.pw
    refine List.pairwise_iff_getElem.mpr fun i j hi hj hij => ⟨⟨h.ok _ (List.getElem_mem hi), h.ok _ (List.getElem_mem hj)⟩, List.pairwise_iff_getElem.mp this i j hi hj hij⟩
  have sy : ∀ {p q : IP}, (ropeOk n p ∧ ropeOk n q) ∧ okPair p q → (ropeOk n q ∧ ropeOk n p) ∧ okPair q p := fun ⟨⟨a, b⟩, c⟩ => ⟨⟨b, a⟩, okPair_symm a b c⟩
  exact ((List.Perm.pairwise_iff sy e).mp h1).imp fun z => z.2
def tied (p : IP) : IP := tieOf p.1 p.2
/-- what kept lets by -/
def KeptOk (n : Int) (ps : List IP) : Prop := (3 ≤ n ∧ n ≤ 12) ∧ (ps.length : Int) = n - 3 ∧ GoodP n (sortP (ps.map tied))
theorem kept_iff (n : Int) (ps : List IP) : KeptOk n ps ↔ (3 ≤ n ∧ n ≤ 12) ∧ (ps.length : Int) = n - 3 ∧ GoodP n (ps.map tied) := by
  unfold KeptOk
  exact ⟨fun ⟨h1, h2, h3⟩ => ⟨h1, h2, good_perm (sortP_perm _) h3⟩, fun ⟨h1, h2, h3⟩ => ⟨h1, h2, good_perm (sortP_perm _).symm h3⟩⟩
theorem cross_tied (p : IP) (c d : Int) : crossP (tied p).1 (tied p).2 c d ↔ crossP p.1 p.2 c d := by
  unfold tied tieOf crossP
  have e1 : min (min p.1 p.2) (max p.1 p.2) = min p.1 p.2 := by omega
  have e2 : max (min p.1 p.2) (max p.1 p.2) = max p.1 p.2 := by omega
  simp only [e1, e2]
theorem prs_cut {H : Hp} {vs : List V} {ps : List IP} (lo hi : Option Int) (h : Prs H vs ps) : ∃ ps', Prs H (cutV vs lo hi) ps' ∧ ps'.length ≤ ps.length := by
  refine ⟨(ps.drop (HT.sIx vs.length 0 lo)).take (HT.sIx vs.length vs.length hi - HT.sIx vs.length 0 lo), (h.drop _).take _, ?_⟩
  rw [List.length_take, List.length_drop]
  omega
end Pm
/-! ### objects of an own class: calls within a try, readings step by step -/
namespace Pm
open PySem PySem.Spec PyProof.Rows L2
section
variable {X : Cx} {K : PySem.W.Frag}
theorem k_fld {ex : Expr} {ta : TE} {f : Str} (h : PE X ex (tFld X.K ta f)) (e : X.K = K := by rfl) : PE X ex (tFld K ta f) := e ▸ h
theorem k_many {st : Stmt} {tb : WX → TS} {W : WX} {l : List (Value × (Addr → Value → Option Addr → TS))} (h : PS X st (fun D σ H => tb (wMany X.K W D l) D σ H)) (e : X.K = K := by rfl) : PS X st (fun D σ H => tb (wMany K W D l) D σ H) := e ▸ h
theorem k_sfld {st : Stmt} {ta tv : TE} {f : Str} (h : PS X st (sFld X.K ta tv f)) (e : X.K = K := by rfl) : PS X st (sFld K ta tv f) := e ▸ h
end
/-- o.m(..) whose exceptions are wished for at the caller's slots -/
def tMethX (C : Addr) (m : Str) (sp : Sp) (E : L2.St → XK) (ta : TE) (t : TA) : TE := fun σ H Q => ta σ H fun x H1 => ∃ a dx fs, x = .ref a ∧ H1 a = some (.ins C dx fs) ∧ fs.lookup m = none ∧ t σ H1 fun vs H2 => sp (x :: vs) H2 Q (E σ)
/-- C(..) likewise -/
def tMakeX (C : Addr) (sp : Sp) (E : L2.St → XK) (t : TA) : TE := fun σ H Q => t σ H fun vs H1 => ∀ x dx, H1 x = none → H1 dx = none → dx ≠ x → sp (.ref x :: vs) (upd (upd H1 dx (.own x)) x (.ins C dx [])) (fun v H2 => v = .non ∧ Q (.ref x) H2) (E σ)
section
variable {X : Cx} {cx : CXT} {k : Nat} {g C : Addr} {fd : FuncData} {ps : List Str} {sp : Sp} {E : L2.St → XK} {x m : Str} {p pos ap : Pos} {a o : Expr} {as : List Expr} {ta : TE} {t : TA}
theorem pe_methX {pl : Sem Bool} (he : PE X o ta) (c : Cls X.K C) (hm : Meth X.K C m g) (F : FnOk X.prog X.w X.K X.mg X.base cx k g fd ps sp) (hr : Room k X.A) (hb : Binds X.K fd ps []) (hx : ∀ σ, PassesAt cx X σ (E σ)) (ha : PA X (a :: as) t)
    (hst : starEach (a :: as) X.env = (false, eval a X.env) :: starEach as X.env := by rfl) (hpl : (backTo pos (starEach as X.env)).any (·.1) = false := by rfl)
    (ht : eval (.Call (.Attribute o m ap) (a :: as) [] pos) X.env = (do let ov ← eval o X.env; standAt ap.atName; let (f, first) ← holding [ov] (getMethod ov m pl); callWith pos f first (backTo pos (starEach (a :: as) X.env)) (backToKw pos (keywordEach [] X.env))) := by rfl) :
    PE X (.Call (.Attribute o m ap) (a :: as) [] pos) (tMethX C m sp E ta t) := by
  constructor
  intro pins s σ H Q I h
  refine PySem.W.methodCall_KW (pl := pl) (thn (he.run pins s σ H _ I h) fun u s1 hh => ?_) ht
  obtain ⟨y, H1, I1, ry, b, dx, fs, ey, eb, l, q⟩ := hh
  subst ey
  obtain rfl : u = Value.ref b := ry
  refine getmeth_ok I1 eb c hm l (PySem.W.callWith_K (first := [.ref b]) (h₀ := X.base) I.ok.mod.kin hm.kp (thn (ha.run pos pins s1 σ H1 _ I1 q) fun us s2 hh => ?_) hst hpl)
  obtain ⟨vs, H2, I2, r, q2⟩ := hh
  exact ⟨I2.kIn, run_fnS (us := .ref b :: us) (vs := .ref b :: vs) F hr hb (hx σ) I2 (.cons rfl r) q2⟩
theorem pe_methX0 {pl : Sem Bool} (he : PE X o ta) (c : Cls X.K C) (hm : Meth X.K C m g) (F : FnOk X.prog X.w X.K X.mg X.base cx k g fd ps sp) (hr : Room k X.A) (hb : Binds X.K fd ps []) (hx : ∀ σ, PassesAt cx X σ (E σ))
    (ht : eval (.Call (.Attribute o m ap) [] [] pos) X.env = (do let ov ← eval o X.env; standAt ap.atName; let (f, first) ← holding [ov] (getMethod ov m pl); callWith pos f first (backTo pos (starEach [] X.env)) (backToKw pos (keywordEach [] X.env))) := by rfl) :
    PE X (.Call (.Attribute o m ap) [] [] pos) (tMethX C m sp E ta tNil) := by
  constructor
  intro pins s σ H Q I h
  refine PySem.W.methodCall_KW (pl := pl) (thn (he.run pins s σ H _ I h) fun u s1 hh => ?_) ht
  obtain ⟨y, H1, I1, ry, b, dx, fs, ey, eb, l, q⟩ := hh
  subst ey
  obtain rfl : u = Value.ref b := ry
  refine getmeth_ok I1 eb c hm l (PySem.W.callWith_K0 (first := [.ref b]) I1.kIn hm.kp ?_)
  exact run_fnS (us := [.ref b]) (vs := [.ref b]) F hr hb (hx σ) I1 (.cons rfl .nil) q
theorem pe_makeS (M : Mk X.K C g) (F : FnOk X.prog X.w X.K X.mg X.base cx k g fd ps sp) (hr : Room (k + 1) X.A) (hg : Gl X x) (hm : X.mg x = some (.ref C)) (hb : Binds X.K fd ps []) (hx : ∀ σ, PassesAt cx X σ (E σ)) (ha : PA X (a :: as) t)
    (hdb : (x == ("__debug__" : Str)) = false := by decide) (he : starEach (a :: as) X.env = (false, eval a X.env) :: starEach as X.env := by rfl) (hpl : (backTo pos (starEach as X.env)).any (·.1) = false := by rfl) :
    PE X (.Call (.Name x p) (a :: as) [] pos) (tMakeX C sp E t) := by
  constructor
  intro pins s σ H Q I h
  refine wpAny_Call_Name_kw (ld_glob I hg hm ?_ hdb)
  refine PySem.W.callWith_K (h₀ := X.base) I.ok.mod.kin M.kp (thn (ha.run pos pins s σ H _ I h) fun us s1 hh => ?_) he hpl
  obtain ⟨vs, H1, I1, r, h1⟩ := hh
  refine ⟨I1.kIn, ?_⟩
  have hq := h1 (s1.heap.objs.size + 1) s1.heap.objs.size (I1.hok.fresh (Nat.le_succ _)) (I1.hok.fresh (Nat.le_refl _)) (Nat.ne_of_lt (Nat.lt_succ_self _))
  have I2 := Inv.made (C := C) I1
  have r2 : Vals (V.ref (s1.heap.objs.size + 1) :: vs) (Value.ref (s1.heap.objs.size + 1) :: us) := .cons rfl r
  have hl : (Value.ref (s1.heap.objs.size + 1) :: us).length = ps.length := by
    have e := r2.length
    rw [F.len _ _ _ _ hq] at e
    exact e.symm
  have b := hb _ (Value.ref (s1.heap.objs.size + 1) :: us) I2.kIn (by rw [List.append_nil]; exact hl)
  rw [List.append_nil] at b
  refine wpAny_call (make_map (f := g) I1.kIn M.makes M.init (beq_iff_eq.mp M.fn) (codeAny_mono (F.run _ X.stack _ _ ⟨Value.ref (s1.heap.objs.size + 1) :: us, []⟩ (Value.ref (s1.heap.objs.size + 1) :: us) _ _ (E σ) (hr.make C us []) (I2.env0.make C us []) b r2 hq) fun r s' hq' => ?_))
  rcases r with e | fl
  · exact hx σ pins _ _ e s' I2 hq'
  · cases fl with
    | ret u =>
      obtain ⟨v, H', I3, rv, ev, q3⟩ := I2.after hq'
      subst ev
      exact ⟨rv, ⟨V.ref (s1.heap.objs.size + 1), H', I3, rfl, q3⟩⟩
    | next => exact False.elim hq'
    | brk => exact False.elim hq'
    | cont => exact False.elim hq'
end
/-! readings -/
def FldK (K : PySem.W.Frag) (f : Str) (Q : VK) : VK := fun x H1 => ∃ a C dx fs v, x = .ref a ∧ H1 a = some (.ins C dx fs) ∧ Cls K C ∧ NoAttr K C f ∧ fs.lookup f = some v ∧ Q v H1
def SFldK (K : PySem.W.Frag) (f : Str) (y : V) (nx : L2.St → Hp → Prop) (σ : L2.St) : VK := fun x H2 => ∃ a C dx fs, x = .ref a ∧ H2 a = some (.ins C dx fs) ∧ Cls K C ∧ NoAttr K C f ∧ fs.length < 1000 ∧ nx σ (upd H2 a (.ins C dx (putF f y fs)))
def MethK (C : Addr) (m : Str) (R : V → Hp → Prop) : VK := fun x H1 => ∃ a dx fs, x = .ref a ∧ H1 a = some (.ins C dx fs) ∧ fs.lookup m = none ∧ R x H1
def MakeK (C : Addr) (sp : Sp) (dvs : List V) (E : XK) (Q : VK) : List V → Hp → Prop := fun vs H1 => ∀ x dx, H1 x = none → H1 dx = none → dx ≠ x → sp (.ref x :: (vs ++ dvs)) (upd (upd H1 dx (.own x)) x (.ins C dx [])) (fun v H2 => v = .non ∧ Q (.ref x) H2) E
def MakeXK (C : Addr) (sp : Sp) (E : XK) (Q : VK) : List V → Hp → Prop := fun vs H1 => ∀ x dx, H1 x = none → H1 dx = none → dx ≠ x → sp (.ref x :: vs) (upd (upd H1 dx (.own x)) x (.ins C dx [])) (fun v H2 => v = .non ∧ Q (.ref x) H2) E
section
variable {nx bk ct : L2.St → Hp → Prop} {rt : VK} {σ : L2.St} {H : Hp} {ta tv : TE} {Q : VK} {K : PySem.W.Frag} {f m : Str} {a C dx : Addr} {fs : List (Str × V)} {v y : V} {sp : Sp} {dvs : List V} {t : TA}
theorem w_fld (h : ta σ H (FldK K f Q)) : tFld K ta f σ H Q := h
theorem w_fldAt (h1 : H a = some (.ins C dx fs)) (c : Cls K C) (n : NoAttr K C f) (l : fs.lookup f = some v) (h : Q v H) : FldK K f Q (.ref a) H := ⟨a, C, dx, fs, v, rfl, h1, c, n, l, h⟩
theorem w_sfld (h : tv σ H fun y H1 => ta σ H1 (SFldK K f y nx σ)) : sFld K ta tv f ⟨nx, rt, bk, ct⟩ σ H := h
theorem w_sfldAt (h1 : H a = some (.ins C dx fs)) (c : Cls K C) (n : NoAttr K C f) (l : fs.length < 1000) (h : nx σ (upd H a (.ins C dx (putF f y fs)))) : SFldK K f y nx σ (.ref a) H := ⟨a, C, dx, fs, rfl, h1, c, n, l, h⟩
theorem w_meth {E : XK} (h : ta σ H (MethK C m fun x H1 => t σ H1 fun vs H2 => sp (x :: (vs ++ dvs)) H2 Q E)) : tMeth C m sp dvs E ta t σ H Q := h
theorem w_methX {E : L2.St → XK} (h : ta σ H (MethK C m fun x H1 => t σ H1 fun vs H2 => sp (x :: vs) H2 Q (E σ))) : tMethX C m sp E ta t σ H Q := h
theorem w_methAt {R : V → Hp → Prop} (h1 : H a = some (.ins C dx fs)) (l : fs.lookup m = none) (h : R (.ref a) H) : MethK C m R (.ref a) H := ⟨a, dx, fs, rfl, h1, l, h⟩
theorem w_make {E : XK} (h : t σ H (MakeK C sp dvs E Q)) : tMake C sp dvs E t σ H Q := h
theorem w_makeX {E : L2.St → XK} (h : t σ H (MakeXK C sp (E σ) Q)) : tMakeX C sp E t σ H Q := h
end
theorem w_nes {Q : VK} {H : Hp} {i j : Str} (h : Q (.bl (!decide (i = j))) H) : rNe (.str i) (.str j) H Q := by
  refine ⟨rfl, ?_⟩
  have e : decide (V.str i = V.str j) = decide (i = j) := decide_eq_decide.mpr ⟨fun h => by injection h, fun h => by rw [h]⟩
  rw [e]
  exact h
/-! xs == [] -/
def rEqNil (K : PySem.W.Frag) : R2 := fun x y H Q => ∃ (a b : Addr) (xs : List V), x = .ref a ∧ y = .ref b ∧ SqL K H a xs ∧ SqL K H b [] ∧ Q (.bl xs.isEmpty) H
theorem op_eqNil {X : Cx} {K : PySem.W.Frag} (hu : X.A.units + 65 < cLine) (e : X.K = K := by rfl) : OpR X (compareOp .Eq) (rEqNil K) := by
  subst e
  intro pins s σ H x y v u Q I rx ry h
  obtain ⟨a, b, xs, rfl, rfl, ha, hb, q⟩ := h
  cases rx
  cases ry
  obtain ⟨ia, ra, ⟨oa, na, la1, la2, _, la3⟩, _⟩ := I.list ha
  obtain ⟨ib, rb, ⟨ob, nb, lb1, lb2, _, lb3⟩, _⟩ := I.list hb
  have la : s.heap.IsList a ia.toArray := ⟨oa, la1, la2, na, la3⟩
  have lb : s.heap.IsList b ib.toArray := ⟨ob, lb1, lb2, nb, lb3⟩
  cases rb
  cases xs with
  | nil =>
    cases ra
    exact SeqAt.RcAt.lists la lb rfl (by omega) (e := fun _ => true) (fun j h1 _ => absurd h1 (by simp)) _ _ _ _ ⟨.bl true, H, I, rfl, q⟩
  | cons x0 xs =>
    cases ra
    exact SeqAt.RcAt.lists_lengths la lb (by simp) (by omega) _ _ _ _ ⟨.bl false, H, I, rfl, q⟩
end Pm
/-! ### a mead in the heap -/
namespace Pm
open PySem PySem.Spec PyProof.Rows L2
/-- the fields of a mead -/
def mf (c n d lp la : V) : List (Str × V) := [("cut", c), ("many", n), ("sized", d), ("past", lp), ("ahead", la)]
theorem sb {a b : Str} (h : (a == b) = false) : ¬ a = b := fun e => by rw [e, beq_self_eq_true] at h; cases h
section
variable (c n d lp la y : V)
theorem lk_cons {k j : Str} {v : V} {r : List (Str × V)} (h : (k == j) = false) : List.lookup k ((j, v) :: r) = List.lookup k r := by rw [List.lookup_cons, h]
theorem lk_here {k : Str} {v : V} {r : List (Str × V)} : List.lookup k ((k, v) :: r) = some v := by rw [List.lookup_cons, beq_self_eq_true]
theorem mf_cut : (mf c n d lp la).lookup ("cut" : Str) = some c := lk_here
theorem mf_many : (mf c n d lp la).lookup ("many" : Str) = some n := by
  unfold mf
  rw [lk_cons (by decide +kernel)]
  exact lk_here
theorem mf_sized : (mf c n d lp la).lookup ("sized" : Str) = some d := by
  unfold mf
  rw [lk_cons (by decide +kernel), lk_cons (by decide +kernel)]
  exact lk_here
theorem mf_past : (mf c n d lp la).lookup ("past" : Str) = some lp := by
  unfold mf
  rw [lk_cons (by decide +kernel), lk_cons (by decide +kernel), lk_cons (by decide +kernel)]
  exact lk_here
theorem mf_ahead : (mf c n d lp la).lookup ("ahead" : Str) = some la := by
  unfold mf
  rw [lk_cons (by decide +kernel), lk_cons (by decide +kernel), lk_cons (by decide +kernel), lk_cons (by decide +kernel)]
  exact lk_here
theorem mf_no {k : Str} (h1 : (k == "cut") = false) (h2 : (k == "many") = false) (h3 : (k == "sized") = false) (h4 : (k == "past") = false) (h5 : (k == "ahead") = false) : (mf c n d lp la).lookup k = none := by
  unfold mf
  rw [lk_cons h1, lk_cons h2, lk_cons h3, lk_cons h4, lk_cons h5]
  rfl
theorem pf_cons {k j : Str} {v w : V} {r : List (Str × V)} (h : (j == k) = false) : putF k v ((j, w) :: r) = (j, w) :: putF k v r := by
  show (if j = k then _ else _) = _
  rw [if_neg (sb h)]
theorem pf_here {k : Str} {v w : V} {r : List (Str × V)} : putF k v ((k, w) :: r) = (k, v) :: r := by
  show (if k = k then _ else _) = _
  rw [if_pos rfl]
theorem mf_pcut : putF "cut" y (mf c n d lp la) = mf y n d lp la := pf_here
theorem mf_pmany : putF "many" y (mf c n d lp la) = mf c y d lp la := by
  unfold mf
  rw [pf_cons (by decide +kernel), pf_here]
theorem mf_psized : putF "sized" y (mf c n d lp la) = mf c n y lp la := by
  unfold mf
  rw [pf_cons (by decide +kernel), pf_cons (by decide +kernel), pf_here]
theorem mf_ppast : putF "past" y (mf c n d lp la) = mf c n d y la := by
  unfold mf
  rw [pf_cons (by decide +kernel), pf_cons (by decide +kernel), pf_cons (by decide +kernel), pf_here]
theorem mf_pahead : putF "ahead" y (mf c n d lp la) = mf c n d lp y := by
  unfold mf
  rw [pf_cons (by decide +kernel), pf_cons (by decide +kernel), pf_cons (by decide +kernel), pf_cons (by decide +kernel), pf_here]
theorem mf_new : putF "ahead" la (putF "past" lp (putF "sized" d (putF "many" n (putF "cut" c [])))) = mf c n d lp la := by
  have e1 : putF "cut" c [] = [(("cut" : Str), c)] := rfl
  have e2 : putF "many" n [(("cut" : Str), c)] = ([("cut", c), ("many", n)] : List (Str × V)) := by rw [pf_cons (by decide +kernel)]; rfl
  have e3 : putF "sized" d ([("cut", c), ("many", n)] : List (Str × V)) = ([("cut", c), ("many", n), ("sized", d)] : List (Str × V)) := by rw [pf_cons (by decide +kernel), pf_cons (by decide +kernel)]; rfl
  have e4 : putF "past" lp ([("cut", c), ("many", n), ("sized", d)] : List (Str × V)) = ([("cut", c), ("many", n), ("sized", d), ("past", lp)] : List (Str × V)) := by rw [pf_cons (by decide +kernel), pf_cons (by decide +kernel), pf_cons (by decide +kernel)]; rfl
  rw [e1, e2, e3, e4, pf_cons (by decide +kernel), pf_cons (by decide +kernel), pf_cons (by decide +kernel), pf_cons (by decide +kernel)]
  rfl
end
/-- what a deed changes: posts, ropes, what is measured -/
structure Ms where
  n : Nat
  cut : List IP
  D : Nat → Nat → Rat
/-- the dict of the lengths of a state -/
def DLs (K : PySem.W.Frag) (H : Hp) (d : Addr) (S : Ms) : Prop := ∃ ks, LD K H d ks (fun k => rp (S.D k.1.toNat k.2.toNat)) ∧ (∀ p, p ∈ ks ↔ p ∈ tiesL S.n S.cut) ∧ (∀ p ∈ ks, smallP p) ∧ ks.length ≤ 1000
/-- deeds -/
inductive Deed where
  | turn (a b : Int)
  | stretch (p : Int) (f : Rat)
  | set (k : Int) (x y : Rat)
  | draw (p : Int)
def DeedAt (K : PySem.W.Frag) (H : Hp) (v : V) : Deed → Prop
  | .turn a b => ∃ t, v = .ref t ∧ H t = some (.tup [.str "turn", .int a, .int b])
  | .stretch p f => ∃ t u, v = .ref t ∧ H t = some (.tup [.str "stretch", .int p, .ref u]) ∧ FrV K H (.ref u) (rp f)
  | .set k x y => ∃ t u w, v = .ref t ∧ H t = some (.tup [.str "set", .int k, .ref u, .ref w]) ∧ FrV K H (.ref u) (rp x) ∧ FrV K H (.ref w) (rp y)
  | .draw p => ∃ t, v = .ref t ∧ H t = some (.tup [.str "draw", .int p])
def Deed.told : Deed → Deed
  | .turn a b => .turn (min a b) (max a b)
  | x => x
def Deed.data : Deed → PyData
  | .turn a b => .tuple [.str "turn", .int a, .int b]
  | .stretch p f => .tuple [.str "stretch", .int p, pD (rp f)]
  | .set k x y => .tuple [.str "set", .int k, pD (rp x), pD (rp y)]
  | .draw p => .tuple [.str "draw", .int p]
/-- an entry of a list of deeds: the deed, the state -/
def EnAt (K : PySem.W.Frag) (H : Hp) (v : V) (e : Deed × Ms) : Prop := ∃ (t s c d : Addr) (u : V), v = .ref t ∧ H t = some (.tup [u, .ref s]) ∧ DeedAt K H u e.1 ∧ H s = some (.tup [.int e.2.n, .ref c, .ref d]) ∧ PLt H c e.2.cut ∧ DLs K H d e.2
section
variable {K : PySem.W.Frag} {H H' : Hp} {v : V}
theorem DeedAt.keep {d : Deed} (k : Keeps H H') (h : DeedAt K H v d) : DeedAt K H' v d := by
  cases d with
  | turn a b => obtain ⟨t, e, h⟩ := h; exact ⟨t, e, k _ _ h⟩
  | stretch p f => obtain ⟨t, u, e, h, h2⟩ := h; exact ⟨t, u, e, k _ _ h, h2.keep k⟩
  | set p x y => obtain ⟨t, u, w, e, h, h2, h3⟩ := h; exact ⟨t, u, w, e, k _ _ h, h2.keep k, h3.keep k⟩
  | draw p => obtain ⟨t, e, h⟩ := h; exact ⟨t, e, k _ _ h⟩
theorem DeedAt.dp {d : Deed} (h : DeedAt K H v d) : Dp K H v d.data := by
  cases d with
  | turn a b => obtain ⟨t, rfl, h⟩ := h; exact .tup (SqT.of h) (.cons (.str _) (.cons (.int _) (.cons (.int _) .nil)))
  | stretch p f => obtain ⟨t, u, rfl, h, h2⟩ := h; exact .tup (SqT.of h) (.cons (.str _) (.cons (.int _) (.cons h2.dp .nil)))
  | set p x y => obtain ⟨t, u, w, rfl, h, h2, h3⟩ := h; exact .tup (SqT.of h) (.cons (.str _) (.cons (.int _) (.cons h2.dp (.cons h3.dp .nil))))
  | draw p => obtain ⟨t, rfl, h⟩ := h; exact .tup (SqT.of h) (.cons (.str _) (.cons (.int _) .nil))
theorem Deed.lay (d : Deed) : d.data.canLay0 = true := by
  cases d <;> simp only [Deed.data, PyData.canLay0, PyData.canLayAll0, lay_pD, Bool.and_true] <;> decide +kernel
theorem Deed.shaped (d : Deed) : SeqAt.shaped d.data = true := by
  show (d.data.canLay0 && decide (d.data.depth ≤ 64)) = true
  rw [d.lay, Bool.true_and]
  cases d <;> simp only [Deed.data, PyData.depth, PyData.depthAll, depth_pD] <;> rfl
theorem Deed.eqv (d : Deed) : PyData.eqv d.data d.data = true := SeqAt.eqv_refl _ d.lay
theorem DeedAt.tup {d : Deed} (h : DeedAt K H v d) : ∃ t xs, v = .ref t ∧ H t = some (.tup xs) := by
  cases d with
  | turn a b => obtain ⟨t, rfl, h⟩ := h; exact ⟨t, _, rfl, h⟩
  | stretch p f => obtain ⟨t, u, rfl, h, h2⟩ := h; exact ⟨t, _, rfl, h⟩
  | set p x y => obtain ⟨t, u, w, rfl, h, h2, h3⟩ := h; exact ⟨t, _, rfl, h⟩
  | draw p => obtain ⟨t, rfl, h⟩ := h; exact ⟨t, _, rfl, h⟩
theorem DLs.same {d : Addr} {S : Ms} (h : DLs K H d S) (s : Same H H') : DLs K H' d S := by
  obtain ⟨ks, h1, h2⟩ := h
  exact ⟨ks, h1.same s, h2⟩
theorem DLs.keep {d : Addr} {S : Ms} (h : DLs K H d S) (k : Keeps H H') (e : H' d = H d) : DLs K H' d S := by
  obtain ⟨ks, h1, h2⟩ := h
  exact ⟨ks, h1.keep (o := .tup []) k e, h2⟩
theorem PLt.keep {a : Addr} {ps : List IP} (h : PLt H a ps) (k : Keeps H H') (e : H' a = H a) : PLt H' a ps := by
  obtain ⟨vs, h1, h2⟩ := h
  exact ⟨vs, by rw [e, h1], prs_keep k h2⟩
theorem EnAt.same {e : Deed × Ms} (s : Same H H') (h : EnAt K H v e) : EnAt K H' v e := by
  obtain ⟨t, z, c, d, u, e1, h1, h2, h3, h4, h5⟩ := h
  exact ⟨t, z, c, d, u, e1, s _ _ h1, h2.keep (keeps s), s _ _ h3, h4.same s, h5.same s⟩
end
/-- a heap, and the tuples of another -/
def addT (Hx H : Hp) : Hp := fun b => match H b with
  | some (.tup xs) => some (.tup xs)
  | _ => Hx b
section
variable {Hx H : Hp}
theorem addT_tup {b : Addr} {xs : List V} (h : H b = some (.tup xs)) : addT Hx H b = some (.tup xs) := by unfold addT; rw [h]
theorem addT_oth {b : Addr} (h : ∀ xs, H b ≠ some (.tup xs)) : addT Hx H b = Hx b := by
  unfold addT
  split
  · rename_i xs e; exact absurd e (h xs)
  · rfl
theorem addT_same (s : Same Hx H) : Same Hx (addT Hx H) := fun b o e => by
  by_cases h : ∃ xs, H b = some (.tup xs)
  · obtain ⟨xs, h⟩ := h
    rw [addT_tup h, ← h]
    exact s _ _ e
  · rw [addT_oth fun xs q => h ⟨xs, q⟩]
    exact e
theorem addT_sub (s : Same Hx H) : Same (addT Hx H) H := fun b o e => by
  by_cases h : ∃ xs, H b = some (.tup xs)
  · obtain ⟨xs, h⟩ := h
    rw [addT_tup h] at e
    rw [h, e]
  · rw [addT_oth fun xs q => h ⟨xs, q⟩] at e
    exact s _ _ e
theorem addT_keeps : Keeps H (addT Hx H) := fun t xs h => addT_tup h
theorem addT_some {b : Addr} {o : HO} (s : Same Hx H) (e : addT Hx H b = some o) (n : ∀ xs, o ≠ .tup xs) : Hx b = some o := by
  rw [addT_oth] at e
  · exact e
  · intro xs q
    rw [addT_tup q] at e
    cases e
    exact n _ rfl
theorem addT_none {b : Addr} {o : HO} (h : H b = some o) (n : ∀ xs, o ≠ .tup xs) (e : Hx b = none) : addT Hx H b = none := by
  rw [addT_oth]
  · exact e
  · intro xs q
    rw [h] at q
    cases q
    exact n _ rfl
end
/-- a mead stands at p: H0 what is not the mead's, Hs what it holds and never changes -/
structure MeadAt (K : PySem.W.Frag) (C : Addr) (H0 Hs H : Hp) (p : Addr) (S : Ms) (P A : List (Deed × Ms)) : Prop where
  s0 : Same H0 H
  ss : Same Hs H
  k0 : Keeps H H0
  ks : Keeps H Hs
  dj : ∀ b o, Hs b = some o → (∀ xs, o ≠ .tup xs) → H0 b = none
  ex : ∃ (dx lp la c d : Addr) (vs us : List V), H0 p = none ∧ H0 lp = none ∧ H0 la = none ∧ Hs p = none ∧ Hs lp = none ∧ Hs la = none ∧ lp ≠ la ∧ H p = some (.ins C dx (mf (.ref c) (.int S.n) (.ref d) (.ref lp) (.ref la))) ∧ H lp = some (.lst vs) ∧ H la = some (.lst us) ∧ PLt Hs c S.cut ∧ DLs K Hs d S ∧ All2 (EnAt K Hs) vs P ∧ All2 (EnAt K Hs) us A
theorem same_sub {H0 H H' : Hp} (s0 : Same H0 H) (s : Same H H') : Same H0 H' := s0.trans s
section
variable {K : PySem.W.Frag} {C : Addr} {H0 Hs H : Hp} {p : Addr} {S : Ms} {P A : List (Deed × Ms)}
/-- plain work is done: what is new is not the mead's -/
theorem MeadAt.grow {H' : Hp} (M : MeadAt K C H0 Hs H p S P A) (s : Same H H') : ∃ H0' Hs', Same H0 H0' ∧ Same Hs Hs' ∧ MeadAt K C H0' Hs' H' p S P A ∧ ∀ b, H b = none → H0' b = H' b := by
  classical
  obtain ⟨dx, lp, la, c, d, vs, us, p0, l0, a0, ps, ls, as, nla, hp, hlp, hla, hc, hd, hP, hA⟩ := M.ex
  have ss' := M.ss.trans s
  refine ⟨fun b => if b = p ∨ b = lp ∨ b = la ∨ ∃ o, Hs b = some o ∧ ∀ xs, o ≠ .tup xs then none else H' b, addT Hs H', fun b o e => ?_, addT_same ss', ⟨fun b o e => ?_, addT_sub ss', fun b xs e => ?_, addT_keeps, fun b o e n => ?_, ?_⟩, fun b e => ?_⟩
  · show (if _ then none else H' b) = some o
    rw [if_neg]
    · exact s _ _ (M.s0 _ _ e)
    · rintro (rfl | rfl | rfl | ⟨u, h1, h2⟩)
      · rw [p0] at e; cases e
      · rw [l0] at e; cases e
      · rw [a0] at e; cases e
      · rw [M.dj _ _ h1 h2] at e; cases e
  · have e : (if _ then none else H' b) = some o := e
    split at e
    · cases e
    · exact e
  · show (if _ then none else H' b) = _
    rw [if_neg]
    · exact e
    · rintro (rfl | rfl | rfl | ⟨u, h1, h2⟩)
      · rw [s _ _ hp] at e; cases e
      · rw [s _ _ hlp] at e; cases e
      · rw [s _ _ hla] at e; cases e
      · rw [ss' _ _ h1] at e
        cases e
        exact h2 _ rfl
  · show (if _ then none else H' b) = none
    rw [if_pos (.inr (.inr (.inr ⟨o, addT_some ss' e n, n⟩)))]
  · have sg := addT_same ss'
    refine ⟨dx, lp, la, c, d, vs, us, if_pos (.inl rfl), if_pos (.inr (.inl rfl)), if_pos (.inr (.inr (.inl rfl))), ?_, ?_, ?_, nla, s _ _ hp, s _ _ hlp, s _ _ hla, hc.same sg, hd.same sg, hP.mono fun _ _ r => r.same sg, hA.mono fun _ _ r => r.same sg⟩
    · exact addT_none (s _ _ hp) (fun xs q => nomatch q) ps
    · exact addT_none (s _ _ hlp) (fun xs q => nomatch q) ls
    · exact addT_none (s _ _ hla) (fun xs q => nomatch q) as
  · show (if _ then none else H' b) = H' b
    rw [if_neg]
    rintro (rfl | rfl | rfl | ⟨u, h1, h2⟩)
    · rw [hp] at e; cases e
    · rw [hlp] at e; cases e
    · rw [hla] at e; cases e
    · rw [M.ss _ _ h1] at e; cases e
/-- something that is not the mead's is changed -/
theorem MeadAt.put {b : Addr} {o o' : HO} (M : MeadAt K C H0 Hs H p S P A) (hb : H0 b = some o) (n : ∀ xs, o ≠ .tup xs) (n' : ∀ xs, o' ≠ .tup xs) : MeadAt K C (upd H0 b o') Hs (upd H b o') p S P A := by
  obtain ⟨dx, lp, la, c, d, vs, us, p0, l0, a0, ps, ls, as, nla, hp, hlp, hla, hc, hd, hP, hA⟩ := M.ex
  have bs : Hs b = none := by
    cases e : Hs b with
    | none => rfl
    | some u =>
      have h1 := M.ss _ _ e
      rw [M.s0 _ _ hb] at h1
      cases h1
      rw [M.dj _ _ e n] at hb
      cases hb
  have nb : ∀ {q : Addr}, H0 q = none → q ≠ b := fun h z => by rw [z, hb] at h; cases h
  refine ⟨fun q u e => ?_, same_but bs M.ss, fun q xs e => ?_, fun q xs e => ?_, fun q u e z => ?_, dx, lp, la, c, d, vs, us, ?_, ?_, ?_, ps, ls, as, nla, ?_, ?_, ?_, hc, hd, hP, hA⟩
  · by_cases z : q = b
    · rw [z, upd_same] at e ⊢; exact e
    · rw [upd_ne z] at e ⊢; exact M.s0 _ _ e
  · by_cases z : q = b
    · rw [z, upd_same] at e; cases e; exact absurd rfl (n' _)
    · rw [upd_ne z] at e ⊢; exact M.k0 _ _ e
  · by_cases z : q = b
    · rw [z, upd_same] at e; cases e; exact absurd rfl (n' _)
    · rw [upd_ne z] at e; exact M.ks _ _ e
  · have : q ≠ b := fun y => by rw [y, bs] at e; cases e
    rw [upd_ne this]
    exact M.dj _ _ e z
  · rw [upd_ne (nb p0)]; exact p0
  · rw [upd_ne (nb l0)]; exact l0
  · rw [upd_ne (nb a0)]; exact a0
  · rw [upd_ne (nb p0)]; exact hp
  · rw [upd_ne (nb l0)]; exact hlp
  · rw [upd_ne (nb a0)]; exact hla
/-- a mead put together anew -/
theorem mead_mk {H' : Hp} {dx lp la c d : Addr} {vs us : List V} (s0 : Same H0 H') (ss : Same Hs H') (dj : ∀ b o, Hs b = some o → (∀ xs, o ≠ .tup xs) → H0 b = none) (p0 : H0 p = none) (l0 : H0 lp = none) (a0 : H0 la = none) (ps : Hs p = none) (ls : Hs lp = none) (as : Hs la = none) (nla : lp ≠ la)
    (hp : H' p = some (.ins C dx (mf (.ref c) (.int S.n) (.ref d) (.ref lp) (.ref la)))) (hlp : H' lp = some (.lst vs)) (hla : H' la = some (.lst us)) (hc : PLt H' c S.cut) (c0 : H0 c = none) (cl : c ≠ lp) (ca : c ≠ la) (hd : DLs K H' d S) (d0 : H0 d = none)
    (hP : ∀ Hx, Same Hs Hx → Keeps H' Hx → (∀ b, H0 b = none → b ≠ p → b ≠ lp → b ≠ la → Hx b = H' b) → All2 (EnAt K Hx) vs P ∧ All2 (EnAt K Hx) us A) : ∃ H0' Hs', Same H0 H0' ∧ Same Hs Hs' ∧ MeadAt K C H0' Hs' H' p S P A := by
  classical
  have cp : c ≠ p := by
    obtain ⟨xs, h1, _⟩ := hc
    exact ne_of h1 hp (fun z => nomatch z)
  have dd : d ≠ p ∧ d ≠ lp ∧ d ≠ la := by
    obtain ⟨ks, ⟨_, es, h1, _⟩, _⟩ := hd
    exact ⟨ne_of h1 hp (fun z => nomatch z), ne_of h1 hlp (fun z => nomatch z), ne_of h1 hla (fun z => nomatch z)⟩
  generalize hX : (fun b => if b = p ∨ b = lp ∨ b = la ∨ ∃ o, H0 b = some o ∧ ∀ xs, o ≠ .tup xs then none else H' b : Hp) = Hx
  have eX : ∀ b, H0 b = none → b ≠ p → b ≠ lp → b ≠ la → Hx b = H' b := fun b h1 h2 h3 h4 => by
    rw [← hX]
    refine if_neg ?_
    rintro (z | z | z | ⟨o, z, _⟩)
    · exact h2 z
    · exact h3 z
    · exact h4 z
    · rw [h1] at z; cases z
  have kX : Keeps H' Hx := fun b xs e => by
    rw [← hX]
    show (if _ then none else H' b) = _
    rw [if_neg]
    · exact e
    · rintro (rfl | rfl | rfl | ⟨o, z, n⟩)
      · rw [hp] at e; cases e
      · rw [hlp] at e; cases e
      · rw [hla] at e; cases e
      · rw [s0 _ _ z] at e; cases e; exact n _ rfl
  have sX : Same Hx H' := fun b o e => by
    rw [← hX] at e
    have e : (if _ then none else H' b) = some o := e
    split at e
    · cases e
    · exact e
  have sg : Same Hs Hx := fun b o e => by
    rw [← hX]
    show (if _ then none else H' b) = _
    rw [if_neg]
    · exact ss _ _ e
    · rintro (rfl | rfl | rfl | ⟨u, z, n⟩)
      · rw [ps] at e; cases e
      · rw [ls] at e; cases e
      · rw [as] at e; cases e
      · have h1 := s0 _ _ z
        rw [ss _ _ e] at h1
        cases h1
        rw [dj _ _ e n] at z
        cases z
  obtain ⟨hP, hA⟩ := hP Hx sg kX eX
  refine ⟨addT H0 H', Hx, addT_same s0, sg, addT_sub s0, sX, addT_keeps, kX, fun b o e n => ?_, dx, lp, la, c, d, vs, us, addT_none hp (fun xs q => nomatch q) p0, addT_none hlp (fun xs q => nomatch q) l0, addT_none hla (fun xs q => nomatch q) a0, ?_, ?_, ?_, nla, hp, hlp, hla, hc.keep kX (eX c c0 cp cl ca), hd.keep kX (eX d d0 dd.1 dd.2.1 dd.2.2), hP, hA⟩
  · have h1 := sX _ _ e
    refine addT_none h1 n ?_
    cases z : H0 b with
    | none => rfl
    | some u =>
      have h2 := s0 _ _ z
      rw [h1] at h2
      cases h2
      rw [← hX] at e
      have e : (if _ then none else H' b) = some o := e
      rw [if_pos (.inr (.inr (.inr ⟨o, z, n⟩)))] at e
      cases e
  · rw [← hX]; exact if_pos (.inl rfl)
  · rw [← hX]; exact if_pos (.inr (.inl rfl))
  · rw [← hX]; exact if_pos (.inr (.inr (.inl rfl)))
end
end Pm
/-! ### states and deeds -/
namespace Pm
open PySem PySem.Spec PyProof.Rows L2
/-- a state of a mead: a cutting, lengths; numbers below 2 ^ B -/
def Ok (S : Ms) (B : Nat) : Prop := S.n ≤ 12 ∧ ∃ (t : Tr) (L : Len) (F : Nat), Cutting S.n S.cut t ∧ Meas S.n t L S.D ∧ Bd S.n S.D F B
section
variable {K : PySem.W.Frag} {H : Hp} {d : Addr} {S : Ms} {t : Tr}
theorem DLs.len (h : DLs K H d S) (C : Cutting S.n S.cut t) : LenD K H d t S.D := by
  obtain ⟨ks, h1, h2, _⟩ := h
  exact ⟨ks, _, h1, fun p => by rw [h2]; exact C.ties, fun q hq => rfl⟩
theorem small_tie' {n : Nat} {cut : List IP} (C : Cutting n cut t) (n12 : n ≤ 12) {p : IP} (h : p ∈ tiesL n cut) : smallP p := by
  obtain ⟨q, hq, rfl⟩ := C.ties.mp h
  have := Tr.bd hq
  have := C.w
  unfold smallP castP
  simp only
  omega
theorem Cutting.ties_len' {n : Nat} {cut : List IP} (C : Cutting n cut t) : (tiesL n cut).length = 2 * n - 3 := by
  have := C.cut_len
  have := C.n3
  rw [tiesL, sortP_len, List.length_append, sides0_len (by omega)]
  omega
theorem LenD.dls (h : LenD K H d t S.D) (C : Cutting S.n S.cut t) (n12 : S.n ≤ 12) : DLs K H d S := by
  obtain ⟨ks, L, h1, h2, h3⟩ := h
  have e : ∀ p, p ∈ ks ↔ p ∈ tiesL S.n S.cut := fun p => by rw [h2]; exact C.ties.symm
  refine ⟨ks, h1.congr fun k hk => ?_, e, fun p hp => small_tie' C n12 ((e p).mp hp), ?_⟩
  · obtain ⟨q, hq, rfl⟩ := (h2 k).mp hk
    rw [h3 q hq]
    rfl
  · rw [perm_len h1.nd C.ties_nodup e, C.ties_len']
    omega
end
/-- t is t' with the post p put in between b and a -/
structure EarIn (n : Nat) (t t' : Tr) (p b a : Nat) : Prop where
  w' : t'.w + 1 = n
  w : t.w = n
  all : ∀ q, q ∈ t.all 0 ↔ (∃ q0, q0 ∈ t'.all 0 ∧ q = Tr.skp p q0) ∨ q = (min b p, max b p) ∨ q = (min p a, max p a)
  ropes : (t.ropes 0).Perm ((min b a, max b a) :: (t'.ropes 0).map (Tr.skp p))
namespace Tr
theorem all_graft {t : Tr} {j : Nat} (h : j < t.w) (q : Nat × Nat) : q ∈ (t.graft j).all 0 ↔ (∃ q0, q0 ∈ t.all 0 ∧ q = skp (j + 1) q0) ∨ q = (j, j + 1) ∨ q = (j + 1, j + 2) := by
  have hw := w_graft h
  have hp := inn_graft (lo := 0) h
  obtain ⟨x, y⟩ := q
  rw [all_iff, hp.mem_iff, List.mem_cons, List.mem_map, hw]
  simp only [Nat.zero_add]
  constructor
  · rintro ((e | ⟨q0, h0, e⟩) | ⟨_, e1, e2⟩)
    · refine .inl ⟨(j, j + 1), all_iff.mpr (.inr ⟨Nat.zero_le _, rfl, by show j + 1 ≤ 0 + t.w; omega⟩), ?_⟩
      rw [e]
      unfold skp sk
      simp only
      rw [if_pos (by omega), if_neg (by omega)]
    · exact .inl ⟨q0, inn_all h0, e.symm⟩
    · subst e1
      rcases Nat.lt_trichotomy x j with z | z | z
      · refine .inl ⟨(x, x + 1), all_iff.mpr (.inr ⟨Nat.zero_le _, rfl, by show x + 1 ≤ 0 + t.w; omega⟩), ?_⟩
        unfold skp sk
        simp only
        rw [if_pos (by omega), if_pos (by omega)]
      · rw [z]; exact .inr (.inl rfl)
      · by_cases z2 : x = j + 1
        · rw [z2]; exact .inr (.inr rfl)
        · refine .inl ⟨(x - 1, x), all_iff.mpr (.inr ⟨Nat.zero_le _, by show x = x - 1 + 1; omega, by show x ≤ 0 + t.w; omega⟩), ?_⟩
          unfold skp sk
          simp only
          rw [if_neg (by omega), if_neg (by omega)]
          congr 1
          omega
  · rintro (⟨q0, h0, e⟩ | e | e)
    · rcases all_iff.mp h0 with h1 | ⟨_, h1, h2⟩
      · exact .inl (.inr ⟨q0, h1, e.symm⟩)
      · obtain ⟨u, v⟩ := q0
        simp only at h1 h2
        subst h1
        unfold skp sk at e
        simp only at e
        by_cases z : u = j
        · rw [if_pos (by omega), if_neg (by omega)] at e
          refine .inl (.inl ?_)
          rw [e, z]
        · refine .inr ⟨Nat.zero_le _, ?_, ?_⟩
          · have e1 := congrArg Prod.fst e
            have e2 := congrArg Prod.snd e
            simp only at e1 e2
            show y = x + 1
            split at e1 <;> split at e2 <;> omega
          · have e2 := congrArg Prod.snd e
            simp only at e2
            show y ≤ t.w + 1
            split at e2 <;> omega
    · injection e with e1 e2
      exact .inr ⟨Nat.zero_le _, by omega, by omega⟩
    · injection e with e1 e2
      exact .inr ⟨Nat.zero_le _, by omega, by omega⟩
theorem ungraft : ∀ {t : Tr} {lo p : Nat}, lo < p → p < lo + t.w → (∀ q ∈ t.inn lo, q.1 ≠ p ∧ q.2 ≠ p) → ∃ t' : Tr, t = t'.graft (p - lo - 1) ∧ t'.w + 1 = t.w ∧ p - lo - 1 < t'.w
  | leaf, lo, p, h1, h2, _ => absurd h2 (by show ¬ p < lo + 1; omega)
  | node l r, lo, p, h1, h2, h3 => by
    have h2 : p < lo + (l.w + r.w) := h2
    have lp := l.w_pos
    have rp := r.w_pos
    rcases Nat.lt_trichotomy p (lo + l.w) with z | z | z
    · obtain ⟨l', e, hw, hj⟩ := ungraft (t := l) h1 z (fun q hq => h3 q (List.mem_cons_of_mem _ (List.mem_append_left _ hq)))
      refine ⟨node l' r, ?_, ?_, ?_⟩
      · show _ = (if _ then node (l'.graft _) r else _)
        rw [if_pos hj, ← e]
      · show l'.w + r.w + 1 = l.w + r.w
        omega
      · show _ < l'.w + r.w
        omega
    · have el : l = leaf := by
        cases l with
        | leaf => rfl
        | node a b => exact absurd z.symm (h3 _ (List.mem_cons_of_mem _ (List.mem_append_left _ List.mem_cons_self))).2
      have er : r = leaf := by
        cases r with
        | leaf => rfl
        | node a b => exact absurd z.symm (h3 _ (List.mem_cons_of_mem _ (List.mem_append_right _ List.mem_cons_self))).1
      subst el er
      have e1 : (leaf : Tr).w = 1 := rfl
      rw [e1] at z
      refine ⟨leaf, ?_, rfl, ?_⟩
      · rfl
      · show p - lo - 1 < 1
        omega
    · obtain ⟨r', e, hw, hj⟩ := ungraft (t := r) (lo := lo + l.w) z (by omega) (fun q hq => h3 q (List.mem_cons_of_mem _ (List.mem_append_right _ hq)))
      refine ⟨node l r', ?_, ?_, ?_⟩
      · show _ = (if _ then _ else node l (r'.graft _))
        rw [if_neg (by omega), e]
        congr 2
        omega
      · show l.w + r'.w + 1 = l.w + r.w
        omega
      · show _ < l.w + r'.w
        omega
theorem all_shift : ∀ (t : Tr) (lo : Nat), t.all (lo + 1) = (t.all lo).map fun p => (p.1 + 1, p.2 + 1)
  | leaf, lo => rfl
  | node l r, lo => by
    show (lo + 1, lo + 1 + (l.w + r.w)) :: (l.all (lo + 1) ++ r.all (lo + 1 + l.w)) = ((lo, lo + (l.w + r.w)) :: (l.all lo ++ r.all (lo + l.w))).map _
    rw [List.map_cons, List.map_append, all_shift l lo, show lo + 1 + l.w = lo + l.w + 1 by omega, all_shift r (lo + l.w)]
    congr 2
    omega
end Tr
/-- a post put in behind k -/
theorem ear_put {n k : Nat} {t : Tr} (hw : t.w + 1 = n) (n3 : 3 ≤ n) (hk : k < n) : ∃ t2, EarIn n t2 t (k + 1) k (if k + 1 < n then k + 2 else 0) := by
  by_cases c : k + 1 < n
  · rw [if_pos c]
    refine ⟨t.graft k, hw, by rw [Tr.w_graft (by omega)]; exact hw, fun q => ?_, ?_⟩
    · rw [Tr.all_graft (by omega), Nat.min_eq_left (by omega), Nat.max_eq_right (by omega), Nat.min_eq_left (by omega), Nat.max_eq_right (by omega)]
    · rw [Nat.min_eq_left (by omega), Nat.max_eq_right (by omega)]
      exact Tr.ropes_graft (by omega) (by omega)
  · rw [if_neg c]
    have ek : k = t.w := by omega
    have id1 : ∀ q ∈ t.all 0, Tr.skp (k + 1) q = q := fun q hq => by
      have := Tr.bd hq
      unfold Tr.skp Tr.sk
      rw [if_pos (by omega), if_pos (by omega)]
    refine ⟨.node t .leaf, hw, by show t.w + 1 = n; exact hw, fun q => ?_, ?_⟩
    · rw [Tr.mem_node, Nat.min_eq_left (by omega), Nat.max_eq_right (by omega), Nat.min_eq_right (by omega), Nat.max_eq_left (by omega)]
      show q = (0, 0 + (t.w + 1)) ∨ q ∈ t.all 0 ∨ q ∈ [(0 + t.w, 0 + t.w + 1)] ↔ _
      rw [List.mem_singleton, Nat.zero_add, Nat.zero_add, ← ek]
      constructor
      · rintro (h | h | h)
        · exact .inr (.inr h)
        · exact .inl ⟨q, h, (id1 q h).symm⟩
        · exact .inr (.inl h)
      · rintro (⟨q0, h, e⟩ | h | h)
        · rw [e, id1 q0 h]; exact .inr (.inl h)
        · exact .inr (.inr h)
        · exact .inl h
    · show (t.inn 0 ++ []).Perm _
      rw [List.append_nil, Tr.inn_node (by omega), Nat.min_eq_right (by omega), Nat.max_eq_left (by omega), Nat.zero_add, ← ek]
      refine List.Perm.cons _ (List.Perm.of_eq ?_)
      conv => lhs; rw [← List.map_id (t.ropes 0)]
      exact List.map_congr_left fun q hq => (id1 q (Tr.inn_all (ropes_bd hq).1)).symm
/-- a post without ropes taken out -/
theorem ear_take {n p : Nat} {t : Tr} (hw : t.w = n) (n3 : 3 ≤ n) (hp : p ≤ n) (no : ∀ q ∈ t.ropes 0, q.1 ≠ p ∧ q.2 ≠ p) : ∃ t', EarIn n t t' p (if p = 0 then n else p - 1) (if p = n then 0 else p + 1) := by
  by_cases c0 : p = 0
  · subst c0
    rw [if_pos rfl, if_neg (by omega)]
    match t, hw, no with
    | .leaf, hw, _ => exact absurd hw (by show ¬ 1 = n; omega)
    | .node (.node a b) r, hw, no => exact absurd rfl (no (0, 0 + (a.w + b.w)) (List.mem_append_left _ List.mem_cons_self)).1
    | .node .leaf r, hw, no =>
      have hw : 1 + r.w = n := hw
      refine ⟨r, by omega, by show 1 + r.w = n; exact hw, fun q => ?_, ?_⟩
      · rw [Tr.mem_node, Nat.min_eq_right (by omega), Nat.max_eq_left (by omega), Nat.min_eq_left (by omega), Nat.max_eq_right (by omega)]
        show q = (0, 0 + (1 + r.w)) ∨ q ∈ [(0, 0 + 1)] ∨ q ∈ r.all (0 + 1) ↔ _
        rw [Tr.all_shift, List.mem_map, List.mem_singleton, Nat.zero_add, hw]
        have sk0 : ∀ q0 : Nat × Nat, Tr.skp 0 q0 = (q0.1 + 1, q0.2 + 1) := fun q0 => by
          unfold Tr.skp Tr.sk
          rw [if_neg (by omega), if_neg (by omega)]
        constructor
        · rintro (h | h | ⟨q0, h, e⟩)
          · exact .inr (.inl h)
          · exact .inr (.inr h)
          · exact .inl ⟨q0, h, by rw [sk0]; exact e.symm⟩
        · rintro (⟨q0, h, e⟩ | h | h)
          · exact .inr (.inr ⟨q0, h, by rw [e, sk0]⟩)
          · exact .inl h
          · exact .inr (.inl h)
      · show ([] ++ r.inn (0 + 1)).Perm _
        rw [List.nil_append, Tr.inn_node (by omega), Tr.ropes_shift, Nat.min_eq_right (by omega), Nat.max_eq_left (by omega), show 0 + 1 + r.w = n by omega]
        refine List.Perm.cons _ (List.Perm.of_eq (List.map_congr_left fun q0 _ => ?_))
        unfold Tr.skp Tr.sk
        rw [if_neg (by omega), if_neg (by omega)]
  · rw [if_neg c0]
    by_cases c1 : p = n
    · subst c1
      rw [if_pos rfl]
      match t, hw, no with
      | .leaf, hw, _ => exact absurd hw (by show ¬ 1 = p; omega)
      | .node l (.node a b), hw, no =>
        refine absurd ?_ (no (0 + l.w, 0 + l.w + (a.w + b.w)) (List.mem_append_right _ List.mem_cons_self)).2
        have hw : l.w + (a.w + b.w) = p := hw
        simp only
        omega
      | .node l .leaf, hw, no =>
        have hw : l.w + 1 = p := hw
        have id1 : ∀ q ∈ l.all 0, Tr.skp p q = q := fun q hq => by
          have := Tr.bd hq
          unfold Tr.skp Tr.sk
          rw [if_pos (by omega), if_pos (by omega)]
        refine ⟨l, hw, by show l.w + 1 = p; exact hw, fun q => ?_, ?_⟩
        · rw [Tr.mem_node, Nat.min_eq_left (by omega), Nat.max_eq_right (by omega), Nat.min_eq_right (by omega), Nat.max_eq_left (by omega)]
          show q = (0, 0 + (l.w + 1)) ∨ q ∈ l.all 0 ∨ q ∈ [(0 + l.w, 0 + l.w + 1)] ↔ _
          rw [List.mem_singleton, Nat.zero_add, Nat.zero_add, hw, show l.w = p - 1 by omega]
          constructor
          · rintro (h | h | h)
            · exact .inr (.inr h)
            · exact .inl ⟨q, h, (id1 q h).symm⟩
            · exact .inr (.inl h)
          · rintro (⟨q0, h, e⟩ | h | h)
            · rw [e, id1 q0 h]; exact .inr (.inl h)
            · exact .inr (.inr h)
            · exact .inl h
        · show (l.inn 0 ++ []).Perm _
          rw [List.append_nil, Tr.inn_node (by omega), Nat.min_eq_right (by omega), Nat.max_eq_left (by omega), Nat.zero_add, show l.w = p - 1 by omega]
          refine List.Perm.cons _ (List.Perm.of_eq ?_)
          conv => lhs; rw [← List.map_id (l.ropes 0)]
          exact List.map_congr_left fun q hq => (id1 q (Tr.inn_all (ropes_bd hq).1)).symm
    · rw [if_neg c1]
      have no2 : ∀ q ∈ t.inn 0, q.1 ≠ p ∧ q.2 ≠ p := fun q hq => by
        rcases (inn_iff (by omega)).mp hq with rfl | h
        · exact ⟨by simp only; omega, by simp only; omega⟩
        · exact no q h
      obtain ⟨t', e, hw', hj⟩ := Tr.ungraft (lo := 0) (p := p) (by omega) (by omega) no2
      rw [Nat.sub_zero] at e hj
      refine ⟨t', by omega, hw, fun q => ?_, ?_⟩
      · rw [e, Tr.all_graft hj, Nat.min_eq_left (by omega), Nat.max_eq_right (by omega), Nat.min_eq_left (by omega), Nat.max_eq_right (by omega), show p - 1 + 1 = p by omega, show p - 1 + 2 = p + 1 by omega]
      · have := Tr.ropes_graft hj (by omega)
        rw [← e, show p - 1 + 1 = p by omega, show p - 1 + 2 = p + 1 by omega] at this
        rw [Nat.min_eq_left (by omega), Nat.max_eq_right (by omega)]
        exact this
/-! posts set out and drawn: what is measured -/
def dn (k i : Nat) : Nat := if i > k then i - 1 else i
def sg (n k : Nat) : Rat := if k + 1 < n then 1 else -1
/-- from the old post i to the new one behind k -/
def newD (n k : Nat) (x y : Rat) (D : Nat → Nat → Rat) (i : Nat) : Rat := (x * sg n k * D i ((k + 1) % n) + y * D i k) / (sg n k * D k ((k + 1) % n))
def setD (n k : Nat) (x y : Rat) (D : Nat → Nat → Rat) (i j : Nat) : Rat := if i = k + 1 then (if j = k + 1 then 0 else - newD n k x y D (dn k j)) else if j = k + 1 then newD n k x y D (dn k i) else D (dn k i) (dn k j)
section
variable {n : Nat} {t : Tr} {L : Len} {D : Nat → Nat → Rat} {k : Nat} {x y : Rat}
theorem Meas.side (M : Meas n t L D) (n3 : 3 ≤ n) (hk : k < n) : 0 < sg n k * D k ((k + 1) % n) := by
  unfold sg
  by_cases c : k + 1 < n
  · rw [if_pos c, Nat.mod_eq_of_lt c]
    have := M.above (Nat.lt_succ_self k) c
    grind
  · rw [if_neg c, show k + 1 = n by omega, Nat.mod_self]
    have := M.above (i := 0) (k := k) (by omega) hk
    have := M.anti (i := 0) (k := k) (by omega) hk
    grind
theorem dn_lt {i : Nat} (hk : k < n) (hi : i < n + 1) : dn k i < n := by
  unfold dn
  split <;> omega
theorem setD_det (M : Meas n t L D) (n3 : 3 ≤ n) (hk : k < n) : ∃ S : Nat → V2, ∀ i j, i < n + 1 → j < n + 1 → setD n k x y D i j = det (S i) (S j) := by
  obtain ⟨S, _, hS⟩ := M.ex
  have W := M.side n3 hk
  have hw := M.w
  have ha : (k + 1) % n < n := Nat.mod_lt _ (by omega)
  have key : ∀ i, i < n → newD n k x y D i = det (S i) (mix (S ((k + 1) % n)) (x * sg n k / (sg n k * D k ((k + 1) % n))) (S k) (y / (sg n k * D k ((k + 1) % n)))) := by
    intro i hi
    have e1 := hS i ((k + 1) % n) hi ha
    have e2 := hS i k hi hk
    unfold newD
    rw [e1, e2]
    generalize sg n k * D k ((k + 1) % n) = z at *
    unfold det mix
    simp only
    have : z ≠ 0 := by grind
    grind
  refine ⟨fun i => if i = k + 1 then mix (S ((k + 1) % n)) (x * sg n k / (sg n k * D k ((k + 1) % n))) (S k) (y / (sg n k * D k ((k + 1) % n))) else S (dn k i), fun i j hi hj => ?_⟩
  unfold setD
  simp only
  by_cases ci : i = k + 1
  · rw [if_pos ci, if_pos ci]
    by_cases cj : j = k + 1
    · rw [if_pos cj, if_pos cj, det_self]
    · rw [if_neg cj, if_neg cj, key _ (dn_lt hk hj), ← det_anti]
  · rw [if_neg ci, if_neg ci]
    by_cases cj : j = k + 1
    · rw [if_pos cj, if_pos cj, key _ (dn_lt hk hi)]
    · rw [if_neg cj, if_neg cj]
      exact hS _ _ (dn_lt hk hi) (dn_lt hk hj)
theorem dn_sk (i : Nat) : dn k (Tr.sk (k + 1) i) = i ∧ Tr.sk (k + 1) i ≠ k + 1 := by
  unfold dn Tr.sk
  by_cases c : i < k + 1
  · rw [if_pos c, if_neg (by omega)]
    exact ⟨rfl, by omega⟩
  · rw [if_neg c, if_pos (by omega)]
    exact ⟨by omega, by omega⟩
theorem setD_old (q : Nat × Nat) : setD n k x y D (Tr.skp (k + 1) q).1 (Tr.skp (k + 1) q).2 = D q.1 q.2 := by
  have h1 := dn_sk (k := k) q.1
  have h2 := dn_sk (k := k) q.2
  unfold setD Tr.skp
  simp only
  rw [if_neg h1.2, if_neg h2.2, h1.1, h2.1]
theorem setD_one (M : Meas n t L D) (n3 : 3 ≤ n) (hk : k < n) : setD n k x y D (min k (k + 1)) (max k (k + 1)) = x := by
  rw [Nat.min_eq_left (by omega), Nat.max_eq_right (by omega)]
  unfold setD newD
  rw [if_neg (by omega), if_pos rfl, show dn k k = k by unfold dn; rw [if_neg (by omega)], M.self hk]
  have W := M.side n3 hk
  have : sg n k * D k ((k + 1) % n) ≠ 0 := by grind
  grind
theorem setD_two (M : Meas n t L D) (n3 : 3 ≤ n) (hk : k < n) : setD n k x y D (min (k + 1) (if k + 1 < n then k + 2 else 0)) (max (k + 1) (if k + 1 < n then k + 2 else 0)) = y := by
  have W := M.side n3 hk
  by_cases c : k + 1 < n
  · have s1 := M.self (i := k + 1) c
    have s2 := M.anti (i := k) (k := k + 1) hk c
    unfold sg at W
    rw [if_pos c, Nat.mod_eq_of_lt c] at W
    rw [if_pos c, Nat.min_eq_left (by omega), Nat.max_eq_right (by omega)]
    unfold setD newD sg
    rw [if_pos rfl, if_neg (by omega), show dn k (k + 2) = k + 1 by unfold dn; rw [if_pos (by omega)]; omega, if_pos c, Nat.mod_eq_of_lt c, s1, s2]
    have : (1 : Rat) * D k (k + 1) ≠ 0 := by grind
    grind
  · have e : k + 1 = n := by omega
    have s1 := M.self (i := 0) (by omega)
    have s2 := M.anti (i := 0) (k := k) (by omega) hk
    unfold sg at W
    rw [if_neg c, e, Nat.mod_self] at W
    rw [if_neg c, Nat.min_eq_right (by omega), Nat.max_eq_left (by omega)]
    unfold setD newD sg
    rw [if_neg (by omega), if_pos rfl, show dn k 0 = 0 by unfold dn; rw [if_neg (by omega)], if_neg c, show (k + 1) % n = 0 by rw [e, Nat.mod_self], s1, s2]
    have : (-1 : Rat) * - D 0 k ≠ 0 := by grind
    grind
theorem Meas.set {t2 : Tr} (M : Meas n t L D) (n3 : 3 ≤ n) (hk : k < n) (hx : 0 < x) (hy : 0 < y) (E : EarIn n t2 t (k + 1) k (if k + 1 < n then k + 2 else 0)) : Meas (n + 1) t2 (fun q => setD n k x y D q.1 q.2) (setD n k x y D) := by
  obtain ⟨S, hS⟩ := setD_det (x := x) (y := y) M n3 hk
  have hw := M.w
  refine ⟨by rw [E.w], fun q hq => ?_, S, fun q hq => ?_, hS⟩
  · rcases (E.all q).mp hq with ⟨q0, h0, rfl⟩ | rfl | rfl
    · show 0 < setD n k x y D _ _
      have b := Tr.bd h0
      rw [setD_old]
      exact M.above b.2.1 (by omega)
    · show 0 < setD n k x y D _ _
      rw [setD_one M n3 hk]
      exact hx
    · show 0 < setD n k x y D _ _
      rw [setD_two M n3 hk]
      exact hy
  · have b := Tr.bd hq
    have := E.w
    exact (hS q.1 q.2 (by omega) (by omega)).symm
theorem Bd.set {F B m b : Nat} (M : Meas n t L D) (Z : Bd n D F B) (n3 : 3 ≤ n) (hk : k < n) (hx : Pm.rb x m) (hy : Pm.rb y m) (hs : Pm.rb (sg n k * D k ((k + 1) % n)) b) : ∃ F', Bd (n + 1) (setD n k x y D) F' (B + 2 * m + b + 1) := by
  have W := M.side n3 hk
  have ha : (k + 1) % n < n := Nat.mod_lt _ (by omega)
  generalize hWW : sg n k * D k ((k + 1) % n) = ww at W hs
  have wn : 0 < ww.num := pos_num W
  obtain ⟨wN, hwN⟩ : ∃ wN : Nat, ww.num = (wN : Int) := ⟨ww.num.toNat, by omega⟩
  have f0 := Z.f0
  have fb := Z.fb
  obtain ⟨hx1, hx2⟩ := hx
  obtain ⟨hy1, hy2⟩ := hy
  obtain ⟨hs1, hs2⟩ := hs
  rw [hwN] at hs1
  have xd := x.den_pos
  have yd := y.den_pos
  have ex := rat_num_den x
  have ey := rat_num_den y
  have ew := rat_num_den ww
  rw [hwN] at ew
  have w0 : (wN : Rat) ≠ 0 := by
    have : 0 < wN := by omega
    exact_mod_cast Nat.pos_iff_ne_zero.mp this
  have ww0 : ww ≠ 0 := by grind
  have pw : ∀ {a b c d p q r s : Nat}, a < 2 ^ p → b < 2 ^ q → c < 2 ^ r → d < 2 ^ s → a * b * c * d < 2 ^ (p + q + r + s) := by
    intro a b c d p q r s h1 h2 h3 h4
    rw [Nat.pow_add, Nat.pow_add, Nat.pow_add]
    exact Nat.mul_lt_mul'' (Nat.mul_lt_mul'' (Nat.mul_lt_mul'' h1 h2) h3) h4
  have up : ∀ {a : Nat}, a < 2 ^ (B + 2 * m + b) → a < 2 ^ (B + 2 * m + b + 1) := fun h => Nat.lt_of_lt_of_le h (Nat.pow_le_pow_right (by decide) (by omega))
  have e4 : B + m + m + b = B + 2 * m + b := by omega
  have wNb : wN < 2 ^ b := by omega
  have oldz : ∀ i j, i < n → j < n → ∃ z : Int, D i j * ((F * x.den * y.den * wN : Nat) : Rat) = z ∧ z.natAbs < 2 ^ (B + 2 * m + b) := by
    intro i j hi hj
    obtain ⟨z, e, hz⟩ := Z.all i j hi hj
    refine ⟨z * x.den * y.den * wN, ?_, ?_⟩
    · push_cast
      rw [← e]
      grind
    · have e1 : (z * (x.den : Int) * (y.den : Int) * (wN : Int)).natAbs = z.natAbs * x.den * y.den * wN := by rw [Int.natAbs_mul, Int.natAbs_mul, Int.natAbs_mul]; rfl
      rw [e1, ← e4]
      exact pw hz hx2 hy2 wNb
  have newz : ∀ i, i < n → ∃ z : Int, newD n k x y D i * ((F * x.den * y.den * wN : Nat) : Rat) = z ∧ z.natAbs < 2 ^ (B + 2 * m + b + 1) := by
    intro i hi
    obtain ⟨z1, e1, hz1⟩ := Z.all i ((k + 1) % n) hi ha
    obtain ⟨z2, e2, hz2⟩ := Z.all i k hi hk
    obtain ⟨s, es, hs⟩ : ∃ s : Int, sg n k = (s : Rat) ∧ s.natAbs = 1 := by
      unfold sg
      split
      · exact ⟨1, rfl, rfl⟩
      · exact ⟨-1, rfl, rfl⟩
    refine ⟨(x.num * y.den * z1 * ww.den) * s + y.num * x.den * z2 * ww.den, ?_, ?_⟩
    · unfold newD
      rw [hWW, es]
      push_cast
      rw [← ex, ← ey, ← e1, ← e2]
      have : (wN : Rat) = ww * (ww.den : Rat) := ew.symm
      rw [this]
      grind
    · have h1 : (x.num * (y.den : Int) * z1 * (ww.den : Int)).natAbs < 2 ^ (B + 2 * m + b) := by
        rw [Int.natAbs_mul, Int.natAbs_mul, Int.natAbs_mul, show B + 2 * m + b = m + m + B + b by omega]
        exact pw hx1 hy2 hz1 hs2
      have h2 : (y.num * (x.den : Int) * z2 * (ww.den : Int)).natAbs < 2 ^ (B + 2 * m + b) := by
        rw [Int.natAbs_mul, Int.natAbs_mul, Int.natAbs_mul, show B + 2 * m + b = m + m + B + b by omega]
        exact pw hy1 hx2 hz2 hs2
      have h3 : ((x.num * (y.den : Int) * z1 * (ww.den : Int)) * s).natAbs < 2 ^ (B + 2 * m + b) := by
        rw [Int.natAbs_mul, hs, Nat.mul_one]
        exact h1
      have h4 := Int.natAbs_add_le ((x.num * (y.den : Int) * z1 * (ww.den : Int)) * s) (y.num * (x.den : Int) * z2 * (ww.den : Int))
      rw [Nat.pow_succ]
      omega
  refine ⟨F * x.den * y.den * wN, ?_, ?_, fun i j hi hj => ?_⟩
  · have : 0 < wN := by omega
    exact Nat.mul_pos (Nat.mul_pos (Nat.mul_pos f0 xd) yd) this
  · refine up ?_
    rw [← e4]
    exact pw fb hx2 hy2 wNb
  · unfold setD
    split
    · split
      · exact ⟨0, by grind, by show 0 < _; exact Nat.pow_pos (by decide)⟩
      · obtain ⟨z, e, hz⟩ := newz _ (dn_lt hk hj)
        refine ⟨-z, ?_, by rw [Int.natAbs_neg]; exact hz⟩
        push_cast
        rw [← e]
        push_cast
        grind
    · split
      · exact newz _ (dn_lt hk hi)
      · obtain ⟨z, e, hz⟩ := oldz _ _ (dn_lt hk hi) (dn_lt hk hj)
        exact ⟨z, e, up hz⟩
/-- behind the drawing of a post -/
def drawD (p : Nat) (D : Nat → Nat → Rat) (i j : Nat) : Rat := D (Tr.sk p i) (Tr.sk p j)
theorem sk_lt {p i m : Nat} (h : i < m) : Tr.sk p i < m + 1 := by
  unfold Tr.sk
  split <;> omega
theorem Meas.draw {p b a : Nat} {t' : Tr} {D : Nat → Nat → Rat} {L : Len} {t : Tr} (M : Meas (n + 1) t L D) (E : EarIn n t t' p b a) : Meas n t' (fun q => drawD p D q.1 q.2) (drawD p D) := by
  obtain ⟨S, _, hS⟩ := M.ex
  have hw := E.w'
  have hD : ∀ i j, i < n → j < n → drawD p D i j = det (S (Tr.sk p i)) (S (Tr.sk p j)) := fun i j hi hj => hS _ _ (sk_lt hi) (sk_lt hj)
  refine ⟨hw, fun q hq => ?_, fun i => S (Tr.sk p i), fun q hq => ?_, hD⟩
  · have b := Tr.bd hq
    refine M.above ?_ (sk_lt (by omega))
    unfold Tr.sk
    split <;> split <;> omega
  · have b := Tr.bd hq
    exact (hD q.1 q.2 (by omega) (by omega)).symm
theorem Bd.draw {F B p : Nat} {D : Nat → Nat → Rat} (Z : Bd (n + 1) D F B) : Bd n (drawD p D) F B := ⟨Z.f0, Z.fb, fun i j hi hj => Z.all _ _ (sk_lt hi) (sk_lt hj)⟩
end
/-! the states behind deeds -/
def mu (k i : Int) : Int := if i > k then i + 1 else i
def md (k i : Int) : Int := if i > k then i - 1 else i
def muP (k : Int) (p : IP) : IP := (mu k p.1, mu k p.2)
def mdP (k : Int) (p : IP) : IP := (md k p.1, md k p.2)
def setCut (n k : Nat) (cut : List IP) : List IP := sortP (cut.map (muP k) ++ [tieOf k (mu k (((k : Int) + 1) % n))])
def endsT (n p : Nat) : IP := tieOf (((p : Int) - 1) % n) (((p : Int) + 1) % n)
def drawCut (n p : Nat) (cut : List IP) : List IP := sortP ((cut.filter fun q => !decide (q = endsT n p)).map (mdP p))
def aft (n k : Nat) : Nat := if k + 1 < n then k + 2 else 0
def bef (n p : Nat) : Nat := if p = 0 then n - 1 else p - 1
def nxt (n p : Nat) : Nat := if p + 1 = n then 0 else p + 1
theorem mu_sk (k i : Nat) : mu k i = ((Tr.sk (k + 1) i : Nat) : Int) := by
  unfold mu Tr.sk
  by_cases c : i < k + 1
  · rw [if_pos c, if_neg (by omega)]
  · rw [if_neg c, if_pos (by omega)]; omega
theorem muP_skp (k : Nat) (q : Nat × Nat) : muP k (castP q) = castP (Tr.skp (k + 1) q) := by
  unfold muP castP Tr.skp
  simp only [mu_sk]
theorem mdP_skp (p : Nat) (q : Nat × Nat) : mdP p (castP (Tr.skp p q)) = castP q := by
  have h : ∀ i : Nat, md p ((Tr.sk p i : Nat) : Int) = (i : Int) := fun i => by
    unfold md Tr.sk
    by_cases c : i < p
    · rw [if_pos c, if_neg (by omega)]
    · rw [if_neg c, if_pos (by omega)]; omega
  unfold mdP castP Tr.skp
  simp only [h]
theorem mu_aft {n k : Nat} (hk : k < n) : mu k (((k : Int) + 1) % n) = ((aft n k : Nat) : Int) := by
  unfold aft
  by_cases c : k + 1 < n
  · rw [if_pos c, Int.emod_eq_of_lt (by omega) (by omega)]
    unfold mu
    rw [if_pos (by omega)]; omega
  · rw [if_neg c, show (k : Int) + 1 = n by omega, Int.emod_self]
    unfold mu
    rw [if_neg (by omega)]; rfl
theorem ends_eq' {n p : Nat} (hp : p < n) : ((p : Int) - 1) % n = ((bef n p : Nat) : Int) ∧ ((p : Int) + 1) % n = ((nxt n p : Nat) : Int) := by
  unfold bef nxt
  constructor
  · by_cases c : p = 0
    · rw [if_pos c, c, show ((0 : Nat) : Int) - 1 = ((n - 1 : Nat) : Int) + (-1) * n by omega, Int.add_mul_emod_self_right, Int.emod_eq_of_lt (by omega) (by omega)]
    · rw [if_neg c, Int.emod_eq_of_lt (by omega) (by omega)]
      omega
  · by_cases c : p + 1 = n
    · rw [if_pos c, show (p : Int) + 1 = n by omega, Int.emod_self]; rfl
    · rw [if_neg c, Int.emod_eq_of_lt (by omega) (by omega)]
      omega
theorem endsT_eq {n p : Nat} (hp : p < n) : endsT n p = castP (min (bef n p) (nxt n p), max (bef n p) (nxt n p)) := by
  unfold endsT
  rw [(ends_eq' hp).1, (ends_eq' hp).2, tie_cast]
theorem Cutting.set {n k : Nat} {cut : List IP} {t t2 : Tr} (C : Cutting n cut t) (hk : k < n) (E : EarIn n t2 t (k + 1) k (aft n k)) : Cutting (n + 1) (setCut n k cut) t2 := by
  have n3 := C.n3
  refine ⟨by rw [E.w], by omega, ?_, sortP_rising _⟩
  refine (sortP_perm _).trans ?_
  rw [mu_aft hk, tie_cast]
  refine List.perm_append_comm.trans ?_
  refine (List.Perm.cons _ ?_).trans (E.ropes.map castP).symm
  refine (C.perm.map (muP k)).trans (List.Perm.of_eq ?_)
  rw [List.map_map, List.map_map]
  exact List.map_congr_left fun q _ => muP_skp k q
theorem Cutting.draw {n p : Nat} {cut : List IP} {t t' : Tr} (C : Cutting (n + 1) cut t) (n3 : 3 ≤ n) (hp : p < n + 1) (E : EarIn n t t' p (bef (n + 1) p) (nxt (n + 1) p)) : Cutting n (drawCut (n + 1) p cut) t' := by
  refine ⟨E.w', n3, ?_, sortP_rising _⟩
  refine (sortP_perm _).trans ?_
  have h1 : cut.Perm (endsT (n + 1) p :: (t'.ropes 0).map fun q => castP (Tr.skp p q)) := by
    refine C.perm.trans ((E.ropes.map castP).trans (List.Perm.of_eq ?_))
    rw [List.map_cons, List.map_map, endsT_eq hp]
    rfl
  have nd : (endsT (n + 1) p :: (t'.ropes 0).map fun q => castP (Tr.skp p q)).Nodup := h1.nodup_iff.mp (C.perm.nodup_iff.mpr (List.pairwise_map.mpr ((Tr.ropes_nodup t 0).imp fun h z => h (castP_inj z))))
  have h2 := h1.filter (fun q => !decide (q = endsT (n + 1) p))
  have h3 : (endsT (n + 1) p :: (t'.ropes 0).map fun q => castP (Tr.skp p q)).filter (fun q => !decide (q = endsT (n + 1) p)) = (t'.ropes 0).map fun q => castP (Tr.skp p q) := by
    rw [List.filter_cons_of_neg (by simp)]
    refine List.filter_eq_self.mpr fun q hq => ?_
    have := (List.nodup_cons.mp nd).1
    simp only [Bool.not_eq_true', decide_eq_false_iff_not]
    exact fun z => this (by rw [← z]; exact hq)
  rw [h3] at h2
  refine (h2.map (mdP p)).trans (List.Perm.of_eq ?_)
  rw [List.map_map]
  exact List.map_congr_left fun q _ => mdP_skp p q
/-! deeds -/
def turnS (S : Ms) (a b : Int) : Ms := ⟨S.n, turnedL S.n S.cut a b, S.D⟩
def strS (S : Ms) (p : Nat) (f : Rat) : Ms := ⟨S.n, S.cut, strD S.D p f⟩
def setS (S : Ms) (k : Nat) (x y : Rat) : Ms := ⟨S.n + 1, setCut S.n k S.cut, setD S.n k x y S.D⟩
def drawS (S : Ms) (p : Nat) : Ms := ⟨S.n - 1, drawCut S.n p S.cut, drawD p S.D⟩
def freshP (S : Ms) (a b : Int) : IP := ((besideL S.n (tiesL S.n S.cut) a b).getD 0 0, (besideL S.n (tiesL S.n S.cut) a b).getD 1 0)
inductive Ans where
  | pair (p : IP)
  | non
  | num (k : Int)
  | two (x y : Rat)
inductive Outc where
  | yes (S : Ms) (a : Ans)
  | no (k : Nat)
def ropeAt (S : Ms) (p : Int) : Prop := ∃ q ∈ S.cut, p = q.1 ∨ p = q.2
open Classical in
noncomputable def step (S : Ms) : Deed → Outc
  | .turn a b => if tieOf a b ∈ S.cut then .yes (turnS S a b) (.pair (freshP S a b)) else .no 2
  | .stretch p f => if ¬ (0 ≤ p ∧ p < S.n) then .no 1 else if ¬ 0 < f then .no 3 else .yes (strS S p.toNat f) .non
  | .set k x y => if ¬ (0 ≤ k ∧ k < S.n) then .no 1 else if ¬ (0 < x ∧ 0 < y) then .no 3 else if S.n = 12 then .no 4 else .yes (setS S k.toNat x y) (.num (k + 1))
  | .draw p => if ¬ (0 ≤ p ∧ p < S.n) then .no 1 else if S.n = 3 then .no 5 else if ropeAt S p then .no 6 else
      .yes (drawS S p.toNat) (.two (S.D (min (bef S.n p.toNat) p.toNat) (max (bef S.n p.toNat) p.toNat)) (S.D (min p.toNat (nxt S.n p.toNat)) (max p.toNat (nxt S.n p.toNat))))
section
variable {S : Ms} {B : Nat}
theorem Ok.n3 (h : Ok S B) : 3 ≤ S.n := by
  obtain ⟨_, t, L, F, C, _⟩ := h
  exact C.n3
theorem Ok.turn {a b : Int} (h : Ok S B) (e : tieOf a b ∈ S.cut) : Ok (turnS S a b) B := by
  obtain ⟨n12, t, L, F, C, M, Z⟩ := h
  obtain ⟨⟨x, y⟩, hq, ex⟩ := C.mem.mp e
  obtain ⟨t', m, o, R, U⟩ := C.turn hq
  have e1 := congrArg Prod.fst ex
  have e2 := congrArg Prod.snd ex
  simp only [tieOf, castP] at e1 e2
  have eT : turnedL S.n S.cut a b = turnedL S.n S.cut x y := by
    rcases Int.le_total a b with z | z
    · rw [show a = (x : Int) by omega, show b = (y : Int) by omega]
    · rw [turned_comm, show a = (y : Int) by omega, show b = (x : Int) by omega]
  exact ⟨n12, t', _, F, by show Cutting S.n (turnedL S.n S.cut a b) t'; rw [eT]; exact U.cut', M.turn C U (fun p hp _ => M.tie hp) rfl, Z⟩
theorem Ok.stretch {p m : Nat} {f : Rat} (h : Ok S B) (hf : 0 < f) (hm : rb f m) : Ok (strS S p f) (B + m) := by
  obtain ⟨n12, t, L, F, C, M, Z⟩ := h
  exact ⟨n12, t, _, _, C, M.stretch hf, Z.stretch hm⟩
theorem Ok.set {k m b : Nat} {x y : Rat} (h : Ok S B) (hk : k < S.n) (n12 : S.n < 12) (hx : 0 < x) (hy : 0 < y) (bx : rb x m) (byy : rb y m) (bs : rb (sg S.n k * S.D k ((k + 1) % S.n)) b) : Ok (setS S k x y) (B + 2 * m + b + 1) := by
  obtain ⟨_, t, L, F, C, M, Z⟩ := h
  obtain ⟨t2, E⟩ := ear_put C.w C.n3 hk
  obtain ⟨F', Z'⟩ := Z.set M C.n3 hk bx byy bs
  exact ⟨by show S.n + 1 ≤ 12; omega, t2, _, F', C.set hk E, M.set C.n3 hk hx hy E, Z'⟩
theorem rope_none {t : Tr} {p : Nat} (C : Cutting S.n S.cut t) (no : ¬ ropeAt S p) : ∀ q ∈ t.ropes 0, q.1 ≠ p ∧ q.2 ≠ p := fun q hq => by
  have mm : castP q ∈ S.cut := C.mem.mpr ⟨q, hq, rfl⟩
  constructor
  · exact fun z => no ⟨_, mm, .inl (by rw [← z]; rfl)⟩
  · exact fun z => no ⟨_, mm, .inr (by rw [← z]; rfl)⟩
theorem draw_ear {t : Tr} {p : Nat} (C : Cutting S.n S.cut t) (n4 : 4 ≤ S.n) (hp : p < S.n) (no : ¬ ropeAt S p) : ∃ t', EarIn (S.n - 1) t t' p (bef S.n p) (nxt S.n p) := by
  obtain ⟨t', E⟩ := ear_take (n := S.n - 1) (p := p) (t := t) (by have := C.w; omega) (by omega) (by omega) (rope_none C no)
  refine ⟨t', ?_⟩
  have e1 : (if p = 0 then S.n - 1 else p - 1) = bef S.n p := rfl
  have e2 : (if p = S.n - 1 then 0 else p + 1) = nxt S.n p := by
    unfold nxt
    by_cases c : p + 1 = S.n
    · rw [if_pos c, if_pos (by omega)]
    · rw [if_neg c, if_neg (by omega)]
  rw [e1, e2] at E
  exact E
theorem Ok.draw {p : Nat} (h : Ok S B) (n4 : S.n ≠ 3) (hp : p < S.n) (no : ¬ ropeAt S p) : Ok (drawS S p) B := by
  obtain ⟨n12, t, L, F, C, M, Z⟩ := h
  have n3 := C.n3
  obtain ⟨t', E⟩ := draw_ear C (by omega) hp no
  obtain ⟨n, cut, D⟩ := S
  obtain ⟨n, rfl⟩ : ∃ m, n = m + 1 := ⟨n - 1, by simp only at *; omega⟩
  exact ⟨by show n ≤ 12; simp only at n12; omega, t', _, F, C.draw (by simp only at *; omega) hp E, M.draw E, Z.draw⟩
end
/-! shifts, as the law writes them -/
def sh (st k i : Int) : Int := i + st * (if i > k then 1 else 0)
def shP (st k : Int) (p : IP) : IP := (sh st k p.1, sh st k p.2)
theorem shP_up (k : Int) (p : IP) : shP 1 k p = muP k p := by
  have h : ∀ i, sh 1 k i = mu k i := fun i => by unfold sh mu; split <;> omega
  unfold shP muP
  rw [h, h]
theorem shP_dn (k : Int) (p : IP) : shP (-1) k p = mdP k p := by
  have h : ∀ i, sh (-1) k i = md k i := fun i => by unfold sh md; split <;> omega
  unfold shP mdP
  rw [h, h]
def kpS (st k : Int) (r : IP) : Bool := decide (0 < st) || !decide (k = r.1 ∨ k = r.2)
/-- the state, as the law holds it -/
def StT (K : PySem.W.Frag) (H : Hp) (v : V) (S : Ms) : Prop := ∃ s c d, v = .ref s ∧ H s = some (.tup [.int S.n, .ref c, .ref d]) ∧ PLt H c S.cut ∧ DLs K H d S
def AnsV (K : PySem.W.Frag) (H : Hp) (v : V) : Ans → Prop
  | .pair p => Pr H v p
  | .non => v = .non
  | .num k => v = .int k
  | .two x y => ∃ u u1 u2, v = .ref u ∧ H u = some (.tup [.ref u1, .ref u2]) ∧ FrV K H (.ref u1) (rp x) ∧ FrV K H (.ref u2) (rp y)
def RepAt (K : PySem.W.Frag) (H : Hp) (v : V) : Outc → Prop
  | .yes _ a => ∃ t x, v = .ref t ∧ H t = some (.tup [.str "yes", x]) ∧ AnsV K H x a
  | .no k => ∃ t, v = .ref t ∧ H t = some (.tup [.str "no", .int k])
def Outc.st (S : Ms) : Outc → Ms
  | .yes S' _ => S'
  | .no _ => S
def Outc.past (S : Ms) (d : Deed) (P : List (Deed × Ms)) : Outc → List (Deed × Ms)
  | .yes _ _ => P ++ [(d.told, S)]
  | .no _ => P
def Outc.ahead (A : List (Deed × Ms)) : Outc → List (Deed × Ms)
  | .yes _ _ => []
  | .no _ => A
section
variable {K : PySem.W.Frag} {H H' : Hp} {v : V}
theorem StT.same {S : Ms} (h : StT K H v S) (s : Same H H') : StT K H' v S := by
  obtain ⟨z, c, d, e, h1, h2, h3⟩ := h
  exact ⟨z, c, d, e, s _ _ h1, h2.same s, h3.same s⟩
theorem AnsV.keep {a : Ans} (k : Keeps H H') (h : AnsV K H v a) : AnsV K H' v a := by
  cases a with
  | pair p => exact Pr.keep k h
  | non => exact h
  | num n => exact h
  | two x y =>
    obtain ⟨u, u1, u2, e, h1, h2, h3⟩ := h
    exact ⟨u, u1, u2, e, k _ _ h1, h2.keep k, h3.keep k⟩
theorem RepAt.keep {o : Outc} (k : Keeps H H') (h : RepAt K H v o) : RepAt K H' v o := by
  cases o with
  | yes S a => obtain ⟨t, x, e, h1, h2⟩ := h; exact ⟨t, x, e, k _ _ h1, h2.keep k⟩
  | no n => obtain ⟨t, e, h1⟩ := h; exact ⟨t, e, k _ _ h1⟩
end
/-- the fractions of a deed -/
def Deed.rbs (d : Deed) (m : Nat) : Prop := match d with
  | .stretch _ f => rb f m
  | .set _ x y => rb x m ∧ rb y m
  | _ => True
theorem num_lt_one {f : Rat} : f.num < 1 ↔ ¬ 0 < f := by
  constructor
  · intro h z
    have := pos_num z
    omega
  · intro h
    rcases Int.lt_or_le f.num 1 with z | z
    · exact z
    · have h2 : (0 : Rat) ≤ f := Rat.num_nonneg.mp (by omega)
      have h3 : f ≠ 0 := fun z2 => by rw [z2] at z; exact absurd z (by decide)
      grind
section
variable {S : Ms} {a b p k : Int} {f x y : Rat}
theorem step_turn_yes (h : tieOf a b ∈ S.cut) : step S (.turn a b) = .yes (turnS S a b) (.pair (freshP S a b)) := by unfold step; dsimp only; rw [if_pos h]
theorem step_turn_no (h : tieOf a b ∉ S.cut) : step S (.turn a b) = .no 2 := by unfold step; dsimp only; rw [if_neg h]
theorem step_str_1 (h : ¬ (0 ≤ p ∧ p < S.n)) : step S (.stretch p f) = .no 1 := by unfold step; dsimp only; rw [if_pos h]
theorem step_str_3 (h : 0 ≤ p ∧ p < S.n) (h2 : ¬ 0 < f) : step S (.stretch p f) = .no 3 := by unfold step; dsimp only; rw [if_neg (fun z => z h), if_pos h2]
theorem step_str_yes (h : 0 ≤ p ∧ p < S.n) (h2 : 0 < f) : step S (.stretch p f) = .yes (strS S p.toNat f) .non := by unfold step; dsimp only; rw [if_neg (fun z => z h), if_neg (fun z => z h2)]
theorem step_set_1 (h : ¬ (0 ≤ k ∧ k < S.n)) : step S (.set k x y) = .no 1 := by unfold step; dsimp only; rw [if_pos h]
theorem step_set_3 (h : 0 ≤ k ∧ k < S.n) (h2 : ¬ (0 < x ∧ 0 < y)) : step S (.set k x y) = .no 3 := by unfold step; dsimp only; rw [if_neg (fun z => z h), if_pos h2]
theorem step_set_4 (h : 0 ≤ k ∧ k < S.n) (h2 : 0 < x ∧ 0 < y) (h3 : S.n = 12) : step S (.set k x y) = .no 4 := by unfold step; dsimp only; rw [if_neg (fun z => z h), if_neg (fun z => z h2), if_pos h3]
theorem step_set_yes (h : 0 ≤ k ∧ k < S.n) (h2 : 0 < x ∧ 0 < y) (h3 : S.n ≠ 12) : step S (.set k x y) = .yes (setS S k.toNat x y) (.num (k + 1)) := by unfold step; dsimp only; rw [if_neg (fun z => z h), if_neg (fun z => z h2), if_neg h3]
theorem step_draw_1 (h : ¬ (0 ≤ p ∧ p < S.n)) : step S (.draw p) = .no 1 := by unfold step; dsimp only; rw [if_pos h]
theorem step_draw_5 (h : 0 ≤ p ∧ p < S.n) (h2 : S.n = 3) : step S (.draw p) = .no 5 := by unfold step; dsimp only; rw [if_neg (fun z => z h), if_pos h2]
theorem step_draw_6 (h : 0 ≤ p ∧ p < S.n) (h2 : S.n ≠ 3) (h3 : ropeAt S p) : step S (.draw p) = .no 6 := by unfold step; dsimp only; rw [if_neg (fun z => z h), if_neg h2, if_pos h3]
theorem step_draw_yes (h : 0 ≤ p ∧ p < S.n) (h2 : S.n ≠ 3) (h3 : ¬ ropeAt S p) : step S (.draw p) = .yes (drawS S p.toNat) (.two (S.D (min (bef S.n p.toNat) p.toNat) (max (bef S.n p.toNat) p.toNat)) (S.D (min p.toNat (nxt S.n p.toNat)) (max p.toNat (nxt S.n p.toNat)))) := by unfold step; dsimp only; rw [if_neg (fun z => z h), if_neg h2, if_neg h3]
end
/-- the three of a state -/
def StA (K : PySem.W.Frag) (H : Hp) (z c d : Addr) (S : Ms) : Prop := H z = some (.tup [.int S.n, .ref c, .ref d]) ∧ PLt H c S.cut ∧ DLs K H d S
theorem StA.same {K : PySem.W.Frag} {H H' : Hp} {z c d : Addr} {S : Ms} (h : StA K H z c d S) (s : Same H H') : StA K H' z c d S := ⟨s _ _ h.1, h.2.1.same s, h.2.2.same s⟩
/-- what the law's model answers: the state, the answer -/
def ModNew (K : PySem.W.Frag) (H : Hp) (S : Ms) (c d : Addr) (dd : Deed) (Q : VK) : Prop := ∀ (r z' c' d' : Addr) (H' : Hp) (an : V), Same H H' → H r = none → H' r = some (.tup [.ref z', an]) → StA K H' z' c' d' ((step S dd).st S) → (H c' = none ∨ c' = c) → (H d' = none ∨ d' = d) → RepAt K H' an (step S dd) → Q (.ref r) H'
section
variable {K : PySem.W.Frag} {H : Hp} {S : Ms} {dd : Deed} {Q : VK} {z c d t r : Addr}
theorem ModNew.no {j : Nat} (q : ModNew K H S c d dd Q) (e : step S dd = .no j) (hst : StA K H z c d S) (ht : H t = none) (hr : upd H t (.tup [.str "no", .int j]) r = none) : Q (.ref r) (upd (upd H t (.tup [.str "no", .int j])) r (.tup [.ref z, .ref t])) := by
  have s1 := same_new ht (.tup [.str "no", .int j])
  have s2 := same_new hr (.tup [.ref z, .ref t])
  refine q r z c d _ (.ref t) (s1.trans s2) (s1.free hr) upd_same ?_ (.inr rfl) (.inr rfl) ?_
  · rw [e]
    exact hst.same (s1.trans s2)
  · rw [e]
    exact ⟨t, rfl, s2 _ _ upd_same⟩
end
theorem sh_set {n k : Nat} {cut ks : List IP} {t : Tr} (C : Cutting n cut t) (nk : ks.Nodup) (hk : ∀ p, p ∈ ks ↔ p ∈ tiesL n cut) : ((ks.filter fun r => kpS 1 k r && decide (r ∈ cut)).map (shP 1 k)).Perm (cut.map (muP k)) := by
  have h1 : (ks.filter fun r => kpS 1 k r && decide (r ∈ cut)).Perm cut := by
    refine (List.perm_ext_iff_of_nodup (nk.sublist List.filter_sublist) ?_).mpr fun r => ?_
    · exact C.perm.nodup_iff.mpr (List.pairwise_map.mpr ((Tr.ropes_nodup t 0).imp fun h z => h (castP_inj z)))
    · rw [List.mem_filter, hk, mem_ties]
      have : (kpS 1 k r && decide (r ∈ cut)) = decide (r ∈ cut) := rfl
      rw [this]
      simp only [decide_eq_true_eq]
      exact ⟨fun z => z.2, fun z => ⟨.inr z, z⟩⟩
  refine (h1.map (shP 1 k)).trans (List.Perm.of_eq ?_)
  exact List.map_congr_left fun q _ => shP_up k q
theorem sh_draw {n p : Nat} {cut cutX ks : List IP} {t : Tr} (C : Cutting n cut t) (nk : ks.Nodup) (hk : ∀ r, r ∈ ks ↔ r ∈ tiesL n cut) (hX : ∀ r ∈ cutX, r ∈ cut) (nX : cutX.Nodup) (no : ∀ r ∈ cut, ¬ ((p : Int) = r.1 ∨ (p : Int) = r.2)) : ((ks.filter fun r => kpS (-1) p r && decide (r ∈ cutX)).map (shP (-1) p)).Perm (cutX.map (mdP p)) := by
  have h1 : (ks.filter fun r => kpS (-1) p r && decide (r ∈ cutX)).Perm cutX := by
    refine (List.perm_ext_iff_of_nodup (nk.sublist List.filter_sublist) nX).mpr fun r => ?_
    rw [List.mem_filter, hk, mem_ties, Bool.and_eq_true, decide_eq_true_eq]
    constructor
    · exact fun z => z.2.2
    · intro z
      refine ⟨.inr (hX r z), ?_, z⟩
      unfold kpS
      rw [decide_eq_false (no r (hX r z))]
      rfl
  refine (h1.map (shP (-1) p)).trans (List.Perm.of_eq ?_)
  exact List.map_congr_left fun q _ => shP_dn p q
end Pm
local macro_rules | `(tactic| walk_at "s1") => `(tactic| first
  | with_reducible refine Pm.w_seq ?_ | with_reducible refine Pm.w_asg ?_ | with_reducible refine Pm.w_drop ?_ | with_reducible refine Pm.w_ret ?_ | with_reducible refine Pm.w_retN ?_
  | with_reducible refine Pm.w_next ?_ | with_reducible refine Pm.w_brk ?_ | with_reducible refine Pm.w_cont ?_ | with_reducible refine Pm.w_if ?_ | with_reducible refine Pm.w_gname ?_ | with_reducible refine Pm.w_gcons ?_ | with_reducible refine Pm.w_gsub ?_ | with_reducible refine Pm.w_gnil ?_
  | ((with_reducible show L2.tVar _ _ _ _); refine Pm.w_var rfl ?_) | with_reducible refine Pm.w_c ?_ | with_reducible refine Pm.w_op ?_ | with_reducible refine Pm.w_un ?_
  | with_reducible refine Pm.w_i0 ?_ | ((with_reducible refine Pm.w_i ?_ ?_); (walk_at "side")) | with_reducible refine Pm.w_u ?_ | with_reducible refine Pm.w_eqi ?_ | with_reducible refine Pm.w_nei ?_
  | with_reducible refine Pm.w_eqb ?_ | with_reducible refine Pm.w_neb ?_ | with_reducible refine Pm.w_eqs ?_
  | with_reducible refine Pm.w_cb ?_ | with_reducible refine Pm.w_nil ?_ | with_reducible refine Pm.w_cons ?_ | with_reducible refine Pm.w_call ?_ | with_reducible refine Pm.w_callS ?_ | with_reducible refine Pm.w_tup ?_ | with_reducible refine Pm.w_lst ?_
  | with_reducible refine Pm.w_test ?_ | with_reducible refine Pm.w_b ?_ | with_reducible refine Pm.w_bl ?_ | with_reducible refine Pm.w_and ?_ | with_reducible refine Pm.w_or ?_ | with_reducible refine Pm.w_not ?_
  | with_reducible refine Pm.w_andV ?_ | with_reducible refine Pm.w_orV ?_ | with_reducible refine Pm.w_notV ?_ | with_reducible refine Pm.w_ifE ?_ | with_reducible refine Pm.w_chain ?_ | with_reducible refine Pm.w_chain3 ?_ | with_reducible refine Pm.w_blx ?_
  | with_reducible refine Pm.w_par ?_ | with_reducible refine Pm.w_par2 ?_ | with_reducible refine Pm.w_max ?_ | with_reducible refine Pm.w_min ?_ | with_reducible refine Pm.w_abs ?_
  | with_reducible refine Pm.w_bm ?_ | with_reducible refine Pm.w_bm0 ?_ | with_reducible refine Pm.w_for ?_ | with_reducible refine Pm.w_iList ?_ | with_reducible refine Pm.w_iTup ?_ | with_reducible refine Pm.w_iRng1 ?_ | with_reducible refine Pm.w_iRng2 ?_
  | ((with_reducible refine Pm.w_rg1 ?_ ?_); (constructor <;> omega)) | ((with_reducible refine Pm.w_rg2 ?_ ?_); (refine ⟨⟨?_, ?_⟩, ?_, ?_⟩ <;> omega))
  | with_reducible refine Pm.w_pairs ?_ | with_reducible refine Pm.w_pairs0 ?_ | with_reducible refine Pm.w_dput ?_ | with_reducible refine Pm.w_din ?_ | with_reducible refine Pm.w_dnotin ?_ | with_reducible refine Pm.w_dget ?_
  | with_reducible refine Pm.w_int1 ?_ | with_reducible refine Pm.w_sl ?_ | with_reducible refine Pm.w_noPart ?_ | with_reducible refine Pm.w_part ?_ | with_reducible refine Pm.w_partK ?_
  | with_reducible refine Pm.w_lc ?_ | with_reducible refine Pm.w_yes ?_ | ((with_reducible show Pm.LcTurn _ _ _ _ _ _ _ _); refine Pm.w_turn rfl ?_)
  | with_reducible refine Pm.w_nes ?_ | with_reducible refine Pm.w_fld ?_ | with_reducible refine Pm.w_sfld ?_ | with_reducible refine Pm.w_meth ?_ | with_reducible refine Pm.w_methX ?_ | with_reducible refine Pm.w_make ?_ | with_reducible refine Pm.w_makeX ?_
  | with_reducible refine Pm.w_iteT ?_ | with_reducible refine Pm.w_iteF ?_ | with_reducible refine Pm.w_iteN1 ?_ | with_reducible refine Pm.w_iteN0 ?_)
local macro_rules | `(tactic| walk_at "side") => `(tactic| first | (refine Pm.w_mul1 ?_; constructor <;> omega) | (refine Pm.w_mul2 ?_; constructor <;> omega) | ((with_reducible show L2.CDiv _ _); refine ⟨?_, ?_⟩ <;> omega) | ((with_reducible show L2.CPow _ _); exact ⟨by decide, by decide, by decide⟩) | (show (0:Int) < _; omega))
local macro_rules | `(tactic| walk_at "st") => `(tactic| repeat (walk_at "s1"))
namespace Pm
open PySem PySem.Spec PyProof.Rows L2
/-! ### the text by places -/
def top (i : Nat) : Stmt := PySem.Challenge.pw_postmead_k39_posts_set_out.main.body.getD i (.Pass ⟨0, 0, 0, 0⟩)
abbrev s_wall : Stmt := top 0
abbrev N_wall : List Str := ["k"]
theorem sc_wall : FnScope N_wall ["k"] (defScope s_wall) := ⟨rfl, rfl, rfl, by decide +kernel, rfl, by decide +kernel, by decide +kernel⟩
abbrev s_tie_of : Stmt := top 15
abbrev N_tie_of : List Str := ["a", "b"]
theorem sc_tie_of : FnScope N_tie_of ["a", "b"] (defScope s_tie_of) := ⟨rfl, rfl, rfl, by decide +kernel, rfl, by decide +kernel, by decide +kernel⟩
abbrev s_crosses : Stmt := top 16
abbrev N_crosses : List Str := ["one", "other", "low", "high", "post"]
theorem sc_crosses : FnScope N_crosses ["one", "other"] (defScope s_crosses) := ⟨rfl, rfl, rfl, by decide +kernel, rfl, by decide +kernel, by decide +kernel⟩
abbrev s_sides : Stmt := top 17
abbrev N_sides : List Str := ["n", "k"]
theorem sc_sides : FnScope N_sides ["n"] (defScope s_sides) := ⟨rfl, rfl, rfl, by decide +kernel, rfl, by decide +kernel, by decide +kernel⟩
abbrev s_is_rope : Stmt := top 18
abbrev N_is_rope : List Str := ["n", "pair", "a", "b"]
theorem sc_is_rope : FnScope N_is_rope ["n", "pair"] (defScope s_is_rope) := ⟨rfl, rfl, rfl, by decide +kernel, rfl, by decide +kernel, by decide +kernel⟩
abbrev s_kept : Stmt := top 19
abbrev N_kept : List Str := ["n", "ropes", "cut", "rope", "k", "other"]
theorem sc_kept : FnScope N_kept ["n", "ropes"] (defScope s_kept) := ⟨rfl, rfl, rfl, by decide +kernel, rfl, by decide +kernel, by decide +kernel⟩
abbrev s_ties : Stmt := top 20
abbrev N_ties : List Str := ["n", "cut"]
theorem sc_ties : FnScope N_ties ["n", "cut"] (defScope s_ties) := ⟨rfl, rfl, rfl, by decide +kernel, rfl, by decide +kernel, by decide +kernel⟩
abbrev s_plots : Stmt := top 21
abbrev N_plots : List Str := ["n", "cut", "tied", "tie", "found", "a", "b", "c"]
theorem sc_plots : FnScope N_plots ["n", "cut"] (defScope s_plots) := ⟨rfl, rfl, rfl, by decide +kernel, rfl, by decide +kernel, by decide +kernel⟩
abbrev s_beside : Stmt := top 22
abbrev N_beside : List Str := ["n", "cut", "a", "b", "all_ties", "found", "post"]
theorem sc_beside : FnScope N_beside ["n", "cut", "a", "b"] (defScope s_beside) := ⟨rfl, rfl, rfl, by decide +kernel, rfl, by decide +kernel, by decide +kernel⟩
abbrev s_turned : Stmt := top 23
abbrev N_turned : List Str := ["n", "cut", "a", "b", "rope", "ends", "one"]
theorem sc_turned : FnScope N_turned ["n", "cut", "a", "b"] (defScope s_turned) := ⟨rfl, rfl, rfl, by decide +kernel, rfl, by decide +kernel, by decide +kernel⟩
abbrev s_measure : Stmt := top 27
abbrev N_measure : List Str := ["one", "other"]
theorem sc_measure : FnScope N_measure ["one", "other"] (defScope s_measure) := ⟨rfl, rfl, rfl, by decide +kernel, rfl, by decide +kernel, by decide +kernel⟩
abbrev s_lowest : Stmt := top 28
abbrev N_lowest : List Str := ["top", "bottom", "by"]
theorem sc_lowest : FnScope N_lowest ["top", "bottom"] (defScope s_lowest) := ⟨rfl, rfl, rfl, by decide +kernel, rfl, by decide +kernel, by decide +kernel⟩
abbrev s_plus : Stmt := top 29
abbrev N_plus : List Str := ["one", "other"]
theorem sc_plus : FnScope N_plus ["one", "other"] (defScope s_plus) := ⟨rfl, rfl, rfl, by decide +kernel, rfl, by decide +kernel, by decide +kernel⟩
abbrev s_less : Stmt := top 30
abbrev N_less : List Str := ["one", "other"]
theorem sc_less : FnScope N_less ["one", "other"] (defScope s_less) := ⟨rfl, rfl, rfl, by decide +kernel, rfl, by decide +kernel, by decide +kernel⟩
abbrev s_times : Stmt := top 31
abbrev N_times : List Str := ["one", "other"]
theorem sc_times : FnScope N_times ["one", "other"] (defScope s_times) := ⟨rfl, rfl, rfl, by decide +kernel, rfl, by decide +kernel, by decide +kernel⟩
abbrev s_over : Stmt := top 32
abbrev N_over : List Str := ["one", "other"]
theorem sc_over : FnScope N_over ["one", "other"] (defScope s_over) := ⟨rfl, rfl, rfl, by decide +kernel, rfl, by decide +kernel, by decide +kernel⟩
abbrev s_is_part : Stmt := top 33
abbrev N_is_part : List Str := ["pair"]
theorem sc_is_part : FnScope N_is_part ["pair"] (defScope s_is_part) := ⟨rfl, rfl, rfl, by decide +kernel, rfl, by decide +kernel, by decide +kernel⟩
abbrev s_is_length : Stmt := top 34
abbrev N_is_length : List Str := ["pair"]
theorem sc_is_length : FnScope N_is_length ["pair"] (defScope s_is_length) := ⟨rfl, rfl, rfl, by decide +kernel, rfl, by decide +kernel, by decide +kernel⟩
abbrev s_two_posts : Stmt := top 36
abbrev N_two_posts : List Str := ["n", "a", "b"]
theorem sc_two_posts : FnScope N_two_posts ["n", "a", "b"] (defScope s_two_posts) := ⟨rfl, rfl, rfl, by decide +kernel, rfl, by decide +kernel, by decide +kernel⟩
abbrev s_between : Stmt := top 38
abbrev N_between : List Str := ["lengths", "a", "b", "found"]
theorem sc_between : FnScope N_between ["lengths", "a", "b"] (defScope s_between) := ⟨rfl, rfl, rfl, by decide +kernel, rfl, by decide +kernel, by decide +kernel⟩
abbrev s_spread : Stmt := top 39
abbrev N_spread : List Str := ["one", "other"]
theorem sc_spread : FnScope N_spread ["one", "other"] (defScope s_spread) := ⟨rfl, rfl, rfl, by decide +kernel, rfl, by decide +kernel, by decide +kernel⟩
abbrev s_pair_mixed : Stmt := top 40
abbrev N_pair_mixed : List Str := ["one", "part", "other", "share"]
theorem sc_pair_mixed : FnScope N_pair_mixed ["one", "part", "other", "share"] (defScope s_pair_mixed) := ⟨rfl, rfl, rfl, by decide +kernel, rfl, by decide +kernel, by decide +kernel⟩
abbrev s_third : Stmt := top 41
abbrev N_third : List Str := ["lengths", "stood", "a", "b", "c", "whole", "part", "share"]
theorem sc_third : FnScope N_third ["lengths", "stood", "a", "b", "c"] (defScope s_third) := ⟨rfl, rfl, rfl, by decide +kernel, rfl, by decide +kernel, by decide +kernel⟩
abbrev s_stands : Stmt := top 42
abbrev N_stands : List Str := ["n", "cut", "lengths", "all_plots", "a", "b", "c", "stood", "k"]
theorem sc_stands : FnScope N_stands ["n", "cut", "lengths"] (defScope s_stands) := ⟨rfl, rfl, rfl, by decide +kernel, rfl, by decide +kernel, by decide +kernel⟩
abbrev s_measured : Stmt := top 43
abbrev N_measured : List Str := ["n", "cut", "lengths", "a", "b", "stood"]
theorem sc_measured : FnScope N_measured ["n", "cut", "lengths", "a", "b"] (defScope s_measured) := ⟨rfl, rfl, rfl, by decide +kernel, rfl, by decide +kernel, by decide +kernel⟩
abbrev s_laid : Stmt := top 44
abbrev N_laid : List Str := ["n", "cut", "lengths", "a", "b", "rope", "fresh", "one", "found", "tie", "length"]
theorem sc_laid : FnScope N_laid ["n", "cut", "lengths", "a", "b"] (defScope s_laid) := ⟨rfl, rfl, rfl, by decide +kernel, rfl, by decide +kernel, by decide +kernel⟩
abbrev s_stretched : Stmt := top 46
abbrev N_stretched : List Str := ["n", "lengths", "post", "factor", "found", "tie", "length"]
theorem sc_stretched : FnScope N_stretched ["n", "lengths", "post", "factor"] (defScope s_stretched) := ⟨rfl, rfl, rfl, by decide +kernel, rfl, by decide +kernel, by decide +kernel⟩
abbrev s_sized_by : Stmt := top 48
abbrev N_sized_by : List Str := ["n", "cut", "lengths", "found", "tie"]
theorem sc_sized_by : FnScope N_sized_by ["n", "cut", "lengths"] (defScope s_sized_by) := ⟨rfl, rfl, rfl, by decide +kernel, rfl, by decide +kernel, by decide +kernel⟩
abbrev s_moved_up : Stmt := top 49
abbrev N_moved_up : List Str := ["post", "k"]
theorem sc_moved_up : FnScope N_moved_up ["post", "k"] (defScope s_moved_up) := ⟨rfl, rfl, rfl, by decide +kernel, rfl, by decide +kernel, by decide +kernel⟩
abbrev s_moved_down : Stmt := top 50
abbrev N_moved_down : List Str := ["post", "gone"]
theorem sc_moved_down : FnScope N_moved_down ["post", "gone"] (defScope s_moved_down) := ⟨rfl, rfl, rfl, by decide +kernel, rfl, by decide +kernel, by decide +kernel⟩
abbrev s_law_flow : Stmt := top 53
abbrev N_law_flow : List Str := ["_law_script", "_law_many_here", "_law_great", "_law_row", "_law_k", "_law_cell", "_law_mixed"]
theorem sc_law_flow : FnScope N_law_flow ["_law_script", "_law_many_here"] (defScope s_law_flow) := ⟨rfl, rfl, rfl, by decide +kernel, rfl, by decide +kernel, by decide +kernel⟩
abbrev s_law_whole : Stmt := top 54
abbrev N_law_whole : List Str := ["_law_found"]
theorem sc_law_whole : FnScope N_law_whole ["_law_found"] (defScope s_law_whole) := ⟨rfl, rfl, rfl, by decide +kernel, rfl, by decide +kernel, by decide +kernel⟩
abbrev s_law_low : Stmt := top 55
abbrev N_law_low : List Str := ["_law_top", "_law_bottom", "_law_one", "_law_other"]
theorem sc_law_low : FnScope N_law_low ["_law_top", "_law_bottom"] (defScope s_law_low) := ⟨rfl, rfl, rfl, by decide +kernel, rfl, by decide +kernel, by decide +kernel⟩
abbrev s_law_add : Stmt := top 56
abbrev N_law_add : List Str := ["_law_one", "_law_other"]
theorem sc_law_add : FnScope N_law_add ["_law_one", "_law_other"] (defScope s_law_add) := ⟨rfl, rfl, rfl, by decide +kernel, rfl, by decide +kernel, by decide +kernel⟩
abbrev s_law_mul : Stmt := top 57
abbrev N_law_mul : List Str := ["_law_one", "_law_other"]
theorem sc_law_mul : FnScope N_law_mul ["_law_one", "_law_other"] (defScope s_law_mul) := ⟨rfl, rfl, rfl, by decide +kernel, rfl, by decide +kernel, by decide +kernel⟩
abbrev s_law_div : Stmt := top 58
abbrev N_law_div : List Str := ["_law_one", "_law_other"]
theorem sc_law_div : FnScope N_law_div ["_law_one", "_law_other"] (defScope s_law_div) := ⟨rfl, rfl, rfl, by decide +kernel, rfl, by decide +kernel, by decide +kernel⟩
abbrev s_law_part : Stmt := top 59
abbrev N_law_part : List Str := ["_law_found"]
theorem sc_law_part : FnScope N_law_part ["_law_found"] (defScope s_law_part) := ⟨rfl, rfl, rfl, by decide +kernel, rfl, by decide +kernel, by decide +kernel⟩
abbrev s_law_size : Stmt := top 60
abbrev N_law_size : List Str := ["_law_one"]
theorem sc_law_size : FnScope N_law_size ["_law_one"] (defScope s_law_size) := ⟨rfl, rfl, rfl, by decide +kernel, rfl, by decide +kernel, by decide +kernel⟩
abbrev s_law_many : Stmt := top 61
abbrev N_law_many : List Str := ["_law_row"]
theorem sc_law_many : FnScope N_law_many ["_law_row"] (defScope s_law_many) := ⟨rfl, rfl, rfl, by decide +kernel, rfl, by decide +kernel, by decide +kernel⟩
abbrev s_law_pair : Stmt := top 62
abbrev N_law_pair : List Str := ["_law_a", "_law_b"]
theorem sc_law_pair : FnScope N_law_pair ["_law_a", "_law_b"] (defScope s_law_pair) := ⟨rfl, rfl, rfl, by decide +kernel, rfl, by decide +kernel, by decide +kernel⟩
abbrev s_law_ears : Stmt := top 63
abbrev N_law_ears : List Str := ["_law_n", "_law_row", "_law_left", "_law_k", "_law_ears_here"]
theorem sc_law_ears : FnScope N_law_ears ["_law_n", "_law_row"] (defScope s_law_ears) := ⟨rfl, rfl, rfl, by decide +kernel, rfl, by decide +kernel, by decide +kernel⟩
abbrev s_law_ropes : Stmt := top 64
abbrev N_law_ropes : List Str := ["_law_ears_here", "_law_ear"]
theorem sc_law_ropes : FnScope N_law_ropes ["_law_ears_here"] (defScope s_law_ropes) := ⟨rfl, rfl, rfl, by decide +kernel, rfl, by decide +kernel, by decide +kernel⟩
abbrev s_law_sides : Stmt := top 65
abbrev N_law_sides : List Str := ["_law_n", "_law_k"]
theorem sc_law_sides : FnScope N_law_sides ["_law_n"] (defScope s_law_sides) := ⟨rfl, rfl, rfl, by decide +kernel, rfl, by decide +kernel, by decide +kernel⟩
abbrev s_law_ties : Stmt := top 66
abbrev N_law_ties : List Str := ["_law_n", "_law_cut"]
theorem sc_law_ties : FnScope N_law_ties ["_law_n", "_law_cut"] (defScope s_law_ties) := ⟨rfl, rfl, rfl, by decide +kernel, rfl, by decide +kernel, by decide +kernel⟩
abbrev s_law_sized : Stmt := top 67
abbrev N_law_sized : List Str := ["_law_all_ties", "_law_row", "_law_sized_here", "_law_k", "_law_at"]
theorem sc_law_sized : FnScope N_law_sized ["_law_all_ties", "_law_row"] (defScope s_law_sized) := ⟨rfl, rfl, rfl, by decide +kernel, rfl, by decide +kernel, by decide +kernel⟩
abbrev s_law_beside : Stmt := top 68
abbrev N_law_beside : List Str := ["_law_n", "_law_all_ties", "_law_a", "_law_b", "_law_found", "_law_post"]
theorem sc_law_beside : FnScope N_law_beside ["_law_n", "_law_all_ties", "_law_a", "_law_b"] (defScope s_law_beside) := ⟨rfl, rfl, rfl, by decide +kernel, rfl, by decide +kernel, by decide +kernel⟩
abbrev s_law_turned : Stmt := top 69
abbrev N_law_turned : List Str := ["_law_n", "_law_cut", "_law_rope", "_law_ends", "_law_one"]
theorem sc_law_turned : FnScope N_law_turned ["_law_n", "_law_cut", "_law_rope"] (defScope s_law_turned) := ⟨rfl, rfl, rfl, by decide +kernel, rfl, by decide +kernel, by decide +kernel⟩
abbrev s_law_tuple : Stmt := top 70
abbrev N_law_tuple : List Str := ["_law_found", "_law_many_here", "_law_one"]
theorem sc_law_tuple : FnScope N_law_tuple ["_law_found", "_law_many_here"] (defScope s_law_tuple) := ⟨rfl, rfl, rfl, by decide +kernel, rfl, by decide +kernel, by decide +kernel⟩
abbrev s_law_list : Stmt := top 71
abbrev N_law_list : List Str := ["_law_found", "_law_many_here", "_law_one"]
theorem sc_law_list : FnScope N_law_list ["_law_found", "_law_many_here"] (defScope s_law_list) := ⟨rfl, rfl, rfl, by decide +kernel, rfl, by decide +kernel, by decide +kernel⟩
abbrev s_law_dict : Stmt := top 72
abbrev N_law_dict : List Str := ["_law_found", "_law_due", "_law_tie", "_law_length"]
theorem sc_law_dict : FnScope N_law_dict ["_law_found", "_law_due"] (defScope s_law_dict) := ⟨rfl, rfl, rfl, by decide +kernel, rfl, by decide +kernel, by decide +kernel⟩
abbrev s_law_parts : Stmt := top 73
abbrev N_law_parts : List Str := ["_law_found", "_law_due", "_law_k"]
theorem sc_law_parts : FnScope N_law_parts ["_law_found", "_law_due"] (defScope s_law_parts) := ⟨rfl, rfl, rfl, by decide +kernel, rfl, by decide +kernel, by decide +kernel⟩
abbrev s_law_laid : Stmt := top 74
abbrev N_law_laid : List Str := ["_law_n", "_law_cut", "_law_sized_here", "_law_rope", "_law_ends", "_law_one", "_law_other", "_law_made"]
theorem sc_law_laid : FnScope N_law_laid ["_law_n", "_law_cut", "_law_sized_here", "_law_rope"] (defScope s_law_laid) := ⟨rfl, rfl, rfl, by decide +kernel, rfl, by decide +kernel, by decide +kernel⟩
abbrev s_law_stretched : Stmt := top 75
abbrev N_law_stretched : List Str := ["_law_sized_here", "_law_post", "_law_factor", "_law_made", "_law_tie", "_law_length"]
theorem sc_law_stretched : FnScope N_law_stretched ["_law_sized_here", "_law_post", "_law_factor"] (defScope s_law_stretched) := ⟨rfl, rfl, rfl, by decide +kernel, rfl, by decide +kernel, by decide +kernel⟩
abbrev s_law_shift : Stmt := top 76
abbrev N_law_shift : List Str := ["_law_state", "_law_post", "_law_step", "_law_cut", "_law_sized_here", "_law_tie", "_law_length", "_law_a", "_law_b"]
theorem sc_law_shift : FnScope N_law_shift ["_law_state", "_law_post", "_law_step"] (defScope s_law_shift) := ⟨rfl, rfl, rfl, by decide +kernel, rfl, by decide +kernel, by decide +kernel⟩
abbrev s_law_set : Stmt := top 77
abbrev N_law_set : List Str := ["_law_state", "_law_k", "_law_one", "_law_other", "_law_n", "_law_cut", "_law_sized_here", "_law_after"]
theorem sc_law_set : FnScope N_law_set ["_law_state", "_law_k", "_law_one", "_law_other"] (defScope s_law_set) := ⟨rfl, rfl, rfl, by decide +kernel, rfl, by decide +kernel, by decide +kernel⟩
abbrev s_law_draw : Stmt := top 78
abbrev N_law_draw : List Str := ["_law_state", "_law_post", "_law_n", "_law_rope", "_law_ends", "_law_told_two", "_law_late", "_law_one"]
theorem sc_law_draw : FnScope N_law_draw ["_law_state", "_law_post"] (defScope s_law_draw) := ⟨rfl, rfl, rfl, by decide +kernel, rfl, by decide +kernel, by decide +kernel⟩
abbrev s_law_model : Stmt := top 79
abbrev N_law_model : List Str := ["_law_state", "_law_deed", "_law_n", "_law_cut", "_law_sized_here", "_law_rope", "_law_late", "_law_fresh", "_law_one"]
theorem sc_law_model : FnScope N_law_model ["_law_state", "_law_deed"] (defScope s_law_model) := ⟨rfl, rfl, rfl, by decide +kernel, rfl, by decide +kernel, by decide +kernel⟩
abbrev s_law_done : Stmt := top 80
abbrev N_law_done : List Str := ["_law_mead", "_law_deed"]
theorem sc_law_done : FnScope N_law_done ["_law_mead", "_law_deed"] (defScope s_law_done) := ⟨rfl, rfl, rfl, by decide +kernel, rfl, by decide +kernel, by decide +kernel⟩
abbrev s_law_answer : Stmt := top 81
abbrev N_law_answer : List Str := ["_law_found", "_law_due", "_law_deed"]
theorem sc_law_answer : FnScope N_law_answer ["_law_found", "_law_due", "_law_deed"] (defScope s_law_answer) := ⟨rfl, rfl, rfl, by decide +kernel, rfl, by decide +kernel, by decide +kernel⟩
abbrev s_law_is_at : Stmt := top 82
abbrev N_law_is_at : List Str := ["_law_mead", "_law_state", "_law_n", "_law_cut"]
theorem sc_law_is_at : FnScope N_law_is_at ["_law_mead", "_law_state"] (defScope s_law_is_at) := ⟨rfl, rfl, rfl, by decide +kernel, rfl, by decide +kernel, by decide +kernel⟩
abbrev s_law_told_as : Stmt := top 83
abbrev N_law_told_as : List Str := ["_law_deed"]
theorem sc_law_told_as : FnScope N_law_told_as ["_law_deed"] (defScope s_law_told_as) := ⟨rfl, rfl, rfl, by decide +kernel, rfl, by decide +kernel, by decide +kernel⟩
abbrev s_law_same_deeds : Stmt := top 84
abbrev N_law_same_deeds : List Str := ["_law_found", "_law_due", "_law_k"]
theorem sc_law_same_deeds : FnScope N_law_same_deeds ["_law_found", "_law_due"] (defScope s_law_same_deeds) := ⟨rfl, rfl, rfl, by decide +kernel, rfl, by decide +kernel, by decide +kernel⟩
abbrev s_law_start : Stmt := top 85
abbrev N_law_start : List Str := ["_law_row", "_law_n", "_law_cut"]
theorem sc_law_start : FnScope N_law_start ["_law_row"] (defScope s_law_start) := ⟨rfl, rfl, rfl, by decide +kernel, rfl, by decide +kernel, by decide +kernel⟩
abbrev s_law_run : Stmt := top 86
abbrev N_law_run : List Str := ["_law_mead", "_law_state", "_law_wishes", "_law_stand", "_law_deed", "_law_answer_here"]
theorem sc_law_run : FnScope N_law_run ["_law_mead", "_law_state", "_law_wishes"] (defScope s_law_run) := ⟨rfl, rfl, rfl, by decide +kernel, rfl, by decide +kernel, by decide +kernel⟩
abbrev s_law_wild : Stmt := top 87
abbrev N_law_wild : List Str := ["_law_n", "_law_one"]
theorem sc_law_wild : FnScope N_law_wild ["_law_n", "_law_one"] (defScope s_law_wild) := ⟨rfl, rfl, rfl, by decide +kernel, rfl, by decide +kernel, by decide +kernel⟩
abbrev s_law : Stmt := top 88
abbrev N_law : List Str := ["_law_script", "_law_row", "_law_start_here", "_law_state", "_law_n", "_law_mead", "_law_wishes", "_law_k", "_law_deed", "_law_parts_here"]
theorem sc_law : FnScope N_law ["_law_script"] (defScope s_law) := ⟨rfl, rfl, rfl, by decide +kernel, rfl, by decide +kernel, by decide +kernel⟩
abbrev s_Mead___init__ : Stmt := inClass (top 51) 0
abbrev N_Mead___init__ : List Str := ["self", "n", "ropes", "lengths"]
theorem sc_Mead___init__ : FnScope N_Mead___init__ ["self", "n", "ropes", "lengths"] (defScope s_Mead___init__) := ⟨rfl, rfl, rfl, by decide +kernel, rfl, by decide +kernel, by decide +kernel⟩
abbrev s_Mead_posts : Stmt := inClass (top 51) 1
abbrev N_Mead_posts : List Str := ["self"]
theorem sc_Mead_posts : FnScope N_Mead_posts ["self"] (defScope s_Mead_posts) := ⟨rfl, rfl, rfl, by decide +kernel, rfl, by decide +kernel, by decide +kernel⟩
abbrev s_Mead_ropes : Stmt := inClass (top 51) 2
abbrev N_Mead_ropes : List Str := ["self"]
theorem sc_Mead_ropes : FnScope N_Mead_ropes ["self"] (defScope s_Mead_ropes) := ⟨rfl, rfl, rfl, by decide +kernel, rfl, by decide +kernel, by decide +kernel⟩
abbrev s_Mead_lengths : Stmt := inClass (top 51) 3
abbrev N_Mead_lengths : List Str := ["self"]
theorem sc_Mead_lengths : FnScope N_Mead_lengths ["self"] (defScope s_Mead_lengths) := ⟨rfl, rfl, rfl, by decide +kernel, rfl, by decide +kernel, by decide +kernel⟩
abbrev s_Mead_deeds : Stmt := inClass (top 51) 4
abbrev N_Mead_deeds : List Str := ["self", "entry"]
theorem sc_Mead_deeds : FnScope N_Mead_deeds ["self"] (defScope s_Mead_deeds) := ⟨rfl, rfl, rfl, by decide +kernel, rfl, by decide +kernel, by decide +kernel⟩
abbrev s_Mead_length : Stmt := inClass (top 51) 5
abbrev N_Mead_length : List Str := ["self", "a", "b"]
theorem sc_Mead_length : FnScope N_Mead_length ["self", "a", "b"] (defScope s_Mead_length) := ⟨rfl, rfl, rfl, by decide +kernel, rfl, by decide +kernel, by decide +kernel⟩
abbrev s_Mead_state : Stmt := inClass (top 51) 6
abbrev N_Mead_state : List Str := ["self"]
theorem sc_Mead_state : FnScope N_Mead_state ["self"] (defScope s_Mead_state) := ⟨rfl, rfl, rfl, by decide +kernel, rfl, by decide +kernel, by decide +kernel⟩
abbrev s_Mead_stand_at : Stmt := inClass (top 51) 7
abbrev N_Mead_stand_at : List Str := ["self", "state"]
theorem sc_Mead_stand_at : FnScope N_Mead_stand_at ["self", "state"] (defScope s_Mead_stand_at) := ⟨rfl, rfl, rfl, by decide +kernel, rfl, by decide +kernel, by decide +kernel⟩
abbrev s_Mead_done : Stmt := inClass (top 51) 8
abbrev N_Mead_done : List Str := ["self", "deed", "state"]
theorem sc_Mead_done : FnScope N_Mead_done ["self", "deed", "state"] (defScope s_Mead_done) := ⟨rfl, rfl, rfl, by decide +kernel, rfl, by decide +kernel, by decide +kernel⟩
abbrev s_Mead_turn : Stmt := inClass (top 51) 9
abbrev N_Mead_turn : List Str := ["self", "a", "b", "sized", "cut", "fresh", "rope"]
theorem sc_Mead_turn : FnScope N_Mead_turn ["self", "a", "b"] (defScope s_Mead_turn) := ⟨rfl, rfl, rfl, by decide +kernel, rfl, by decide +kernel, by decide +kernel⟩
abbrev s_Mead_stretch : Stmt := inClass (top 51) 10
abbrev N_Mead_stretch : List Str := ["self", "post", "factor", "sized"]
theorem sc_Mead_stretch : FnScope N_Mead_stretch ["self", "post", "factor"] (defScope s_Mead_stretch) := ⟨rfl, rfl, rfl, by decide +kernel, rfl, by decide +kernel, by decide +kernel⟩
abbrev s_Mead_set_out : Stmt := inClass (top 51) 11
abbrev N_Mead_set_out : List Str := ["self", "k", "one", "other", "after", "fresh", "cut", "a", "b", "sized", "length"]
theorem sc_Mead_set_out : FnScope N_Mead_set_out ["self", "k", "one", "other"] (defScope s_Mead_set_out) := ⟨rfl, rfl, rfl, by decide +kernel, rfl, by decide +kernel, by decide +kernel⟩
abbrev s_Mead_draw : Stmt := inClass (top 51) 12
abbrev N_Mead_draw : List Str := ["self", "post", "n", "rope", "before", "after", "found", "cut", "a", "b", "sized", "length"]
theorem sc_Mead_draw : FnScope N_Mead_draw ["self", "post"] (defScope s_Mead_draw) := ⟨rfl, rfl, rfl, by decide +kernel, rfl, by decide +kernel, by decide +kernel⟩
abbrev s_Mead_back : Stmt := inClass (top 51) 13
abbrev N_Mead_back : List Str := ["self", "deed", "state"]
theorem sc_Mead_back : FnScope N_Mead_back ["self"] (defScope s_Mead_back) := ⟨rfl, rfl, rfl, by decide +kernel, rfl, by decide +kernel, by decide +kernel⟩
abbrev s_Mead_again : Stmt := inClass (top 51) 14
abbrev N_Mead_again : List Str := ["self", "deed", "state"]
theorem sc_Mead_again : FnScope N_Mead_again ["self"] (defScope s_Mead_again) := ⟨rfl, rfl, rfl, by decide +kernel, rfl, by decide +kernel, by decide +kernel⟩
structure DefAt (K : PySem.W.Frag) (mg : Str → Option Value) (nm qn : Str) (st : Stmt) (ps : List Str) : Type where
  a : Addr
  fd : FuncData
  F : Fun K nm qn st a fd
  g : mg nm = some (.ref a)
  b : Binds K fd ps []
structure MethAt (K : PySem.W.Frag) (C : Addr) (nm qn : Str) (st : Stmt) (ps : List Str) : Type where
  a : Addr
  fd : FuncData
  F : Fun K nm qn st a fd
  M : Meth K C nm a
  b : Binds K fd ps []
structure ExAt (K : PySem.W.Frag) (mg : Str → Option Value) (nm : Str) : Type where
  c : Addr
  g : mg nm = some (.ref c)
  x : PySem.W.excIn K c [.type "ValueError", .type "Exception", .type "BaseException", .type "object"] "ValueError.__new__" = true
  k : PySem.W.keepIn K (.ref c) = true
  b : PySem.W.subIn K (.ref c) (.type "BaseException") = some true
  t : PySem.W.typeIn K (.ref c) = some (.type "type")
  i : PySem.W.isClsIn K c = true
  z : PySem.W.subIn K (.ref c) (.ref c) = some true
/-- what the top has written -/
structure Tx (K : PySem.W.Frag) (mg : Str → Option Value) : Type where
  c_Mead : Addr
  d_wall : DefAt K mg "_wall" "_wall" s_wall ["k"]
  d_tie_of : DefAt K mg "tie_of" "tie_of" s_tie_of ["a", "b"]
  d_crosses : DefAt K mg "crosses" "crosses" s_crosses ["one", "other"]
  d_sides : DefAt K mg "sides" "sides" s_sides ["n"]
  d_is_rope : DefAt K mg "is_rope" "is_rope" s_is_rope ["n", "pair"]
  d_kept : DefAt K mg "kept" "kept" s_kept ["n", "ropes"]
  d_ties : DefAt K mg "ties" "ties" s_ties ["n", "cut"]
  d_plots : DefAt K mg "plots" "plots" s_plots ["n", "cut"]
  d_beside : DefAt K mg "beside" "beside" s_beside ["n", "cut", "a", "b"]
  d_turned : DefAt K mg "turned" "turned" s_turned ["n", "cut", "a", "b"]
  d_measure : DefAt K mg "measure" "measure" s_measure ["one", "other"]
  d_lowest : DefAt K mg "lowest" "lowest" s_lowest ["top", "bottom"]
  d_plus : DefAt K mg "plus" "plus" s_plus ["one", "other"]
  d_less : DefAt K mg "less" "less" s_less ["one", "other"]
  d_times : DefAt K mg "times" "times" s_times ["one", "other"]
  d_over : DefAt K mg "over" "over" s_over ["one", "other"]
  d_is_part : DefAt K mg "is_part" "is_part" s_is_part ["pair"]
  d_is_length : DefAt K mg "is_length" "is_length" s_is_length ["pair"]
  d_two_posts : DefAt K mg "two_posts" "two_posts" s_two_posts ["n", "a", "b"]
  d_between : DefAt K mg "between" "between" s_between ["lengths", "a", "b"]
  d_spread : DefAt K mg "spread" "spread" s_spread ["one", "other"]
  d_pair_mixed : DefAt K mg "pair_mixed" "pair_mixed" s_pair_mixed ["one", "part", "other", "share"]
  d_third : DefAt K mg "third" "third" s_third ["lengths", "stood", "a", "b", "c"]
  d_stands : DefAt K mg "stands" "stands" s_stands ["n", "cut", "lengths"]
  d_measured : DefAt K mg "measured" "measured" s_measured ["n", "cut", "lengths", "a", "b"]
  d_laid : DefAt K mg "laid" "laid" s_laid ["n", "cut", "lengths", "a", "b"]
  d_stretched : DefAt K mg "stretched" "stretched" s_stretched ["n", "lengths", "post", "factor"]
  d_sized_by : DefAt K mg "sized_by" "sized_by" s_sized_by ["n", "cut", "lengths"]
  d_moved_up : DefAt K mg "moved_up" "moved_up" s_moved_up ["post", "k"]
  d_moved_down : DefAt K mg "moved_down" "moved_down" s_moved_down ["post", "gone"]
  d_law_flow : DefAt K mg "_law_flow" "_law_flow" s_law_flow ["_law_script", "_law_many_here"]
  d_law_whole : DefAt K mg "_law_whole" "_law_whole" s_law_whole ["_law_found"]
  d_law_low : DefAt K mg "_law_low" "_law_low" s_law_low ["_law_top", "_law_bottom"]
  d_law_add : DefAt K mg "_law_add" "_law_add" s_law_add ["_law_one", "_law_other"]
  d_law_mul : DefAt K mg "_law_mul" "_law_mul" s_law_mul ["_law_one", "_law_other"]
  d_law_div : DefAt K mg "_law_div" "_law_div" s_law_div ["_law_one", "_law_other"]
  d_law_part : DefAt K mg "_law_part" "_law_part" s_law_part ["_law_found"]
  d_law_size : DefAt K mg "_law_size" "_law_size" s_law_size ["_law_one"]
  d_law_many : DefAt K mg "_law_many" "_law_many" s_law_many ["_law_row"]
  d_law_pair : DefAt K mg "_law_pair" "_law_pair" s_law_pair ["_law_a", "_law_b"]
  d_law_ears : DefAt K mg "_law_ears" "_law_ears" s_law_ears ["_law_n", "_law_row"]
  d_law_ropes : DefAt K mg "_law_ropes" "_law_ropes" s_law_ropes ["_law_ears_here"]
  d_law_sides : DefAt K mg "_law_sides" "_law_sides" s_law_sides ["_law_n"]
  d_law_ties : DefAt K mg "_law_ties" "_law_ties" s_law_ties ["_law_n", "_law_cut"]
  d_law_sized : DefAt K mg "_law_sized" "_law_sized" s_law_sized ["_law_all_ties", "_law_row"]
  d_law_beside : DefAt K mg "_law_beside" "_law_beside" s_law_beside ["_law_n", "_law_all_ties", "_law_a", "_law_b"]
  d_law_turned : DefAt K mg "_law_turned" "_law_turned" s_law_turned ["_law_n", "_law_cut", "_law_rope"]
  d_law_tuple : DefAt K mg "_law_tuple" "_law_tuple" s_law_tuple ["_law_found", "_law_many_here"]
  d_law_list : DefAt K mg "_law_list" "_law_list" s_law_list ["_law_found", "_law_many_here"]
  d_law_dict : DefAt K mg "_law_dict" "_law_dict" s_law_dict ["_law_found", "_law_due"]
  d_law_parts : DefAt K mg "_law_parts" "_law_parts" s_law_parts ["_law_found", "_law_due"]
  d_law_laid : DefAt K mg "_law_laid" "_law_laid" s_law_laid ["_law_n", "_law_cut", "_law_sized_here", "_law_rope"]
  d_law_stretched : DefAt K mg "_law_stretched" "_law_stretched" s_law_stretched ["_law_sized_here", "_law_post", "_law_factor"]
  d_law_shift : DefAt K mg "_law_shift" "_law_shift" s_law_shift ["_law_state", "_law_post", "_law_step"]
  d_law_set : DefAt K mg "_law_set" "_law_set" s_law_set ["_law_state", "_law_k", "_law_one", "_law_other"]
  d_law_draw : DefAt K mg "_law_draw" "_law_draw" s_law_draw ["_law_state", "_law_post"]
  d_law_model : DefAt K mg "_law_model" "_law_model" s_law_model ["_law_state", "_law_deed"]
  d_law_done : DefAt K mg "_law_done" "_law_done" s_law_done ["_law_mead", "_law_deed"]
  d_law_answer : DefAt K mg "_law_answer" "_law_answer" s_law_answer ["_law_found", "_law_due", "_law_deed"]
  d_law_is_at : DefAt K mg "_law_is_at" "_law_is_at" s_law_is_at ["_law_mead", "_law_state"]
  d_law_told_as : DefAt K mg "_law_told_as" "_law_told_as" s_law_told_as ["_law_deed"]
  d_law_same_deeds : DefAt K mg "_law_same_deeds" "_law_same_deeds" s_law_same_deeds ["_law_found", "_law_due"]
  d_law_start : DefAt K mg "_law_start" "_law_start" s_law_start ["_law_row"]
  d_law_run : DefAt K mg "_law_run" "_law_run" s_law_run ["_law_mead", "_law_state", "_law_wishes"]
  d_law_wild : DefAt K mg "_law_wild" "_law_wild" s_law_wild ["_law_n", "_law_one"]
  d_law : DefAt K mg "law" "law" s_law ["_law_script"]
  d_Mead___init__ : MethAt K c_Mead "__init__" "Mead.__init__" s_Mead___init__ ["self", "n", "ropes", "lengths"]
  d_Mead_posts : MethAt K c_Mead "posts" "Mead.posts" s_Mead_posts ["self"]
  d_Mead_ropes : MethAt K c_Mead "ropes" "Mead.ropes" s_Mead_ropes ["self"]
  d_Mead_lengths : MethAt K c_Mead "lengths" "Mead.lengths" s_Mead_lengths ["self"]
  d_Mead_deeds : MethAt K c_Mead "deeds" "Mead.deeds" s_Mead_deeds ["self"]
  d_Mead_length : MethAt K c_Mead "length" "Mead.length" s_Mead_length ["self", "a", "b"]
  d_Mead_state : MethAt K c_Mead "state" "Mead.state" s_Mead_state ["self"]
  d_Mead_stand_at : MethAt K c_Mead "stand_at" "Mead.stand_at" s_Mead_stand_at ["self", "state"]
  d_Mead_done : MethAt K c_Mead "done" "Mead.done" s_Mead_done ["self", "deed", "state"]
  d_Mead_turn : MethAt K c_Mead "turn" "Mead.turn" s_Mead_turn ["self", "a", "b"]
  d_Mead_stretch : MethAt K c_Mead "stretch" "Mead.stretch" s_Mead_stretch ["self", "post", "factor"]
  d_Mead_set_out : MethAt K c_Mead "set_out" "Mead.set_out" s_Mead_set_out ["self", "k", "one", "other"]
  d_Mead_draw : MethAt K c_Mead "draw" "Mead.draw" s_Mead_draw ["self", "post"]
  d_Mead_back : MethAt K c_Mead "back" "Mead.back" s_Mead_back ["self"]
  d_Mead_again : MethAt K c_Mead "again" "Mead.again" s_Mead_again ["self"]
  m_min : mg "min" = none
  m_max : mg "max" = none
  m_sorted : mg "sorted" = none
  m_range : mg "range" = none
  m_len : mg "len" = none
  m_abs : mg "abs" = none
  m_isinstance : mg "isinstance" = none
  m_int : mg "int" = none
  m_bool : mg "bool" = none
  m_tuple : mg "tuple" = none
  m_list : mg "list" = none
  m_dict : mg "dict" = none
  g_Mead : mg "Mead" = some (.ref c_Mead)
  cl_Mead : Cls K c_Mead
  mk_Mead : Mk K c_Mead d_Mead___init__.a
  n_Mead_cut : NoAttr K c_Mead "cut"
  n_Mead_many : NoAttr K c_Mead "many"
  n_Mead_sized : NoAttr K c_Mead "sized"
  n_Mead_past : NoAttr K c_Mead "past"
  n_Mead_ahead : NoAttr K c_Mead "ahead"
  e_NoCutting : ExAt K mg "NoCutting"
  e_NoRope : ExAt K mg "NoRope"
  e_NoFraction : ExAt K mg "NoFraction"
  e_NoPost : ExAt K mg "NoPost"
  e_BadLength : ExAt K mg "BadLength"
  e_Full : ExAt K mg "Full"
  e_Few : ExAt K mg "Few"
  e_HasRopes : ExAt K mg "HasRopes"
  e_NoBack : ExAt K mg "NoBack"
  u_FEWEST : Value
  g_FEWEST : mg "FEWEST" = some u_FEWEST
  r_FEWEST : RelV (.int 3) u_FEWEST
  u_MOST : Value
  g_MOST : mg "MOST" = some u_MOST
  r_MOST : RelV (.int 12) u_MOST
  c_ONE : Addr
  g_ONE : mg "ONE" = some (.ref c_ONE)
  r_ONE : RelV (.ref c_ONE) (.ref c_ONE)
  v_ONE : ∀ H, SqT K H c_ONE [.int 1, .int 1]
  c_NOUGHT : Addr
  g_NOUGHT : mg "NOUGHT" = some (.ref c_NOUGHT)
  r_NOUGHT : RelV (.ref c_NOUGHT) (.ref c_NOUGHT)
  v_NOUGHT : ∀ H, SqT K H c_NOUGHT [.int 0, .int 1]
  exm_NoPost_NoPost : PySem.W.exmOne K (.ref e_NoPost.c) (.ref e_NoPost.c) = some true
  exm_NoRope_NoPost : PySem.W.exmOne K (.ref e_NoRope.c) (.ref e_NoPost.c) = some false
  exm_NoRope_NoRope : PySem.W.exmOne K (.ref e_NoRope.c) (.ref e_NoRope.c) = some true
  exm_NoFraction_NoPost : PySem.W.exmOne K (.ref e_NoFraction.c) (.ref e_NoPost.c) = some false
  exm_NoFraction_NoRope : PySem.W.exmOne K (.ref e_NoFraction.c) (.ref e_NoRope.c) = some false
  exm_NoFraction_NoFraction : PySem.W.exmOne K (.ref e_NoFraction.c) (.ref e_NoFraction.c) = some true
  exm_Full_NoPost : PySem.W.exmOne K (.ref e_Full.c) (.ref e_NoPost.c) = some false
  exm_Full_NoRope : PySem.W.exmOne K (.ref e_Full.c) (.ref e_NoRope.c) = some false
  exm_Full_NoFraction : PySem.W.exmOne K (.ref e_Full.c) (.ref e_NoFraction.c) = some false
  exm_Full_Full : PySem.W.exmOne K (.ref e_Full.c) (.ref e_Full.c) = some true
  exm_Few_NoPost : PySem.W.exmOne K (.ref e_Few.c) (.ref e_NoPost.c) = some false
  exm_Few_NoRope : PySem.W.exmOne K (.ref e_Few.c) (.ref e_NoRope.c) = some false
  exm_Few_NoFraction : PySem.W.exmOne K (.ref e_Few.c) (.ref e_NoFraction.c) = some false
  exm_Few_Full : PySem.W.exmOne K (.ref e_Few.c) (.ref e_Full.c) = some false
  exm_Few_Few : PySem.W.exmOne K (.ref e_Few.c) (.ref e_Few.c) = some true
  exm_HasRopes_NoPost : PySem.W.exmOne K (.ref e_HasRopes.c) (.ref e_NoPost.c) = some false
  exm_HasRopes_NoRope : PySem.W.exmOne K (.ref e_HasRopes.c) (.ref e_NoRope.c) = some false
  exm_HasRopes_NoFraction : PySem.W.exmOne K (.ref e_HasRopes.c) (.ref e_NoFraction.c) = some false
  exm_HasRopes_Full : PySem.W.exmOne K (.ref e_HasRopes.c) (.ref e_Full.c) = some false
  exm_HasRopes_Few : PySem.W.exmOne K (.ref e_HasRopes.c) (.ref e_Few.c) = some false
  exm_HasRopes_HasRopes : PySem.W.exmOne K (.ref e_HasRopes.c) (.ref e_HasRopes.c) = some true
abbrev Tx.a_wall {K : PySem.W.Frag} {mg : Str → Option Value} (T : Tx K mg) : Addr := T.d_wall.a
abbrev Tx.fd_wall {K : PySem.W.Frag} {mg : Str → Option Value} (T : Tx K mg) : FuncData := T.d_wall.fd
theorem Tx.F_wall {K : PySem.W.Frag} {mg : Str → Option Value} (T : Tx K mg) : Fun K "_wall" "_wall" s_wall T.a_wall T.fd_wall := T.d_wall.F
theorem Tx.g_wall {K : PySem.W.Frag} {mg : Str → Option Value} (T : Tx K mg) : mg "_wall" = some (.ref T.a_wall) := T.d_wall.g
theorem Tx.b_wall {K : PySem.W.Frag} {mg : Str → Option Value} (T : Tx K mg) : Binds K T.fd_wall ["k"] [] := T.d_wall.b
abbrev Tx.a_tie_of {K : PySem.W.Frag} {mg : Str → Option Value} (T : Tx K mg) : Addr := T.d_tie_of.a
abbrev Tx.fd_tie_of {K : PySem.W.Frag} {mg : Str → Option Value} (T : Tx K mg) : FuncData := T.d_tie_of.fd
theorem Tx.F_tie_of {K : PySem.W.Frag} {mg : Str → Option Value} (T : Tx K mg) : Fun K "tie_of" "tie_of" s_tie_of T.a_tie_of T.fd_tie_of := T.d_tie_of.F
theorem Tx.g_tie_of {K : PySem.W.Frag} {mg : Str → Option Value} (T : Tx K mg) : mg "tie_of" = some (.ref T.a_tie_of) := T.d_tie_of.g
theorem Tx.b_tie_of {K : PySem.W.Frag} {mg : Str → Option Value} (T : Tx K mg) : Binds K T.fd_tie_of ["a", "b"] [] := T.d_tie_of.b
abbrev Tx.a_crosses {K : PySem.W.Frag} {mg : Str → Option Value} (T : Tx K mg) : Addr := T.d_crosses.a
abbrev Tx.fd_crosses {K : PySem.W.Frag} {mg : Str → Option Value} (T : Tx K mg) : FuncData := T.d_crosses.fd
theorem Tx.F_crosses {K : PySem.W.Frag} {mg : Str → Option Value} (T : Tx K mg) : Fun K "crosses" "crosses" s_crosses T.a_crosses T.fd_crosses := T.d_crosses.F
theorem Tx.g_crosses {K : PySem.W.Frag} {mg : Str → Option Value} (T : Tx K mg) : mg "crosses" = some (.ref T.a_crosses) := T.d_crosses.g
theorem Tx.b_crosses {K : PySem.W.Frag} {mg : Str → Option Value} (T : Tx K mg) : Binds K T.fd_crosses ["one", "other"] [] := T.d_crosses.b
abbrev Tx.a_sides {K : PySem.W.Frag} {mg : Str → Option Value} (T : Tx K mg) : Addr := T.d_sides.a
abbrev Tx.fd_sides {K : PySem.W.Frag} {mg : Str → Option Value} (T : Tx K mg) : FuncData := T.d_sides.fd
theorem Tx.F_sides {K : PySem.W.Frag} {mg : Str → Option Value} (T : Tx K mg) : Fun K "sides" "sides" s_sides T.a_sides T.fd_sides := T.d_sides.F
theorem Tx.g_sides {K : PySem.W.Frag} {mg : Str → Option Value} (T : Tx K mg) : mg "sides" = some (.ref T.a_sides) := T.d_sides.g
theorem Tx.b_sides {K : PySem.W.Frag} {mg : Str → Option Value} (T : Tx K mg) : Binds K T.fd_sides ["n"] [] := T.d_sides.b
abbrev Tx.a_is_rope {K : PySem.W.Frag} {mg : Str → Option Value} (T : Tx K mg) : Addr := T.d_is_rope.a
abbrev Tx.fd_is_rope {K : PySem.W.Frag} {mg : Str → Option Value} (T : Tx K mg) : FuncData := T.d_is_rope.fd
theorem Tx.F_is_rope {K : PySem.W.Frag} {mg : Str → Option Value} (T : Tx K mg) : Fun K "is_rope" "is_rope" s_is_rope T.a_is_rope T.fd_is_rope := T.d_is_rope.F
theorem Tx.g_is_rope {K : PySem.W.Frag} {mg : Str → Option Value} (T : Tx K mg) : mg "is_rope" = some (.ref T.a_is_rope) := T.d_is_rope.g
theorem Tx.b_is_rope {K : PySem.W.Frag} {mg : Str → Option Value} (T : Tx K mg) : Binds K T.fd_is_rope ["n", "pair"] [] := T.d_is_rope.b
abbrev Tx.a_kept {K : PySem.W.Frag} {mg : Str → Option Value} (T : Tx K mg) : Addr := T.d_kept.a
abbrev Tx.fd_kept {K : PySem.W.Frag} {mg : Str → Option Value} (T : Tx K mg) : FuncData := T.d_kept.fd
theorem Tx.F_kept {K : PySem.W.Frag} {mg : Str → Option Value} (T : Tx K mg) : Fun K "kept" "kept" s_kept T.a_kept T.fd_kept := T.d_kept.F
theorem Tx.g_kept {K : PySem.W.Frag} {mg : Str → Option Value} (T : Tx K mg) : mg "kept" = some (.ref T.a_kept) := T.d_kept.g
theorem Tx.b_kept {K : PySem.W.Frag} {mg : Str → Option Value} (T : Tx K mg) : Binds K T.fd_kept ["n", "ropes"] [] := T.d_kept.b
abbrev Tx.a_ties {K : PySem.W.Frag} {mg : Str → Option Value} (T : Tx K mg) : Addr := T.d_ties.a
abbrev Tx.fd_ties {K : PySem.W.Frag} {mg : Str → Option Value} (T : Tx K mg) : FuncData := T.d_ties.fd
theorem Tx.F_ties {K : PySem.W.Frag} {mg : Str → Option Value} (T : Tx K mg) : Fun K "ties" "ties" s_ties T.a_ties T.fd_ties := T.d_ties.F
theorem Tx.g_ties {K : PySem.W.Frag} {mg : Str → Option Value} (T : Tx K mg) : mg "ties" = some (.ref T.a_ties) := T.d_ties.g
theorem Tx.b_ties {K : PySem.W.Frag} {mg : Str → Option Value} (T : Tx K mg) : Binds K T.fd_ties ["n", "cut"] [] := T.d_ties.b
abbrev Tx.a_plots {K : PySem.W.Frag} {mg : Str → Option Value} (T : Tx K mg) : Addr := T.d_plots.a
abbrev Tx.fd_plots {K : PySem.W.Frag} {mg : Str → Option Value} (T : Tx K mg) : FuncData := T.d_plots.fd
theorem Tx.F_plots {K : PySem.W.Frag} {mg : Str → Option Value} (T : Tx K mg) : Fun K "plots" "plots" s_plots T.a_plots T.fd_plots := T.d_plots.F
theorem Tx.g_plots {K : PySem.W.Frag} {mg : Str → Option Value} (T : Tx K mg) : mg "plots" = some (.ref T.a_plots) := T.d_plots.g
theorem Tx.b_plots {K : PySem.W.Frag} {mg : Str → Option Value} (T : Tx K mg) : Binds K T.fd_plots ["n", "cut"] [] := T.d_plots.b
abbrev Tx.a_beside {K : PySem.W.Frag} {mg : Str → Option Value} (T : Tx K mg) : Addr := T.d_beside.a
abbrev Tx.fd_beside {K : PySem.W.Frag} {mg : Str → Option Value} (T : Tx K mg) : FuncData := T.d_beside.fd
theorem Tx.F_beside {K : PySem.W.Frag} {mg : Str → Option Value} (T : Tx K mg) : Fun K "beside" "beside" s_beside T.a_beside T.fd_beside := T.d_beside.F
theorem Tx.g_beside {K : PySem.W.Frag} {mg : Str → Option Value} (T : Tx K mg) : mg "beside" = some (.ref T.a_beside) := T.d_beside.g
theorem Tx.b_beside {K : PySem.W.Frag} {mg : Str → Option Value} (T : Tx K mg) : Binds K T.fd_beside ["n", "cut", "a", "b"] [] := T.d_beside.b
abbrev Tx.a_turned {K : PySem.W.Frag} {mg : Str → Option Value} (T : Tx K mg) : Addr := T.d_turned.a
abbrev Tx.fd_turned {K : PySem.W.Frag} {mg : Str → Option Value} (T : Tx K mg) : FuncData := T.d_turned.fd
theorem Tx.F_turned {K : PySem.W.Frag} {mg : Str → Option Value} (T : Tx K mg) : Fun K "turned" "turned" s_turned T.a_turned T.fd_turned := T.d_turned.F
theorem Tx.g_turned {K : PySem.W.Frag} {mg : Str → Option Value} (T : Tx K mg) : mg "turned" = some (.ref T.a_turned) := T.d_turned.g
theorem Tx.b_turned {K : PySem.W.Frag} {mg : Str → Option Value} (T : Tx K mg) : Binds K T.fd_turned ["n", "cut", "a", "b"] [] := T.d_turned.b
abbrev Tx.a_measure {K : PySem.W.Frag} {mg : Str → Option Value} (T : Tx K mg) : Addr := T.d_measure.a
abbrev Tx.fd_measure {K : PySem.W.Frag} {mg : Str → Option Value} (T : Tx K mg) : FuncData := T.d_measure.fd
theorem Tx.F_measure {K : PySem.W.Frag} {mg : Str → Option Value} (T : Tx K mg) : Fun K "measure" "measure" s_measure T.a_measure T.fd_measure := T.d_measure.F
theorem Tx.g_measure {K : PySem.W.Frag} {mg : Str → Option Value} (T : Tx K mg) : mg "measure" = some (.ref T.a_measure) := T.d_measure.g
theorem Tx.b_measure {K : PySem.W.Frag} {mg : Str → Option Value} (T : Tx K mg) : Binds K T.fd_measure ["one", "other"] [] := T.d_measure.b
abbrev Tx.a_lowest {K : PySem.W.Frag} {mg : Str → Option Value} (T : Tx K mg) : Addr := T.d_lowest.a
abbrev Tx.fd_lowest {K : PySem.W.Frag} {mg : Str → Option Value} (T : Tx K mg) : FuncData := T.d_lowest.fd
theorem Tx.F_lowest {K : PySem.W.Frag} {mg : Str → Option Value} (T : Tx K mg) : Fun K "lowest" "lowest" s_lowest T.a_lowest T.fd_lowest := T.d_lowest.F
theorem Tx.g_lowest {K : PySem.W.Frag} {mg : Str → Option Value} (T : Tx K mg) : mg "lowest" = some (.ref T.a_lowest) := T.d_lowest.g
theorem Tx.b_lowest {K : PySem.W.Frag} {mg : Str → Option Value} (T : Tx K mg) : Binds K T.fd_lowest ["top", "bottom"] [] := T.d_lowest.b
abbrev Tx.a_plus {K : PySem.W.Frag} {mg : Str → Option Value} (T : Tx K mg) : Addr := T.d_plus.a
abbrev Tx.fd_plus {K : PySem.W.Frag} {mg : Str → Option Value} (T : Tx K mg) : FuncData := T.d_plus.fd
theorem Tx.F_plus {K : PySem.W.Frag} {mg : Str → Option Value} (T : Tx K mg) : Fun K "plus" "plus" s_plus T.a_plus T.fd_plus := T.d_plus.F
theorem Tx.g_plus {K : PySem.W.Frag} {mg : Str → Option Value} (T : Tx K mg) : mg "plus" = some (.ref T.a_plus) := T.d_plus.g
theorem Tx.b_plus {K : PySem.W.Frag} {mg : Str → Option Value} (T : Tx K mg) : Binds K T.fd_plus ["one", "other"] [] := T.d_plus.b
abbrev Tx.a_less {K : PySem.W.Frag} {mg : Str → Option Value} (T : Tx K mg) : Addr := T.d_less.a
abbrev Tx.fd_less {K : PySem.W.Frag} {mg : Str → Option Value} (T : Tx K mg) : FuncData := T.d_less.fd
theorem Tx.F_less {K : PySem.W.Frag} {mg : Str → Option Value} (T : Tx K mg) : Fun K "less" "less" s_less T.a_less T.fd_less := T.d_less.F
theorem Tx.g_less {K : PySem.W.Frag} {mg : Str → Option Value} (T : Tx K mg) : mg "less" = some (.ref T.a_less) := T.d_less.g
theorem Tx.b_less {K : PySem.W.Frag} {mg : Str → Option Value} (T : Tx K mg) : Binds K T.fd_less ["one", "other"] [] := T.d_less.b
abbrev Tx.a_times {K : PySem.W.Frag} {mg : Str → Option Value} (T : Tx K mg) : Addr := T.d_times.a
abbrev Tx.fd_times {K : PySem.W.Frag} {mg : Str → Option Value} (T : Tx K mg) : FuncData := T.d_times.fd
theorem Tx.F_times {K : PySem.W.Frag} {mg : Str → Option Value} (T : Tx K mg) : Fun K "times" "times" s_times T.a_times T.fd_times := T.d_times.F
theorem Tx.g_times {K : PySem.W.Frag} {mg : Str → Option Value} (T : Tx K mg) : mg "times" = some (.ref T.a_times) := T.d_times.g
theorem Tx.b_times {K : PySem.W.Frag} {mg : Str → Option Value} (T : Tx K mg) : Binds K T.fd_times ["one", "other"] [] := T.d_times.b
abbrev Tx.a_over {K : PySem.W.Frag} {mg : Str → Option Value} (T : Tx K mg) : Addr := T.d_over.a
abbrev Tx.fd_over {K : PySem.W.Frag} {mg : Str → Option Value} (T : Tx K mg) : FuncData := T.d_over.fd
theorem Tx.F_over {K : PySem.W.Frag} {mg : Str → Option Value} (T : Tx K mg) : Fun K "over" "over" s_over T.a_over T.fd_over := T.d_over.F
theorem Tx.g_over {K : PySem.W.Frag} {mg : Str → Option Value} (T : Tx K mg) : mg "over" = some (.ref T.a_over) := T.d_over.g
theorem Tx.b_over {K : PySem.W.Frag} {mg : Str → Option Value} (T : Tx K mg) : Binds K T.fd_over ["one", "other"] [] := T.d_over.b
abbrev Tx.a_is_part {K : PySem.W.Frag} {mg : Str → Option Value} (T : Tx K mg) : Addr := T.d_is_part.a
abbrev Tx.fd_is_part {K : PySem.W.Frag} {mg : Str → Option Value} (T : Tx K mg) : FuncData := T.d_is_part.fd
theorem Tx.F_is_part {K : PySem.W.Frag} {mg : Str → Option Value} (T : Tx K mg) : Fun K "is_part" "is_part" s_is_part T.a_is_part T.fd_is_part := T.d_is_part.F
theorem Tx.g_is_part {K : PySem.W.Frag} {mg : Str → Option Value} (T : Tx K mg) : mg "is_part" = some (.ref T.a_is_part) := T.d_is_part.g
theorem Tx.b_is_part {K : PySem.W.Frag} {mg : Str → Option Value} (T : Tx K mg) : Binds K T.fd_is_part ["pair"] [] := T.d_is_part.b
abbrev Tx.a_is_length {K : PySem.W.Frag} {mg : Str → Option Value} (T : Tx K mg) : Addr := T.d_is_length.a
abbrev Tx.fd_is_length {K : PySem.W.Frag} {mg : Str → Option Value} (T : Tx K mg) : FuncData := T.d_is_length.fd
theorem Tx.F_is_length {K : PySem.W.Frag} {mg : Str → Option Value} (T : Tx K mg) : Fun K "is_length" "is_length" s_is_length T.a_is_length T.fd_is_length := T.d_is_length.F
theorem Tx.g_is_length {K : PySem.W.Frag} {mg : Str → Option Value} (T : Tx K mg) : mg "is_length" = some (.ref T.a_is_length) := T.d_is_length.g
theorem Tx.b_is_length {K : PySem.W.Frag} {mg : Str → Option Value} (T : Tx K mg) : Binds K T.fd_is_length ["pair"] [] := T.d_is_length.b
abbrev Tx.a_two_posts {K : PySem.W.Frag} {mg : Str → Option Value} (T : Tx K mg) : Addr := T.d_two_posts.a
abbrev Tx.fd_two_posts {K : PySem.W.Frag} {mg : Str → Option Value} (T : Tx K mg) : FuncData := T.d_two_posts.fd
theorem Tx.F_two_posts {K : PySem.W.Frag} {mg : Str → Option Value} (T : Tx K mg) : Fun K "two_posts" "two_posts" s_two_posts T.a_two_posts T.fd_two_posts := T.d_two_posts.F
theorem Tx.g_two_posts {K : PySem.W.Frag} {mg : Str → Option Value} (T : Tx K mg) : mg "two_posts" = some (.ref T.a_two_posts) := T.d_two_posts.g
theorem Tx.b_two_posts {K : PySem.W.Frag} {mg : Str → Option Value} (T : Tx K mg) : Binds K T.fd_two_posts ["n", "a", "b"] [] := T.d_two_posts.b
abbrev Tx.a_between {K : PySem.W.Frag} {mg : Str → Option Value} (T : Tx K mg) : Addr := T.d_between.a
abbrev Tx.fd_between {K : PySem.W.Frag} {mg : Str → Option Value} (T : Tx K mg) : FuncData := T.d_between.fd
theorem Tx.F_between {K : PySem.W.Frag} {mg : Str → Option Value} (T : Tx K mg) : Fun K "between" "between" s_between T.a_between T.fd_between := T.d_between.F
theorem Tx.g_between {K : PySem.W.Frag} {mg : Str → Option Value} (T : Tx K mg) : mg "between" = some (.ref T.a_between) := T.d_between.g
theorem Tx.b_between {K : PySem.W.Frag} {mg : Str → Option Value} (T : Tx K mg) : Binds K T.fd_between ["lengths", "a", "b"] [] := T.d_between.b
abbrev Tx.a_spread {K : PySem.W.Frag} {mg : Str → Option Value} (T : Tx K mg) : Addr := T.d_spread.a
abbrev Tx.fd_spread {K : PySem.W.Frag} {mg : Str → Option Value} (T : Tx K mg) : FuncData := T.d_spread.fd
theorem Tx.F_spread {K : PySem.W.Frag} {mg : Str → Option Value} (T : Tx K mg) : Fun K "spread" "spread" s_spread T.a_spread T.fd_spread := T.d_spread.F
theorem Tx.g_spread {K : PySem.W.Frag} {mg : Str → Option Value} (T : Tx K mg) : mg "spread" = some (.ref T.a_spread) := T.d_spread.g
theorem Tx.b_spread {K : PySem.W.Frag} {mg : Str → Option Value} (T : Tx K mg) : Binds K T.fd_spread ["one", "other"] [] := T.d_spread.b
abbrev Tx.a_pair_mixed {K : PySem.W.Frag} {mg : Str → Option Value} (T : Tx K mg) : Addr := T.d_pair_mixed.a
abbrev Tx.fd_pair_mixed {K : PySem.W.Frag} {mg : Str → Option Value} (T : Tx K mg) : FuncData := T.d_pair_mixed.fd
theorem Tx.F_pair_mixed {K : PySem.W.Frag} {mg : Str → Option Value} (T : Tx K mg) : Fun K "pair_mixed" "pair_mixed" s_pair_mixed T.a_pair_mixed T.fd_pair_mixed := T.d_pair_mixed.F
theorem Tx.g_pair_mixed {K : PySem.W.Frag} {mg : Str → Option Value} (T : Tx K mg) : mg "pair_mixed" = some (.ref T.a_pair_mixed) := T.d_pair_mixed.g
theorem Tx.b_pair_mixed {K : PySem.W.Frag} {mg : Str → Option Value} (T : Tx K mg) : Binds K T.fd_pair_mixed ["one", "part", "other", "share"] [] := T.d_pair_mixed.b
abbrev Tx.a_third {K : PySem.W.Frag} {mg : Str → Option Value} (T : Tx K mg) : Addr := T.d_third.a
abbrev Tx.fd_third {K : PySem.W.Frag} {mg : Str → Option Value} (T : Tx K mg) : FuncData := T.d_third.fd
theorem Tx.F_third {K : PySem.W.Frag} {mg : Str → Option Value} (T : Tx K mg) : Fun K "third" "third" s_third T.a_third T.fd_third := T.d_third.F
theorem Tx.g_third {K : PySem.W.Frag} {mg : Str → Option Value} (T : Tx K mg) : mg "third" = some (.ref T.a_third) := T.d_third.g
theorem Tx.b_third {K : PySem.W.Frag} {mg : Str → Option Value} (T : Tx K mg) : Binds K T.fd_third ["lengths", "stood", "a", "b", "c"] [] := T.d_third.b
abbrev Tx.a_stands {K : PySem.W.Frag} {mg : Str → Option Value} (T : Tx K mg) : Addr := T.d_stands.a
abbrev Tx.fd_stands {K : PySem.W.Frag} {mg : Str → Option Value} (T : Tx K mg) : FuncData := T.d_stands.fd
theorem Tx.F_stands {K : PySem.W.Frag} {mg : Str → Option Value} (T : Tx K mg) : Fun K "stands" "stands" s_stands T.a_stands T.fd_stands := T.d_stands.F
theorem Tx.g_stands {K : PySem.W.Frag} {mg : Str → Option Value} (T : Tx K mg) : mg "stands" = some (.ref T.a_stands) := T.d_stands.g
theorem Tx.b_stands {K : PySem.W.Frag} {mg : Str → Option Value} (T : Tx K mg) : Binds K T.fd_stands ["n", "cut", "lengths"] [] := T.d_stands.b
abbrev Tx.a_measured {K : PySem.W.Frag} {mg : Str → Option Value} (T : Tx K mg) : Addr := T.d_measured.a
abbrev Tx.fd_measured {K : PySem.W.Frag} {mg : Str → Option Value} (T : Tx K mg) : FuncData := T.d_measured.fd
theorem Tx.F_measured {K : PySem.W.Frag} {mg : Str → Option Value} (T : Tx K mg) : Fun K "measured" "measured" s_measured T.a_measured T.fd_measured := T.d_measured.F
theorem Tx.g_measured {K : PySem.W.Frag} {mg : Str → Option Value} (T : Tx K mg) : mg "measured" = some (.ref T.a_measured) := T.d_measured.g
theorem Tx.b_measured {K : PySem.W.Frag} {mg : Str → Option Value} (T : Tx K mg) : Binds K T.fd_measured ["n", "cut", "lengths", "a", "b"] [] := T.d_measured.b
abbrev Tx.a_laid {K : PySem.W.Frag} {mg : Str → Option Value} (T : Tx K mg) : Addr := T.d_laid.a
abbrev Tx.fd_laid {K : PySem.W.Frag} {mg : Str → Option Value} (T : Tx K mg) : FuncData := T.d_laid.fd
theorem Tx.F_laid {K : PySem.W.Frag} {mg : Str → Option Value} (T : Tx K mg) : Fun K "laid" "laid" s_laid T.a_laid T.fd_laid := T.d_laid.F
theorem Tx.g_laid {K : PySem.W.Frag} {mg : Str → Option Value} (T : Tx K mg) : mg "laid" = some (.ref T.a_laid) := T.d_laid.g
theorem Tx.b_laid {K : PySem.W.Frag} {mg : Str → Option Value} (T : Tx K mg) : Binds K T.fd_laid ["n", "cut", "lengths", "a", "b"] [] := T.d_laid.b
abbrev Tx.a_stretched {K : PySem.W.Frag} {mg : Str → Option Value} (T : Tx K mg) : Addr := T.d_stretched.a
abbrev Tx.fd_stretched {K : PySem.W.Frag} {mg : Str → Option Value} (T : Tx K mg) : FuncData := T.d_stretched.fd
theorem Tx.F_stretched {K : PySem.W.Frag} {mg : Str → Option Value} (T : Tx K mg) : Fun K "stretched" "stretched" s_stretched T.a_stretched T.fd_stretched := T.d_stretched.F
theorem Tx.g_stretched {K : PySem.W.Frag} {mg : Str → Option Value} (T : Tx K mg) : mg "stretched" = some (.ref T.a_stretched) := T.d_stretched.g
theorem Tx.b_stretched {K : PySem.W.Frag} {mg : Str → Option Value} (T : Tx K mg) : Binds K T.fd_stretched ["n", "lengths", "post", "factor"] [] := T.d_stretched.b
abbrev Tx.a_sized_by {K : PySem.W.Frag} {mg : Str → Option Value} (T : Tx K mg) : Addr := T.d_sized_by.a
abbrev Tx.fd_sized_by {K : PySem.W.Frag} {mg : Str → Option Value} (T : Tx K mg) : FuncData := T.d_sized_by.fd
theorem Tx.F_sized_by {K : PySem.W.Frag} {mg : Str → Option Value} (T : Tx K mg) : Fun K "sized_by" "sized_by" s_sized_by T.a_sized_by T.fd_sized_by := T.d_sized_by.F
theorem Tx.g_sized_by {K : PySem.W.Frag} {mg : Str → Option Value} (T : Tx K mg) : mg "sized_by" = some (.ref T.a_sized_by) := T.d_sized_by.g
theorem Tx.b_sized_by {K : PySem.W.Frag} {mg : Str → Option Value} (T : Tx K mg) : Binds K T.fd_sized_by ["n", "cut", "lengths"] [] := T.d_sized_by.b
abbrev Tx.a_moved_up {K : PySem.W.Frag} {mg : Str → Option Value} (T : Tx K mg) : Addr := T.d_moved_up.a
abbrev Tx.fd_moved_up {K : PySem.W.Frag} {mg : Str → Option Value} (T : Tx K mg) : FuncData := T.d_moved_up.fd
theorem Tx.F_moved_up {K : PySem.W.Frag} {mg : Str → Option Value} (T : Tx K mg) : Fun K "moved_up" "moved_up" s_moved_up T.a_moved_up T.fd_moved_up := T.d_moved_up.F
theorem Tx.g_moved_up {K : PySem.W.Frag} {mg : Str → Option Value} (T : Tx K mg) : mg "moved_up" = some (.ref T.a_moved_up) := T.d_moved_up.g
theorem Tx.b_moved_up {K : PySem.W.Frag} {mg : Str → Option Value} (T : Tx K mg) : Binds K T.fd_moved_up ["post", "k"] [] := T.d_moved_up.b
abbrev Tx.a_moved_down {K : PySem.W.Frag} {mg : Str → Option Value} (T : Tx K mg) : Addr := T.d_moved_down.a
abbrev Tx.fd_moved_down {K : PySem.W.Frag} {mg : Str → Option Value} (T : Tx K mg) : FuncData := T.d_moved_down.fd
theorem Tx.F_moved_down {K : PySem.W.Frag} {mg : Str → Option Value} (T : Tx K mg) : Fun K "moved_down" "moved_down" s_moved_down T.a_moved_down T.fd_moved_down := T.d_moved_down.F
theorem Tx.g_moved_down {K : PySem.W.Frag} {mg : Str → Option Value} (T : Tx K mg) : mg "moved_down" = some (.ref T.a_moved_down) := T.d_moved_down.g
theorem Tx.b_moved_down {K : PySem.W.Frag} {mg : Str → Option Value} (T : Tx K mg) : Binds K T.fd_moved_down ["post", "gone"] [] := T.d_moved_down.b
abbrev Tx.a_law_flow {K : PySem.W.Frag} {mg : Str → Option Value} (T : Tx K mg) : Addr := T.d_law_flow.a
abbrev Tx.fd_law_flow {K : PySem.W.Frag} {mg : Str → Option Value} (T : Tx K mg) : FuncData := T.d_law_flow.fd
theorem Tx.F_law_flow {K : PySem.W.Frag} {mg : Str → Option Value} (T : Tx K mg) : Fun K "_law_flow" "_law_flow" s_law_flow T.a_law_flow T.fd_law_flow := T.d_law_flow.F
theorem Tx.g_law_flow {K : PySem.W.Frag} {mg : Str → Option Value} (T : Tx K mg) : mg "_law_flow" = some (.ref T.a_law_flow) := T.d_law_flow.g
theorem Tx.b_law_flow {K : PySem.W.Frag} {mg : Str → Option Value} (T : Tx K mg) : Binds K T.fd_law_flow ["_law_script", "_law_many_here"] [] := T.d_law_flow.b
abbrev Tx.a_law_whole {K : PySem.W.Frag} {mg : Str → Option Value} (T : Tx K mg) : Addr := T.d_law_whole.a
abbrev Tx.fd_law_whole {K : PySem.W.Frag} {mg : Str → Option Value} (T : Tx K mg) : FuncData := T.d_law_whole.fd
theorem Tx.F_law_whole {K : PySem.W.Frag} {mg : Str → Option Value} (T : Tx K mg) : Fun K "_law_whole" "_law_whole" s_law_whole T.a_law_whole T.fd_law_whole := T.d_law_whole.F
theorem Tx.g_law_whole {K : PySem.W.Frag} {mg : Str → Option Value} (T : Tx K mg) : mg "_law_whole" = some (.ref T.a_law_whole) := T.d_law_whole.g
theorem Tx.b_law_whole {K : PySem.W.Frag} {mg : Str → Option Value} (T : Tx K mg) : Binds K T.fd_law_whole ["_law_found"] [] := T.d_law_whole.b
abbrev Tx.a_law_low {K : PySem.W.Frag} {mg : Str → Option Value} (T : Tx K mg) : Addr := T.d_law_low.a
abbrev Tx.fd_law_low {K : PySem.W.Frag} {mg : Str → Option Value} (T : Tx K mg) : FuncData := T.d_law_low.fd
theorem Tx.F_law_low {K : PySem.W.Frag} {mg : Str → Option Value} (T : Tx K mg) : Fun K "_law_low" "_law_low" s_law_low T.a_law_low T.fd_law_low := T.d_law_low.F
theorem Tx.g_law_low {K : PySem.W.Frag} {mg : Str → Option Value} (T : Tx K mg) : mg "_law_low" = some (.ref T.a_law_low) := T.d_law_low.g
theorem Tx.b_law_low {K : PySem.W.Frag} {mg : Str → Option Value} (T : Tx K mg) : Binds K T.fd_law_low ["_law_top", "_law_bottom"] [] := T.d_law_low.b
abbrev Tx.a_law_add {K : PySem.W.Frag} {mg : Str → Option Value} (T : Tx K mg) : Addr := T.d_law_add.a
abbrev Tx.fd_law_add {K : PySem.W.Frag} {mg : Str → Option Value} (T : Tx K mg) : FuncData := T.d_law_add.fd
theorem Tx.F_law_add {K : PySem.W.Frag} {mg : Str → Option Value} (T : Tx K mg) : Fun K "_law_add" "_law_add" s_law_add T.a_law_add T.fd_law_add := T.d_law_add.F
theorem Tx.g_law_add {K : PySem.W.Frag} {mg : Str → Option Value} (T : Tx K mg) : mg "_law_add" = some (.ref T.a_law_add) := T.d_law_add.g
theorem Tx.b_law_add {K : PySem.W.Frag} {mg : Str → Option Value} (T : Tx K mg) : Binds K T.fd_law_add ["_law_one", "_law_other"] [] := T.d_law_add.b
abbrev Tx.a_law_mul {K : PySem.W.Frag} {mg : Str → Option Value} (T : Tx K mg) : Addr := T.d_law_mul.a
abbrev Tx.fd_law_mul {K : PySem.W.Frag} {mg : Str → Option Value} (T : Tx K mg) : FuncData := T.d_law_mul.fd
theorem Tx.F_law_mul {K : PySem.W.Frag} {mg : Str → Option Value} (T : Tx K mg) : Fun K "_law_mul" "_law_mul" s_law_mul T.a_law_mul T.fd_law_mul := T.d_law_mul.F
theorem Tx.g_law_mul {K : PySem.W.Frag} {mg : Str → Option Value} (T : Tx K mg) : mg "_law_mul" = some (.ref T.a_law_mul) := T.d_law_mul.g
theorem Tx.b_law_mul {K : PySem.W.Frag} {mg : Str → Option Value} (T : Tx K mg) : Binds K T.fd_law_mul ["_law_one", "_law_other"] [] := T.d_law_mul.b
abbrev Tx.a_law_div {K : PySem.W.Frag} {mg : Str → Option Value} (T : Tx K mg) : Addr := T.d_law_div.a
abbrev Tx.fd_law_div {K : PySem.W.Frag} {mg : Str → Option Value} (T : Tx K mg) : FuncData := T.d_law_div.fd
theorem Tx.F_law_div {K : PySem.W.Frag} {mg : Str → Option Value} (T : Tx K mg) : Fun K "_law_div" "_law_div" s_law_div T.a_law_div T.fd_law_div := T.d_law_div.F
theorem Tx.g_law_div {K : PySem.W.Frag} {mg : Str → Option Value} (T : Tx K mg) : mg "_law_div" = some (.ref T.a_law_div) := T.d_law_div.g
theorem Tx.b_law_div {K : PySem.W.Frag} {mg : Str → Option Value} (T : Tx K mg) : Binds K T.fd_law_div ["_law_one", "_law_other"] [] := T.d_law_div.b
abbrev Tx.a_law_part {K : PySem.W.Frag} {mg : Str → Option Value} (T : Tx K mg) : Addr := T.d_law_part.a
abbrev Tx.fd_law_part {K : PySem.W.Frag} {mg : Str → Option Value} (T : Tx K mg) : FuncData := T.d_law_part.fd
theorem Tx.F_law_part {K : PySem.W.Frag} {mg : Str → Option Value} (T : Tx K mg) : Fun K "_law_part" "_law_part" s_law_part T.a_law_part T.fd_law_part := T.d_law_part.F
theorem Tx.g_law_part {K : PySem.W.Frag} {mg : Str → Option Value} (T : Tx K mg) : mg "_law_part" = some (.ref T.a_law_part) := T.d_law_part.g
theorem Tx.b_law_part {K : PySem.W.Frag} {mg : Str → Option Value} (T : Tx K mg) : Binds K T.fd_law_part ["_law_found"] [] := T.d_law_part.b
abbrev Tx.a_law_size {K : PySem.W.Frag} {mg : Str → Option Value} (T : Tx K mg) : Addr := T.d_law_size.a
abbrev Tx.fd_law_size {K : PySem.W.Frag} {mg : Str → Option Value} (T : Tx K mg) : FuncData := T.d_law_size.fd
theorem Tx.F_law_size {K : PySem.W.Frag} {mg : Str → Option Value} (T : Tx K mg) : Fun K "_law_size" "_law_size" s_law_size T.a_law_size T.fd_law_size := T.d_law_size.F
theorem Tx.g_law_size {K : PySem.W.Frag} {mg : Str → Option Value} (T : Tx K mg) : mg "_law_size" = some (.ref T.a_law_size) := T.d_law_size.g
theorem Tx.b_law_size {K : PySem.W.Frag} {mg : Str → Option Value} (T : Tx K mg) : Binds K T.fd_law_size ["_law_one"] [] := T.d_law_size.b
abbrev Tx.a_law_many {K : PySem.W.Frag} {mg : Str → Option Value} (T : Tx K mg) : Addr := T.d_law_many.a
abbrev Tx.fd_law_many {K : PySem.W.Frag} {mg : Str → Option Value} (T : Tx K mg) : FuncData := T.d_law_many.fd
theorem Tx.F_law_many {K : PySem.W.Frag} {mg : Str → Option Value} (T : Tx K mg) : Fun K "_law_many" "_law_many" s_law_many T.a_law_many T.fd_law_many := T.d_law_many.F
theorem Tx.g_law_many {K : PySem.W.Frag} {mg : Str → Option Value} (T : Tx K mg) : mg "_law_many" = some (.ref T.a_law_many) := T.d_law_many.g
theorem Tx.b_law_many {K : PySem.W.Frag} {mg : Str → Option Value} (T : Tx K mg) : Binds K T.fd_law_many ["_law_row"] [] := T.d_law_many.b
abbrev Tx.a_law_pair {K : PySem.W.Frag} {mg : Str → Option Value} (T : Tx K mg) : Addr := T.d_law_pair.a
abbrev Tx.fd_law_pair {K : PySem.W.Frag} {mg : Str → Option Value} (T : Tx K mg) : FuncData := T.d_law_pair.fd
theorem Tx.F_law_pair {K : PySem.W.Frag} {mg : Str → Option Value} (T : Tx K mg) : Fun K "_law_pair" "_law_pair" s_law_pair T.a_law_pair T.fd_law_pair := T.d_law_pair.F
theorem Tx.g_law_pair {K : PySem.W.Frag} {mg : Str → Option Value} (T : Tx K mg) : mg "_law_pair" = some (.ref T.a_law_pair) := T.d_law_pair.g
theorem Tx.b_law_pair {K : PySem.W.Frag} {mg : Str → Option Value} (T : Tx K mg) : Binds K T.fd_law_pair ["_law_a", "_law_b"] [] := T.d_law_pair.b
abbrev Tx.a_law_ears {K : PySem.W.Frag} {mg : Str → Option Value} (T : Tx K mg) : Addr := T.d_law_ears.a
abbrev Tx.fd_law_ears {K : PySem.W.Frag} {mg : Str → Option Value} (T : Tx K mg) : FuncData := T.d_law_ears.fd
theorem Tx.F_law_ears {K : PySem.W.Frag} {mg : Str → Option Value} (T : Tx K mg) : Fun K "_law_ears" "_law_ears" s_law_ears T.a_law_ears T.fd_law_ears := T.d_law_ears.F
theorem Tx.g_law_ears {K : PySem.W.Frag} {mg : Str → Option Value} (T : Tx K mg) : mg "_law_ears" = some (.ref T.a_law_ears) := T.d_law_ears.g
theorem Tx.b_law_ears {K : PySem.W.Frag} {mg : Str → Option Value} (T : Tx K mg) : Binds K T.fd_law_ears ["_law_n", "_law_row"] [] := T.d_law_ears.b
abbrev Tx.a_law_ropes {K : PySem.W.Frag} {mg : Str → Option Value} (T : Tx K mg) : Addr := T.d_law_ropes.a
abbrev Tx.fd_law_ropes {K : PySem.W.Frag} {mg : Str → Option Value} (T : Tx K mg) : FuncData := T.d_law_ropes.fd
theorem Tx.F_law_ropes {K : PySem.W.Frag} {mg : Str → Option Value} (T : Tx K mg) : Fun K "_law_ropes" "_law_ropes" s_law_ropes T.a_law_ropes T.fd_law_ropes := T.d_law_ropes.F
theorem Tx.g_law_ropes {K : PySem.W.Frag} {mg : Str → Option Value} (T : Tx K mg) : mg "_law_ropes" = some (.ref T.a_law_ropes) := T.d_law_ropes.g
theorem Tx.b_law_ropes {K : PySem.W.Frag} {mg : Str → Option Value} (T : Tx K mg) : Binds K T.fd_law_ropes ["_law_ears_here"] [] := T.d_law_ropes.b
abbrev Tx.a_law_sides {K : PySem.W.Frag} {mg : Str → Option Value} (T : Tx K mg) : Addr := T.d_law_sides.a
abbrev Tx.fd_law_sides {K : PySem.W.Frag} {mg : Str → Option Value} (T : Tx K mg) : FuncData := T.d_law_sides.fd
theorem Tx.F_law_sides {K : PySem.W.Frag} {mg : Str → Option Value} (T : Tx K mg) : Fun K "_law_sides" "_law_sides" s_law_sides T.a_law_sides T.fd_law_sides := T.d_law_sides.F
theorem Tx.g_law_sides {K : PySem.W.Frag} {mg : Str → Option Value} (T : Tx K mg) : mg "_law_sides" = some (.ref T.a_law_sides) := T.d_law_sides.g
theorem Tx.b_law_sides {K : PySem.W.Frag} {mg : Str → Option Value} (T : Tx K mg) : Binds K T.fd_law_sides ["_law_n"] [] := T.d_law_sides.b
abbrev Tx.a_law_ties {K : PySem.W.Frag} {mg : Str → Option Value} (T : Tx K mg) : Addr := T.d_law_ties.a
abbrev Tx.fd_law_ties {K : PySem.W.Frag} {mg : Str → Option Value} (T : Tx K mg) : FuncData := T.d_law_ties.fd
theorem Tx.F_law_ties {K : PySem.W.Frag} {mg : Str → Option Value} (T : Tx K mg) : Fun K "_law_ties" "_law_ties" s_law_ties T.a_law_ties T.fd_law_ties := T.d_law_ties.F
theorem Tx.g_law_ties {K : PySem.W.Frag} {mg : Str → Option Value} (T : Tx K mg) : mg "_law_ties" = some (.ref T.a_law_ties) := T.d_law_ties.g
theorem Tx.b_law_ties {K : PySem.W.Frag} {mg : Str → Option Value} (T : Tx K mg) : Binds K T.fd_law_ties ["_law_n", "_law_cut"] [] := T.d_law_ties.b
abbrev Tx.a_law_sized {K : PySem.W.Frag} {mg : Str → Option Value} (T : Tx K mg) : Addr := T.d_law_sized.a
abbrev Tx.fd_law_sized {K : PySem.W.Frag} {mg : Str → Option Value} (T : Tx K mg) : FuncData := T.d_law_sized.fd
theorem Tx.F_law_sized {K : PySem.W.Frag} {mg : Str → Option Value} (T : Tx K mg) : Fun K "_law_sized" "_law_sized" s_law_sized T.a_law_sized T.fd_law_sized := T.d_law_sized.F
theorem Tx.g_law_sized {K : PySem.W.Frag} {mg : Str → Option Value} (T : Tx K mg) : mg "_law_sized" = some (.ref T.a_law_sized) := T.d_law_sized.g
theorem Tx.b_law_sized {K : PySem.W.Frag} {mg : Str → Option Value} (T : Tx K mg) : Binds K T.fd_law_sized ["_law_all_ties", "_law_row"] [] := T.d_law_sized.b
abbrev Tx.a_law_beside {K : PySem.W.Frag} {mg : Str → Option Value} (T : Tx K mg) : Addr := T.d_law_beside.a
abbrev Tx.fd_law_beside {K : PySem.W.Frag} {mg : Str → Option Value} (T : Tx K mg) : FuncData := T.d_law_beside.fd
theorem Tx.F_law_beside {K : PySem.W.Frag} {mg : Str → Option Value} (T : Tx K mg) : Fun K "_law_beside" "_law_beside" s_law_beside T.a_law_beside T.fd_law_beside := T.d_law_beside.F
theorem Tx.g_law_beside {K : PySem.W.Frag} {mg : Str → Option Value} (T : Tx K mg) : mg "_law_beside" = some (.ref T.a_law_beside) := T.d_law_beside.g
theorem Tx.b_law_beside {K : PySem.W.Frag} {mg : Str → Option Value} (T : Tx K mg) : Binds K T.fd_law_beside ["_law_n", "_law_all_ties", "_law_a", "_law_b"] [] := T.d_law_beside.b
abbrev Tx.a_law_turned {K : PySem.W.Frag} {mg : Str → Option Value} (T : Tx K mg) : Addr := T.d_law_turned.a
abbrev Tx.fd_law_turned {K : PySem.W.Frag} {mg : Str → Option Value} (T : Tx K mg) : FuncData := T.d_law_turned.fd
theorem Tx.F_law_turned {K : PySem.W.Frag} {mg : Str → Option Value} (T : Tx K mg) : Fun K "_law_turned" "_law_turned" s_law_turned T.a_law_turned T.fd_law_turned := T.d_law_turned.F
theorem Tx.g_law_turned {K : PySem.W.Frag} {mg : Str → Option Value} (T : Tx K mg) : mg "_law_turned" = some (.ref T.a_law_turned) := T.d_law_turned.g
theorem Tx.b_law_turned {K : PySem.W.Frag} {mg : Str → Option Value} (T : Tx K mg) : Binds K T.fd_law_turned ["_law_n", "_law_cut", "_law_rope"] [] := T.d_law_turned.b
abbrev Tx.a_law_tuple {K : PySem.W.Frag} {mg : Str → Option Value} (T : Tx K mg) : Addr := T.d_law_tuple.a
abbrev Tx.fd_law_tuple {K : PySem.W.Frag} {mg : Str → Option Value} (T : Tx K mg) : FuncData := T.d_law_tuple.fd
theorem Tx.F_law_tuple {K : PySem.W.Frag} {mg : Str → Option Value} (T : Tx K mg) : Fun K "_law_tuple" "_law_tuple" s_law_tuple T.a_law_tuple T.fd_law_tuple := T.d_law_tuple.F
theorem Tx.g_law_tuple {K : PySem.W.Frag} {mg : Str → Option Value} (T : Tx K mg) : mg "_law_tuple" = some (.ref T.a_law_tuple) := T.d_law_tuple.g
theorem Tx.b_law_tuple {K : PySem.W.Frag} {mg : Str → Option Value} (T : Tx K mg) : Binds K T.fd_law_tuple ["_law_found", "_law_many_here"] [] := T.d_law_tuple.b
abbrev Tx.a_law_list {K : PySem.W.Frag} {mg : Str → Option Value} (T : Tx K mg) : Addr := T.d_law_list.a
abbrev Tx.fd_law_list {K : PySem.W.Frag} {mg : Str → Option Value} (T : Tx K mg) : FuncData := T.d_law_list.fd
theorem Tx.F_law_list {K : PySem.W.Frag} {mg : Str → Option Value} (T : Tx K mg) : Fun K "_law_list" "_law_list" s_law_list T.a_law_list T.fd_law_list := T.d_law_list.F
theorem Tx.g_law_list {K : PySem.W.Frag} {mg : Str → Option Value} (T : Tx K mg) : mg "_law_list" = some (.ref T.a_law_list) := T.d_law_list.g
theorem Tx.b_law_list {K : PySem.W.Frag} {mg : Str → Option Value} (T : Tx K mg) : Binds K T.fd_law_list ["_law_found", "_law_many_here"] [] := T.d_law_list.b
abbrev Tx.a_law_dict {K : PySem.W.Frag} {mg : Str → Option Value} (T : Tx K mg) : Addr := T.d_law_dict.a
abbrev Tx.fd_law_dict {K : PySem.W.Frag} {mg : Str → Option Value} (T : Tx K mg) : FuncData := T.d_law_dict.fd
theorem Tx.F_law_dict {K : PySem.W.Frag} {mg : Str → Option Value} (T : Tx K mg) : Fun K "_law_dict" "_law_dict" s_law_dict T.a_law_dict T.fd_law_dict := T.d_law_dict.F
theorem Tx.g_law_dict {K : PySem.W.Frag} {mg : Str → Option Value} (T : Tx K mg) : mg "_law_dict" = some (.ref T.a_law_dict) := T.d_law_dict.g
theorem Tx.b_law_dict {K : PySem.W.Frag} {mg : Str → Option Value} (T : Tx K mg) : Binds K T.fd_law_dict ["_law_found", "_law_due"] [] := T.d_law_dict.b
abbrev Tx.a_law_parts {K : PySem.W.Frag} {mg : Str → Option Value} (T : Tx K mg) : Addr := T.d_law_parts.a
abbrev Tx.fd_law_parts {K : PySem.W.Frag} {mg : Str → Option Value} (T : Tx K mg) : FuncData := T.d_law_parts.fd
theorem Tx.F_law_parts {K : PySem.W.Frag} {mg : Str → Option Value} (T : Tx K mg) : Fun K "_law_parts" "_law_parts" s_law_parts T.a_law_parts T.fd_law_parts := T.d_law_parts.F
theorem Tx.g_law_parts {K : PySem.W.Frag} {mg : Str → Option Value} (T : Tx K mg) : mg "_law_parts" = some (.ref T.a_law_parts) := T.d_law_parts.g
theorem Tx.b_law_parts {K : PySem.W.Frag} {mg : Str → Option Value} (T : Tx K mg) : Binds K T.fd_law_parts ["_law_found", "_law_due"] [] := T.d_law_parts.b
abbrev Tx.a_law_laid {K : PySem.W.Frag} {mg : Str → Option Value} (T : Tx K mg) : Addr := T.d_law_laid.a
abbrev Tx.fd_law_laid {K : PySem.W.Frag} {mg : Str → Option Value} (T : Tx K mg) : FuncData := T.d_law_laid.fd
theorem Tx.F_law_laid {K : PySem.W.Frag} {mg : Str → Option Value} (T : Tx K mg) : Fun K "_law_laid" "_law_laid" s_law_laid T.a_law_laid T.fd_law_laid := T.d_law_laid.F
theorem Tx.g_law_laid {K : PySem.W.Frag} {mg : Str → Option Value} (T : Tx K mg) : mg "_law_laid" = some (.ref T.a_law_laid) := T.d_law_laid.g
theorem Tx.b_law_laid {K : PySem.W.Frag} {mg : Str → Option Value} (T : Tx K mg) : Binds K T.fd_law_laid ["_law_n", "_law_cut", "_law_sized_here", "_law_rope"] [] := T.d_law_laid.b
abbrev Tx.a_law_stretched {K : PySem.W.Frag} {mg : Str → Option Value} (T : Tx K mg) : Addr := T.d_law_stretched.a
abbrev Tx.fd_law_stretched {K : PySem.W.Frag} {mg : Str → Option Value} (T : Tx K mg) : FuncData := T.d_law_stretched.fd
theorem Tx.F_law_stretched {K : PySem.W.Frag} {mg : Str → Option Value} (T : Tx K mg) : Fun K "_law_stretched" "_law_stretched" s_law_stretched T.a_law_stretched T.fd_law_stretched := T.d_law_stretched.F
theorem Tx.g_law_stretched {K : PySem.W.Frag} {mg : Str → Option Value} (T : Tx K mg) : mg "_law_stretched" = some (.ref T.a_law_stretched) := T.d_law_stretched.g
theorem Tx.b_law_stretched {K : PySem.W.Frag} {mg : Str → Option Value} (T : Tx K mg) : Binds K T.fd_law_stretched ["_law_sized_here", "_law_post", "_law_factor"] [] := T.d_law_stretched.b
abbrev Tx.a_law_shift {K : PySem.W.Frag} {mg : Str → Option Value} (T : Tx K mg) : Addr := T.d_law_shift.a
abbrev Tx.fd_law_shift {K : PySem.W.Frag} {mg : Str → Option Value} (T : Tx K mg) : FuncData := T.d_law_shift.fd
theorem Tx.F_law_shift {K : PySem.W.Frag} {mg : Str → Option Value} (T : Tx K mg) : Fun K "_law_shift" "_law_shift" s_law_shift T.a_law_shift T.fd_law_shift := T.d_law_shift.F
theorem Tx.g_law_shift {K : PySem.W.Frag} {mg : Str → Option Value} (T : Tx K mg) : mg "_law_shift" = some (.ref T.a_law_shift) := T.d_law_shift.g
theorem Tx.b_law_shift {K : PySem.W.Frag} {mg : Str → Option Value} (T : Tx K mg) : Binds K T.fd_law_shift ["_law_state", "_law_post", "_law_step"] [] := T.d_law_shift.b
abbrev Tx.a_law_set {K : PySem.W.Frag} {mg : Str → Option Value} (T : Tx K mg) : Addr := T.d_law_set.a
abbrev Tx.fd_law_set {K : PySem.W.Frag} {mg : Str → Option Value} (T : Tx K mg) : FuncData := T.d_law_set.fd
theorem Tx.F_law_set {K : PySem.W.Frag} {mg : Str → Option Value} (T : Tx K mg) : Fun K "_law_set" "_law_set" s_law_set T.a_law_set T.fd_law_set := T.d_law_set.F
theorem Tx.g_law_set {K : PySem.W.Frag} {mg : Str → Option Value} (T : Tx K mg) : mg "_law_set" = some (.ref T.a_law_set) := T.d_law_set.g
theorem Tx.b_law_set {K : PySem.W.Frag} {mg : Str → Option Value} (T : Tx K mg) : Binds K T.fd_law_set ["_law_state", "_law_k", "_law_one", "_law_other"] [] := T.d_law_set.b
abbrev Tx.a_law_draw {K : PySem.W.Frag} {mg : Str → Option Value} (T : Tx K mg) : Addr := T.d_law_draw.a
abbrev Tx.fd_law_draw {K : PySem.W.Frag} {mg : Str → Option Value} (T : Tx K mg) : FuncData := T.d_law_draw.fd
theorem Tx.F_law_draw {K : PySem.W.Frag} {mg : Str → Option Value} (T : Tx K mg) : Fun K "_law_draw" "_law_draw" s_law_draw T.a_law_draw T.fd_law_draw := T.d_law_draw.F
theorem Tx.g_law_draw {K : PySem.W.Frag} {mg : Str → Option Value} (T : Tx K mg) : mg "_law_draw" = some (.ref T.a_law_draw) := T.d_law_draw.g
theorem Tx.b_law_draw {K : PySem.W.Frag} {mg : Str → Option Value} (T : Tx K mg) : Binds K T.fd_law_draw ["_law_state", "_law_post"] [] := T.d_law_draw.b
abbrev Tx.a_law_model {K : PySem.W.Frag} {mg : Str → Option Value} (T : Tx K mg) : Addr := T.d_law_model.a
abbrev Tx.fd_law_model {K : PySem.W.Frag} {mg : Str → Option Value} (T : Tx K mg) : FuncData := T.d_law_model.fd
theorem Tx.F_law_model {K : PySem.W.Frag} {mg : Str → Option Value} (T : Tx K mg) : Fun K "_law_model" "_law_model" s_law_model T.a_law_model T.fd_law_model := T.d_law_model.F
theorem Tx.g_law_model {K : PySem.W.Frag} {mg : Str → Option Value} (T : Tx K mg) : mg "_law_model" = some (.ref T.a_law_model) := T.d_law_model.g
theorem Tx.b_law_model {K : PySem.W.Frag} {mg : Str → Option Value} (T : Tx K mg) : Binds K T.fd_law_model ["_law_state", "_law_deed"] [] := T.d_law_model.b
abbrev Tx.a_law_done {K : PySem.W.Frag} {mg : Str → Option Value} (T : Tx K mg) : Addr := T.d_law_done.a
abbrev Tx.fd_law_done {K : PySem.W.Frag} {mg : Str → Option Value} (T : Tx K mg) : FuncData := T.d_law_done.fd
theorem Tx.F_law_done {K : PySem.W.Frag} {mg : Str → Option Value} (T : Tx K mg) : Fun K "_law_done" "_law_done" s_law_done T.a_law_done T.fd_law_done := T.d_law_done.F
theorem Tx.g_law_done {K : PySem.W.Frag} {mg : Str → Option Value} (T : Tx K mg) : mg "_law_done" = some (.ref T.a_law_done) := T.d_law_done.g
theorem Tx.b_law_done {K : PySem.W.Frag} {mg : Str → Option Value} (T : Tx K mg) : Binds K T.fd_law_done ["_law_mead", "_law_deed"] [] := T.d_law_done.b
abbrev Tx.a_law_answer {K : PySem.W.Frag} {mg : Str → Option Value} (T : Tx K mg) : Addr := T.d_law_answer.a
abbrev Tx.fd_law_answer {K : PySem.W.Frag} {mg : Str → Option Value} (T : Tx K mg) : FuncData := T.d_law_answer.fd
theorem Tx.F_law_answer {K : PySem.W.Frag} {mg : Str → Option Value} (T : Tx K mg) : Fun K "_law_answer" "_law_answer" s_law_answer T.a_law_answer T.fd_law_answer := T.d_law_answer.F
theorem Tx.g_law_answer {K : PySem.W.Frag} {mg : Str → Option Value} (T : Tx K mg) : mg "_law_answer" = some (.ref T.a_law_answer) := T.d_law_answer.g
theorem Tx.b_law_answer {K : PySem.W.Frag} {mg : Str → Option Value} (T : Tx K mg) : Binds K T.fd_law_answer ["_law_found", "_law_due", "_law_deed"] [] := T.d_law_answer.b
abbrev Tx.a_law_is_at {K : PySem.W.Frag} {mg : Str → Option Value} (T : Tx K mg) : Addr := T.d_law_is_at.a
abbrev Tx.fd_law_is_at {K : PySem.W.Frag} {mg : Str → Option Value} (T : Tx K mg) : FuncData := T.d_law_is_at.fd
theorem Tx.F_law_is_at {K : PySem.W.Frag} {mg : Str → Option Value} (T : Tx K mg) : Fun K "_law_is_at" "_law_is_at" s_law_is_at T.a_law_is_at T.fd_law_is_at := T.d_law_is_at.F
theorem Tx.g_law_is_at {K : PySem.W.Frag} {mg : Str → Option Value} (T : Tx K mg) : mg "_law_is_at" = some (.ref T.a_law_is_at) := T.d_law_is_at.g
theorem Tx.b_law_is_at {K : PySem.W.Frag} {mg : Str → Option Value} (T : Tx K mg) : Binds K T.fd_law_is_at ["_law_mead", "_law_state"] [] := T.d_law_is_at.b
abbrev Tx.a_law_told_as {K : PySem.W.Frag} {mg : Str → Option Value} (T : Tx K mg) : Addr := T.d_law_told_as.a
abbrev Tx.fd_law_told_as {K : PySem.W.Frag} {mg : Str → Option Value} (T : Tx K mg) : FuncData := T.d_law_told_as.fd
theorem Tx.F_law_told_as {K : PySem.W.Frag} {mg : Str → Option Value} (T : Tx K mg) : Fun K "_law_told_as" "_law_told_as" s_law_told_as T.a_law_told_as T.fd_law_told_as := T.d_law_told_as.F
theorem Tx.g_law_told_as {K : PySem.W.Frag} {mg : Str → Option Value} (T : Tx K mg) : mg "_law_told_as" = some (.ref T.a_law_told_as) := T.d_law_told_as.g
theorem Tx.b_law_told_as {K : PySem.W.Frag} {mg : Str → Option Value} (T : Tx K mg) : Binds K T.fd_law_told_as ["_law_deed"] [] := T.d_law_told_as.b
abbrev Tx.a_law_same_deeds {K : PySem.W.Frag} {mg : Str → Option Value} (T : Tx K mg) : Addr := T.d_law_same_deeds.a
abbrev Tx.fd_law_same_deeds {K : PySem.W.Frag} {mg : Str → Option Value} (T : Tx K mg) : FuncData := T.d_law_same_deeds.fd
theorem Tx.F_law_same_deeds {K : PySem.W.Frag} {mg : Str → Option Value} (T : Tx K mg) : Fun K "_law_same_deeds" "_law_same_deeds" s_law_same_deeds T.a_law_same_deeds T.fd_law_same_deeds := T.d_law_same_deeds.F
theorem Tx.g_law_same_deeds {K : PySem.W.Frag} {mg : Str → Option Value} (T : Tx K mg) : mg "_law_same_deeds" = some (.ref T.a_law_same_deeds) := T.d_law_same_deeds.g
theorem Tx.b_law_same_deeds {K : PySem.W.Frag} {mg : Str → Option Value} (T : Tx K mg) : Binds K T.fd_law_same_deeds ["_law_found", "_law_due"] [] := T.d_law_same_deeds.b
abbrev Tx.a_law_start {K : PySem.W.Frag} {mg : Str → Option Value} (T : Tx K mg) : Addr := T.d_law_start.a
abbrev Tx.fd_law_start {K : PySem.W.Frag} {mg : Str → Option Value} (T : Tx K mg) : FuncData := T.d_law_start.fd
theorem Tx.F_law_start {K : PySem.W.Frag} {mg : Str → Option Value} (T : Tx K mg) : Fun K "_law_start" "_law_start" s_law_start T.a_law_start T.fd_law_start := T.d_law_start.F
theorem Tx.g_law_start {K : PySem.W.Frag} {mg : Str → Option Value} (T : Tx K mg) : mg "_law_start" = some (.ref T.a_law_start) := T.d_law_start.g
theorem Tx.b_law_start {K : PySem.W.Frag} {mg : Str → Option Value} (T : Tx K mg) : Binds K T.fd_law_start ["_law_row"] [] := T.d_law_start.b
abbrev Tx.a_law_run {K : PySem.W.Frag} {mg : Str → Option Value} (T : Tx K mg) : Addr := T.d_law_run.a
abbrev Tx.fd_law_run {K : PySem.W.Frag} {mg : Str → Option Value} (T : Tx K mg) : FuncData := T.d_law_run.fd
theorem Tx.F_law_run {K : PySem.W.Frag} {mg : Str → Option Value} (T : Tx K mg) : Fun K "_law_run" "_law_run" s_law_run T.a_law_run T.fd_law_run := T.d_law_run.F
theorem Tx.g_law_run {K : PySem.W.Frag} {mg : Str → Option Value} (T : Tx K mg) : mg "_law_run" = some (.ref T.a_law_run) := T.d_law_run.g
theorem Tx.b_law_run {K : PySem.W.Frag} {mg : Str → Option Value} (T : Tx K mg) : Binds K T.fd_law_run ["_law_mead", "_law_state", "_law_wishes"] [] := T.d_law_run.b
abbrev Tx.a_law_wild {K : PySem.W.Frag} {mg : Str → Option Value} (T : Tx K mg) : Addr := T.d_law_wild.a
abbrev Tx.fd_law_wild {K : PySem.W.Frag} {mg : Str → Option Value} (T : Tx K mg) : FuncData := T.d_law_wild.fd
theorem Tx.F_law_wild {K : PySem.W.Frag} {mg : Str → Option Value} (T : Tx K mg) : Fun K "_law_wild" "_law_wild" s_law_wild T.a_law_wild T.fd_law_wild := T.d_law_wild.F
theorem Tx.g_law_wild {K : PySem.W.Frag} {mg : Str → Option Value} (T : Tx K mg) : mg "_law_wild" = some (.ref T.a_law_wild) := T.d_law_wild.g
theorem Tx.b_law_wild {K : PySem.W.Frag} {mg : Str → Option Value} (T : Tx K mg) : Binds K T.fd_law_wild ["_law_n", "_law_one"] [] := T.d_law_wild.b
abbrev Tx.a_law {K : PySem.W.Frag} {mg : Str → Option Value} (T : Tx K mg) : Addr := T.d_law.a
abbrev Tx.fd_law {K : PySem.W.Frag} {mg : Str → Option Value} (T : Tx K mg) : FuncData := T.d_law.fd
theorem Tx.F_law {K : PySem.W.Frag} {mg : Str → Option Value} (T : Tx K mg) : Fun K "law" "law" s_law T.a_law T.fd_law := T.d_law.F
theorem Tx.g_law {K : PySem.W.Frag} {mg : Str → Option Value} (T : Tx K mg) : mg "law" = some (.ref T.a_law) := T.d_law.g
theorem Tx.b_law {K : PySem.W.Frag} {mg : Str → Option Value} (T : Tx K mg) : Binds K T.fd_law ["_law_script"] [] := T.d_law.b
abbrev Tx.a_Mead___init__ {K : PySem.W.Frag} {mg : Str → Option Value} (T : Tx K mg) : Addr := T.d_Mead___init__.a
abbrev Tx.fd_Mead___init__ {K : PySem.W.Frag} {mg : Str → Option Value} (T : Tx K mg) : FuncData := T.d_Mead___init__.fd
theorem Tx.F_Mead___init__ {K : PySem.W.Frag} {mg : Str → Option Value} (T : Tx K mg) : Fun K "__init__" "Mead.__init__" s_Mead___init__ T.a_Mead___init__ T.fd_Mead___init__ := T.d_Mead___init__.F
theorem Tx.M_Mead___init__ {K : PySem.W.Frag} {mg : Str → Option Value} (T : Tx K mg) : Meth K T.c_Mead "__init__" T.a_Mead___init__ := T.d_Mead___init__.M
theorem Tx.b_Mead___init__ {K : PySem.W.Frag} {mg : Str → Option Value} (T : Tx K mg) : Binds K T.fd_Mead___init__ ["self", "n", "ropes", "lengths"] [] := T.d_Mead___init__.b
abbrev Tx.a_Mead_posts {K : PySem.W.Frag} {mg : Str → Option Value} (T : Tx K mg) : Addr := T.d_Mead_posts.a
abbrev Tx.fd_Mead_posts {K : PySem.W.Frag} {mg : Str → Option Value} (T : Tx K mg) : FuncData := T.d_Mead_posts.fd
theorem Tx.F_Mead_posts {K : PySem.W.Frag} {mg : Str → Option Value} (T : Tx K mg) : Fun K "posts" "Mead.posts" s_Mead_posts T.a_Mead_posts T.fd_Mead_posts := T.d_Mead_posts.F
theorem Tx.M_Mead_posts {K : PySem.W.Frag} {mg : Str → Option Value} (T : Tx K mg) : Meth K T.c_Mead "posts" T.a_Mead_posts := T.d_Mead_posts.M
theorem Tx.b_Mead_posts {K : PySem.W.Frag} {mg : Str → Option Value} (T : Tx K mg) : Binds K T.fd_Mead_posts ["self"] [] := T.d_Mead_posts.b
abbrev Tx.a_Mead_ropes {K : PySem.W.Frag} {mg : Str → Option Value} (T : Tx K mg) : Addr := T.d_Mead_ropes.a
abbrev Tx.fd_Mead_ropes {K : PySem.W.Frag} {mg : Str → Option Value} (T : Tx K mg) : FuncData := T.d_Mead_ropes.fd
theorem Tx.F_Mead_ropes {K : PySem.W.Frag} {mg : Str → Option Value} (T : Tx K mg) : Fun K "ropes" "Mead.ropes" s_Mead_ropes T.a_Mead_ropes T.fd_Mead_ropes := T.d_Mead_ropes.F
theorem Tx.M_Mead_ropes {K : PySem.W.Frag} {mg : Str → Option Value} (T : Tx K mg) : Meth K T.c_Mead "ropes" T.a_Mead_ropes := T.d_Mead_ropes.M
theorem Tx.b_Mead_ropes {K : PySem.W.Frag} {mg : Str → Option Value} (T : Tx K mg) : Binds K T.fd_Mead_ropes ["self"] [] := T.d_Mead_ropes.b
abbrev Tx.a_Mead_lengths {K : PySem.W.Frag} {mg : Str → Option Value} (T : Tx K mg) : Addr := T.d_Mead_lengths.a
abbrev Tx.fd_Mead_lengths {K : PySem.W.Frag} {mg : Str → Option Value} (T : Tx K mg) : FuncData := T.d_Mead_lengths.fd
theorem Tx.F_Mead_lengths {K : PySem.W.Frag} {mg : Str → Option Value} (T : Tx K mg) : Fun K "lengths" "Mead.lengths" s_Mead_lengths T.a_Mead_lengths T.fd_Mead_lengths := T.d_Mead_lengths.F
theorem Tx.M_Mead_lengths {K : PySem.W.Frag} {mg : Str → Option Value} (T : Tx K mg) : Meth K T.c_Mead "lengths" T.a_Mead_lengths := T.d_Mead_lengths.M
theorem Tx.b_Mead_lengths {K : PySem.W.Frag} {mg : Str → Option Value} (T : Tx K mg) : Binds K T.fd_Mead_lengths ["self"] [] := T.d_Mead_lengths.b
abbrev Tx.a_Mead_deeds {K : PySem.W.Frag} {mg : Str → Option Value} (T : Tx K mg) : Addr := T.d_Mead_deeds.a
abbrev Tx.fd_Mead_deeds {K : PySem.W.Frag} {mg : Str → Option Value} (T : Tx K mg) : FuncData := T.d_Mead_deeds.fd
theorem Tx.F_Mead_deeds {K : PySem.W.Frag} {mg : Str → Option Value} (T : Tx K mg) : Fun K "deeds" "Mead.deeds" s_Mead_deeds T.a_Mead_deeds T.fd_Mead_deeds := T.d_Mead_deeds.F
theorem Tx.M_Mead_deeds {K : PySem.W.Frag} {mg : Str → Option Value} (T : Tx K mg) : Meth K T.c_Mead "deeds" T.a_Mead_deeds := T.d_Mead_deeds.M
theorem Tx.b_Mead_deeds {K : PySem.W.Frag} {mg : Str → Option Value} (T : Tx K mg) : Binds K T.fd_Mead_deeds ["self"] [] := T.d_Mead_deeds.b
abbrev Tx.a_Mead_length {K : PySem.W.Frag} {mg : Str → Option Value} (T : Tx K mg) : Addr := T.d_Mead_length.a
abbrev Tx.fd_Mead_length {K : PySem.W.Frag} {mg : Str → Option Value} (T : Tx K mg) : FuncData := T.d_Mead_length.fd
theorem Tx.F_Mead_length {K : PySem.W.Frag} {mg : Str → Option Value} (T : Tx K mg) : Fun K "length" "Mead.length" s_Mead_length T.a_Mead_length T.fd_Mead_length := T.d_Mead_length.F
theorem Tx.M_Mead_length {K : PySem.W.Frag} {mg : Str → Option Value} (T : Tx K mg) : Meth K T.c_Mead "length" T.a_Mead_length := T.d_Mead_length.M
theorem Tx.b_Mead_length {K : PySem.W.Frag} {mg : Str → Option Value} (T : Tx K mg) : Binds K T.fd_Mead_length ["self", "a", "b"] [] := T.d_Mead_length.b
abbrev Tx.a_Mead_state {K : PySem.W.Frag} {mg : Str → Option Value} (T : Tx K mg) : Addr := T.d_Mead_state.a
abbrev Tx.fd_Mead_state {K : PySem.W.Frag} {mg : Str → Option Value} (T : Tx K mg) : FuncData := T.d_Mead_state.fd
theorem Tx.F_Mead_state {K : PySem.W.Frag} {mg : Str → Option Value} (T : Tx K mg) : Fun K "state" "Mead.state" s_Mead_state T.a_Mead_state T.fd_Mead_state := T.d_Mead_state.F
theorem Tx.M_Mead_state {K : PySem.W.Frag} {mg : Str → Option Value} (T : Tx K mg) : Meth K T.c_Mead "state" T.a_Mead_state := T.d_Mead_state.M
theorem Tx.b_Mead_state {K : PySem.W.Frag} {mg : Str → Option Value} (T : Tx K mg) : Binds K T.fd_Mead_state ["self"] [] := T.d_Mead_state.b
abbrev Tx.a_Mead_stand_at {K : PySem.W.Frag} {mg : Str → Option Value} (T : Tx K mg) : Addr := T.d_Mead_stand_at.a
abbrev Tx.fd_Mead_stand_at {K : PySem.W.Frag} {mg : Str → Option Value} (T : Tx K mg) : FuncData := T.d_Mead_stand_at.fd
theorem Tx.F_Mead_stand_at {K : PySem.W.Frag} {mg : Str → Option Value} (T : Tx K mg) : Fun K "stand_at" "Mead.stand_at" s_Mead_stand_at T.a_Mead_stand_at T.fd_Mead_stand_at := T.d_Mead_stand_at.F
theorem Tx.M_Mead_stand_at {K : PySem.W.Frag} {mg : Str → Option Value} (T : Tx K mg) : Meth K T.c_Mead "stand_at" T.a_Mead_stand_at := T.d_Mead_stand_at.M
theorem Tx.b_Mead_stand_at {K : PySem.W.Frag} {mg : Str → Option Value} (T : Tx K mg) : Binds K T.fd_Mead_stand_at ["self", "state"] [] := T.d_Mead_stand_at.b
abbrev Tx.a_Mead_done {K : PySem.W.Frag} {mg : Str → Option Value} (T : Tx K mg) : Addr := T.d_Mead_done.a
abbrev Tx.fd_Mead_done {K : PySem.W.Frag} {mg : Str → Option Value} (T : Tx K mg) : FuncData := T.d_Mead_done.fd
theorem Tx.F_Mead_done {K : PySem.W.Frag} {mg : Str → Option Value} (T : Tx K mg) : Fun K "done" "Mead.done" s_Mead_done T.a_Mead_done T.fd_Mead_done := T.d_Mead_done.F
theorem Tx.M_Mead_done {K : PySem.W.Frag} {mg : Str → Option Value} (T : Tx K mg) : Meth K T.c_Mead "done" T.a_Mead_done := T.d_Mead_done.M
theorem Tx.b_Mead_done {K : PySem.W.Frag} {mg : Str → Option Value} (T : Tx K mg) : Binds K T.fd_Mead_done ["self", "deed", "state"] [] := T.d_Mead_done.b
abbrev Tx.a_Mead_turn {K : PySem.W.Frag} {mg : Str → Option Value} (T : Tx K mg) : Addr := T.d_Mead_turn.a
abbrev Tx.fd_Mead_turn {K : PySem.W.Frag} {mg : Str → Option Value} (T : Tx K mg) : FuncData := T.d_Mead_turn.fd
theorem Tx.F_Mead_turn {K : PySem.W.Frag} {mg : Str → Option Value} (T : Tx K mg) : Fun K "turn" "Mead.turn" s_Mead_turn T.a_Mead_turn T.fd_Mead_turn := T.d_Mead_turn.F
theorem Tx.M_Mead_turn {K : PySem.W.Frag} {mg : Str → Option Value} (T : Tx K mg) : Meth K T.c_Mead "turn" T.a_Mead_turn := T.d_Mead_turn.M
theorem Tx.b_Mead_turn {K : PySem.W.Frag} {mg : Str → Option Value} (T : Tx K mg) : Binds K T.fd_Mead_turn ["self", "a", "b"] [] := T.d_Mead_turn.b
abbrev Tx.a_Mead_stretch {K : PySem.W.Frag} {mg : Str → Option Value} (T : Tx K mg) : Addr := T.d_Mead_stretch.a
abbrev Tx.fd_Mead_stretch {K : PySem.W.Frag} {mg : Str → Option Value} (T : Tx K mg) : FuncData := T.d_Mead_stretch.fd
theorem Tx.F_Mead_stretch {K : PySem.W.Frag} {mg : Str → Option Value} (T : Tx K mg) : Fun K "stretch" "Mead.stretch" s_Mead_stretch T.a_Mead_stretch T.fd_Mead_stretch := T.d_Mead_stretch.F
theorem Tx.M_Mead_stretch {K : PySem.W.Frag} {mg : Str → Option Value} (T : Tx K mg) : Meth K T.c_Mead "stretch" T.a_Mead_stretch := T.d_Mead_stretch.M
theorem Tx.b_Mead_stretch {K : PySem.W.Frag} {mg : Str → Option Value} (T : Tx K mg) : Binds K T.fd_Mead_stretch ["self", "post", "factor"] [] := T.d_Mead_stretch.b
abbrev Tx.a_Mead_set_out {K : PySem.W.Frag} {mg : Str → Option Value} (T : Tx K mg) : Addr := T.d_Mead_set_out.a
abbrev Tx.fd_Mead_set_out {K : PySem.W.Frag} {mg : Str → Option Value} (T : Tx K mg) : FuncData := T.d_Mead_set_out.fd
theorem Tx.F_Mead_set_out {K : PySem.W.Frag} {mg : Str → Option Value} (T : Tx K mg) : Fun K "set_out" "Mead.set_out" s_Mead_set_out T.a_Mead_set_out T.fd_Mead_set_out := T.d_Mead_set_out.F
theorem Tx.M_Mead_set_out {K : PySem.W.Frag} {mg : Str → Option Value} (T : Tx K mg) : Meth K T.c_Mead "set_out" T.a_Mead_set_out := T.d_Mead_set_out.M
theorem Tx.b_Mead_set_out {K : PySem.W.Frag} {mg : Str → Option Value} (T : Tx K mg) : Binds K T.fd_Mead_set_out ["self", "k", "one", "other"] [] := T.d_Mead_set_out.b
abbrev Tx.a_Mead_draw {K : PySem.W.Frag} {mg : Str → Option Value} (T : Tx K mg) : Addr := T.d_Mead_draw.a
abbrev Tx.fd_Mead_draw {K : PySem.W.Frag} {mg : Str → Option Value} (T : Tx K mg) : FuncData := T.d_Mead_draw.fd
theorem Tx.F_Mead_draw {K : PySem.W.Frag} {mg : Str → Option Value} (T : Tx K mg) : Fun K "draw" "Mead.draw" s_Mead_draw T.a_Mead_draw T.fd_Mead_draw := T.d_Mead_draw.F
theorem Tx.M_Mead_draw {K : PySem.W.Frag} {mg : Str → Option Value} (T : Tx K mg) : Meth K T.c_Mead "draw" T.a_Mead_draw := T.d_Mead_draw.M
theorem Tx.b_Mead_draw {K : PySem.W.Frag} {mg : Str → Option Value} (T : Tx K mg) : Binds K T.fd_Mead_draw ["self", "post"] [] := T.d_Mead_draw.b
abbrev Tx.a_Mead_back {K : PySem.W.Frag} {mg : Str → Option Value} (T : Tx K mg) : Addr := T.d_Mead_back.a
abbrev Tx.fd_Mead_back {K : PySem.W.Frag} {mg : Str → Option Value} (T : Tx K mg) : FuncData := T.d_Mead_back.fd
theorem Tx.F_Mead_back {K : PySem.W.Frag} {mg : Str → Option Value} (T : Tx K mg) : Fun K "back" "Mead.back" s_Mead_back T.a_Mead_back T.fd_Mead_back := T.d_Mead_back.F
theorem Tx.M_Mead_back {K : PySem.W.Frag} {mg : Str → Option Value} (T : Tx K mg) : Meth K T.c_Mead "back" T.a_Mead_back := T.d_Mead_back.M
theorem Tx.b_Mead_back {K : PySem.W.Frag} {mg : Str → Option Value} (T : Tx K mg) : Binds K T.fd_Mead_back ["self"] [] := T.d_Mead_back.b
abbrev Tx.a_Mead_again {K : PySem.W.Frag} {mg : Str → Option Value} (T : Tx K mg) : Addr := T.d_Mead_again.a
abbrev Tx.fd_Mead_again {K : PySem.W.Frag} {mg : Str → Option Value} (T : Tx K mg) : FuncData := T.d_Mead_again.fd
theorem Tx.F_Mead_again {K : PySem.W.Frag} {mg : Str → Option Value} (T : Tx K mg) : Fun K "again" "Mead.again" s_Mead_again T.a_Mead_again T.fd_Mead_again := T.d_Mead_again.F
theorem Tx.M_Mead_again {K : PySem.W.Frag} {mg : Str → Option Value} (T : Tx K mg) : Meth K T.c_Mead "again" T.a_Mead_again := T.d_Mead_again.M
theorem Tx.b_Mead_again {K : PySem.W.Frag} {mg : Str → Option Value} (T : Tx K mg) : Binds K T.fd_Mead_again ["self"] [] := T.d_Mead_again.b
abbrev Tx.c_NoCutting {K : PySem.W.Frag} {mg : Str → Option Value} (T : Tx K mg) : Addr := T.e_NoCutting.c
theorem Tx.g_NoCutting {K : PySem.W.Frag} {mg : Str → Option Value} (T : Tx K mg) : mg "NoCutting" = some (.ref T.c_NoCutting) := T.e_NoCutting.g
theorem Tx.x_NoCutting {K : PySem.W.Frag} {mg : Str → Option Value} (T : Tx K mg) : PySem.W.excIn K T.c_NoCutting [.type "ValueError", .type "Exception", .type "BaseException", .type "object"] "ValueError.__new__" = true := T.e_NoCutting.x
theorem Tx.k_NoCutting {K : PySem.W.Frag} {mg : Str → Option Value} (T : Tx K mg) : PySem.W.keepIn K (.ref T.c_NoCutting) = true := T.e_NoCutting.k
theorem Tx.b_NoCutting {K : PySem.W.Frag} {mg : Str → Option Value} (T : Tx K mg) : PySem.W.subIn K (.ref T.c_NoCutting) (.type "BaseException") = some true := T.e_NoCutting.b
theorem Tx.t_NoCutting {K : PySem.W.Frag} {mg : Str → Option Value} (T : Tx K mg) : PySem.W.typeIn K (.ref T.c_NoCutting) = some (.type "type") := T.e_NoCutting.t
theorem Tx.i_NoCutting {K : PySem.W.Frag} {mg : Str → Option Value} (T : Tx K mg) : PySem.W.isClsIn K T.c_NoCutting = true := T.e_NoCutting.i
theorem Tx.z_NoCutting {K : PySem.W.Frag} {mg : Str → Option Value} (T : Tx K mg) : PySem.W.subIn K (.ref T.c_NoCutting) (.ref T.c_NoCutting) = some true := T.e_NoCutting.z
abbrev Tx.c_NoRope {K : PySem.W.Frag} {mg : Str → Option Value} (T : Tx K mg) : Addr := T.e_NoRope.c
theorem Tx.g_NoRope {K : PySem.W.Frag} {mg : Str → Option Value} (T : Tx K mg) : mg "NoRope" = some (.ref T.c_NoRope) := T.e_NoRope.g
theorem Tx.x_NoRope {K : PySem.W.Frag} {mg : Str → Option Value} (T : Tx K mg) : PySem.W.excIn K T.c_NoRope [.type "ValueError", .type "Exception", .type "BaseException", .type "object"] "ValueError.__new__" = true := T.e_NoRope.x
theorem Tx.k_NoRope {K : PySem.W.Frag} {mg : Str → Option Value} (T : Tx K mg) : PySem.W.keepIn K (.ref T.c_NoRope) = true := T.e_NoRope.k
theorem Tx.b_NoRope {K : PySem.W.Frag} {mg : Str → Option Value} (T : Tx K mg) : PySem.W.subIn K (.ref T.c_NoRope) (.type "BaseException") = some true := T.e_NoRope.b
theorem Tx.t_NoRope {K : PySem.W.Frag} {mg : Str → Option Value} (T : Tx K mg) : PySem.W.typeIn K (.ref T.c_NoRope) = some (.type "type") := T.e_NoRope.t
theorem Tx.i_NoRope {K : PySem.W.Frag} {mg : Str → Option Value} (T : Tx K mg) : PySem.W.isClsIn K T.c_NoRope = true := T.e_NoRope.i
theorem Tx.z_NoRope {K : PySem.W.Frag} {mg : Str → Option Value} (T : Tx K mg) : PySem.W.subIn K (.ref T.c_NoRope) (.ref T.c_NoRope) = some true := T.e_NoRope.z
abbrev Tx.c_NoFraction {K : PySem.W.Frag} {mg : Str → Option Value} (T : Tx K mg) : Addr := T.e_NoFraction.c
theorem Tx.g_NoFraction {K : PySem.W.Frag} {mg : Str → Option Value} (T : Tx K mg) : mg "NoFraction" = some (.ref T.c_NoFraction) := T.e_NoFraction.g
theorem Tx.x_NoFraction {K : PySem.W.Frag} {mg : Str → Option Value} (T : Tx K mg) : PySem.W.excIn K T.c_NoFraction [.type "ValueError", .type "Exception", .type "BaseException", .type "object"] "ValueError.__new__" = true := T.e_NoFraction.x
theorem Tx.k_NoFraction {K : PySem.W.Frag} {mg : Str → Option Value} (T : Tx K mg) : PySem.W.keepIn K (.ref T.c_NoFraction) = true := T.e_NoFraction.k
theorem Tx.b_NoFraction {K : PySem.W.Frag} {mg : Str → Option Value} (T : Tx K mg) : PySem.W.subIn K (.ref T.c_NoFraction) (.type "BaseException") = some true := T.e_NoFraction.b
theorem Tx.t_NoFraction {K : PySem.W.Frag} {mg : Str → Option Value} (T : Tx K mg) : PySem.W.typeIn K (.ref T.c_NoFraction) = some (.type "type") := T.e_NoFraction.t
theorem Tx.i_NoFraction {K : PySem.W.Frag} {mg : Str → Option Value} (T : Tx K mg) : PySem.W.isClsIn K T.c_NoFraction = true := T.e_NoFraction.i
theorem Tx.z_NoFraction {K : PySem.W.Frag} {mg : Str → Option Value} (T : Tx K mg) : PySem.W.subIn K (.ref T.c_NoFraction) (.ref T.c_NoFraction) = some true := T.e_NoFraction.z
abbrev Tx.c_NoPost {K : PySem.W.Frag} {mg : Str → Option Value} (T : Tx K mg) : Addr := T.e_NoPost.c
theorem Tx.g_NoPost {K : PySem.W.Frag} {mg : Str → Option Value} (T : Tx K mg) : mg "NoPost" = some (.ref T.c_NoPost) := T.e_NoPost.g
theorem Tx.x_NoPost {K : PySem.W.Frag} {mg : Str → Option Value} (T : Tx K mg) : PySem.W.excIn K T.c_NoPost [.type "ValueError", .type "Exception", .type "BaseException", .type "object"] "ValueError.__new__" = true := T.e_NoPost.x
theorem Tx.k_NoPost {K : PySem.W.Frag} {mg : Str → Option Value} (T : Tx K mg) : PySem.W.keepIn K (.ref T.c_NoPost) = true := T.e_NoPost.k
theorem Tx.b_NoPost {K : PySem.W.Frag} {mg : Str → Option Value} (T : Tx K mg) : PySem.W.subIn K (.ref T.c_NoPost) (.type "BaseException") = some true := T.e_NoPost.b
theorem Tx.t_NoPost {K : PySem.W.Frag} {mg : Str → Option Value} (T : Tx K mg) : PySem.W.typeIn K (.ref T.c_NoPost) = some (.type "type") := T.e_NoPost.t
theorem Tx.i_NoPost {K : PySem.W.Frag} {mg : Str → Option Value} (T : Tx K mg) : PySem.W.isClsIn K T.c_NoPost = true := T.e_NoPost.i
theorem Tx.z_NoPost {K : PySem.W.Frag} {mg : Str → Option Value} (T : Tx K mg) : PySem.W.subIn K (.ref T.c_NoPost) (.ref T.c_NoPost) = some true := T.e_NoPost.z
abbrev Tx.c_BadLength {K : PySem.W.Frag} {mg : Str → Option Value} (T : Tx K mg) : Addr := T.e_BadLength.c
theorem Tx.g_BadLength {K : PySem.W.Frag} {mg : Str → Option Value} (T : Tx K mg) : mg "BadLength" = some (.ref T.c_BadLength) := T.e_BadLength.g
theorem Tx.x_BadLength {K : PySem.W.Frag} {mg : Str → Option Value} (T : Tx K mg) : PySem.W.excIn K T.c_BadLength [.type "ValueError", .type "Exception", .type "BaseException", .type "object"] "ValueError.__new__" = true := T.e_BadLength.x
theorem Tx.k_BadLength {K : PySem.W.Frag} {mg : Str → Option Value} (T : Tx K mg) : PySem.W.keepIn K (.ref T.c_BadLength) = true := T.e_BadLength.k
theorem Tx.b_BadLength {K : PySem.W.Frag} {mg : Str → Option Value} (T : Tx K mg) : PySem.W.subIn K (.ref T.c_BadLength) (.type "BaseException") = some true := T.e_BadLength.b
theorem Tx.t_BadLength {K : PySem.W.Frag} {mg : Str → Option Value} (T : Tx K mg) : PySem.W.typeIn K (.ref T.c_BadLength) = some (.type "type") := T.e_BadLength.t
theorem Tx.i_BadLength {K : PySem.W.Frag} {mg : Str → Option Value} (T : Tx K mg) : PySem.W.isClsIn K T.c_BadLength = true := T.e_BadLength.i
theorem Tx.z_BadLength {K : PySem.W.Frag} {mg : Str → Option Value} (T : Tx K mg) : PySem.W.subIn K (.ref T.c_BadLength) (.ref T.c_BadLength) = some true := T.e_BadLength.z
abbrev Tx.c_Full {K : PySem.W.Frag} {mg : Str → Option Value} (T : Tx K mg) : Addr := T.e_Full.c
theorem Tx.g_Full {K : PySem.W.Frag} {mg : Str → Option Value} (T : Tx K mg) : mg "Full" = some (.ref T.c_Full) := T.e_Full.g
theorem Tx.x_Full {K : PySem.W.Frag} {mg : Str → Option Value} (T : Tx K mg) : PySem.W.excIn K T.c_Full [.type "ValueError", .type "Exception", .type "BaseException", .type "object"] "ValueError.__new__" = true := T.e_Full.x
theorem Tx.k_Full {K : PySem.W.Frag} {mg : Str → Option Value} (T : Tx K mg) : PySem.W.keepIn K (.ref T.c_Full) = true := T.e_Full.k
theorem Tx.b_Full {K : PySem.W.Frag} {mg : Str → Option Value} (T : Tx K mg) : PySem.W.subIn K (.ref T.c_Full) (.type "BaseException") = some true := T.e_Full.b
theorem Tx.t_Full {K : PySem.W.Frag} {mg : Str → Option Value} (T : Tx K mg) : PySem.W.typeIn K (.ref T.c_Full) = some (.type "type") := T.e_Full.t
theorem Tx.i_Full {K : PySem.W.Frag} {mg : Str → Option Value} (T : Tx K mg) : PySem.W.isClsIn K T.c_Full = true := T.e_Full.i
theorem Tx.z_Full {K : PySem.W.Frag} {mg : Str → Option Value} (T : Tx K mg) : PySem.W.subIn K (.ref T.c_Full) (.ref T.c_Full) = some true := T.e_Full.z
abbrev Tx.c_Few {K : PySem.W.Frag} {mg : Str → Option Value} (T : Tx K mg) : Addr := T.e_Few.c
theorem Tx.g_Few {K : PySem.W.Frag} {mg : Str → Option Value} (T : Tx K mg) : mg "Few" = some (.ref T.c_Few) := T.e_Few.g
theorem Tx.x_Few {K : PySem.W.Frag} {mg : Str → Option Value} (T : Tx K mg) : PySem.W.excIn K T.c_Few [.type "ValueError", .type "Exception", .type "BaseException", .type "object"] "ValueError.__new__" = true := T.e_Few.x
theorem Tx.k_Few {K : PySem.W.Frag} {mg : Str → Option Value} (T : Tx K mg) : PySem.W.keepIn K (.ref T.c_Few) = true := T.e_Few.k
theorem Tx.b_Few {K : PySem.W.Frag} {mg : Str → Option Value} (T : Tx K mg) : PySem.W.subIn K (.ref T.c_Few) (.type "BaseException") = some true := T.e_Few.b
theorem Tx.t_Few {K : PySem.W.Frag} {mg : Str → Option Value} (T : Tx K mg) : PySem.W.typeIn K (.ref T.c_Few) = some (.type "type") := T.e_Few.t
theorem Tx.i_Few {K : PySem.W.Frag} {mg : Str → Option Value} (T : Tx K mg) : PySem.W.isClsIn K T.c_Few = true := T.e_Few.i
theorem Tx.z_Few {K : PySem.W.Frag} {mg : Str → Option Value} (T : Tx K mg) : PySem.W.subIn K (.ref T.c_Few) (.ref T.c_Few) = some true := T.e_Few.z
abbrev Tx.c_HasRopes {K : PySem.W.Frag} {mg : Str → Option Value} (T : Tx K mg) : Addr := T.e_HasRopes.c
theorem Tx.g_HasRopes {K : PySem.W.Frag} {mg : Str → Option Value} (T : Tx K mg) : mg "HasRopes" = some (.ref T.c_HasRopes) := T.e_HasRopes.g
theorem Tx.x_HasRopes {K : PySem.W.Frag} {mg : Str → Option Value} (T : Tx K mg) : PySem.W.excIn K T.c_HasRopes [.type "ValueError", .type "Exception", .type "BaseException", .type "object"] "ValueError.__new__" = true := T.e_HasRopes.x
theorem Tx.k_HasRopes {K : PySem.W.Frag} {mg : Str → Option Value} (T : Tx K mg) : PySem.W.keepIn K (.ref T.c_HasRopes) = true := T.e_HasRopes.k
theorem Tx.b_HasRopes {K : PySem.W.Frag} {mg : Str → Option Value} (T : Tx K mg) : PySem.W.subIn K (.ref T.c_HasRopes) (.type "BaseException") = some true := T.e_HasRopes.b
theorem Tx.t_HasRopes {K : PySem.W.Frag} {mg : Str → Option Value} (T : Tx K mg) : PySem.W.typeIn K (.ref T.c_HasRopes) = some (.type "type") := T.e_HasRopes.t
theorem Tx.i_HasRopes {K : PySem.W.Frag} {mg : Str → Option Value} (T : Tx K mg) : PySem.W.isClsIn K T.c_HasRopes = true := T.e_HasRopes.i
theorem Tx.z_HasRopes {K : PySem.W.Frag} {mg : Str → Option Value} (T : Tx K mg) : PySem.W.subIn K (.ref T.c_HasRopes) (.ref T.c_HasRopes) = some true := T.e_HasRopes.z
abbrev Tx.c_NoBack {K : PySem.W.Frag} {mg : Str → Option Value} (T : Tx K mg) : Addr := T.e_NoBack.c
theorem Tx.g_NoBack {K : PySem.W.Frag} {mg : Str → Option Value} (T : Tx K mg) : mg "NoBack" = some (.ref T.c_NoBack) := T.e_NoBack.g
theorem Tx.x_NoBack {K : PySem.W.Frag} {mg : Str → Option Value} (T : Tx K mg) : PySem.W.excIn K T.c_NoBack [.type "ValueError", .type "Exception", .type "BaseException", .type "object"] "ValueError.__new__" = true := T.e_NoBack.x
theorem Tx.k_NoBack {K : PySem.W.Frag} {mg : Str → Option Value} (T : Tx K mg) : PySem.W.keepIn K (.ref T.c_NoBack) = true := T.e_NoBack.k
theorem Tx.b_NoBack {K : PySem.W.Frag} {mg : Str → Option Value} (T : Tx K mg) : PySem.W.subIn K (.ref T.c_NoBack) (.type "BaseException") = some true := T.e_NoBack.b
theorem Tx.t_NoBack {K : PySem.W.Frag} {mg : Str → Option Value} (T : Tx K mg) : PySem.W.typeIn K (.ref T.c_NoBack) = some (.type "type") := T.e_NoBack.t
theorem Tx.i_NoBack {K : PySem.W.Frag} {mg : Str → Option Value} (T : Tx K mg) : PySem.W.isClsIn K T.c_NoBack = true := T.e_NoBack.i
theorem Tx.z_NoBack {K : PySem.W.Frag} {mg : Str → Option Value} (T : Tx K mg) : PySem.W.subIn K (.ref T.c_NoBack) (.ref T.c_NoBack) = some true := T.e_NoBack.z
/-! ### the draws: a new list of so many numbers below a million -/
def spFlow (K : PySem.W.Frag) : Sp := fun vs H Q _ => ∃ (a : Addr) (ns : List Int) (m : Nat), vs = [.ref a, .int m] ∧ SqL K H a (ns.map V.int) ∧ m ≤ 100000 ∧
  ∀ (row : List Int) (H' : Hp) (p : Addr), row.length = m → (∀ x ∈ row, 0 ≤ x ∧ x < 1000000) → Same H H' → H p = none → H' p = some (.lst (row.map V.int)) → Q (.ref p) H'
theorem flow_more {row : List Int} {x : Int} (h : ∀ x ∈ row, 0 ≤ x ∧ x < 1000000) (h0 : 0 ≤ x) (h1 : x < 1000000) : ∀ y ∈ row ++ [x], 0 ≤ y ∧ y < 1000000 := fun y hy => by
  rcases List.mem_append.mp hy with q | q
  · exact h y q
  · rw [List.mem_singleton.mp q]; exact ⟨h0, h1⟩
theorem flow_get {row : List Int} (h : ∀ x ∈ row, 0 ≤ x ∧ x < 1000000) (i : Nat) : 0 ≤ row.getD i 0 ∧ row.getD i 0 < 1000000 := by
  rw [List.getD_eq_getElem?_getD]
  cases e : row[i]? with
  | none => exact ⟨by decide, by decide⟩
  | some x => exact h x (List.mem_of_getElem? e)
section
variable {P : Program} {w : World} {K : PySem.W.Frag} {mg : Str → Option Value} {base : Heap}
theorem ok_law_flow (T : Tx K mg) : FnOk P w K mg base CX0 1 T.a_law_flow T.fd_law_flow ["_law_script", "_law_many_here"] (spFlow K) := by
  refine T.F_law_flow.ok sc_law_flow (fun vs H Q E h => ?_) (fun cdv A outer s H vs Q E hr h => ?_)
  · obtain ⟨a, ns, m, rfl, _⟩ := h
    rfl
  obtain ⟨a, ns, m, rfl, hS, hm, q⟩ := h
  refine ⟨_, (pss_cons (ps_set (i := 2) sc_law_flow.nd rfl (.inl rfl) (pe_int))
      (C8.pss_cut (ps_if (PW.pt (pw_and (pt_cmpR op_gt (pe_callB (c_len (K := K)) (by rfl) T.m_len PySem.boot_len (pa_cons (pv 0) pa_nil)) (pe_int) (nomark _)) (pw_and1 (pt_cmpR op_ge (pe_callB c_abs (by rfl) T.m_abs (by decide +kernel) (pa_cons (pe_ix (ix_listK (K := K)) (pv 0) (pe_int) (fun _ _ => rfl)) pa_nil)) (pe_op op_pow (pe_int) (pe_int)) (nomark _))))) (pss_one (ps_set (i := 2) sc_law_flow.nd rfl (.inl rfl) (pe_op op_sub (pe_callB c_abs (by rfl) T.m_abs (by decide +kernel) (pa_cons (pe_ix (ix_listK (K := K)) (pv 0) (pe_int) (fun _ _ => rfl)) pa_nil)) (pe_op op_pow (pe_int) (pe_int))))) pss_nil)
      (pss_cons (ps_set (i := 3) sc_law_flow.nd rfl (.inl rfl) (pe_lst pa_nil))
      (pss_cons (ps_for PassesOwn.never rfl (pi_range1 (by rfl) T.m_range (pa_cons (pv 1) pa_nil)) (pg_name (i := 4) sc_law_flow.nd rfl (.inl rfl)) (pss_one (ps_if (pt_cmpR op_gt (pv 2) (pe_int) (nomark _)) (pss_cons (ps_expr (k_bm (K := K) (pe_bm PySem.F.plainAttrs_list PySem.F.slot_list_append PySem.F.type_list_append mt_append (pv 3) (pa_cons (pe_op op_mod (pv 2) (pe_int)) pa_nil))))
      (pss_one (ps_set (i := 2) sc_law_flow.nd rfl (.inl rfl) (pe_op op_fdiv (pv 2) (pe_int))))) (pss_cons (ps_set (i := 5) sc_law_flow.nd rfl (.inl rfl) (pe_op op_add (pv 4) (pe_int)))
      (C8.pss_cut (ps_if (pt_cmpR op_gt (pe_callB (c_len (K := K)) (by rfl) T.m_len PySem.boot_len (pa_cons (pv 0) pa_nil)) (pe_int) (nomark _)) (pss_one (ps_set (i := 5) sc_law_flow.nd rfl (.inl rfl) (pe_ix (ix_listK (K := K)) (pv 0) (pe_op op_mod (pv 4) (pe_callB (c_len (K := K)) (by rfl) T.m_len PySem.boot_len (pa_cons (pv 0) pa_nil))) (fun _ _ => rfl)))) pss_nil)
      (pss_cons (ps_set (i := 6) sc_law_flow.nd rfl (.inl rfl) (pe_op op_mod (pe_op op_add (pe_op op_add (pe_op op_mul (pv 5) (pe_int)) (pe_op op_mul (pv 4) (pe_int))) (pe_int)) (pe_int)))
      (pss_cons (ps_set (i := 6) sc_law_flow.nd rfl (.inl rfl) (pe_op op_mod (pe_op op_add (pe_op op_add (pe_op op_mul (pv 6) (pe_int)) (pe_op op_mul (pv 4) (pe_int))) (pe_callB (c_len (K := K)) (by rfl) T.m_len PySem.boot_len (pa_cons (pv 0) pa_nil))) (pe_int)))
      (pss_one (ps_expr (k_bm (K := K) (pe_bm PySem.F.plainAttrs_list PySem.F.slot_list_append PySem.F.type_list_append mt_append (pv 3) (pa_cons (pe_op op_mod (pe_op op_fdiv (pv 6) (pe_int)) (pe_int)) pa_nil))))))))))))
      (pss_one (ps_ret (pv 3))))))), ?_⟩
  walk_at "st"
  have hl : (ns.map V.int).length = ns.length := List.length_map _
  refine Pm.w_cut (fun σ' H' => ∃ g : Int, σ' = [some (.ref a), some (.int m), some (.int g), none, none, none, none] ∧ H' = H) ?_ ?_
  · walk_at "st"
    refine Pm.w_len (.inl hS) ?_
    walk_at "st"
    refine Pm.w_ite (fun c => ?_) (fun c => ?_)
    · rw [hl] at c
      walk_at "st"
      refine Pm.w_ixL hS (atI_int (by omega) (by omega)) ?_
      walk_at "st"
      refine Pm.w_ite (fun c => ?_) (fun c => ?_)
      · walk_at "st"
        refine Pm.w_ixL hS (atI_int (by omega) (by omega)) ?_
        walk_at "st"
        exact ⟨_, rfl, rfl⟩
      · walk_at "st"
        exact ⟨_, rfl, rfl⟩
    · walk_at "st"
      exact ⟨_, rfl, rfl⟩
  rintro σ H' ⟨g, rfl, rfl⟩
  walk_at "st"
  refine Pm.w_newL (fun p hp => ?_)
  walk_at "st"
  rw [Int.toNat_natCast]
  refine Pm.w_forR (fun i σ H2 => ∃ (g : Int) (row : List Int) (x4 x5 x6 : Option V), σ = [some (.ref a), some (.int m), some (.int g), some (.ref p), x4, x5, x6] ∧
    row.length = i ∧ (∀ x ∈ row, 0 ≤ x ∧ x < 1000000) ∧ H2 = upd H' p (.lst (row.map V.int))) ?_ ?_ ?_
  · exact ⟨g, [], none, none, none, rfl, rfl, fun x hx => absurd hx (List.not_mem_nil), rfl⟩
  · rintro i σ H2 hi ⟨g, row, x4, x5, x6, rfl, hrow, hb, rfl⟩
    have hS2 : SqL K (upd H' p (.lst (row.map V.int))) a (ns.map V.int) := (same_new hp _).seq hS
    have hz : (row.map V.int).length < sizeLine := by rw [List.length_map]; exact size_lt (by omega)
    have fin : ∀ x : Int, upd (upd H' p (.lst (row.map V.int))) p (.lst (row.map V.int ++ [.int x])) = upd H' p (.lst ((row ++ [x]).map V.int)) := fun x => by rw [upd_upd, List.map_append] <;> rfl
    walk_at "st"
    refine Pm.w_ite (fun c => ?_) (fun c => ?_)
    · walk_at "st"
      refine ⟨.inl ⟨rfl, _, SqL.of upd_same⟩, ?_⟩
      walk_at "st"
      refine Pm.w_append upd_same hz ?_
      walk_at "st"
      refine ⟨_, row ++ [g % 1000000], _, _, _, rfl, by rw [List.length_append, hrow] <;> rfl, flow_more hb (by omega) (by omega), fin _⟩
    · walk_at "st"
      refine Pm.w_cut (fun σ' H3 => ∃ cell : Int, σ' = [some (.ref a), some (.int m), some (.int g), some (.ref p), some (.int (0 + (i : Nat))), some (.int cell), x6] ∧ H3 = upd H' p (.lst (row.map V.int))) ?_ ?_
      · walk_at "st"
        refine Pm.w_len (.inl hS2) ?_
        walk_at "st"
        refine Pm.w_ite (fun c => ?_) (fun c => ?_)
        · rw [hl] at c
          walk_at "st"
          refine Pm.w_len (.inl hS2) ?_
          rw [hl]
          walk_at "st"
          refine Pm.w_ixL hS2 (atI_int (Int.emod_nonneg _ (by omega)) (Int.emod_lt_of_pos _ (by omega))) ?_
          walk_at "st"
          exact ⟨_, rfl, rfl⟩
        · walk_at "st"
          exact ⟨_, rfl, rfl⟩
      · rintro σ H3 ⟨cell, rfl, rfl⟩
        walk_at "st"
        refine Pm.w_len (.inl hS2) ?_
        walk_at "st"
        refine ⟨.inl ⟨rfl, _, SqL.of upd_same⟩, ?_⟩
        walk_at "st"
        refine Pm.w_append upd_same hz ?_
        walk_at "st"
        refine ⟨_, row ++ [_], _, _, _, rfl, by rw [List.length_append, hrow] <;> rfl, flow_more hb (Int.emod_nonneg _ (by decide)) (Int.emod_lt_of_pos _ (by decide)), fin _⟩
  · rintro σ H2 ⟨g, row, x4, x5, x6, rfl, hrow, hb, rfl⟩
    walk_at "st"
    exact q row _ p hrow hb (same_new hp _) hp upd_same
end
/-! ### is it an int -/
section
variable {P : Program} {w : World} {K : PySem.W.Frag} {mg : Str → Option Value} {base : Heap}
def spWhole : Sp := fun vs H Q _ => ∃ i : Int, vs = [.int i] ∧ Q (.bl true) H
theorem ok_law_whole (T : Tx K mg) : FnOk P w K mg base CX0 1 T.a_law_whole T.fd_law_whole ["_law_found"] spWhole := by
  refine T.F_law_whole.ok sc_law_whole (fun vs H Q E h => ?_) (fun cdv A outer s H vs Q E hr h => ?_)
  · obtain ⟨i, rfl, _⟩ := h
    rfl
  obtain ⟨i, rfl, q⟩ := h
  refine ⟨_, (pss_one (ps_ret ((pe_and (pe_callB (call_isK (K := K)) (by rfl) T.m_isinstance (by decide +kernel) (pa_cons (pv 0) (pa_cons (pe_bltn (v := .ty "int") (by rfl) T.m_int (by decide +kernel) rfl) pa_nil))) (pe_one (pe_not (pe_callB (call_isK (K := K)) (by rfl) T.m_isinstance (by decide +kernel) (pa_cons (pv 0) (pa_cons (pe_bltn (v := .ty "bool") (by rfl) T.m_bool (by decide +kernel) rfl) pa_nil))))))))), ?_⟩
  walk_at "st"
  refine Pm.w_isiInt (b := true) (by decide +kernel) ?_
  walk_at "st"
  refine Pm.w_isiInt (b := false) (by decide +kernel) ?_
  walk_at "st"
  exact q
end
/-! ### the drawn cutting -/
/-- a new pair -/
def PrNew (H : Hp) (p : IP) (Q : VK) : Prop := ∀ (t : Addr) (H' : Hp), Same H H' → H t = none → Pr H' (.ref t) p → Q (.ref t) H'
def spPair : Sp := fun vs H Q _ => ∃ a b : Int, vs = [.int a, .int b] ∧ PrNew H (tieOf a b) Q
theorem atI_prev {ns : List Int} {k : Int} (h0 : 0 ≤ k) (h : k < (ns.length : Int)) : atI (ns.map V.int) (k - 1) = some (.int (ns.getD ((k.toNat + ns.length - 1) % ns.length) 0)) := by
  by_cases c : k = 0
  · subst c
    have e : ((0 : Int).toNat + ns.length - 1) % ns.length = ns.length - 1 := by
      rw [show (0 : Int).toNat + ns.length - 1 = ns.length - 1 by omega]
      exact Nat.mod_eq_of_lt (by omega)
    rw [e]
    unfold atI ixN
    rw [if_neg (by omega), if_pos (by rw [List.length_map]; omega)]
    show (ns.map V.int)[(0 - 1 + ((ns.map V.int).length : Int)).toNat]? = _
    rw [show (0 - 1 + ((ns.map V.int).length : Int)).toNat = ns.length - 1 by rw [List.length_map]; omega, List.getElem?_map, List.getElem?_eq_getElem (by omega), List.getD_eq_getElem?_getD, List.getElem?_eq_getElem (by omega)] <;> rfl
  · have e : (k.toNat + ns.length - 1) % ns.length = (k - 1).toNat := by
      rw [show k.toNat + ns.length - 1 = (k - 1).toNat + ns.length by omega, Nat.add_mod_right]
      exact Nat.mod_eq_of_lt (by omega)
    rw [e]
    exact atI_int (by omega) (by omega)
section
variable {P : Program} {w : World} {K : PySem.W.Frag} {mg : Str → Option Value} {base : Heap}
theorem ok_law_pair (T : Tx K mg) : FnOk P w K mg base CX0 1 T.a_law_pair T.fd_law_pair ["_law_a", "_law_b"] spPair := by
  refine T.F_law_pair.ok sc_law_pair (fun vs H Q E h => ?_) (fun cdv A outer s H vs Q E hr h => ?_)
  · obtain ⟨a, b, rfl, _⟩ := h
    rfl
  obtain ⟨a, b, rfl, q⟩ := h
  refine ⟨_, (pss_one (ps_ret (pe_tup (pa_cons (pe_callB (c_min rfl) (by rfl) T.m_min (by decide +kernel) (pa_cons (pv 0) (pa_cons (pv 1) pa_nil))) (pa_cons (pe_callB (c_max rfl) (by rfl) T.m_max (by decide +kernel) (pa_cons (pv 0) (pa_cons (pv 1) pa_nil))) pa_nil))))), ?_⟩
  walk_at "st"
  refine Pm.w_newT (fun t ht => ?_)
  exact q t _ (same_new ht _) ht (pr_new upd_same)
def spEars (K : PySem.W.Frag) : Sp := fun vs H Q _ => ∃ (n : Nat) (r : Addr) (row : List Int), vs = [.int n, .ref r] ∧ SqL K H r (row.map V.int) ∧ 3 ≤ n ∧ n ≤ 12 ∧ n ≤ row.length + 3 ∧
  ∀ (p : Addr) (H' : Hp) (evs : List V) (es : List Ear), Same H H' → H p = none → H' p = some (.lst evs) → All2 (Er H') evs es → Ears (posts n) es → es.length + 3 = n → Q (.ref p) H'
theorem ok_law_ears (T : Tx K mg) : FnOk P w K mg base CX0 1 T.a_law_ears T.fd_law_ears ["_law_n", "_law_row"] (spEars K) := by
  refine T.F_law_ears.ok sc_law_ears (fun vs H Q E h => ?_) (fun cdv A outer s H vs Q E hr h => ?_)
  · obtain ⟨n, r, row, rfl, _⟩ := h
    rfl
  obtain ⟨n, r, row, rfl, hR, n3, n12, hrow, q⟩ := h
  refine ⟨_, (pss_cons (ps_setLc (i := 2) (own := [("_law_k", 3)]) (g := gName 3) (tt := tYes) rfl sc_law_ears.nd rfl rfl (sw_true rfl rfl rfl (by decide +kernel)) (pi_range1 (by rfl) T.m_range (pa_cons (pv 0) pa_nil)) (blkOk_by (N := N_law_ears) (sc := defScope s_law_ears) (by decide +kernel)) (fun _ _ _ _ _ => (pg_name (i := 3) sc_law_ears.nd rfl (.inl rfl))) (fun _ _ _ _ _ => pts_nil) (fun _ _ _ _ _ => (pv 3)))
      (pss_cons (ps_set (i := 4) sc_law_ears.nd rfl (.inl rfl) (pe_lst pa_nil))
      (pss_cons (ps_while PassesOwn.never (pt_cmpR op_gt (pe_callB (c_len (K := K)) (by rfl) T.m_len PySem.boot_len (pa_cons (pv 2) pa_nil)) (pe_int) (nomark _)) (pss_cons (ps_set (i := 3) sc_law_ears.nd rfl (.inl rfl) (pe_op op_mod (pe_ix (ix_listK (K := K)) (pv 1) (pe_callB (c_len (K := K)) (by rfl) T.m_len PySem.boot_len (pa_cons (pv 4) pa_nil)) (fun _ _ => rfl)) (pe_callB (c_len (K := K)) (by rfl) T.m_len PySem.boot_len (pa_cons (pv 2) pa_nil))))
      (pss_cons (ps_expr (k_bm (K := K) (pe_bm PySem.F.plainAttrs_list PySem.F.slot_list_append PySem.F.type_list_append mt_append (pv 4) (pa_cons (pe_tup (pa_cons (pe_ix (ix_listK (K := K)) (pv 2) (pv 3) (fun _ _ => rfl)) (pa_cons (pe_ix (ix_listK (K := K)) (pv 2) (pe_op op_sub (pv 3) (pe_int)) (fun _ _ => rfl)) (pa_cons (pe_ix (ix_listK (K := K)) (pv 2) (pe_op op_mod (pe_op op_add (pv 3) (pe_int)) (pe_callB (c_len (K := K)) (by rfl) T.m_len PySem.boot_len (pa_cons (pv 2) pa_nil))) (fun _ _ => rfl)) pa_nil)))) pa_nil))))
      (pss_one (ps_set (i := 2) sc_law_ears.nd rfl (.inl rfl) (pe_op op_cat (pe_slice (sl_listK (K := K)) (pv 2) po_none (po_some (pv 3))) (pe_slice (sl_listK (K := K)) (pv 2) (po_some (pe_op op_add (pv 3) (pe_int))) po_none)))))))
      (pss_one (ps_ret (pv 4)))))), ?_⟩
  walk_at "st"
  rw [Int.toNat_natCast]
  refine Pm.w_lcRm (R := In) in_mono (fun i : Nat => (i : Int)) (by omega) (fun D i H1 Nx hD hi s1 put => ?_) (fun D H1 ws hD s1 hd ha => ?_)
  · walk_at "st"
    exact put _ _ (Same.refl _) (by show V.int (0 + (i : Int)) = _; rw [Int.zero_add])
  have ew := ins_map ha
  subst ew
  walk_at "st"
  refine Pm.w_newL (fun e he => ?_)
  walk_at "st"
  have nD : e ≠ D := fun z => by subst z; rw [hd] at he; cases he
  have hD2 : (upd H1 e (.lst [])) D = some (.lst ((posts n).map V.int)) := by rw [upd_ne nD.symm]; exact hd
  have sE : Same H (upd H1 e (.lst [])) := s1.trans (same_new he _)
  have hHe : H e = none := s1.free he
  refine Pm.w_while (fun m σ H2 => ∃ (l : Addr) (L : List Int) (x : Option V) (evs : List V) (es : List Ear), σ = [some (.int n), some (.ref r), some (.ref l), x, some (.ref e)] ∧ H2 l = some (.lst (L.map V.int)) ∧ H2 e = some (.lst evs) ∧ All2 (Er H2) evs es ∧
    L.length + es.length = n ∧ 3 ≤ L.length ∧ (∀ es', Ears L es' → Ears (posts n) (es ++ es')) ∧ Same H H2 ∧ l ≠ e ∧ m = L.length) n ⟨D, posts n, _, [], [], rfl, hD2, upd_same, trivial, by rw [posts_len] <;> rfl, by rw [posts_len]; exact n3, fun _ h => h, sE, nD.symm, (posts_len n).symm⟩ ?_
  rintro m σ H2 ⟨l, L, x, evs, es, rfl, hl, hE, hA, hlen, hL3, hears, s2, nle, rfl⟩
  have hlL : (L.map V.int).length = L.length := List.length_map _
  have hR2 : SqL K H2 r (row.map V.int) := s2.seq hR
  have ale := hA.length
  walk_at "st"
  refine Pm.w_lenL (SqL.of hl) ?_
  walk_at "st"
  refine Pm.w_wh (fun c => ?_) (fun c => ?_)
  · rw [hlL] at c
    walk_at "st"
    refine Pm.w_lenL (SqL.of hE) ?_
    walk_at "st"
    refine Pm.w_ixL hR2 (atI_int (by omega) (by omega)) ?_
    walk_at "st"
    refine Pm.w_lenL (SqL.of hl) ?_
    rw [hlL]
    walk_at "st"
    generalize hk : row.getD (evs.length : Int).toNat 0 % (L.length : Int) = k
    have k0 : 0 ≤ k := by rw [← hk]; exact Int.emod_nonneg _ (by omega)
    have k1 : k < (L.length : Int) := by rw [← hk]; exact Int.emod_lt_of_pos _ (by omega)
    refine ⟨.inl ⟨rfl, _, SqL.of hE⟩, ?_⟩
    walk_at "st"
    refine Pm.w_ixL (SqL.of hl) (atI_int k0 k1) ?_
    walk_at "st"
    refine Pm.w_ixL (SqL.of hl) (atI_prev k0 k1) ?_
    walk_at "st"
    refine Pm.w_lenL (SqL.of hl) ?_
    rw [hlL]
    walk_at "st"
    refine Pm.w_ixL (SqL.of hl) (atI_int (Int.emod_nonneg _ (by omega)) (Int.emod_lt_of_pos _ (by omega))) ?_
    walk_at "st"
    refine Pm.w_newT (fun t ht => ?_)
    walk_at "st"
    have ek : ((k + 1) % (L.length : Int)).toNat = (k.toNat + 1) % L.length := by
      have e1 : k + 1 = ((k.toNat + 1 : Nat) : Int) := by omega
      rw [e1, ← Int.natCast_emod, Int.toNat_natCast]
    rw [ek]
    have nte : e ≠ t := ne_of_none hE ht
    have ntl : l ≠ t := ne_of_none hl ht
    refine Pm.w_append (by rw [upd_ne nte]; exact hE) (size_lt (by omega)) ?_
    walk_at "st"
    generalize hT : (V.ref t) = tv
    have hl3 : (upd (upd H2 t (.tup [.int (L.getD k.toNat 0), .int (L.getD ((k.toNat + L.length - 1) % L.length) 0), .int (L.getD ((k.toNat + 1) % L.length) 0)])) e (.lst (evs ++ [tv]))) l = some (.lst (L.map V.int)) := by
      rw [upd_ne nle, upd_ne ntl]; exact hl
    refine Pm.w_slL (SqL.of hl3) (fun p1 hp1 => ?_)
    rw [cut_take k0 (by rw [hlL]; omega)]
    walk_at "st"
    have np1 : l ≠ p1 := ne_of_none hl3 hp1
    refine Pm.w_slL (SqL.of (by rw [upd_ne np1]; exact hl3)) (fun p2 hp2 => ?_)
    have np12 : p1 ≠ p2 := ne_of_none upd_same hp2
    rw [cut_drop (by omega) (by rw [hlL]; omega)]
    refine Pm.w_cat (by rw [upd_ne np12]; exact upd_same) upd_same (size_ok (by rw [List.length_take, List.length_drop, hlL]; omega)) (fun p3 hp3 => ?_)
    walk_at "st"
    have eL : (L.map V.int).take k.toNat ++ (L.map V.int).drop (k + 1).toNat = (L.eraseIdx k.toNat).map V.int := by
      rw [List.eraseIdx_eq_take_drop_succ, List.map_append, List.map_take, List.map_drop, show (k + 1).toNat = k.toNat + 1 by omega]
    have hkL : k.toNat < L.length := by omega
    have leL : (L.eraseIdx k.toNat).length = L.length - 1 := List.length_eraseIdx_of_lt hkL
    have kk : Keeps H2 (upd (upd H2 t (.tup [.int (L.getD k.toNat 0), .int (L.getD ((k.toNat + L.length - 1) % L.length) 0), .int (L.getD ((k.toNat + 1) % L.length) 0)])) e (.lst (evs ++ [tv]))) := (keeps (same_new ht _)).trans (keeps_lst (xs := evs) (by rw [upd_ne nte]; exact hE))
    have sF : Same (upd (upd H2 t (.tup [.int (L.getD k.toNat 0), .int (L.getD ((k.toNat + L.length - 1) % L.length) 0), .int (L.getD ((k.toNat + 1) % L.length) 0)])) e (.lst (evs ++ [tv]))) (upd (upd (upd (upd (upd H2 t (.tup [.int (L.getD k.toNat 0), .int (L.getD ((k.toNat + L.length - 1) % L.length) 0), .int (L.getD ((k.toNat + 1) % L.length) 0)])) e (.lst (evs ++ [tv]))) p1 (.lst (List.take k.toNat (List.map V.int L)))) p2 (.lst (List.drop (k + 1).toNat (List.map V.int L)))) p3 (.lst (List.take k.toNat (List.map V.int L) ++ List.drop (k + 1).toNat (List.map V.int L)))) :=
      (same_new hp1 _).trans ((same_new hp2 _).trans (same_new hp3 _))
    refine ⟨L.length - 1, by omega, p3, L.eraseIdx k.toNat, _, evs ++ [tv], es ++ [(L.getD k.toNat 0, L.getD ((k.toNat + L.length - 1) % L.length) 0, L.getD ((k.toNat + 1) % L.length) 0)], rfl, by rw [upd_same, eL], sF _ _ upd_same, ?_, ?_, by omega, fun es' h' => ?_, ?_, ?_, leL.symm⟩
    · refine (hA.mono fun _ _ r => er_mono _ _ _ _ (kk.trans (keeps sF)) r).snoc (er_mono _ _ _ _ (keeps sF) ⟨t, hT.symm, ?_⟩)
      rw [upd_ne nte.symm, upd_same]
    · rw [leL, List.length_append, List.length_singleton]; omega
    · rw [List.append_assoc]
      exact hears _ (Ears.step k.toNat (by omega) hkL h')
    · exact (same_but hHe (s2.trans (same_new ht _))).trans sF
    · exact fun z => by
        have : e ≠ p3 := ne_of_none (o := .lst (evs ++ [tv])) (((same_new hp1 _).trans (same_new hp2 _)) _ _ upd_same) hp3
        exact this z.symm
  · rw [hlL] at c
    walk_at "st"
    have h0 : Ears L [] := .done (by omega)
    have h1 := hears _ h0
    rw [List.append_nil] at h1
    exact q e H2 evs es s2 hHe hE hA h1 (by omega)
def spRopes (K : PySem.W.Frag) : Sp := fun vs H Q _ => ∃ (r : Addr) (evs : List V) (es : List Ear), vs = [.ref r] ∧ SqL K H r evs ∧ All2 (Er H) evs es ∧ es.length ≤ 1000 ∧ PLNew H (sortP (es.map ropeOf)) Q
theorem ok_law_ropes (T : Tx K mg) : FnOk P w K mg base CX0 2 T.a_law_ropes T.fd_law_ropes ["_law_ears_here"] (spRopes K) := by
  refine T.F_law_ropes.ok sc_law_ropes (fun vs H Q E h => ?_) (fun cdv A outer s H vs Q E hr h => ?_)
  · obtain ⟨r, evs, es, rfl, _⟩ := h
    rfl
  obtain ⟨r, evs, es, rfl, hR, hA, hn, q⟩ := h
  refine ⟨_, (pss_one (ps_ret (pe_callB (cr_sortK (K := K)) (by rfl) T.m_sorted (by decide +kernel) (pa_cons (pe_lc (own := [("_law_ear", 1)]) (g := gName 1) (tt := tYes) rfl sc_law_ropes.nd (k_il (K := K) (pi_list (pv 0))) (blkOk_by (N := N_law_ropes) (sc := defScope s_law_ropes) (by decide +kernel)) (fun _ _ _ _ _ => (pg_name (i := 1) sc_law_ropes.nd rfl (.inl rfl))) (fun _ _ _ _ _ => pts_nil) (fun _ _ _ _ _ => (pe_call (ok_law_pair T) (hr.mono (by decide)) (by rfl) T.g_law_pair T.F_law_pair.kp T.b_law_pair .nil pass0 (pa_cons (pe_ix (ix_tupK (K := K)) (pv 1) (pe_int) (fun _ _ => rfl)) (pa_cons (pe_ix (ix_tupK (K := K)) (pv 1) (pe_int) (fun _ _ => rfl)) pa_nil))))) pa_nil)))), ?_⟩
  walk_at "st"
  refine Pm.w_rdL hR ?_
  refine Pm.w_lcLf (R := Pr) pr_mono (S := Er) er_mono hR hA ropeOf (fun _ => true) (by omega) (fun D x c H1 Nx hD hc hs s1 put skip => ?_) (fun D H1 ws hD s1 hd ha => ?_)
  · obtain ⟨t, rfl, ht⟩ := hs
    walk_at "st"
    refine Pm.w_ixT (SqT.of ht) (show atI [V.int c.1, V.int c.2.1, V.int c.2.2] 1 = some (V.int c.2.1) from rfl) ?_
    walk_at "st"
    refine Pm.w_ixT (SqT.of ht) (show atI [V.int c.1, V.int c.2.1, V.int c.2.2] 2 = some (V.int c.2.2) from rfl) ?_
    walk_at "st"
    exact ⟨_, _, rfl, fun u H2 s2 nu hu => put _ _ rfl s2 hu⟩
  · rw [List.filter_eq_self.mpr (fun _ _ => rfl)] at ha
    walk_at "st"
    refine Pm.w_sortP (SqL.of hd) ha (fun ys p hp hy => ?_)
    exact q p _ ys (s1.trans (same_new hp _)) (s1.free hp) upd_same (prs_keep (keeps (same_new hp _)) hy)
end
section
variable {P : Program} {w : World} {K : PySem.W.Frag} {mg : Str → Option Value} {base : Heap}
def spMany (K : PySem.W.Frag) : Sp := fun vs H Q _ => ∃ (r : Addr) (row : List Int), vs = [.ref r] ∧ SqL K H r (row.map V.int) ∧ 2 ≤ row.length ∧ ∀ n : Nat, 3 ≤ n → n ≤ 12 → Q (.int n) H
theorem ok_law_many (T : Tx K mg) : FnOk P w K mg base CX0 1 T.a_law_many T.fd_law_many ["_law_row"] (spMany K) := by
  refine T.F_law_many.ok sc_law_many (fun vs H Q E h => ?_) (fun cdv A outer s H vs Q E hr h => ?_)
  · obtain ⟨r, row, rfl, _⟩ := h
    rfl
  obtain ⟨r, row, rfl, hR, hn, q⟩ := h
  have q' : ∀ n : Int, 3 ≤ n → n ≤ 12 → Q (.int n) H := fun n h1 h2 => by
    have e : n = (n.toNat : Int) := by omega
    rw [e]
    exact q _ (by omega) (by omega)
  refine ⟨_, (pss_cons (ps_if (pt_cmpR op_eq (pe_op op_mod (pe_ix (ix_listK (K := K)) (pv 0) (pe_int) (fun _ _ => rfl)) (pe_int)) (pe_int) (nomark _)) (pss_one (ps_ret (pe_op op_add (pe_int) (pe_op op_mod (pe_ix (ix_listK (K := K)) (pv 0) (pe_int) (fun _ _ => rfl)) (pe_int))))) pss_nil)
      (pss_one (ps_ret (pe_op op_add (pe_int) (pe_op op_mod (pe_ix (ix_listK (K := K)) (pv 0) (pe_int) (fun _ _ => rfl)) (pe_int)))))), ?_⟩
  walk_at "st"
  refine Pm.w_ixL hR (atI_int (by omega) (by omega)) ?_
  walk_at "st"
  refine Pm.w_ite (fun e => ?_) (fun e => ?_)
  · walk_at "st"
    refine Pm.w_ixL hR (atI_int (by omega) (by omega)) ?_
    walk_at "st"
    exact q' _ (by omega) (by omega)
  · walk_at "st"
    refine Pm.w_ixL hR (atI_int (by omega) (by omega)) ?_
    walk_at "st"
    exact q' _ (by omega) (by omega)
end
/-! ### ties -/
section
variable {P : Program} {w : World} {K : PySem.W.Frag} {mg : Str → Option Value} {base : Heap}
theorem ok_tie_of (T : Tx K mg) : FnOk P w K mg base CX0 1 T.a_tie_of T.fd_tie_of ["a", "b"] spPair := by
  refine T.F_tie_of.ok sc_tie_of (fun vs H Q E h => ?_) (fun cdv A outer s H vs Q E hr h => ?_)
  · obtain ⟨a, b, rfl, _⟩ := h
    rfl
  obtain ⟨a, b, rfl, q⟩ := h
  refine ⟨_, (pss_one (ps_ret (pe_tup (pa_cons (pe_callB (c_min rfl) (by rfl) T.m_min (by decide +kernel) (pa_cons (pv 0) (pa_cons (pv 1) pa_nil))) (pa_cons (pe_callB (c_max rfl) (by rfl) T.m_max (by decide +kernel) (pa_cons (pv 0) (pa_cons (pv 1) pa_nil))) pa_nil))))), ?_⟩
  walk_at "st"
  refine Pm.w_newT (fun t ht => ?_)
  exact q t _ (same_new ht _) ht (pr_new upd_same)
end
section
variable {P : Program} {w : World} {K : PySem.W.Frag} {mg : Str → Option Value} {base : Heap}
def spSides : Sp := fun vs H Q _ => ∃ n : Nat, vs = [.int n] ∧ 1 ≤ n ∧ n ≤ 1000 ∧ PLNew H (sidesL n) Q
theorem ok_sides (T : Tx K mg) : FnOk P w K mg base CX0 1 T.a_sides T.fd_sides ["n"] spSides := by
  refine T.F_sides.ok sc_sides (fun vs H Q E h => ?_) (fun cdv A outer s H vs Q E hr h => ?_)
  · obtain ⟨n, rfl, _⟩ := h
    rfl
  obtain ⟨n, rfl, n1, n2, q⟩ := h
  refine ⟨_, (pss_one (ps_ret (pe_callB (cr_sortK (K := K)) (by rfl) T.m_sorted (by decide +kernel) (pa_cons (pe_op op_cat (pe_lc (own := [("k", 1)]) (g := gName 1) (tt := tYes) rfl sc_sides.nd (pi_range1 (by rfl) T.m_range (pa_cons (pe_op op_sub (pv 0) (pe_int)) pa_nil)) (blkOk_by (N := N_sides) (sc := defScope s_sides) (by decide +kernel)) (fun _ _ _ _ _ => (pg_name (i := 1) sc_sides.nd rfl (.inl rfl))) (fun _ _ _ _ _ => pts_nil) (fun _ _ _ _ _ => (pe_tup (pa_cons (pv 1) (pa_cons (pe_op op_add (pv 1) (pe_int)) pa_nil))))) (pe_lst (pa_cons (pe_tup (pa_cons (pe_int) (pa_cons (pe_op op_sub (pv 0) (pe_int)) pa_nil))) pa_nil))) pa_nil)))), ?_⟩
  walk_at "st"
  have en : ((n : Int) - 1).toNat = n - 1 := by omega
  rw [en]
  refine Pm.w_lcRm (R := Pr) pr_mono (fun k : Nat => ((k : Int), (k : Int) + 1)) (by omega) (fun D i H1 Nx hD hi s1 put => ?_) (fun D H1 ws hD s1 hd ha => ?_)
  · walk_at "st"
    refine Pm.w_newT (fun t ht => ?_)
    refine put _ _ (same_new ht _) ⟨t, rfl, ?_⟩
    rw [upd_same, Int.zero_add]
  · walk_at "st"
    refine Pm.w_newT (fun t ht => ?_)
    walk_at "st"
    refine Pm.w_newL (fun l hl => ?_)
    have nD : D ≠ l := ne_of_none (o := .lst ws) ((same_new ht _) _ _ hd) hl
    have hlen := ha.length
    rw [List.length_map, List.length_range] at hlen
    refine Pm.w_cat (by rw [upd_ne nD, upd_ne (ne_of_none hd ht)]; exact hd) upd_same (size_ok (by rw [hlen, List.length_singleton]; omega)) (fun p hp => ?_)
    have k1 : Keeps H1 (upd (upd (upd H1 t (.tup [.int 0, .int ((n : Int) - 1)])) l (.lst [.ref t])) p (.lst (ws ++ [.ref t]))) := keeps ((same_new ht _).trans ((same_new hl _).trans (same_new hp _)))
    refine Pm.w_sortP (ps := sides0 n) (SqL.of upd_same) ((prs_keep k1 ha).append ⟨⟨t, rfl, ?_⟩, trivial⟩) (fun ys p2 hp2 hy => ?_)
    · exact ((same_new hl _).trans (same_new hp _)) _ _ upd_same
    · have s2 := s1.trans ((same_new ht _).trans ((same_new hl _).trans (same_new hp (.lst (ws ++ [.ref t])))))
      exact q p2 _ ys (s2.trans (same_new hp2 _)) (s2.free hp2) upd_same (prs_keep (keeps (same_new hp2 _)) hy)
end
section
variable {P : Program} {w : World} {K : PySem.W.Frag} {mg : Str → Option Value} {base : Heap}
def spTies : Sp := fun vs H Q _ => ∃ (n : Nat) (c : Addr) (cut : List IP), vs = [.int n, .ref c] ∧ 1 ≤ n ∧ n ≤ 1000 ∧ PLt H c cut ∧ cut.length ≤ 1000 ∧ PLNew H (tiesL n cut) Q
theorem ok_ties (T : Tx K mg) : FnOk P w K mg base CX0 2 T.a_ties T.fd_ties ["n", "cut"] spTies := by
  refine T.F_ties.ok sc_ties (fun vs H Q E h => ?_) (fun cdv A outer s H vs Q E hr h => ?_)
  · obtain ⟨n, c, cut, rfl, _⟩ := h
    rfl
  obtain ⟨n, c, cut, rfl, n1, n2, ⟨cvs, hc, pc⟩, cl, q⟩ := h
  refine ⟨_, (pss_one (ps_ret (pe_callB (cr_sortK (K := K)) (by rfl) T.m_sorted (by decide +kernel) (pa_cons (pe_op op_cat (pe_call (ok_sides T) (hr.mono (by decide)) (by rfl) T.g_sides T.F_sides.kp T.b_sides .nil pass0 (pa_cons (pv 0) pa_nil)) (pv 1)) pa_nil)))), ?_⟩
  walk_at "st"
  refine ⟨n, rfl, n1, n2, fun p H1 ws s1 np hp ha => ?_⟩
  walk_at "st"
  have l1 := ha.length
  rw [sidesL, sortP_len, sides0_len n1] at l1
  have l2 := pc.length
  refine Pm.w_cat hp (s1 _ _ hc) (size_ok (by omega)) (fun l hl => ?_)
  have k1 := keeps (same_new hl (.lst (ws ++ cvs)))
  refine Pm.w_sortP (SqL.of upd_same) ((prs_keep k1 ha).append (prs_keep ((keeps s1).trans k1) pc)) (fun ys p2 hp2 hy => ?_)
  rw [tiesL_eq] at hy
  have s2 := s1.trans (same_new hl (.lst (ws ++ cvs)))
  exact q p2 _ ys (s2.trans (same_new hp2 _)) (s2.free hp2) upd_same (prs_keep (keeps (same_new hp2 _)) hy)
end
/-- a pair as a key -/
def pk (p : IP) : List L2.Key := [Sum.inl p.1, Sum.inl p.2]
theorem pk_inj {p q : IP} (h : pk p = pk q) : p = q := by
  obtain ⟨a, b⟩ := p
  obtain ⟨c, d⟩ := q
  unfold pk at h
  injection h with h1 h2
  injection h2 with h2 _
  simp only at h1 h2
  rw [Sum.inl.inj h1, Sum.inl.inj h2]
theorem Pr.key {H : Hp} {t : Addr} {p : IP} (h : Pr H (.ref t) p) : H t = some (.tup ((pk p).map kV)) := by
  obtain ⟨u, e, hu⟩ := h
  cases e
  exact hu
section
variable {P : Program} {w : World} {K : PySem.W.Frag} {mg : Str → Option Value} {base : Heap}
def spPlots : Sp := fun vs H Q _ => ∃ (n : Nat) (c : Addr) (cut : List IP), vs = [.int n, .ref c] ∧ 1 ≤ n ∧ n ≤ 1000 ∧ PLt H c cut ∧ cut.length ≤ 1000 ∧ (∀ p ∈ tiesL n cut, -1000 ≤ p.2 ∧ p.2 ≤ 1000) ∧ (plots0 n (tiesL n cut) (tiesL n cut)).length ≤ 1000 ∧
  ∀ (p : Addr) (H' : Hp) (ws : List V), Same H H' → H p = none → H' p = some (.lst ws) → All2 (Er H') ws (plotsL n cut) → Q (.ref p) H'
theorem above_more (n : Nat) (T : List IP) (p : IP) (i : Nat) : ((List.range (i + 1)).filter fun i : Nat => decide ((p.1, p.2 + 1 + (i : Int)) ∈ T) && decide ((p.2, p.2 + 1 + (i : Int)) ∈ T)) = ((List.range i).filter fun i : Nat => decide ((p.1, p.2 + 1 + (i : Int)) ∈ T) && decide ((p.2, p.2 + 1 + (i : Int)) ∈ T)) ++ (if (p.1, p.2 + 1 + (i : Int)) ∈ T ∧ (p.2, p.2 + 1 + (i : Int)) ∈ T then [i] else []) := by
  rw [List.range_succ, List.filter_append]
  congr 1
  by_cases h1 : (p.1, p.2 + 1 + (i : Int)) ∈ T <;> by_cases h2 : (p.2, p.2 + 1 + (i : Int)) ∈ T <;> simp [h1, h2]
theorem plots0_app (n : Nat) (T S R : List IP) : plots0 n T (S ++ R) = plots0 n T S ++ plots0 n T R := by unfold plots0; rw [List.flatMap_append]
theorem plots0_one (n : Nat) (T : List IP) (p : IP) : plots0 n T [p] = (above n T p).map fun i : Nat => (p.1, p.2, p.2 + 1 + (i : Int)) := by unfold plots0; rw [List.flatMap_singleton]
theorem plots0_le (n : Nat) (T S R : List IP) : (plots0 n T S).length ≤ (plots0 n T (S ++ R)).length := by rw [plots0_app, List.length_append]; omega
theorem ok_plots (T : Tx K mg) : FnOk P w K mg base CX0 3 T.a_plots T.fd_plots ["n", "cut"] spPlots := by
  refine T.F_plots.ok sc_plots (fun vs H Q E h => ?_) (fun cdv A outer s H vs Q E hr h => ?_)
  · obtain ⟨n, c, cut, rfl, _⟩ := h
    rfl
  obtain ⟨n, c, cut, rfl, n1, n2, hc, cl, hbd, hpl, q⟩ := h
  refine ⟨_, (pss_cons (ps_set (i := 2) sc_plots.nd rfl (.inl rfl) (pe_dnewT))
      (pss_cons (ps_for PassesOwn.never rfl (k_il (K := K) (pi_list (pe_call (ok_ties T) (hr.mono (by decide)) (by rfl) T.g_ties T.F_ties.kp T.b_ties .nil pass0 (pa_cons (pv 0) (pa_cons (pv 1) pa_nil))))) (pg_name (i := 3) sc_plots.nd rfl (.inl rfl)) (pss_one (ps_dput (hu_of hr) (pv 2) (pv 3) (pe_bl) rfl)))
      (pss_cons (ps_set (i := 4) sc_plots.nd rfl (.inl rfl) (pe_lst pa_nil))
      (pss_cons (ps_for PassesOwn.never rfl (k_il (K := K) (pi_list (pe_call (ok_ties T) (hr.mono (by decide)) (by rfl) T.g_ties T.F_ties.kp T.b_ties .nil pass0 (pa_cons (pv 0) (pa_cons (pv 1) pa_nil))))) (k_gt (K := K) (pg_tup (by rfl) (pgs_cons (pg_name (i := 5) sc_plots.nd rfl (.inl rfl)) (pgs_cons (pg_name (i := 6) sc_plots.nd rfl (.inl rfl)) pgs_nil)))) (pss_one (ps_for PassesOwn.never rfl (pi_range2 (by rfl) T.m_range (pa_cons (pe_op op_add (pv 6) (pe_int)) (pa_cons (pv 0) pa_nil))) (pg_name (i := 7) sc_plots.nd rfl (.inl rfl)) (pss_one (ps_if (PW.pt (pw_and (pt_cmp (pc_din (hu_of hr) (pe_tup (pa_cons (pv 5) (pa_cons (pv 7) pa_nil))) (pv 2))) (pw_and1 (pt_cmp (pc_din (hu_of hr) (pe_tup (pa_cons (pv 6) (pa_cons (pv 7) pa_nil))) (pv 2)))))) (pss_one (ps_expr (k_bm (K := K) (pe_bm PySem.F.plainAttrs_list PySem.F.slot_list_append PySem.F.type_list_append mt_append (pv 4) (pa_cons (pe_tup (pa_cons (pv 5) (pa_cons (pv 6) (pa_cons (pv 7) pa_nil)))) pa_nil))))) pss_nil)))))
      (pss_one (ps_ret (pe_callB (cr_sortN (K := K) hr.u40) (by rfl) T.m_sorted (by decide +kernel) (pa_cons (pv 4) pa_nil)))))))), ?_⟩
  walk_at "st"
  refine Pm.w_dnewT (fun d hd => ?_)
  walk_at "st"
  have s1 := same_new hd (.dT [])
  have tlen : (tiesL n cut).length ≤ 3000 := by rw [tiesL, sortP_len, List.length_append, sides0_len n1]; omega
  refine ⟨n, c, cut, rfl, n1, n2, hc.same s1, cl, fun l H1 tvs s2 nl hl ha => ?_⟩
  walk_at "st"
  refine Pm.w_rdL (SqL.of hl) ?_
  have hd1 : H1 d = some (.dT []) := s2 _ _ upd_same
  refine Pm.w_forL (xs := tvs) (fun i σ H2 => ∃ x kvs, σ = [some (.int n), some (.ref c), some (.ref d), x, none, none, none, none] ∧ Same H H2 ∧ H2 l = some (.lst tvs) ∧ Prs H2 tvs (tiesL n cut) ∧ H2 d = some (.dT kvs) ∧ kvs.length ≤ i ∧ ∀ p : IP, (valV kvs (pk p)).isSome = decide (p ∈ (tiesL n cut).take i)) ?_ (fun i σ H2 _ ⟨x, kvs, _, _, h2, _⟩ => SqL.of h2) ?_ ?_
  · exact ⟨_, [], rfl, s1.trans s2, hl, ha, hd1, Nat.le_refl _, fun p => by rw [List.take_zero]; rfl⟩
  · rintro i x σ H2 hx ⟨y, kvs, rfl, sm, hl2, ha2, hd2, hk, hv⟩
    obtain ⟨p, hp, t, rfl, ht⟩ := ha2.get hx
    have hi : i < (tiesL n cut).length := (List.getElem?_eq_some_iff.mp hp).1
    walk_at "st"
    refine Pm.w_dpT hd2 (Pr.key ⟨t, rfl, ht⟩) (size_lt (by omega)) ?_
    have kd := keeps_dT (ys := putK kvs (pk p) (.bl true)) hd2
    have nld : l ≠ d := fun z => by subst z; rw [hl2] at hd2; cases hd2
    refine ⟨_, _, rfl, same_but hd sm, by rw [upd_ne nld]; exact hl2, prs_keep kd ha2, upd_same, Nat.le_trans (putK_len _ _ _) (by omega), fun p' => ?_⟩
    rw [valV_put, take_snoc hp]
    by_cases e : pk p' = pk p
    · rw [if_pos e, pk_inj e]
      simp
    · rw [if_neg e, hv]
      have : p' ≠ p := fun z => e (by rw [z])
      simp [this]
  · rintro σ H2 ⟨y, kvs, rfl, sm, hl2, ha2, hd2, hk, hv⟩
    rw [ha2.length, List.take_length] at hv
    clear hk
    walk_at "st"
    refine Pm.w_newL (fun f hf => ?_)
    walk_at "st"
    have s3 := same_new hf (.lst [])
    have hHf : H f = none := sm.free hf
    have hHd : H d = none := hd
    refine ⟨n, c, cut, rfl, n1, n2, hc.same (sm.trans s3), cl, fun l' H3 tvs' s4 nl' hl' ha' => ?_⟩
    walk_at "st"
    refine Pm.w_rdL (SqL.of hl') ?_
    have nlf : l' ≠ f := fun z => by subst z; rw [upd_same] at nl'; cases nl'
    have ndf : d ≠ f := ne_of_none hd2 hf
    have hlen' := ha'.length
    refine Pm.w_forL (xs := tvs') (fun i σ H4 => ∃ x a b c', σ = [some (.int n), some (.ref c), some (.ref d), x, some (.ref f), a, b, c'] ∧ Same H H4 ∧ H4 l' = some (.lst tvs') ∧ Prs H4 tvs' (tiesL n cut) ∧ H4 d = some (.dT kvs) ∧ ∃ fvs, H4 f = some (.lst fvs) ∧ All2 (Er H4) fvs (plots0 n (tiesL n cut) ((tiesL n cut).take i))) ?_ (fun i σ H4 _ ⟨x, a, b, c', _, _, h2, _⟩ => SqL.of h2) ?_ ?_
    · exact ⟨_, _, _, _, rfl, sm.trans (s3.trans s4), hl', ha', s4 _ _ (s3 _ _ hd2), [], s4 _ _ upd_same, trivial⟩
    · rintro i x σ H4 hx ⟨y1, y2, y3, y4, rfl, sm4, hl4, ha4, hd4, fvs, hf4, hA4⟩
      obtain ⟨p, hp, t, rfl, ht⟩ := ha4.get hx
      have hpm : p ∈ tiesL n cut := List.mem_of_getElem? hp
      have pb := hbd p hpm
      walk_at "st"
      refine Pm.w_gtup (SqT.of ht) rfl ?_
      walk_at "st"
      refine Pm.w_forR (fun j σ H5 => ∃ z, σ = [some (.int n), some (.ref c), some (.ref d), y1, some (.ref f), some (.int p.1), some (.int p.2), z] ∧ Same H H5 ∧ H5 l' = some (.lst tvs') ∧ Prs H5 tvs' (tiesL n cut) ∧ H5 d = some (.dT kvs) ∧ ∃ fvs, H5 f = some (.lst fvs) ∧ All2 (Er H5) fvs (plots0 n (tiesL n cut) ((tiesL n cut).take i) ++
        ((List.range j).filter fun i : Nat => decide ((p.1, p.2 + 1 + (i : Int)) ∈ tiesL n cut) && decide ((p.2, p.2 + 1 + (i : Int)) ∈ tiesL n cut)).map fun i : Nat => (p.1, p.2, p.2 + 1 + (i : Int)))) ?_ ?_ ?_
      · exact ⟨_, rfl, sm4, hl4, ha4, hd4, fvs, hf4, by rw [List.range_zero, List.filter_nil, List.map_nil, List.append_nil]; exact hA4⟩
      · rintro j σ H5 hj ⟨z, rfl, sm5, hl5, ha5, hd5, fvs5, hf5, hA5⟩
        have fin : ∀ H6, Same H5 H6 → ¬ ((p.1, p.2 + 1 + (j : Int)) ∈ tiesL n cut ∧ (p.2, p.2 + 1 + (j : Int)) ∈ tiesL n cut) → ∃ z, ([some (.int n), some (.ref c), some (.ref d), y1, some (.ref f), some (.int p.1), some (.int p.2), some (.int (p.2 + 1 + (j : Int)))] : L2.St) = [some (.int n), some (.ref c), some (.ref d), y1, some (.ref f), some (.int p.1), some (.int p.2), z] ∧ Same H H6 ∧ H6 l' = some (.lst tvs') ∧ Prs H6 tvs' (tiesL n cut) ∧ H6 d = some (.dT kvs) ∧ ∃ fvs, H6 f = some (.lst fvs) ∧ All2 (Er H6) fvs (plots0 n (tiesL n cut) ((tiesL n cut).take i) ++
        ((List.range (j + 1)).filter fun i : Nat => decide ((p.1, p.2 + 1 + (i : Int)) ∈ tiesL n cut) && decide ((p.2, p.2 + 1 + (i : Int)) ∈ tiesL n cut)).map fun i : Nat => (p.1, p.2, p.2 + 1 + (i : Int))) := fun H6 s6 hno => by
          refine ⟨_, rfl, sm5.trans s6, s6 _ _ hl5, prs_keep (keeps s6) ha5, s6 _ _ hd5, fvs5, s6 _ _ hf5, ?_⟩
          rw [above_more n, if_neg hno, List.append_nil]
          exact hA5.mono fun _ _ r => er_mono _ _ _ _ (keeps s6) r
        walk_at "st"
        refine Pm.w_newT (fun u hu => ?_)
        walk_at "st"
        have s6 := same_new hu (.tup [.int p.1, .int (p.2 + 1 + (j : Int))])
        refine Pm.w_diT (k := pk (p.1, p.2 + 1 + (j : Int))) (s6 _ _ hd5) upd_same ?_
        rw [hv]
        walk_at "st"
        refine Pm.w_ite (fun e1 => ?_) (fun e1 => ?_)
        · walk_at "st"
          refine Pm.w_newT (fun u2 hu2 => ?_)
          walk_at "st"
          have s7 := same_new hu2 (.tup [.int p.2, .int (p.2 + 1 + (j : Int))])
          have s67 := s6.trans s7
          refine Pm.w_diT (k := pk (p.2, p.2 + 1 + (j : Int))) (s67 _ _ hd5) upd_same ?_
          rw [hv]
          walk_at "st"
          refine Pm.w_ite (fun e2 => ?_) (fun e2 => ?_)
          · walk_at "st"
            refine ⟨.inl ⟨rfl, _, SqL.of (s67 _ _ hf5)⟩, ?_⟩
            walk_at "st"
            refine Pm.w_newT (fun u3 hu3 => ?_)
            have s8 := same_new hu3 (.tup [.int p.1, .int p.2, .int (p.2 + 1 + (j : Int))])
            have s58 := s67.trans s8
            have lA := hA5.length
            have lz : fvs5.length < 16777216 := by
              rw [lA, List.length_append, List.length_map]
              have l1 := plots0_le n (tiesL n cut) ((tiesL n cut).take i) ((tiesL n cut).drop i)
              rw [List.take_append_drop] at l1
              have l2 := List.length_filter_le (fun i : Nat => decide ((p.1, p.2 + 1 + (i : Int)) ∈ tiesL n cut) && decide ((p.2, p.2 + 1 + (i : Int)) ∈ tiesL n cut)) (List.range j)
              rw [List.length_range] at l2
              omega
            walk_at "st"
            refine Pm.w_append (s58 _ _ hf5) (size_lt lz) ?_
            have k9 := (keeps s58).trans (keeps_lst (ys := fvs5 ++ [.ref u3]) (s58 _ _ hf5))
            have nuf : u3 ≠ f := fun z => by subst z; rw [s67 _ _ hf5] at hu3; cases hu3
            walk_at "st"
            refine ⟨_, rfl, same_but hHf (sm5.trans s58), by rw [upd_ne nlf]; exact s58 _ _ hl5, prs_keep k9 ha5, by rw [upd_ne ndf]; exact s58 _ _ hd5, _, upd_same, ?_⟩
            rw [above_more n, if_pos ⟨e1, e2⟩, List.map_append, ← List.append_assoc]
            refine (hA5.mono fun _ _ r => er_mono _ _ _ _ k9 r).snoc ⟨u3, rfl, ?_⟩
            rw [upd_ne nuf, upd_same]
          · walk_at "st"
            exact fin _ s67 (fun z => e2 z.2)
        · walk_at "st"
          exact fin _ s6 (fun z => e1 z.1)
      · rintro σ H5 ⟨z, rfl, sm5, hl5, ha5, hd5, fvs5, hf5, hA5⟩
        refine ⟨_, _, _, _, rfl, sm5, hl5, ha5, hd5, fvs5, hf5, ?_⟩
        rw [take_snoc hp, plots0_app, plots0_one]
        exact hA5
    · rintro σ H4 ⟨y1, y2, y3, y4, rfl, sm4, hl4, ha4, hd4, fvs, hf4, hA4⟩
      rw [hlen', List.take_length] at hA4
      walk_at "st"
      refine Pm.w_sort3 (SqL.of hf4) hA4 (fun ys p hp hy => ?_)
      exact q p _ ys (sm4.trans (same_new hp _)) (sm4.free hp) upd_same (hy.mono fun _ _ r => er_mono _ _ _ _ (keeps (same_new hp _)) r)
end
/-! ### the greatest measure, the fraction of two numbers -/
section
variable {P : Program} {w : World} {K : PySem.W.Frag} {mg : Str → Option Value} {base : Heap}
def spMeasure : Sp := fun vs H Q _ => ∃ a b : Int, vs = [.int a, .int b] ∧ Q (.int ((Int.gcd a b : Nat) : Int)) H
theorem ok_measure (T : Tx K mg) : FnOk P w K mg base CX0 1 T.a_measure T.fd_measure ["one", "other"] spMeasure := by
  refine T.F_measure.ok sc_measure (fun vs H Q E h => ?_) (fun cdv A outer s H vs Q E hr h => ?_)
  · obtain ⟨a, b, rfl, _⟩ := h
    rfl
  obtain ⟨a, b, rfl, q⟩ := h
  refine ⟨_, (pss_cons (ps_set (i := 0) sc_measure.nd rfl (.inl rfl) (pe_callB c_abs (by rfl) T.m_abs (by decide +kernel) (pa_cons (pv 0) pa_nil)))
      (pss_cons (ps_set (i := 1) sc_measure.nd rfl (.inl rfl) (pe_callB c_abs (by rfl) T.m_abs (by decide +kernel) (pa_cons (pv 1) pa_nil)))
      (pss_cons (ps_while PassesOwn.never (pt_cmpR op_gt (pv 1) (pe_int) (nomark _)) (pss_one (ps_par (i := 0) (j := 1) (by rfl) sc_measure.nd rfl rfl (by decide) rfl rfl (pa_cons (pv 1) (pa_cons (pe_op op_mod (pv 0) (pv 1)) pa_nil)) (by rfl))))
      (pss_one (ps_ret (pv 0)))))), ?_⟩
  walk_at "st"
  refine Pm.w_while (fun m σ H' => ∃ x y : Nat, σ = [some (.int x), some (.int y)] ∧ m = y ∧ Nat.gcd x y = Int.gcd a b ∧ H' = H) _ ⟨(if a < 0 then -a else a).natAbs, (if b < 0 then -b else b).natAbs, ?_, rfl, gcd_abs a b, rfl⟩ ?_
  · have e : ∀ c : Int, (if c < 0 then -c else c) = (((if c < 0 then -c else c).natAbs : Nat) : Int) := fun c => by split <;> omega
    show [some (V.int (if a < 0 then -a else a)), some (V.int (if b < 0 then -b else b))] = _
    rw [← e a, ← e b]
  · rintro m σ H' ⟨x, y, rfl, rfl, hg, rfl⟩
    walk_at "st"
    refine Pm.w_wh (fun c => ?_) (fun c => ?_)
    · walk_at "st"
      exact ⟨_, Nat.mod_lt x (by omega), m, x % m, rfl, rfl, by rw [gcd_turn x m (by omega)]; exact hg, rfl⟩
    · have e : m = 0 := by omega
      subst e
      rw [Nat.gcd_zero_right] at hg
      rw [hg]
      walk_at "st"
      exact q
def spLowest (C : Addr) : Sp := fun vs H Q E => ∃ (a b : Int) (n : Nat), vs = [.int a, .int b] ∧ b.natAbs < 2 ^ n ∧ n ≤ 9000 ∧ (b = 0 → E (.ref C) none H) ∧ (b ≠ 0 → FrNew H (Rat.divInt a b) Q)
theorem ok_lowest (T : Tx K mg) : FnOk P w K mg base (L2.CX P w) 2 T.a_lowest T.fd_lowest ["top", "bottom"] (spLowest T.c_NoFraction) := by
  refine T.F_lowest.okX sc_lowest (fun vs H Q E h => ?_) (fun cdv A outer s H vs Q E hr h => ?_)
  · obtain ⟨a, b, n, rfl, _⟩ := h
    rfl
  obtain ⟨a, b, n, rfl, hn, hn9, hE, q⟩ := h
  refine ⟨_, (pss_cons (ps_if (pt_cmpR op_eq (pv 1) (pe_int) (nomark _)) (pss_one (ps_raise rfl (takes_of rfl rfl rfl rfl) (pmk_own PySem.F.excBase_ValueError T.x_NoFraction T.g_NoFraction T.k_NoFraction (raises_own T.b_NoFraction T.t_NoFraction) rfl))) pss_nil)
      (C8.pss_cut (ps_if (pt_cmpR op_lt (pv 1) (pe_int) (nomark _)) (pss_cons (ps_set (i := 0) sc_lowest.nd rfl (.inl rfl) (pe_un un_neg (pv 0)))
      (pss_one (ps_set (i := 1) sc_lowest.nd rfl (.inl rfl) (pe_un un_neg (pv 1))))) pss_nil)
      (pss_cons (ps_set (i := 2) sc_lowest.nd rfl (.inl rfl) (pe_call (ok_measure T) (hr.mono (by decide)) (by rfl) T.g_measure T.F_measure.kp T.b_measure .nil pass0 (pa_cons (pv 0) (pa_cons (pv 1) pa_nil))))
      (pss_one (ps_ret (pe_tup (pa_cons (pe_op op_fdivW (pv 0) (pv 2)) (pa_cons (pe_op op_fdivW (pv 1) (pv 2)) pa_nil)))))))), ?_⟩
  walk_at "st"
  refine Pm.w_ite (fun c => ?_) (fun c => ?_)
  · exact hE c
  · walk_at "st"
    refine Pm.w_cut (fun σ' H' => ∃ a' b' : Int, σ' = [some (.int a'), some (.int b'), none] ∧ H' = H ∧ 0 < b' ∧ b'.natAbs < 2 ^ n ∧ Rat.divInt a' b' = Rat.divInt a b) ?_ ?_
    · walk_at "st"
      refine Pm.w_ite (fun d => ?_) (fun d => ?_)
      · walk_at "st"
        exact ⟨-a, -b, rfl, rfl, by omega, by omega, Rat.neg_divInt_neg a b⟩
      · walk_at "st"
        exact ⟨a, b, rfl, rfl, by omega, hn, rfl⟩
    · rintro σ H' ⟨a', b', rfl, rfl, hb, hn, e⟩
      have g0 : 0 < ((Int.gcd a' b' : Nat) : Int) := gcd_pos (by omega)
      have g1 := gcd_le_right (a := a') hb
      have n0 : 0 < n := by
        rcases Nat.eq_zero_or_pos n with z | z
        · subst z
          exact absurd hn (by omega)
        · exact z
      have hd : ∀ i : Int, CDivW i ((Int.gcd a' b' : Nat) : Int) := fun i => wide_div g0 (Nat.lt_of_le_of_lt (by omega) hn) n0 hn9
      walk_at "st"
      refine ⟨a', b', rfl, ?_⟩
      walk_at "st"
      refine Pm.w_i (hd _) ?_
      walk_at "st"
      refine Pm.w_i (hd _) ?_
      walk_at "st"
      refine Pm.w_newT (fun t ht => ?_)
      have z := div_pos_num (a := a') hb
      rw [z.1, z.2, e]
      exact q c t _ (same_new ht _) ht upd_same
end
section
variable {P : Program} {w : World} {K : PySem.W.Frag} {mg : Str → Option Value} {base : Heap}
def spPlus (K : PySem.W.Frag) : Sp := fun vs H Q _ => ∃ (t u : Addr) (x y : Rat) (n m : Nat), vs = [.ref t, .ref u] ∧ SqT K H t [.int x.num, .int x.den] ∧ SqT K H u [.int y.num, .int y.den] ∧ rb x n ∧ rb y m ∧ n + m ≤ 9000 ∧ FrNew H (x + y) Q
theorem ok_plus (T : Tx K mg) : FnOk P w K mg base CX0 3 T.a_plus T.fd_plus ["one", "other"] (spPlus K) := by
  refine T.F_plus.ok sc_plus (fun vs H Q E h => ?_) (fun cdv A outer s H vs Q E hr h => ?_)
  · obtain ⟨t, u, x, y, n, m, rfl, _⟩ := h
    rfl
  obtain ⟨t, u, x, y, n, m, rfl, ht, hu, bx, byy, hnm, q⟩ := h
  refine ⟨_, (pss_one (ps_ret (pe_call (ok_lowest T) (hr.mono (by decide)) (by rfl) T.g_lowest T.F_lowest.kp T.b_lowest .nil passL (pa_cons (pe_op op_add (pe_op op_mulW (pe_ix (ix_tupK (K := K)) (pv 0) (pe_int) (fun _ _ => rfl)) (pe_ix (ix_tupK (K := K)) (pv 1) (pe_int) (fun _ _ => rfl))) (pe_op op_mulW (pe_ix (ix_tupK (K := K)) (pv 1) (pe_int) (fun _ _ => rfl)) (pe_ix (ix_tupK (K := K)) (pv 0) (pe_int) (fun _ _ => rfl)))) (pa_cons (pe_op op_mulW (pe_ix (ix_tupK (K := K)) (pv 0) (pe_int) (fun _ _ => rfl)) (pe_ix (ix_tupK (K := K)) (pv 1) (pe_int) (fun _ _ => rfl))) pa_nil))))), ?_⟩
  have n0 := rb_pos bx
  have m0 := rb_pos byy
  walk_at "st"
  refine Pm.w_ixT ht (atI2 _ _).1 ?_
  walk_at "st"
  refine Pm.w_ixT hu (atI2 _ _).2 ?_
  walk_at "st"
  refine Pm.w_i (wide_mul bx.1 (rb_den byy) n0 m0 (by omega)) ?_
  walk_at "st"
  refine Pm.w_ixT hu (atI2 _ _).1 ?_
  walk_at "st"
  refine Pm.w_ixT ht (atI2 _ _).2 ?_
  walk_at "st"
  refine Pm.w_i (wide_mul byy.1 (rb_den bx) m0 n0 (by omega)) ?_
  walk_at "st"
  refine Pm.w_ixT ht (atI2 _ _).2 ?_
  walk_at "st"
  refine Pm.w_ixT hu (atI2 _ _).2 ?_
  walk_at "st"
  refine Pm.w_i (wide_mul (rb_den bx) (rb_den byy) n0 m0 (by omega)) ?_
  walk_at "st"
  refine ⟨_, _, n + m, rfl, wide_lt (rb_den bx) (rb_den byy), hnm, fun z => absurd z (den_mul x y), fun _ => ?_⟩
  rw [plus_is]
  exact q
end
section
variable {P : Program} {w : World} {K : PySem.W.Frag} {mg : Str → Option Value} {base : Heap}
def spLess (K : PySem.W.Frag) : Sp := fun vs H Q _ => ∃ (t u : Addr) (x y : Rat) (n m : Nat), vs = [.ref t, .ref u] ∧ SqT K H t [.int x.num, .int x.den] ∧ SqT K H u [.int y.num, .int y.den] ∧ rb x n ∧ rb y m ∧ n + m ≤ 9000 ∧ FrNew H (x - y) Q
theorem ok_less (T : Tx K mg) : FnOk P w K mg base CX0 3 T.a_less T.fd_less ["one", "other"] (spLess K) := by
  refine T.F_less.ok sc_less (fun vs H Q E h => ?_) (fun cdv A outer s H vs Q E hr h => ?_)
  · obtain ⟨t, u, x, y, n, m, rfl, _⟩ := h
    rfl
  obtain ⟨t, u, x, y, n, m, rfl, ht, hu, bx, byy, hnm, q⟩ := h
  refine ⟨_, (pss_one (ps_ret (pe_call (ok_lowest T) (hr.mono (by decide)) (by rfl) T.g_lowest T.F_lowest.kp T.b_lowest .nil passL (pa_cons (pe_op op_sub (pe_op op_mulW (pe_ix (ix_tupK (K := K)) (pv 0) (pe_int) (fun _ _ => rfl)) (pe_ix (ix_tupK (K := K)) (pv 1) (pe_int) (fun _ _ => rfl))) (pe_op op_mulW (pe_ix (ix_tupK (K := K)) (pv 1) (pe_int) (fun _ _ => rfl)) (pe_ix (ix_tupK (K := K)) (pv 0) (pe_int) (fun _ _ => rfl)))) (pa_cons (pe_op op_mulW (pe_ix (ix_tupK (K := K)) (pv 0) (pe_int) (fun _ _ => rfl)) (pe_ix (ix_tupK (K := K)) (pv 1) (pe_int) (fun _ _ => rfl))) pa_nil))))), ?_⟩
  have n0 := rb_pos bx
  have m0 := rb_pos byy
  walk_at "st"
  refine Pm.w_ixT ht (atI2 _ _).1 ?_
  walk_at "st"
  refine Pm.w_ixT hu (atI2 _ _).2 ?_
  walk_at "st"
  refine Pm.w_i (wide_mul bx.1 (rb_den byy) n0 m0 (by omega)) ?_
  walk_at "st"
  refine Pm.w_ixT hu (atI2 _ _).1 ?_
  walk_at "st"
  refine Pm.w_ixT ht (atI2 _ _).2 ?_
  walk_at "st"
  refine Pm.w_i (wide_mul byy.1 (rb_den bx) m0 n0 (by omega)) ?_
  walk_at "st"
  refine Pm.w_ixT ht (atI2 _ _).2 ?_
  walk_at "st"
  refine Pm.w_ixT hu (atI2 _ _).2 ?_
  walk_at "st"
  refine Pm.w_i (wide_mul (rb_den bx) (rb_den byy) n0 m0 (by omega)) ?_
  walk_at "st"
  refine ⟨_, _, n + m, rfl, wide_lt (rb_den bx) (rb_den byy), hnm, fun z => absurd z (den_mul x y), fun _ => ?_⟩
  rw [less_is]
  exact q
end
section
variable {P : Program} {w : World} {K : PySem.W.Frag} {mg : Str → Option Value} {base : Heap}
def spTimes (K : PySem.W.Frag) : Sp := fun vs H Q _ => ∃ (t u : Addr) (x y : Rat) (n m : Nat), vs = [.ref t, .ref u] ∧ SqT K H t [.int x.num, .int x.den] ∧ SqT K H u [.int y.num, .int y.den] ∧ rb x n ∧ rb y m ∧ n + m ≤ 9000 ∧ FrNew H (x * y) Q
theorem ok_times (T : Tx K mg) : FnOk P w K mg base CX0 3 T.a_times T.fd_times ["one", "other"] (spTimes K) := by
  refine T.F_times.ok sc_times (fun vs H Q E h => ?_) (fun cdv A outer s H vs Q E hr h => ?_)
  · obtain ⟨t, u, x, y, n, m, rfl, _⟩ := h
    rfl
  obtain ⟨t, u, x, y, n, m, rfl, ht, hu, bx, byy, hnm, q⟩ := h
  refine ⟨_, (pss_one (ps_ret (pe_call (ok_lowest T) (hr.mono (by decide)) (by rfl) T.g_lowest T.F_lowest.kp T.b_lowest .nil passL (pa_cons (pe_op op_mulW (pe_ix (ix_tupK (K := K)) (pv 0) (pe_int) (fun _ _ => rfl)) (pe_ix (ix_tupK (K := K)) (pv 1) (pe_int) (fun _ _ => rfl))) (pa_cons (pe_op op_mulW (pe_ix (ix_tupK (K := K)) (pv 0) (pe_int) (fun _ _ => rfl)) (pe_ix (ix_tupK (K := K)) (pv 1) (pe_int) (fun _ _ => rfl))) pa_nil))))), ?_⟩
  have n0 := rb_pos bx
  have m0 := rb_pos byy
  walk_at "st"
  refine Pm.w_ixT ht (atI2 _ _).1 ?_
  walk_at "st"
  refine Pm.w_ixT hu (atI2 _ _).1 ?_
  walk_at "st"
  refine Pm.w_i (wide_mul bx.1 byy.1 n0 m0 (by omega)) ?_
  walk_at "st"
  refine Pm.w_ixT ht (atI2 _ _).2 ?_
  walk_at "st"
  refine Pm.w_ixT hu (atI2 _ _).2 ?_
  walk_at "st"
  refine Pm.w_i (wide_mul (rb_den bx) (rb_den byy) n0 m0 (by omega)) ?_
  walk_at "st"
  refine ⟨_, _, n + m, rfl, wide_lt (rb_den bx) (rb_den byy), hnm, fun z => absurd z (den_mul x y), fun _ => ?_⟩
  rw [times_is]
  exact q
end
section
variable {P : Program} {w : World} {K : PySem.W.Frag} {mg : Str → Option Value} {base : Heap}
def spOver (K : PySem.W.Frag) (C : Addr) : Sp := fun vs H Q E => ∃ (t u : Addr) (x y : Rat) (n m : Nat), vs = [.ref t, .ref u] ∧ SqT K H t [.int x.num, .int x.den] ∧ SqT K H u [.int y.num, .int y.den] ∧ rb x n ∧ rb y m ∧ n + m ≤ 9000 ∧
  (y = 0 → E (.ref C) none H) ∧ (y ≠ 0 → FrNew H (x / y) Q)
theorem ok_over (T : Tx K mg) : FnOk P w K mg base (L2.CX P w) 3 T.a_over T.fd_over ["one", "other"] (spOver K T.c_NoFraction) := by
  refine T.F_over.okX sc_over (fun vs H Q E h => ?_) (fun cdv A outer s H vs Q E hr h => ?_)
  · obtain ⟨t, u, x, y, n, m, rfl, _⟩ := h
    rfl
  obtain ⟨t, u, x, y, n, m, rfl, ht, hu, bx, byy, hnm, hE, q⟩ := h
  refine ⟨_, (pss_cons (ps_if (pt_cmpR op_eq (pe_ix (ix_tupK (K := K)) (pv 1) (pe_int) (fun _ _ => rfl)) (pe_int) (nomark _)) (pss_one (ps_raise rfl (takes_of rfl rfl rfl rfl) (pmk_own PySem.F.excBase_ValueError T.x_NoFraction T.g_NoFraction T.k_NoFraction (raises_own T.b_NoFraction T.t_NoFraction) rfl))) pss_nil)
      (pss_one (ps_ret (pe_call (ok_lowest T) (hr.mono (by decide)) (by rfl) T.g_lowest T.F_lowest.kp T.b_lowest .nil (passes_call (takes_of rfl rfl rfl rfl) (fun _ _ _ _ h => h)) (pa_cons (pe_op op_mulW (pe_ix (ix_tupK (K := K)) (pv 0) (pe_int) (fun _ _ => rfl)) (pe_ix (ix_tupK (K := K)) (pv 1) (pe_int) (fun _ _ => rfl))) (pa_cons (pe_op op_mulW (pe_ix (ix_tupK (K := K)) (pv 0) (pe_int) (fun _ _ => rfl)) (pe_ix (ix_tupK (K := K)) (pv 1) (pe_int) (fun _ _ => rfl))) pa_nil)))))), ?_⟩
  have n0 := rb_pos bx
  have m0 := rb_pos byy
  walk_at "st"
  refine Pm.w_ixT hu (atI2 _ _).1 ?_
  walk_at "st"
  refine Pm.w_ite (fun e => ?_) (fun e => ?_)
  · exact hE (Rat.num_eq_zero.mp e)
  have e2 : y ≠ 0 := fun z => e (Rat.num_eq_zero.mpr z)
  walk_at "st"
  refine Pm.w_ixT ht (atI2 _ _).1 ?_
  walk_at "st"
  refine Pm.w_ixT hu (atI2 _ _).2 ?_
  walk_at "st"
  refine Pm.w_i (wide_mul bx.1 (rb_den byy) n0 m0 (by omega)) ?_
  walk_at "st"
  refine Pm.w_ixT ht (atI2 _ _).2 ?_
  walk_at "st"
  refine Pm.w_ixT hu (atI2 _ _).1 ?_
  walk_at "st"
  refine Pm.w_i (wide_mul (rb_den bx) byy.1 n0 m0 (by omega)) ?_
  walk_at "st"
  refine ⟨_, _, n + m, rfl, wide_lt (rb_den bx) byy.1, hnm, fun z => absurd z (Int.mul_ne_zero (den_ne x) e), fun _ => ?_⟩
  rw [over_is]
  exact q e2
end
/-! ### lengths between posts -/
section
variable {P : Program} {w : World} {K : PySem.W.Frag} {mg : Str → Option Value} {base : Heap}
theorem ok_between (T : Tx K mg) : FnOk P w K mg base CX0 2 T.a_between T.fd_between ["lengths", "a", "b"] (spBetween K) := by
  refine T.F_between.ok sc_between (fun vs H Q E h => ?_) (fun cdv A outer s H vs Q E hr h => ?_)
  · obtain ⟨d, t, D, a, b, rfl, _⟩ := h
    rfl
  obtain ⟨d, t, D, a, b, rfl, hd, hm, ne, an, q⟩ := h
  refine ⟨_, (pss_cons (ps_set (i := 3) sc_between.nd rfl (.inl rfl) (pe_dget (hu_of hr) (pv 0) (pe_call (ok_tie_of T) (hr.mono (by decide)) (by rfl) T.g_tie_of T.F_tie_of.kp T.b_tie_of .nil pass0 (pa_cons (pv 1) (pa_cons (pv 2) pa_nil))) (fun _ _ => rfl)))
      (pss_cons (ps_if (pt_cmpR op_lt (pv 1) (pv 2) (nomark _)) (pss_one (ps_ret (pv 3))) pss_nil)
      (pss_one (ps_ret (pe_tup (pa_cons (pe_un un_neg (pe_ix (ix_tupK (K := K)) (pv 3) (pe_int) (fun _ _ => rfl))) (pa_cons (pe_ix (ix_tupK (K := K)) (pv 3) (pe_int) (fun _ _ => rfl)) pa_nil))))))), ?_⟩
  walk_at "st"
  refine ⟨_, _, rfl, fun p H1 s1 np hp => ?_⟩
  rw [tie_cast] at hp
  refine w_lenGet (hd.same s1) hp hm (fun u hu => ?_)
  walk_at "st"
  refine Pm.w_ite (fun e => ?_) (fun e => ?_)
  · walk_at "st"
    rw [show min a b = a by omega, show max a b = b by omega] at hu
    exact q u _ s1 hu
  · rw [show min a b = b by omega, show max a b = a by omega] at hu
    walk_at "st"
    refine Pm.w_ixT hu.rat (atI2 _ _).1 ?_
    walk_at "st"
    refine Pm.w_ixT hu.rat (atI2 _ _).2 ?_
    walk_at "st"
    refine Pm.w_newT (fun v hv => ?_)
    have s2 := same_new hv (.tup [.int (-(D b a).num), .int ((D b a).den : Int)])
    refine q v _ (s1.trans s2) ?_
    rw [an]
    refine frv_new ?_
    rw [Rat.neg_num, Rat.neg_den]
    exact upd_same
theorem ok_spread (T : Tx K mg) : FnOk P w K mg base CX0 4 T.a_spread T.fd_spread ["one", "other"] (spSpread K) := by
  refine T.F_spread.ok sc_spread (fun vs H Q E h => ?_) (fun cdv A outer s H vs Q E hr h => ?_)
  · obtain ⟨x, y, s, r, n, rfl, _⟩ := h
    rfl
  obtain ⟨x, y, s, r, n, rfl, hx, hy, b1, b2, b3, b4, hn, q⟩ := h
  refine ⟨_, (pss_one (ps_ret (pe_call (ok_less T) (hr.mono (by decide)) (by rfl) T.g_less T.F_less.kp T.b_less .nil pass0 (pa_cons (pe_call (ok_times T) (hr.mono (by decide)) (by rfl) T.g_times T.F_times.kp T.b_times .nil pass0 (pa_cons (pe_ix (ix_tupK (K := K)) (pv 0) (pe_int) (fun _ _ => rfl)) (pa_cons (pe_ix (ix_tupK (K := K)) (pv 1) (pe_int) (fun _ _ => rfl)) pa_nil))) (pa_cons (pe_call (ok_times T) (hr.mono (by decide)) (by rfl) T.g_times T.F_times.kp T.b_times .nil pass0 (pa_cons (pe_ix (ix_tupK (K := K)) (pv 1) (pe_int) (fun _ _ => rfl)) (pa_cons (pe_ix (ix_tupK (K := K)) (pv 0) (pe_int) (fun _ _ => rfl)) pa_nil))) pa_nil))))), ?_⟩
  obtain ⟨_, x1, x2, ex, hxt, hx1, hx2⟩ := hx
  cases ex
  obtain ⟨_, y1, y2, ey, hyt, hy1, hy2⟩ := hy
  cases ey
  walk_at "st"
  refine Pm.w_ixT (SqT.of hxt) (atI2 _ _).1 ?_
  walk_at "st"
  refine Pm.w_ixT (SqT.of hyt) (atI2 _ _).2 ?_
  walk_at "st"
  refine ⟨_, _, _, _, n, n, rfl, hx1.rat, hy2.rat, b1, b4, by omega, fun u H1 s1 nu hu => ?_⟩
  have k1 := keeps s1
  walk_at "st"
  refine Pm.w_ixT (SqT.of (s1 _ _ hyt)) (atI2 _ _).1 ?_
  walk_at "st"
  refine Pm.w_ixT (SqT.of (s1 _ _ hxt)) (atI2 _ _).2 ?_
  walk_at "st"
  refine ⟨_, _, _, _, n, n, rfl, (hy1.keep k1).rat, (hx2.keep k1).rat, b3, b2, by omega, fun u2 H2 s2 nu2 hu2 => ?_⟩
  walk_at "st"
  refine ⟨_, _, _, _, n + n, n + n, rfl, SqT.of (s2 _ _ hu), SqT.of hu2, rb_mul b1 b4, rb_mul b3 b2, by omega, fun v H3 s3 nv hv => ?_⟩
  exact q v H3 ((s1.trans s2).trans s3) ((s1.trans s2).free nv) hv
/-- a new pair of fractions -/
def P2New (K : PySem.W.Frag) (H : Hp) (s : V2) (Q : VK) : Prop := ∀ (t : Addr) (H' : Hp), Same H H' → H t = none → PrV K H' (.ref t) s → Q (.ref t) H'
def spMixed (K : PySem.W.Frag) : Sp := fun vs H Q _ => ∃ (x p y r : Addr) (s s' : V2) (a b : Rat) (n : Nat), vs = [.ref x, .ref p, .ref y, .ref r] ∧ PrV K H (.ref x) s ∧ FrV K H (.ref p) (rp a) ∧ PrV K H (.ref y) s' ∧ FrV K H (.ref r) (rp b) ∧
  rb s.p n ∧ rb s.q n ∧ rb s'.p n ∧ rb s'.q n ∧ rb a n ∧ rb b n ∧ 4 * n ≤ 9000 ∧ P2New K H (mix s a s' b) Q
theorem ok_pair_mixed (T : Tx K mg) : FnOk P w K mg base CX0 4 T.a_pair_mixed T.fd_pair_mixed ["one", "part", "other", "share"] (spMixed K) := by
  refine T.F_pair_mixed.ok sc_pair_mixed (fun vs H Q E h => ?_) (fun cdv A outer s H vs Q E hr h => ?_)
  · obtain ⟨x, p, y, r, s, s', a, b, n, rfl, _⟩ := h
    rfl
  obtain ⟨x, p, y, r, s, s', a, b, n, rfl, hx, hp, hy, hr', b1, b2, b3, b4, b5, b6, hn, q⟩ := h
  refine ⟨_, (pss_one (ps_ret (pe_tup (pa_cons (pe_call (ok_plus T) (hr.mono (by decide)) (by rfl) T.g_plus T.F_plus.kp T.b_plus .nil pass0 (pa_cons (pe_call (ok_times T) (hr.mono (by decide)) (by rfl) T.g_times T.F_times.kp T.b_times .nil pass0 (pa_cons (pe_ix (ix_tupK (K := K)) (pv 0) (pe_int) (fun _ _ => rfl)) (pa_cons (pv 1) pa_nil))) (pa_cons (pe_call (ok_times T) (hr.mono (by decide)) (by rfl) T.g_times T.F_times.kp T.b_times .nil pass0 (pa_cons (pe_ix (ix_tupK (K := K)) (pv 2) (pe_int) (fun _ _ => rfl)) (pa_cons (pv 3) pa_nil))) pa_nil))) (pa_cons (pe_call (ok_plus T) (hr.mono (by decide)) (by rfl) T.g_plus T.F_plus.kp T.b_plus .nil pass0 (pa_cons (pe_call (ok_times T) (hr.mono (by decide)) (by rfl) T.g_times T.F_times.kp T.b_times .nil pass0 (pa_cons (pe_ix (ix_tupK (K := K)) (pv 0) (pe_int) (fun _ _ => rfl)) (pa_cons (pv 1) pa_nil))) (pa_cons (pe_call (ok_times T) (hr.mono (by decide)) (by rfl) T.g_times T.F_times.kp T.b_times .nil pass0 (pa_cons (pe_ix (ix_tupK (K := K)) (pv 2) (pe_int) (fun _ _ => rfl)) (pa_cons (pv 3) pa_nil))) pa_nil))) pa_nil))))), ?_⟩
  obtain ⟨_, x1, x2, ex, hxt, hx1, hx2⟩ := hx
  cases ex
  obtain ⟨_, y1, y2, ey, hyt, hy1, hy2⟩ := hy
  cases ey
  walk_at "st"
  refine Pm.w_ixT (SqT.of hxt) (atI2 _ _).1 ?_
  walk_at "st"
  refine ⟨_, _, _, _, n, n, rfl, hx1.rat, hp.rat, b1, b5, by omega, fun u1 H1 s1 n1 hu1 => ?_⟩
  have k1 := keeps s1
  walk_at "st"
  refine Pm.w_ixT (SqT.of (s1 _ _ hyt)) (atI2 _ _).1 ?_
  walk_at "st"
  refine ⟨_, _, _, _, n, n, rfl, (hy1.keep k1).rat, (hr'.keep k1).rat, b3, b6, by omega, fun u2 H2 s2 n2 hu2 => ?_⟩
  walk_at "st"
  refine ⟨_, _, _, _, n + n, n + n, rfl, SqT.of (s2 _ _ hu1), SqT.of hu2, rb_mul b1 b5, rb_mul b3 b6, by omega, fun v1 H3 s3 n3 hv1 => ?_⟩
  have s03 := (s1.trans s2).trans s3
  have k3 := keeps s03
  walk_at "st"
  refine Pm.w_ixT (SqT.of (s03 _ _ hxt)) (atI2 _ _).2 ?_
  walk_at "st"
  refine ⟨_, _, _, _, n, n, rfl, (hx2.keep k3).rat, (hp.keep k3).rat, b2, b5, by omega, fun u4 H4 s4 n4 hu4 => ?_⟩
  have s04 := s03.trans s4
  have k4 := keeps s04
  walk_at "st"
  refine Pm.w_ixT (SqT.of (s04 _ _ hyt)) (atI2 _ _).2 ?_
  walk_at "st"
  refine ⟨_, _, _, _, n, n, rfl, (hy2.keep k4).rat, (hr'.keep k4).rat, b4, b6, by omega, fun u5 H5 s5 n5 hu5 => ?_⟩
  walk_at "st"
  refine ⟨_, _, _, _, n + n, n + n, rfl, SqT.of (s5 _ _ hu4), SqT.of hu5, rb_mul b2 b5, rb_mul b4 b6, by omega, fun v2 H6 s6 n6 hv2 => ?_⟩
  have s36 := (s4.trans s5).trans s6
  walk_at "st"
  refine Pm.w_newT (fun v hv => ?_)
  have s7 := same_new hv (.tup [.ref v1, .ref v2])
  have s37 := s36.trans s7
  exact q v _ (s03.trans s37) ((s03.trans s36).free hv) ⟨v, v1, v2, rfl, upd_same, frv_new (s37 _ _ hv1), frv_new (s7 _ _ hv2)⟩
def spThird (K : PySem.W.Frag) : Sp := fun vs H Q _ => ∃ (d e : Addr) (a b c n B F : Nat) (t : Tr) (L : Len) (D : Nat → Nat → Rat) (S : Nat → V2) (ks : List Nat), vs = [.ref d, .ref e, .int a, .int b, .int c] ∧ LenD K H d t D ∧ SD K H e ks S ∧
  a ∈ ks ∧ b ∈ ks ∧ Meas n t L D ∧ Bd n D F B ∧ 4 * B ≤ 9000 ∧ (∀ i, i < n → rb (S i).p B ∧ rb (S i).q B) ∧ (min a b, max a b) ∈ t.all 0 ∧ (min c b, max c b) ∈ t.all 0 ∧ (min a c, max a c) ∈ t.all 0 ∧ P2New K H (mix (S a) (D c b / D a b) (S b) (D a c / D a b)) Q
theorem ok_third (T : Tx K mg) : FnOk P w K mg base CX0 5 T.a_third T.fd_third ["lengths", "stood", "a", "b", "c"] (spThird K) := by
  refine T.F_third.ok sc_third (fun vs H Q E h => ?_) (fun cdv A outer s H vs Q E hr h => ?_)
  · obtain ⟨d, e, a, b, c, n, B, F, t, L, D, S, ks, rfl, _⟩ := h
    rfl
  obtain ⟨d, e, a, b, c, n, B, F, t, L, D, S, ks, rfl, hd, he, ma, mb, M, Z, hB, hS, tab, tcb, tac, q⟩ := h
  have hw := M.w
  have b1 := Tr.bd tab
  have b2 := Tr.bd tcb
  have b3 := Tr.bd tac
  simp only at b1 b2 b3
  have an : a < n := by omega
  have bn : b < n := by omega
  have cn : c < n := by omega
  have n0 := M.ne (show a ≠ b by omega) an bn
  refine ⟨_, (pss_cons (ps_set (i := 5) sc_third.nd rfl (.inl rfl) (pe_call (ok_between T) (hr.mono (by decide)) (by rfl) T.g_between T.F_between.kp T.b_between .nil pass0 (pa_cons (pv 0) (pa_cons (pv 2) (pa_cons (pv 3) pa_nil)))))
      (pss_cons (ps_set (i := 6) sc_third.nd rfl (.inl rfl) (pe_call (ok_over T) (hr.mono (by decide)) (by rfl) T.g_over T.F_over.kp T.b_over .nil passL (pa_cons (pe_call (ok_between T) (hr.mono (by decide)) (by rfl) T.g_between T.F_between.kp T.b_between .nil pass0 (pa_cons (pv 0) (pa_cons (pv 4) (pa_cons (pv 3) pa_nil)))) (pa_cons (pv 5) pa_nil))))
      (pss_cons (ps_set (i := 7) sc_third.nd rfl (.inl rfl) (pe_call (ok_over T) (hr.mono (by decide)) (by rfl) T.g_over T.F_over.kp T.b_over .nil passL (pa_cons (pe_call (ok_between T) (hr.mono (by decide)) (by rfl) T.g_between T.F_between.kp T.b_between .nil pass0 (pa_cons (pv 0) (pa_cons (pv 2) (pa_cons (pv 4) pa_nil)))) (pa_cons (pv 5) pa_nil))))
      (pss_one (ps_ret (pe_call (ok_pair_mixed T) (hr.mono (by decide)) (by rfl) T.g_pair_mixed T.F_pair_mixed.kp T.b_pair_mixed .nil pass0 (pa_cons (pe_dget (hu_of hr) (pv 1) (pv 2) (fun _ _ => rfl)) (pa_cons (pv 6) (pa_cons (pe_dget (hu_of hr) (pv 1) (pv 3) (fun _ _ => rfl)) (pa_cons (pv 7) pa_nil)))))))))), ?_⟩
  walk_at "st"
  refine ⟨d, t, D, a, b, rfl, hd, tab, by omega, M.anti bn an, fun w1 H1 s1 h1 => ?_⟩
  walk_at "st"
  refine ⟨d, t, D, c, b, rfl, hd.same s1, tcb, by omega, M.anti bn cn, fun w2 H2 s2 h2 => ?_⟩
  walk_at "st"
  refine ⟨_, _, _, _, B, B, rfl, h2.rat, (h1.keep (keeps s2)).rat, Z.rb cn bn, Z.rb an bn, by omega, fun z => absurd z n0, fun _ w3 H3 s3 n3 h3 => ?_⟩
  have s13 := s2.trans s3
  walk_at "st"
  refine ⟨d, t, D, a, c, rfl, hd.same (s1.trans s13), tac, by omega, M.anti cn an, fun w4 H4 s4 h4 => ?_⟩
  have s14 := s13.trans s4
  walk_at "st"
  refine ⟨_, _, _, _, B, B, rfl, h4.rat, (h1.keep (keeps s14)).rat, Z.rb an cn, Z.rb an bn, by omega, fun z => absurd z n0, fun _ w5 H5 s5 n5 h5 => ?_⟩
  have s05 := (s1.trans s14).trans s5
  have he5 := he.same s05
  walk_at "st"
  refine w_sdGet he5 ma (fun x hx => ?_)
  walk_at "st"
  refine w_sdGet he5 mb (fun y hy => ?_)
  walk_at "st"
  refine ⟨_, _, _, _, _, _, _, _, B, rfl, hx, frv_new ((s4.trans s5) _ _ h3), hy, frv_new h5, (hS a an).1, (hS a an).2, (hS b bn).1, (hS b bn).2, Z.quot cn bn an bn n0, Z.quot an cn an bn n0, hB, fun v H6 s6 nv hv => ?_⟩
  exact q v H6 (s05.trans s6) (s05.free nv) hv
end
section
variable {P : Program} {w : World} {K : PySem.W.Frag} {mg : Str → Option Value} {base : Heap}
def spStands (K : PySem.W.Frag) : Sp := fun vs H Q _ => ∃ (n : Nat) (c d : Addr) (cut : List IP) (t : Tr) (L : Len) (D : Nat → Nat → Rat) (F B : Nat), vs = [.int n, .ref c, .ref d] ∧ n ≤ 1000 ∧ PLt H c cut ∧ Cutting n cut t ∧ LenD K H d t D ∧ Meas n t L D ∧ Bd n D F B ∧ 4 * B ≤ 9000 ∧
  ∀ (l : Addr) (H' : Hp) (ws : List V) (S : Nat → V2), Same H H' → H l = none → H' l = some (.lst ws) → All2 (PrV K H') ws ((List.range n).map S) → (∀ i k, i < n → k < n → det (S i) (S k) = D i k) → (∀ i, i < n → rb (S i).p B ∧ rb (S i).q B) → Q (.ref l) H'
theorem plots_bd2 {n : Nat} {cut : List IP} {t : Tr} (C : Cutting n cut t) (n2 : n ≤ 1000) : (∀ p ∈ tiesL n cut, -1000 ≤ p.2 ∧ p.2 ≤ 1000) ∧ (plots0 n (tiesL n cut) (tiesL n cut)).length ≤ 1000 := by
  refine ⟨fun p hp => ?_, ?_⟩
  · obtain ⟨q, hq, rfl⟩ := C.ties.mp hp
    have := Tr.bd hq
    have := C.w
    simp only [castP]
    omega
  · have := C.plots_len
    unfold plotsL at this
    rw [(sort3_perm _).length_eq] at this
    omega
theorem one_is : rp 1 = (1, 1) := rfl
theorem nought_is : rp 0 = (0, 1) := rfl
theorem ok_stands (T : Tx K mg) : FnOk P w K mg base CX0 6 T.a_stands T.fd_stands ["n", "cut", "lengths"] (spStands K) := by
  refine T.F_stands.ok sc_stands (fun vs H Q E h => ?_) (fun cdv A outer s H vs Q E hr h => ?_)
  · obtain ⟨n, c, d, cut, t, L, D, F, B, rfl, _⟩ := h
    rfl
  obtain ⟨n, c, d, cut, t, L, D, F, B, rfl, n2, hc, C, hd, M, Z, hB, q⟩ := h
  have n3 := C.n3
  have cl := C.cut_len
  obtain ⟨pb1, pb2⟩ := plots_bd2 C n2
  refine ⟨_, (pss_cons (ps_set (i := 3) sc_stands.nd rfl (.inl rfl) (pe_call (ok_plots T) (hr.mono (by decide)) (by rfl) T.g_plots T.F_plots.kp T.b_plots .nil pass0 (pa_cons (pv 0) (pa_cons (pv 1) pa_nil))))
      (pss_cons (ps_asg (pe_ix (ix_listK (K := K)) (pv 3) (pe_int) (fun _ _ => rfl)) (k_gt (K := K) (pg_tup (by rfl) (pgs_cons (pg_name (i := 4) sc_stands.nd rfl (.inl rfl)) (pgs_cons (pg_name (i := 5) sc_stands.nd rfl (.inl rfl)) (pgs_cons (pg_name (i := 6) sc_stands.nd rfl (.inl rfl)) pgs_nil))))))
      (pss_cons (ps_set (i := 7) sc_stands.nd rfl (.inr rfl) (pe_disp (pps_cons (pv 4) (pe_tup (pa_cons (pe_glob (by rfl) T.g_ONE T.r_ONE) (pa_cons (pe_glob (by rfl) T.g_NOUGHT T.r_NOUGHT) pa_nil))) (pps_cons (pv 5) (pe_tup (pa_cons (pe_glob (by rfl) T.g_NOUGHT T.r_NOUGHT) (pa_cons (pe_dget (hu_of hr) (pv 2) (pe_tup (pa_cons (pv 4) (pa_cons (pv 5) pa_nil))) (fun _ _ => rfl)) pa_nil))) pps_nil)) rfl rfl (by simp) (by decide)))
      (pss_cons (ps_while PassesOwn.never (pt_cmpR op_lt (pe_callB c_lenD (by rfl) T.m_len PySem.boot_len (pa_cons (pv 7) pa_nil)) (pv 0) (nomark _)) (pss_one (ps_for PassesOwn.never rfl (k_il (K := K) (pi_list (pv 3))) (k_gt (K := K) (pg_tup (by rfl) (pgs_cons (pg_name (i := 4) sc_stands.nd rfl (.inl rfl)) (pgs_cons (pg_name (i := 5) sc_stands.nd rfl (.inl rfl)) (pgs_cons (pg_name (i := 6) sc_stands.nd rfl (.inl rfl)) pgs_nil))))) (C8.pss_cut (ps_if (PW.pt (pw_and (pt_cmp (pc_din (hu_of hr) (pv 4) (pv 7))) (pw_and (pt_cmp (pc_din (hu_of hr) (pv 5) (pv 7))) (pw_and1 (pt_cmp (pc_dnotin (hu_of hr) (pv 6) (pv 7))))))) (pss_one (ps_dput (hu_of hr) (pv 7) (pv 6) (pe_call (ok_third T) (hr.mono (by decide)) (by rfl) T.g_third T.F_third.kp T.b_third .nil pass0 (pa_cons (pv 2) (pa_cons (pv 7) (pa_cons (pv 4) (pa_cons (pv 5) (pa_cons (pv 6) pa_nil)))))) rfl)) pss_nil)
      (C8.pss_cut (ps_if (PW.pt (pw_and (pt_cmp (pc_din (hu_of hr) (pv 4) (pv 7))) (pw_and (pt_cmp (pc_din (hu_of hr) (pv 6) (pv 7))) (pw_and1 (pt_cmp (pc_dnotin (hu_of hr) (pv 5) (pv 7))))))) (pss_one (ps_dput (hu_of hr) (pv 7) (pv 5) (pe_call (ok_third T) (hr.mono (by decide)) (by rfl) T.g_third T.F_third.kp T.b_third .nil pass0 (pa_cons (pv 2) (pa_cons (pv 7) (pa_cons (pv 4) (pa_cons (pv 6) (pa_cons (pv 5) pa_nil)))))) rfl)) pss_nil)
      (pss_one (ps_if (PW.pt (pw_and (pt_cmp (pc_din (hu_of hr) (pv 5) (pv 7))) (pw_and (pt_cmp (pc_din (hu_of hr) (pv 6) (pv 7))) (pw_and1 (pt_cmp (pc_dnotin (hu_of hr) (pv 4) (pv 7))))))) (pss_one (ps_dput (hu_of hr) (pv 7) (pv 4) (pe_call (ok_third T) (hr.mono (by decide)) (by rfl) T.g_third T.F_third.kp T.b_third .nil pass0 (pa_cons (pv 2) (pa_cons (pv 7) (pa_cons (pv 5) (pa_cons (pv 6) (pa_cons (pv 4) pa_nil)))))) rfl)) pss_nil)))))))
      (pss_one (ps_ret (pe_lc (own := [("k", 8)]) (g := gName 8) (tt := tYes) rfl sc_stands.nd (pi_range1 (by rfl) T.m_range (pa_cons (pv 0) pa_nil)) (blkOk_by (N := N_stands) (sc := defScope s_stands) (by decide +kernel)) (fun _ _ _ _ _ => (pg_name (i := 8) sc_stands.nd rfl (.inl rfl))) (fun _ _ _ _ _ => pts_nil) (fun _ _ _ _ _ => (pe_dget (hu_of hr) (pv 7) (pv 8) (fun _ _ => rfl)))))))))), ?_⟩
  walk_at "st"
  refine ⟨n, c, cut, rfl, by omega, n2, hc, by omega, pb1, pb2, fun l H1 ws s1 nl hl ha => ?_⟩
  have pl := C.plots_len
  have wl := ha.length
  obtain ⟨e0, he0⟩ : ∃ e, ws[0]? = some e := ⟨ws[0], List.getElem?_eq_getElem (by omega)⟩
  obtain ⟨q0, hq0, u0, rfl, hu0⟩ := ha.get he0
  obtain ⟨⟨a, b, c0⟩, hp0, rfl⟩ := C.mem_plots.mp (List.mem_of_getElem? hq0)
  obtain ⟨⟨ab, bc⟩, tab, tbc, tac⟩ := Tr.plots_iff.mp hp0
  have hw := M.w
  have bn : b < n := by have := Tr.bd tab; simp only at this; omega
  have an : a < n := by omega
  walk_at "st"
  refine Pm.w_ixL (SqL.of hl) (v := .ref u0) (atI_nat (j := 0) he0) ?_
  walk_at "st"
  refine Pm.w_gtup (SqT.of hu0) rfl ?_
  walk_at "st"
  refine w_disp (fun e he => ?_)
  walk_at "st"
  have h1T : FrV K (upd H1 e (.dK [])) (.ref T.c_ONE) (rp 1) := ⟨_, rfl, .inr T.v_ONE⟩
  have h0T : ∀ H', FrV K H' (.ref T.c_NOUGHT) (rp 0) := fun H' => ⟨_, rfl, .inr T.v_NOUGHT⟩
  have h1T' : ∀ H', FrV K H' (.ref T.c_ONE) (rp 1) := fun H' => ⟨_, rfl, .inr T.v_ONE⟩
  have nab : a ≠ b := by omega
  refine Pm.w_newT (fun v1 hv1 => ?_)
  have s2 := same_new he (.dK [])
  have s3 := same_new hv1 (.tup [.ref T.c_ONE, .ref T.c_NOUGHT])
  walk_at "st"
  refine Pm.w_newT (fun v2 hv2 => ?_)
  have s4 := same_new hv2 (.tup [.int (cast3 (a, b, c0)).1, .int (cast3 (a, b, c0)).2.1])
  have s14 := (s1.trans s2).trans (s3.trans s4)
  refine w_lenGet (hd.same s14) (i := a) (k := b) (pr_new upd_same) tab (fun u hu => ?_)
  walk_at "st"
  refine Pm.w_newT (fun v3 hv3 => ?_)
  have s5 := same_new hv3 (.tup [.ref T.c_NOUGHT, .ref u])
  have s25 := (s3.trans s4).trans s5
  generalize hS : tgt D a b = S
  have Sa : S a = ⟨1, 0⟩ := by rw [← hS]; exact tgt_a M an bn nab
  have Sb : S b = ⟨0, D a b⟩ := by rw [← hS]; exact tgt_b M an bn nab
  have Srb : ∀ i, i < n → rb (S i).p B ∧ rb (S i).q B := fun i hi => by rw [← hS]; exact tgt_rb M Z an bn nab hi
  have Sdet : ∀ i k, i < n → k < n → det (S i) (S k) = D i k := fun i k hi hk => by rw [← hS]; exact tgt_det M an bn nab hi hk
  have Smix : ∀ x y z, x < n → y < n → z < n → x ≠ y → mix (S x) (D z y / D x y) (S y) (D x z / D x y) = S z := fun x y z hx hy hz ne => by rw [← hS]; exact tgt_mix M an bn nab hx hy hz ne
  walk_at "st"
  refine w_sdDisp (K := K) (S := S) (s25 _ _ upd_same) nab ?_ ?_ (fun es hSD kp => ?_)
  · rw [Sa]
    exact ⟨v1, _, _, rfl, (s4.trans s5) _ _ upd_same, h1T' _, h0T _⟩
  · rw [Sb]
    exact ⟨v3, _, _, rfl, upd_same, h0T _, hu.keep (keeps s5)⟩
  have He : H1 e = none := he
  have se : Same H1 (upd (upd (upd (upd (upd H1 e (.dK [])) v1 (.tup [.ref T.c_ONE, .ref T.c_NOUGHT])) v2 (.tup [.int (cast3 (a, b, c0)).1, .int (cast3 (a, b, c0)).2.1])) v3 (.tup [.ref T.c_NOUGHT, .ref u])) e (.dK es)) := same_but He (s2.trans s25)
  generalize (upd (upd (upd (upd (upd H1 e (.dK [])) v1 (.tup [.ref T.c_ONE, .ref T.c_NOUGHT])) v2 (.tup [.int (cast3 (a, b, c0)).1, .int (cast3 (a, b, c0)).2.1])) v3 (.tup [.ref T.c_NOUGHT, .ref u])) e (.dK es)) = H2 at se hSD
  walk_at "st"
  obtain ⟨qs, hqs⟩ : ∃ qs : List (Nat × Nat × Nat), plotsL n cut = qs.map cast3 := by
    have e : ∀ l : List I3, (∀ x ∈ l, ∃ y, x = cast3 y) → ∃ qs : List (Nat × Nat × Nat), l = qs.map cast3 := by
      intro l
      induction l with
      | nil => intro _; exact ⟨[], rfl⟩
      | cons x l ih =>
        intro h
        obtain ⟨y, rfl⟩ := h x List.mem_cons_self
        obtain ⟨qs, rfl⟩ := ih fun z hz => h z (List.mem_cons_of_mem _ hz)
        exact ⟨y :: qs, rfl⟩
    exact e _ fun x hx => let ⟨y, _, h⟩ := C.mem_plots.mp hx; ⟨y, h⟩
  have hall : ∀ q, q ∈ t.plots 0 → q ∈ qs := fun q hq => by
    have := C.mem_plots.mpr ⟨q, hq, rfl⟩
    rw [hqs] at this
    obtain ⟨p, hp, e⟩ := List.mem_map.mp this
    rw [← cast3_inj e]; exact hp
  have hmem : ∀ q, q ∈ qs → q ∈ t.plots 0 := fun q hq => by
    obtain ⟨p, hp, e⟩ := C.mem_plots.mp (by rw [hqs]; exact List.mem_map.mpr ⟨q, hq, rfl⟩)
    rw [cast3_inj e]; exact hp
  rw [hqs] at ha wl
  rw [List.length_map] at wl
  have stand : ∀ (H3 : Hp) (ks : List Nat), Same H1 H3 → SD K H3 e ks S → ∀ x y z, x < n → y < n → z < n → x ≠ y → x ∈ ks → y ∈ ks → (min x y, max x y) ∈ t.all 0 → (min z y, max z y) ∈ t.all 0 → (min x z, max x z) ∈ t.all 0 → ∀ QQ EE,
      (∀ (v : Addr) H4, Same H3 H4 → PrV K H4 (.ref v) (S z) → QQ (.ref v) H4) → spThird K [.ref d, .ref e, .int x, .int y, .int z] H3 QQ EE := by
    intro H3 ks s3 h3 x y z hx hy hz nxy mx my t1 t2 t3 QQ EE q3
    refine ⟨d, e, x, y, z, n, B, F, t, L, D, S, ks, rfl, hd.same (s1.trans s3), h3, mx, my, M, Z, hB, Srb, t1, t2, t3, fun v H4 s4 nv hv => ?_⟩
    rw [Smix x y z hx hy hz nxy] at hv
    exact q3 v H4 s4 hv
  refine Pm.w_while (fun m σ H3 => ∃ (ks : List Nat) (x y z : Option V), σ = [some (.int n), some (.ref c), some (.ref d), some (.ref l), x, y, z, some (.ref e), none] ∧ m = n - ks.length ∧ Same H1 H3 ∧ SD K H3 e ks S ∧ a ∈ ks ∧ b ∈ ks ∧ ∀ k ∈ ks, k < n) _ ⟨[a, b], _, _, _, rfl, rfl, se, hSD, by simp, by simp, by simp [an, bn]⟩ ?_
  rintro m σ H3 ⟨ks, x, y, z, rfl, rfl, s3, hSD, ma, mb, hk⟩
  have kl := nodup_bd hSD.nd hk
  walk_at "st"
  refine w_sdLen hSD ?_
  walk_at "st"
  refine Pm.w_wh (fun e1 => ?_) (fun e1 => ?_)
  · walk_at "st"
    refine Pm.w_rdL (SqL.of (s3 _ _ hl)) ?_
    refine Pm.w_forL (xs := ws) (fun i σ H4 => ∃ (x y z : Option V), σ = [some (.int n), some (.ref c), some (.ref d), some (.ref l), x, y, z, some (.ref e), none] ∧ Same H1 H4 ∧ SD K H4 e (runs ks (qs.take i)) S ∧ ∀ k ∈ runs ks (qs.take i), k < n) ⟨_, _, _, rfl, s3, by rw [List.take_zero]; exact hSD, by rw [List.take_zero]; exact hk⟩ (fun i σ H4 _ ⟨_, _, _, _, s4, _⟩ => SqL.of (s4 _ _ hl)) ?_ ?_
    · rintro i v σ H4 hi ⟨x, y, z, rfl, s3, hSD, hk⟩
      obtain ⟨q', hq', u', rfl, hu'⟩ := ha.get hi
      rw [List.getElem?_map] at hq'
      obtain ⟨⟨x1, y1, z1⟩, hqi, rfl⟩ := Option.map_eq_some_iff.mp hq'
      obtain ⟨⟨xy, yz⟩, txy, tyz, txz⟩ := Tr.plots_iff.mp (hmem _ (List.mem_of_getElem? hqi))
      have zn : z1 < n := by have := Tr.bd txz; simp only at this; omega
      have tk : runs ks (qs.take (i + 1)) = st3 (st3 (st3 (runs ks (qs.take i)) x1 y1 z1) x1 z1 y1) y1 z1 x1 := by rw [take_snoc hqi, runs_snoc]; rfl
      generalize runs ks (qs.take i) = k0 at tk hSD hk
      have k0l := nodup_bd hSD.nd hk
      walk_at "st"
      refine Pm.w_gtup (SqT.of (s3 _ _ hu')) rfl ?_
      walk_at "st"
      refine Pm.w_cut (fun σ' H' => σ' = [some (.int n), some (.ref c), some (.ref d), some (.ref l), some (.int x1), some (.int y1), some (.int z1), some (.ref e), none] ∧ Same H1 H' ∧ SD K H' e (st3 k0 x1 y1 z1) S) ?_ ?_
      · walk_at "st"
        refine w_sdIn hSD ?_
        walk_at "st"
        refine Pm.w_ite (fun m1 => ?_) (fun m1 => ?_)
        rotate_left
        · walk_at "st"
          have e9 : st3 (k0) x1 y1 z1 = k0 := if_neg (fun q => m1 q.1)
          exact ⟨rfl, s3, by rw [e9]; exact hSD⟩
        walk_at "st"
        refine w_sdIn hSD ?_
        walk_at "st"
        refine Pm.w_ite (fun m2 => ?_) (fun m2 => ?_)
        rotate_left
        · walk_at "st"
          have e9 : st3 (k0) x1 y1 z1 = k0 := if_neg (fun q => m2 q.2.1)
          exact ⟨rfl, s3, by rw [e9]; exact hSD⟩
        walk_at "st"
        refine w_sdNotIn hSD ?_
        walk_at "st"
        refine Pm.w_iteN (fun m3 => ?_) (fun m3 => ?_)
        rotate_left
        · walk_at "st"
          have e9 : st3 (k0) x1 y1 z1 = k0 := if_neg (fun q => q.2.2 m3)
          exact ⟨rfl, s3, by rw [e9]; exact hSD⟩
        walk_at "st"
        refine stand _ _ s3 hSD x1 y1 z1 (by omega) (by omega) zn (by omega) m1 m2 (by rw [Nat.min_eq_left (by omega), Nat.max_eq_right (by omega)]; exact txy) (by rw [Nat.min_eq_right (by omega), Nat.max_eq_left (by omega)]; exact tyz) (by rw [Nat.min_eq_left (by omega), Nat.max_eq_right (by omega)]; exact txz) _ _ (fun v H4 s4 hv => ?_)
        walk_at "st"
        refine w_sdPut (hSD.same s4) m3 hv (by omega) (fun es hSD kp => ?_)
        have e9 : st3 (k0) x1 y1 z1 = k0 ++ [z1] := if_pos ⟨m1, m2, m3⟩
        have s3 := same_but (o := .dK es) he (s3.trans s4)
        exact ⟨rfl, s3, by rw [e9]; exact hSD⟩
      rintro σ H4 ⟨rfl, s3, hSD⟩
      have hk1 := st3_mem (x := x1) (y := y1) hk zn
      generalize st3 k0 x1 y1 z1 = k1 at hSD hk1 tk
      have k1l := nodup_bd hSD.nd hk1
      refine Pm.w_cut (fun σ' H' => σ' = [some (.int n), some (.ref c), some (.ref d), some (.ref l), some (.int x1), some (.int y1), some (.int z1), some (.ref e), none] ∧ Same H1 H' ∧ SD K H' e (st3 k1 x1 z1 y1) S) ?_ ?_
      · walk_at "st"
        refine w_sdIn hSD ?_
        walk_at "st"
        refine Pm.w_ite (fun m1 => ?_) (fun m1 => ?_)
        rotate_left
        · walk_at "st"
          have e9 : st3 (k1) x1 z1 y1 = k1 := if_neg (fun q => m1 q.1)
          exact ⟨rfl, s3, by rw [e9]; exact hSD⟩
        walk_at "st"
        refine w_sdIn hSD ?_
        walk_at "st"
        refine Pm.w_ite (fun m2 => ?_) (fun m2 => ?_)
        rotate_left
        · walk_at "st"
          have e9 : st3 (k1) x1 z1 y1 = k1 := if_neg (fun q => m2 q.2.1)
          exact ⟨rfl, s3, by rw [e9]; exact hSD⟩
        walk_at "st"
        refine w_sdNotIn hSD ?_
        walk_at "st"
        refine Pm.w_iteN (fun m3 => ?_) (fun m3 => ?_)
        rotate_left
        · walk_at "st"
          have e9 : st3 (k1) x1 z1 y1 = k1 := if_neg (fun q => q.2.2 m3)
          exact ⟨rfl, s3, by rw [e9]; exact hSD⟩
        walk_at "st"
        refine stand _ _ s3 hSD x1 z1 y1 (by omega) zn (by omega) (by omega) m1 m2 (by rw [Nat.min_eq_left (by omega), Nat.max_eq_right (by omega)]; exact txz) (by rw [Nat.min_eq_left (by omega), Nat.max_eq_right (by omega)]; exact tyz) (by rw [Nat.min_eq_left (by omega), Nat.max_eq_right (by omega)]; exact txy) _ _ (fun v H4 s4 hv => ?_)
        walk_at "st"
        refine w_sdPut (hSD.same s4) m3 hv (by omega) (fun es hSD kp => ?_)
        have e9 : st3 (k1) x1 z1 y1 = k1 ++ [y1] := if_pos ⟨m1, m2, m3⟩
        have s3 := same_but (o := .dK es) he (s3.trans s4)
        exact ⟨rfl, s3, by rw [e9]; exact hSD⟩
      rintro σ H4 ⟨rfl, s3, hSD⟩
      have hk2 := st3_mem (x := x1) (y := z1) (z := y1) hk1 (by omega)
      generalize st3 k1 x1 z1 y1 = k2 at hSD hk2 tk
      have k2l := nodup_bd hSD.nd hk2
      have hk3 := st3_mem (x := y1) (y := z1) (z := x1) hk2 (by omega)
      have tk' : runs ks (qs.take (i + 1)) = st3 k2 y1 z1 x1 := tk
      rw [← tk'] at hk3
      walk_at "st"
      refine w_sdIn hSD ?_
      walk_at "st"
      refine Pm.w_ite (fun m1 => ?_) (fun m1 => ?_)
      rotate_left
      · walk_at "st"
        have e9 : st3 (k2) y1 z1 x1 = k2 := if_neg (fun q => m1 q.1)
        exact ⟨_, _, _, rfl, s3, by rw [tk', e9]; exact hSD, hk3⟩
      walk_at "st"
      refine w_sdIn hSD ?_
      walk_at "st"
      refine Pm.w_ite (fun m2 => ?_) (fun m2 => ?_)
      rotate_left
      · walk_at "st"
        have e9 : st3 (k2) y1 z1 x1 = k2 := if_neg (fun q => m2 q.2.1)
        exact ⟨_, _, _, rfl, s3, by rw [tk', e9]; exact hSD, hk3⟩
      walk_at "st"
      refine w_sdNotIn hSD ?_
      walk_at "st"
      refine Pm.w_iteN (fun m3 => ?_) (fun m3 => ?_)
      rotate_left
      · walk_at "st"
        have e9 : st3 (k2) y1 z1 x1 = k2 := if_neg (fun q => q.2.2 m3)
        exact ⟨_, _, _, rfl, s3, by rw [tk', e9]; exact hSD, hk3⟩
      walk_at "st"
      refine stand _ _ s3 hSD y1 z1 x1 (by omega) zn (by omega) (by omega) m1 m2 (by rw [Nat.min_eq_left (by omega), Nat.max_eq_right (by omega)]; exact tyz) (by rw [Nat.min_eq_left (by omega), Nat.max_eq_right (by omega)]; exact txz) (by rw [Nat.min_eq_right (by omega), Nat.max_eq_left (by omega)]; exact txy) _ _ (fun v H4 s4 hv => ?_)
      walk_at "st"
      refine w_sdPut (hSD.same s4) m3 hv (by omega) (fun es hSD kp => ?_)
      have e9 : st3 (k2) y1 z1 x1 = k2 ++ [x1] := if_pos ⟨m1, m2, m3⟩
      have s3 := same_but (o := .dK es) he (s3.trans s4)
      exact ⟨_, _, _, rfl, s3, by rw [tk', e9]; exact hSD, hk3⟩
    · rintro σ H4 ⟨x, y, z, rfl, s4, hSD4, hk4⟩
      rw [List.take_of_length_le (by omega)] at hSD4 hk4
      refine ⟨n - (runs ks qs).length, ?_, _, _, _, _, rfl, rfl, s4, hSD4, runs_sub ma, runs_sub mb, hk4⟩
      have := runs_more C hall hSD.nd tab ma mb (by omega) hk
      omega
  · walk_at "st"
    rw [Int.toNat_natCast]
    refine Pm.w_lcRm (R := PrV K) prv_mono S (by omega) (fun Dl i H4 Nx hD hi s4 put => ?_) (fun Dl H4 ws2 hD s4 hd4 ha4 => ?_)
    · walk_at "st"
      rw [Int.zero_add]
      refine w_sdGet (hSD.same s4) (all_in hSD.nd hk (by omega) hi) (fun u hu => ?_)
      exact put _ _ (Same.refl _) hu
    · exact q Dl H4 ws2 S ((s1.trans s3).trans s4) (s1.free (s3.free hD)) hd4 ha4 Sdet Srb
end
theorem besides_snoc (T : List IP) (a b : Int) (i : Nat) : ((List.range (i + 1)).filter (isBeside T a b)).map (fun c : Nat => (c : Int)) = ((List.range i).filter (isBeside T a b)).map (fun c : Nat => (c : Int)) ++ (if isBeside T a b i = true then [(i : Int)] else []) := by
  rw [List.range_succ, List.filter_append, List.map_append]
  congr 1
  by_cases h : isBeside T a b i = true
  · simp [h]
  · simp [h]
/-- a new list of numbers -/
def ILNew (H : Hp) (ns : List Int) (Q : VK) : Prop := ∀ (p : Addr) (H' : Hp), Same H H' → H p = none → H' p = some (.lst (ns.map V.int)) → Q (.ref p) H'
section
variable {P : Program} {w : World} {K : PySem.W.Frag} {mg : Str → Option Value} {base : Heap}
def spBeside (C : Addr) : Sp := fun vs H Q E => ∃ (n : Nat) (c : Addr) (cut : List IP) (a b : Int), vs = [.int n, .ref c, .int a, .int b] ∧ 1 ≤ n ∧ n ≤ 1000 ∧ PLt H c cut ∧ cut.length ≤ 1000 ∧
  (tieOf a b ∉ tiesL n cut → ∀ H', Same H H' → E (.ref C) none H') ∧ (tieOf a b ∈ tiesL n cut → ILNew H (besideL n (tiesL n cut) a b) Q)
theorem ok_beside (T : Tx K mg) : FnOk P w K mg base (L2.CX P w) 3 T.a_beside T.fd_beside ["n", "cut", "a", "b"] (spBeside T.c_NoRope) := by
  refine T.F_beside.okX sc_beside (fun vs H Q E h => ?_) (fun cdv A outer s H vs Q E hr h => ?_)
  · obtain ⟨n, c, cut, a, b, rfl, _⟩ := h
    rfl
  obtain ⟨n, c, cut, a, b, rfl, n1, n2, hc, cl, hE, q⟩ := h
  refine ⟨_, (pss_cons (ps_set (i := 4) sc_beside.nd rfl (.inl rfl) (pe_call (ok_ties T) (hr.mono (by decide)) (by rfl) T.g_ties T.F_ties.kp T.b_ties .nil pass0 (pa_cons (pv 0) (pa_cons (pv 1) pa_nil))))
      (pss_cons (ps_if (pt_cmpR (op_notInDK (K := K) hr.u65) (pe_call (ok_tie_of T) (hr.mono (by decide)) (by rfl) T.g_tie_of T.F_tie_of.kp T.b_tie_of .nil pass0 (pa_cons (pv 2) (pa_cons (pv 3) pa_nil))) (pv 4) (by rfl)) (pss_one (ps_raise rfl (takes_of rfl rfl rfl rfl) (pmk_own PySem.F.excBase_ValueError T.x_NoRope T.g_NoRope T.k_NoRope (raises_own T.b_NoRope T.t_NoRope) rfl))) pss_nil)
      (pss_cons (ps_set (i := 5) sc_beside.nd rfl (.inl rfl) (pe_lst pa_nil))
      (pss_cons (ps_for (passes_of rfl) rfl (pi_range1 (by rfl) T.m_range (pa_cons (pv 0) pa_nil)) (pg_name (i := 6) sc_beside.nd rfl (.inl rfl)) (pss_one (ps_if (PW.pt (pw_and (pt_cmpR (op_inDK (K := K) hr.u65) (pe_call (ok_tie_of T) (hr.mono (by decide)) (by rfl) T.g_tie_of T.F_tie_of.kp T.b_tie_of .nil pass0 (pa_cons (pv 2) (pa_cons (pv 6) pa_nil))) (pv 4) (by rfl)) (pw_and1 (pt_cmpR (op_inDK (K := K) hr.u65) (pe_call (ok_tie_of T) (hr.mono (by decide)) (by rfl) T.g_tie_of T.F_tie_of.kp T.b_tie_of .nil pass0 (pa_cons (pv 3) (pa_cons (pv 6) pa_nil))) (pv 4) (by rfl))))) (pss_one (ps_expr (k_bm (K := K) (pe_bm PySem.F.plainAttrs_list PySem.F.slot_list_append PySem.F.type_list_append mt_append (pv 5) (pa_cons (pv 6) pa_nil))))) pss_nil)))
      (pss_one (ps_ret (pv 5))))))), ?_⟩
  walk_at "st"
  refine ⟨n, c, cut, rfl, n1, n2, hc, cl, fun l H1 ws s1 nl hl ha => ?_⟩
  walk_at "st"
  refine ⟨a, b, rfl, fun t H2 s2 nt ht => ?_⟩
  walk_at "st"
  refine Pm.w_ninPL ht (SqL.of (s2 _ _ hl)) (prs_keep (keeps s2) ha) ?_
  walk_at "st"
  refine Pm.w_iteN (fun e => ?_) (fun e => ?_)
  · exact hE e _ (s1.trans s2)
  walk_at "st"
  refine Pm.w_newL (fun f hf => ?_)
  walk_at "st"
  rw [Int.toNat_natCast]
  have s3 : Same H2 (upd H2 f (.lst [])) := same_new hf _
  have nlf : l ≠ f := ne_of_none (s2 _ _ hl) hf
  have hHf : H f = none := (s1.trans s2).free hf
  refine Pm.w_forR (fun i σ H3 => ∃ x, σ = [some (.int n), some (.ref c), some (.int a), some (.int b), some (.ref l), some (.ref f), x] ∧ Same H H3 ∧ H3 l = some (.lst ws) ∧ Prs H3 ws (tiesL n cut) ∧ H3 f = some (.lst ((((List.range i).filter (isBeside (tiesL n cut) a b)).map fun c : Nat => (c : Int)).map V.int))) ?_ ?_ ?_
  · exact ⟨_, rfl, same_but hHf (s1.trans s2), s3 _ _ (s2 _ _ hl), prs_keep (keeps (s2.trans s3)) ha, upd_same⟩
  · rintro i σ H3 hi ⟨x, rfl, sm, hl3, ha3, hf3⟩
    have hz : ((((List.range i).filter (isBeside (tiesL n cut) a b)).map fun c : Nat => (c : Int)).map V.int).length < sizeLine := by
      rw [List.length_map, List.length_map]
      have := List.length_filter_le (isBeside (tiesL n cut) a b) (List.range i)
      rw [List.length_range] at this
      exact size_lt (by omega)
    have fin : ∀ H5 : Hp, Same H3 H5 → isBeside (tiesL n cut) a b i = false → ∃ x, ([some (.int n), some (.ref c), some (.int a), some (.int b), some (.ref l), some (.ref f), some (.int (0 + (i : Nat)))] : L2.St) = [some (.int n), some (.ref c), some (.int a), some (.int b), some (.ref l), some (.ref f), x] ∧ Same H H5 ∧ H5 l = some (.lst ws) ∧ Prs H5 ws (tiesL n cut) ∧ H5 f = some (.lst ((((List.range (i + 1)).filter (isBeside (tiesL n cut) a b)).map fun c : Nat => (c : Int)).map V.int)) := fun H5 s5 z => by
      refine ⟨_, rfl, sm.trans s5, s5 _ _ hl3, prs_keep (keeps s5) ha3, ?_⟩
      rw [besides_snoc, z, if_neg Bool.false_ne_true, List.append_nil]
      exact s5 _ _ hf3
    walk_at "st"
    refine ⟨a, _, rfl, fun t4 H4 s4 nt4 ht4 => ?_⟩
    rw [Int.zero_add] at ht4
    walk_at "st"
    refine Pm.w_inPL ht4 (SqL.of (s4 _ _ hl3)) (prs_keep (keeps s4) ha3) ?_
    walk_at "st"
    refine Pm.w_ite (fun e1 => ?_) (fun e1 => ?_)
    · walk_at "st"
      refine ⟨b, _, rfl, fun t5 H5 s5 nt5 ht5 => ?_⟩
      rw [Int.zero_add] at ht5
      have s45 := s4.trans s5
      walk_at "st"
      refine Pm.w_inPL ht5 (SqL.of (s45 _ _ hl3)) (prs_keep (keeps s45) ha3) ?_
      walk_at "st"
      refine Pm.w_ite (fun e2 => ?_) (fun e2 => ?_)
      · have z : isBeside (tiesL n cut) a b i = true := by unfold isBeside; rw [decide_eq_true e1, decide_eq_true e2]; rfl
        walk_at "st"
        refine ⟨.inl ⟨rfl, _, SqL.of (s45 _ _ hf3)⟩, ?_⟩
        walk_at "st"
        refine Pm.w_append (s45 _ _ hf3) hz ?_
        walk_at "st"
        refine ⟨_, rfl, same_but hHf (sm.trans s45), ?_, ?_, ?_⟩
        · rw [upd_ne nlf]; exact s45 _ _ hl3
        · exact prs_keep (keeps_lst (s45 _ _ hf3)) (prs_keep (keeps s45) ha3)
        · rw [upd_same, besides_snoc, z, if_pos rfl, List.map_append, Int.zero_add]
          rfl
      · have z : isBeside (tiesL n cut) a b i = false := by unfold isBeside; rw [decide_eq_false e2, Bool.and_false]
        walk_at "st"
        exact fin H5 s45 z
    · have z : isBeside (tiesL n cut) a b i = false := by unfold isBeside; rw [decide_eq_false e1, Bool.false_and]
      walk_at "st"
      exact fin H4 s4 z
  · rintro σ H3 ⟨x, rfl, sm, hl3, ha3, hf3⟩
    walk_at "st"
    exact q e f _ sm hHf hf3
end
section
variable {P : Program} {w : World} {K : PySem.W.Frag} {mg : Str → Option Value} {base : Heap}
def spTurned (C : Addr) : Sp := fun vs H Q E => ∃ (n : Nat) (c : Addr) (cut : List IP) (a b : Int), vs = [.int n, .ref c, .int a, .int b] ∧ 1 ≤ n ∧ n ≤ 1000 ∧ PLt H c cut ∧ cut.length ≤ 1000 ∧
  (tieOf a b ∉ cut → ∀ H', Same H H' → E (.ref C) none H') ∧ (tieOf a b ∈ cut → 2 ≤ (besideL n (tiesL n cut) a b).length ∧ PLNew H (turnedL n cut a b) Q)
theorem ok_turned (T : Tx K mg) : FnOk P w K mg base (L2.CX P w) 4 T.a_turned T.fd_turned ["n", "cut", "a", "b"] (spTurned T.c_NoRope) := by
  refine T.F_turned.okX sc_turned (fun vs H Q E h => ?_) (fun cdv A outer s H vs Q E hr h => ?_)
  · obtain ⟨n, c, cut, a, b, rfl, _⟩ := h
    rfl
  obtain ⟨n, c, cut, a, b, rfl, n1, n2, hc, cl, hE, q⟩ := h
  refine ⟨_, (pss_cons (ps_set (i := 4) sc_turned.nd rfl (.inr rfl) (pe_call (ok_tie_of T) (hr.mono (by decide)) (by rfl) T.g_tie_of T.F_tie_of.kp T.b_tie_of .nil pass0 (pa_cons (pv 2) (pa_cons (pv 3) pa_nil))))
      (pss_cons (ps_if (pt_cmpR (op_notInDK (K := K) hr.u65) (pv 4) (pv 1) (by rfl)) (pss_one (ps_raise rfl (takes_of rfl rfl rfl rfl) (pmk_own PySem.F.excBase_ValueError T.x_NoRope T.g_NoRope T.k_NoRope (raises_own T.b_NoRope T.t_NoRope) rfl))) pss_nil)
      (pss_cons (ps_set (i := 5) sc_turned.nd rfl (.inl rfl) (pe_call (ok_beside T) (hr.mono (by decide)) (by rfl) T.g_beside T.F_beside.kp T.b_beside .nil (passes_call (takes_of rfl rfl rfl rfl) (fun _ _ _ _ h => h)) (pa_cons (pv 0) (pa_cons (pv 1) (pa_cons (pv 2) (pa_cons (pv 3) pa_nil))))))
      (pss_one (ps_ret (pe_callB (cr_sortK (K := K)) (by rfl) T.m_sorted (by decide +kernel) (pa_cons (pe_op op_cat (pe_lc (own := [("one", 6)]) (g := gName 6) rfl sc_turned.nd (k_il (K := K) (pi_list (pv 1))) (blkOk_by (N := N_turned) (sc := defScope s_turned) (by decide +kernel)) (fun _ _ _ _ _ => (pg_name (i := 6) sc_turned.nd rfl (.inl rfl))) (fun _ _ _ _ _ => (pts_one (pt_cmpR (op_neDK (K := K) hr.units) (pv 6) (pv 4) (nomark _)))) (fun _ _ _ _ _ => (pv 6))) (pe_lst (pa_cons (pe_tup (pa_cons (pe_ix (ix_listK (K := K)) (pv 5) (pe_int) (fun _ _ => rfl)) (pa_cons (pe_ix (ix_listK (K := K)) (pv 5) (pe_int) (fun _ _ => rfl)) pa_nil))) pa_nil))) pa_nil))))))), ?_⟩
  walk_at "st"
  refine ⟨a, b, rfl, fun r H1 s1 nr hr1 => ?_⟩
  obtain ⟨cv1, hc1, hp1⟩ := hc.same s1
  walk_at "st"
  refine Pm.w_ninPL hr1 (SqL.of hc1) hp1 ?_
  walk_at "st"
  refine Pm.w_iteN (fun e => ?_) (fun e => ?_)
  · exact hE e _ s1
  obtain ⟨l2, q⟩ := q e
  walk_at "st"
  refine ⟨n, c, cut, a, b, rfl, n1, n2, ⟨cv1, hc1, hp1⟩, cl, fun z => absurd (mem_ties.mpr (.inr e)) z, fun _ l H2 s2 nl hl => ?_⟩
  obtain ⟨cv2, hc2, hp2⟩ := PLt.same ⟨cv1, hc1, hp1⟩ s2
  walk_at "st"
  refine Pm.w_rdL (SqL.of hc2) ?_
  refine Pm.w_lcLf (R := Pr) pr_mono (S := Pr) pr_mono (SqL.of hc2) hp2 id (fun p => !decide (p = tieOf a b)) (by omega) (fun D x p H3 Nx hD hm hs s3 put skip => ?_) (fun D H3 ws hD s3 hd ha => ?_)
  · obtain ⟨t, rfl, ht⟩ := hs
    obtain ⟨u, eu, hu⟩ := hr1.keep (keeps (s2.trans s3))
    cases eu
    walk_at "st"
    refine Pm.w_neP ⟨t, rfl, ht⟩ ⟨_, rfl, hu⟩ ?_
    walk_at "st"
    refine Pm.w_iteN (fun z => ?_) (fun z => ?_)
    · walk_at "st"
      exact put _ _ (by simp [z]) (Same.refl _) ⟨t, rfl, ht⟩
    · exact skip _ (by simp [z]) (Same.refl _)
  · rw [List.map_id] at ha
    have hl3 := s3 _ _ hl
    walk_at "st"
    refine Pm.w_ixL (SqL.of hl3) (atI_getD (i := 0) (by omega)) ?_
    walk_at "st"
    refine Pm.w_ixL (SqL.of hl3) (atI_getD (i := 1) (by omega)) ?_
    walk_at "st"
    refine Pm.w_newT (fun t ht => ?_)
    walk_at "st"
    refine Pm.w_newL (fun k hk => ?_)
    have nDk : D ≠ k := ne_of_none (o := .lst ws) ((same_new ht _) _ _ hd) hk
    have hlen := ha.length
    have hlf := List.length_filter_le (fun p : IP => !decide (p = tieOf a b)) cut
    refine Pm.w_cat (by rw [upd_ne nDk, upd_ne (ne_of_none hd ht)]; exact hd) upd_same (size_ok (by rw [List.length_singleton]; omega)) (fun g hg => ?_)
    have k1 := keeps ((same_new ht (.tup [.int ((besideL n (tiesL n cut) a b).getD 0 0), .int ((besideL n (tiesL n cut) a b).getD 1 0)])).trans ((same_new hk (.lst [.ref t])).trans (same_new hg (.lst (ws ++ [.ref t])))))
    have s4 := (same_new ht (.tup [.int ((besideL n (tiesL n cut) a b).getD 0 0), .int ((besideL n (tiesL n cut) a b).getD 1 0)])).trans ((same_new hk (.lst [.ref t])).trans (same_new hg (.lst (ws ++ [.ref t]))))
    refine Pm.w_sortP (SqL.of upd_same) ((prs_keep k1 ha).append (ys' := [((besideL n (tiesL n cut) a b).getD 0 0, (besideL n (tiesL n cut) a b).getD 1 0)]) ⟨⟨t, rfl, ?_⟩, trivial⟩) (fun ys p2 hp2' hy => ?_)
    · exact ((same_new hk _).trans (same_new hg _)) _ _ upd_same
    · have s5 := s1.trans (s2.trans (s3.trans s4))
      exact q p2 _ ys (s5.trans (same_new hp2' _)) (s5.free hp2') upd_same (prs_keep (keeps (same_new hp2' _)) hy)
end
section
variable {P : Program} {w : World} {K : PySem.W.Frag} {mg : Str → Option Value} {base : Heap}
def spTwo (C : Addr) : Sp := fun vs H Q E => ∃ (n : Nat) (a b : Int), vs = [.int n, .int a, .int b] ∧ (¬ twoOk n a b → E (.ref C) none H) ∧ (twoOk n a b → Q .non H)
theorem ok_two_posts (T : Tx K mg) : FnOk P w K mg base (L2.CX P w) 1 T.a_two_posts T.fd_two_posts ["n", "a", "b"] (spTwo T.c_NoPost) := by
  refine T.F_two_posts.okX sc_two_posts (fun vs H Q E h => ?_) (fun cdv A outer s H vs Q E hr h => ?_)
  · obtain ⟨n, a, b, rfl, _⟩ := h
    rfl
  obtain ⟨n, a, b, rfl, hE, q⟩ := h
  refine ⟨_, (pss_one (ps_if (PW.pt (pw_or (pt_cmpR op_lt (pv 1) (pe_int) (nomark _)) (pw_or (pt_cmpR op_lt (pv 2) (pe_int) (nomark _)) (pw_or (pt_cmpR op_ge (pv 1) (pv 0) (nomark _)) (pw_or (pt_cmpR op_ge (pv 2) (pv 0) (nomark _)) (pw_or1 (pt_cmpR op_eq (pv 1) (pv 2) (nomark _)))))))) (pss_one (ps_raise rfl (takes_of rfl rfl rfl rfl) (pmk_own PySem.F.excBase_ValueError T.x_NoPost T.g_NoPost T.k_NoPost (raises_own T.b_NoPost T.t_NoPost) rfl))) pss_nil)), ?_⟩
  walk_at "st"
  refine Pm.w_ite (fun e => hE (fun z => by unfold twoOk at z; omega)) (fun e1 => ?_)
  walk_at "st"
  refine Pm.w_ite (fun e => hE (fun z => by unfold twoOk at z; omega)) (fun e2 => ?_)
  walk_at "st"
  refine Pm.w_ite (fun e => hE (fun z => by unfold twoOk at z; omega)) (fun e3 => ?_)
  walk_at "st"
  refine Pm.w_ite (fun e => hE (fun z => by unfold twoOk at z; omega)) (fun e4 => ?_)
  walk_at "st"
  refine Pm.w_ite (fun e => hE (fun z => by unfold twoOk at z; omega)) (fun e5 => ?_)
  walk_at "st"
  exact q ⟨⟨by omega, by omega⟩, ⟨by omega, by omega⟩, e5⟩
def spMeasured (K : PySem.W.Frag) (C : Addr) : Sp := fun vs H Q E => ∃ (n : Nat) (c d : Addr) (cut : List IP) (t : Tr) (L : Len) (D : Nat → Nat → Rat) (F B : Nat) (a b : Int), vs = [.int n, .ref c, .ref d, .int a, .int b] ∧ n ≤ 1000 ∧ PLt H c cut ∧ Cutting n cut t ∧ LenD K H d t D ∧ Meas n t L D ∧ Bd n D F B ∧ 4 * B ≤ 9000 ∧
  (¬ twoOk n a b → E (.ref C) none H) ∧ (twoOk n a b → FrNew H (D (min a.toNat b.toNat) (max a.toNat b.toNat)) Q)
theorem ok_measured (T : Tx K mg) : FnOk P w K mg base (L2.CX P w) 7 T.a_measured T.fd_measured ["n", "cut", "lengths", "a", "b"] (spMeasured K T.c_NoPost) := by
  refine T.F_measured.okX sc_measured (fun vs H Q E h => ?_) (fun cdv A outer s H vs Q E hr h => ?_)
  · obtain ⟨n, c, d, cut, t, L, D, F, B, a, b, rfl, _⟩ := h
    rfl
  obtain ⟨n, c, d, cut, t, L, D, F, B, a, b, rfl, n2, hc, C, hd, M, Z, hB, hE, q⟩ := h
  refine ⟨_, (pss_cons (ps_expr (pe_call (ok_two_posts T) (hr.mono (by decide)) (by rfl) T.g_two_posts T.F_two_posts.kp T.b_two_posts .nil (passes_call (takes_of rfl rfl rfl rfl) (fun _ _ _ _ h => h)) (pa_cons (pv 0) (pa_cons (pv 3) (pa_cons (pv 4) pa_nil)))))
      (pss_cons (ps_set (i := 5) sc_measured.nd rfl (.inl rfl) (pe_call (ok_stands T) (hr.mono (by decide)) (by rfl) T.g_stands T.F_stands.kp T.b_stands .nil pass0 (pa_cons (pv 0) (pa_cons (pv 1) (pa_cons (pv 2) pa_nil)))))
      (pss_one (ps_ret (pe_call (ok_spread T) (hr.mono (by decide)) (by rfl) T.g_spread T.F_spread.kp T.b_spread .nil pass0 (pa_cons (pe_ix (ix_listK (K := K)) (pv 5) (pe_callB (c_min rfl) (by rfl) T.m_min (by decide +kernel) (pa_cons (pv 3) (pa_cons (pv 4) pa_nil))) (fun _ _ => rfl)) (pa_cons (pe_ix (ix_listK (K := K)) (pv 5) (pe_callB (c_max rfl) (by rfl) T.m_max (by decide +kernel) (pa_cons (pv 3) (pa_cons (pv 4) pa_nil))) (fun _ _ => rfl)) pa_nil))))))), ?_⟩
  walk_at "st"
  refine ⟨n, a, b, rfl, hE, fun ok => ?_⟩
  have q := q ok
  obtain ⟨⟨a0, a1⟩, ⟨b0, b1⟩, ne⟩ := ok
  obtain ⟨x, rfl⟩ : ∃ x : Nat, a = (x : Int) := ⟨a.toNat, by omega⟩
  obtain ⟨y, rfl⟩ : ∃ x : Nat, b = (x : Int) := ⟨b.toNat, by omega⟩
  rw [Int.toNat_natCast, Int.toNat_natCast] at q
  walk_at "st"
  refine ⟨n, c, d, cut, t, L, D, F, B, rfl, n2, hc, C, hd, M, Z, hB, fun l H1 ws S s1 nl hl ha hS hb => ?_⟩
  have pr : ∀ {i : Nat}, i < n → ∃ u, ws[i]? = some (.ref u) ∧ PrV K H1 (.ref u) (S i) := fun {i} hi => by
    obtain ⟨v, hv, r⟩ := ha.get' (i := i) (y := S i) (by rw [List.getElem?_map, List.getElem?_range hi]; rfl)
    obtain ⟨t, u, w, rfl, r'⟩ := id r
    exact ⟨t, hv, r⟩
  have mn : min x y < n := by omega
  have mx : max x y < n := by omega
  obtain ⟨u1, hu1, p1⟩ := pr mn
  obtain ⟨u2, hu2, p2⟩ := pr mx
  have emin : min (x : Int) (y : Int) = ((min x y : Nat) : Int) := by omega
  have emax : max (x : Int) (y : Int) = ((max x y : Nat) : Int) := by omega
  walk_at "st"
  rw [emin]
  refine Pm.w_ixL (SqL.of hl) (atI_nat hu1) ?_
  walk_at "st"
  rw [emax]
  refine Pm.w_ixL (SqL.of hl) (atI_nat hu2) ?_
  walk_at "st"
  refine ⟨u1, u2, _, _, B, rfl, p1, p2, (hb _ mn).1, (hb _ mn).2, (hb _ mx).1, (hb _ mx).2, hB, fun v H2 s2 nv hv => ?_⟩
  rw [hS _ _ mn mx] at hv
  exact q v H2 (s1.trans s2) (s1.free nv) hv
end
section
variable {P : Program} {w : World} {K : PySem.W.Frag} {mg : Str → Option Value} {base : Heap}
/-- the rope of two posts in a cutting -/
theorem Cutting.rope_nat {n : Nat} {cut : List IP} {t : Tr} (C : Cutting n cut t) {a b : Int} (h : tieOf a b ∈ cut) : ∃ x y : Nat, tieOf a b = castP (x, y) ∧ (x, y) ∈ t.ropes 0 ∧ turnedL n cut a b = turnedL n cut x y := by
  obtain ⟨⟨x, y⟩, hq, e⟩ := C.mem.mp h
  refine ⟨x, y, e, hq, ?_⟩
  have e1 := congrArg Prod.fst e
  have e2 := congrArg Prod.snd e
  simp only [tieOf, castP] at e1 e2
  rcases Int.le_total a b with z | z
  · rw [show a = (x : Int) by omega, show b = (y : Int) by omega]
  · rw [turned_comm, show a = (y : Int) by omega, show b = (x : Int) by omega]
/-- the dict of a cutting's lengths behind a turning -/
theorem laid_len {H : Hp} {d' : Addr} {n : Nat} {cut : List IP} {t t' : Tr} {x y m o : Nat} {Rr : List (Nat × Nat)} {D : Nat → Nat → Rat} {ks ks' : List IP} {L L' : IP → IP} (C : Cutting n cut t) (U : Turning n cut t t' x y m o Rr)
    (hks : ∀ p, p ∈ ks ↔ ∃ q, q ∈ t.all 0 ∧ p = castP q) (hL : ∀ q ∈ t.all 0, L (castP q) = rp (D q.1 q.2)) (hLD : LD K H d' ks' L') (h1 : ∀ p, p ∈ ks' ↔ (p ∈ ks ∧ p ≠ castP (x, y)) ∨ p = castP (min m o, max m o)) (h2 : ∀ p ∈ ks, p ≠ castP (x, y) → L' p = L p) (h3 : L' (castP (min m o, max m o)) = rp (D (min m o) (max m o))) : LenD K H d' t' D := by
  refine ⟨ks', L', hLD, fun p => ?_, fun q hq => ?_⟩
  · rw [h1]
    constructor
    · rintro (⟨hp, ne⟩ | rfl)
      · obtain ⟨q, hq, rfl⟩ := (hks p).mp hp
        exact ⟨q, (U.all_iff C).mpr (.inl ⟨hq, fun z => ne (by rw [z])⟩), rfl⟩
      · exact ⟨_, (U.all_iff C).mpr (.inr rfl), rfl⟩
    · rintro ⟨q, hq, rfl⟩
      rcases (U.all_iff C).mp hq with ⟨hq, ne⟩ | rfl
      · exact .inl ⟨(hks _).mpr ⟨q, hq, rfl⟩, fun z => ne (castP_inj z)⟩
      · exact .inr rfl
  · rcases (U.all_iff C).mp hq with ⟨hq, ne⟩ | rfl
    · rw [h2 _ ((hks _).mpr ⟨q, hq, rfl⟩) (fun z => ne (castP_inj z)), hL q hq]
    · exact h3
theorem Meas.turn' {n : Nat} {cut : List IP} {t t' : Tr} {x y m o : Nat} {R : List (Nat × Nat)} {L : Len} {D : Nat → Nat → Rat} (M : Meas n t L D) (C : Cutting n cut t) (U : Turning n cut t t' x y m o R) : Meas n t' (fun p => D p.1 p.2) D :=
  M.turn C U (fun p hp _ => M.tie hp) rfl
def spLaid (K : PySem.W.Frag) (C : Addr) : Sp := fun vs H Q E => ∃ (n : Nat) (c d : Addr) (cut : List IP) (t : Tr) (L : Len) (D : Nat → Nat → Rat) (F B : Nat) (a b : Int), vs = [.int n, .ref c, .ref d, .int a, .int b] ∧ n ≤ 1000 ∧ PLt H c cut ∧ Cutting n cut t ∧ LenD K H d t D ∧ Meas n t L D ∧ Bd n D F B ∧ 4 * B ≤ 9000 ∧
  (tieOf a b ∉ cut → ∀ H', Same H H' → E (.ref C) none H') ∧ (tieOf a b ∈ cut → ∀ (d' : Addr) (H' : Hp) (t' : Tr), Same H H' → H d' = none → Cutting n (turnedL n cut a b) t' → LenD K H' d' t' D → Meas n t' (fun p => D p.1 p.2) D → Q (.ref d') H')
theorem ok_laid (T : Tx K mg) : FnOk P w K mg base (L2.CX P w) 8 T.a_laid T.fd_laid ["n", "cut", "lengths", "a", "b"] (spLaid K T.c_NoRope) := by
  refine T.F_laid.okX sc_laid (fun vs H Q E h => ?_) (fun cdv A outer s H vs Q E hr h => ?_)
  · obtain ⟨n, c, d, cut, t, L, D, F, B, a, b, rfl, _⟩ := h
    rfl
  obtain ⟨n, c, d, cut, t, L, D, F, B, a, b, rfl, n2, hc, C, hd, M, Z, hB, hE, q⟩ := h
  have cl := C.cut_len
  have n3 := C.n3
  refine ⟨_, (pss_cons (ps_set (i := 5) sc_laid.nd rfl (.inl rfl) (pe_call (ok_tie_of T) (hr.mono (by decide)) (by rfl) T.g_tie_of T.F_tie_of.kp T.b_tie_of .nil pass0 (pa_cons (pv 3) (pa_cons (pv 4) pa_nil))))
      (pss_cons (ps_if (pt_cmpR (op_notInDK (K := K) hr.u65) (pv 5) (pv 1) (by rfl)) (pss_one (ps_raise rfl (takes_of rfl rfl rfl rfl) (pmk_own PySem.F.excBase_ValueError T.x_NoRope T.g_NoRope T.k_NoRope (raises_own T.b_NoRope T.t_NoRope) rfl))) pss_nil)
      (pss_cons (ps_set (i := 6) sc_laid.nd rfl (.inl rfl) (pe_ix (ix_listK (K := K)) (pe_lc (own := [("one", 7)]) (g := gName 7) rfl sc_laid.nd (k_il (K := K) (pi_list (pe_call (ok_turned T) (hr.mono (by decide)) (by rfl) T.g_turned T.F_turned.kp T.b_turned .nil (passes_call (takes_of rfl rfl rfl rfl) (fun _ _ _ _ h => h)) (pa_cons (pv 0) (pa_cons (pv 1) (pa_cons (pv 3) (pa_cons (pv 4) pa_nil))))))) (blkOk_by (N := N_laid) (sc := defScope s_laid) (by decide +kernel)) (fun _ _ _ _ _ => (pg_name (i := 7) sc_laid.nd rfl (.inl rfl))) (fun _ _ _ _ _ => (pts_one (pt_cmpR (op_notInDK (K := K) hr.u65) (pv 7) (pv 1) (by rfl)))) (fun _ _ _ _ _ => (pv 7))) (pe_int) (fun _ _ => rfl)))
      (pss_cons (ps_set (i := 8) sc_laid.nd rfl (.inl rfl) (pe_dnewT))
      (pss_cons (ps_lock (ps_for (passes_of rfl) rfl (pi_itemsT (pv 2)) (k_gt (K := K) (pg_tup (by rfl) (pgs_cons (pg_name (i := 9) sc_laid.nd rfl (.inl rfl)) (pgs_cons (pg_name (i := 10) sc_laid.nd rfl (.inl rfl)) pgs_nil)))) (pss_one (ps_if (pt_cmpR (op_neDK (K := K) hr.units) (pv 9) (pv 5) (nomark _)) (pss_one (ps_dput (hu_of hr) (pv 8) (pv 9) (pv 10) rfl)) pss_nil))))
      (pss_cons (ps_dput (hu_of hr) (pv 8) (pv 6) (pe_call (ok_measured T) (hr.mono (by decide)) (by rfl) T.g_measured T.F_measured.kp T.b_measured .nil (passes_call (takes_of rfl rfl rfl rfl) (fun _ _ _ _ h => h)) (pa_cons (pv 0) (pa_cons (pv 1) (pa_cons (pv 2) (pa_cons (pe_ix (ix_tupK (K := K)) (pv 6) (pe_int) (fun _ _ => rfl)) (pa_cons (pe_ix (ix_tupK (K := K)) (pv 6) (pe_int) (fun _ _ => rfl)) pa_nil)))))) rfl)
      (pss_one (ps_ret (pv 8))))))))), ?_⟩
  walk_at "st"
  refine ⟨a, b, rfl, fun r H1 s1 nr hr1 => ?_⟩
  obtain ⟨cv1, hc1, hp1⟩ := hc.same s1
  walk_at "st"
  refine Pm.w_ninPL hr1 (SqL.of hc1) hp1 ?_
  walk_at "st"
  refine Pm.w_iteN (fun e => ?_) (fun e => ?_)
  · exact hE e _ s1
  have q := q e
  obtain ⟨x, y, et, hxy, eT⟩ := C.rope_nat e
  obtain ⟨t', m, o, Rr, U⟩ := C.turn hxy
  have fresh := U.fresh C
  have bl : 2 ≤ (besideL n (tiesL n cut) a b).length := by
    rw [C.beside_len (mem_ties.mpr (.inr e)), if_pos e]
    omega
  walk_at "st"
  refine ⟨n, c, cut, a, b, rfl, by omega, n2, ⟨cv1, hc1, hp1⟩, by omega, fun z => absurd e z, fun _ => ⟨bl, fun l H2 ws s2 nl hl hpl => ?_⟩⟩
  rw [eT] at hpl
  have wl := hpl.length
  rw [U.len C] at wl
  have s12 := s1.trans s2
  walk_at "st"
  refine Pm.w_rdL (SqL.of hl) ?_
  refine Pm.w_lcLf (R := Pr) pr_mono (S := Pr) pr_mono (SqL.of hl) hpl id (fun p => !decide (p ∈ cut)) (by have := hpl.length; omega) (fun D1 x1 p H3 Nx hD hm hs s3 put skip => ?_) (fun D1 H3 ws3 hD s3 hd3 ha => ?_)
  · have s13 := s2.trans s3
    walk_at "st"
    refine Pm.w_ninPL hs (SqL.of (s13 _ _ hc1)) (prs_keep (keeps s13) hp1) ?_
    walk_at "st"
    refine Pm.w_iteN (fun z => ?_) (fun z => ?_)
    · walk_at "st"
      exact put _ _ (by simp [z]) (Same.refl _) hs
    · exact skip _ (by simp [z]) (Same.refl _)
  rw [List.map_id, fresh] at ha
  have hw : ∃ u, ws3 = [.ref u] ∧ Pr H3 (.ref u) (castP (min m o, max m o)) := by
    match ws3, ha with
    | [x], h =>
      obtain ⟨u, rfl, hu⟩ := h.1
      exact ⟨u, rfl, u, rfl, hu⟩
  obtain ⟨u, rfl, hu⟩ := hw
  walk_at "st"
  refine Pm.w_ixL (SqL.of hd3) (show atI [V.ref u] 0 = some (.ref u) from rfl) ?_
  walk_at "st"
  refine Pm.w_dnewT (fun f hf => ?_)
  have s4 := same_new hf (.dT [])
  have s03 := s12.trans s3
  have hrope : Pr H3 (.ref r) (castP (x, y)) := by rw [← et]; exact hr1.keep (keeps (s2.trans s3))
  obtain ⟨ks, Ld, hLD, hks, hLv⟩ := hd.same s03
  have hfd : f ≠ d := by
    obtain ⟨_, es3, h1, _⟩ := hLD
    exact (ne_of_none h1 hf).symm
  walk_at "st"
  refine w_forItems hLD s4 (fun od uo i σ H4 => ∃ x1 y1, σ = [some (.int n), some (.ref c), some (.ref d), some (.int a), some (.int b), some (.ref r), some (.ref u), none, some (.ref f), x1, y1] ∧ ∃ kf Lf, LD K H4 f kf Lf ∧ kf.length ≤ i ∧ (∀ p, p ∈ kf ↔ p ∈ ks.take i ∧ p ≠ castP (x, y)) ∧ ∀ p ∈ kf, Lf p = Ld p) (fun od uo Q _ _ h => Pm.w_var rfl h) ?_ ?_ ?_
  · intro od uo huo
    refine ⟨_, _, rfl, [], Ld, ?_, Nat.le_refl _, fun p => by simp, fun _ h => nomatch h⟩
    exact ld_nil (by rw [upd_ne hfd]; exact upd_same) _
  · rintro od es i k σ H4 hes hki sl kp ⟨x1, y1, rfl, kf, Lf, hLf, kl, hkf, hLfv⟩ T1 p v hT1 hp hv
    have sT := same_new hT1 (.tup [.ref p, v])
    obtain ⟨ur, er, hur⟩ := (hrope.keep kp).keep (keeps sT)
    cases er
    have hp2 := hp.keep (keeps sT)
    have hLf2 := hLf.same sT
    have ktk : ks.take (i + 1) = ks.take i ++ [k] := by rw [List.take_add_one, hki] <;> rfl
    have knd := hLD.nd
    have knot : k ∉ ks.take i := fun z => by
      have e1 : (ks.take (i + 1)).Nodup := knd.sublist (List.take_sublist _ _)
      rw [ktk, List.nodup_append] at e1
      exact e1.2.2 k z k List.mem_cons_self rfl
    have ksl : i < ks.length := (List.getElem?_eq_some_iff.mp hki).1
    walk_at "st"
    refine Pm.w_gtup (SqT.of upd_same) rfl ?_
    walk_at "st"
    refine Pm.w_neP hp2 ⟨_, rfl, hur⟩ ?_
    walk_at "st"
    refine Pm.w_iteN (fun z => ?_) (fun z => ?_)
    · walk_at "st"
      have kls : kf.length < 1000000 := by
        have h1 := hLf.nd
        have h2 : kf.length ≤ i := kl
        have h3 := hLD.nd
        have h4 : ks.length = (tiesL n cut).length := perm_len hLD.nd C.ties_nodup (fun p => by rw [hks, C.ties])
        have h5 : (tiesL n cut).length ≤ 3000 := by rw [tiesL, sortP_len, List.length_append, sides0_len (by omega)]; omega
        omega
      refine w_ldPut hLf2 hp2 (hv.keep (keeps sT)) kls (fun es5 hL5 kp5 => ?_)
      have nk : k ∉ kf := fun z => knot ((hkf k).mp z).1
      refine ⟨same_but (lock_none hes hf) (sl.trans sT), _, _, rfl, _, _, hL5, Nat.le_trans (putk_len _ _) (by omega), fun p' => ?_, fun p' hp' => ?_⟩
      · rw [mem_putk, hkf, ktk, List.mem_append, List.mem_singleton]
        constructor
        · rintro (⟨h1, h2⟩ | rfl)
          · exact ⟨.inl h1, h2⟩
          · exact ⟨.inr rfl, z⟩
        · rintro ⟨h1 | h1, h2⟩
          · exact .inl ⟨h1, h2⟩
          · exact .inr h1
      · by_cases e1 : p' = k
        · rw [e1, updF_same]
        · rw [updF_ne e1]
          rcases mem_putk.mp hp' with h | h
          · exact hLfv p' h
          · exact absurd h e1
    · walk_at "st"
      refine ⟨sl.trans sT, _, _, rfl, kf, Lf, hLf2, by omega, fun p' => ?_, hLfv⟩
      rw [hkf, ktk, List.mem_append, List.mem_singleton]
      constructor
      · rintro ⟨h1, h2⟩
        exact ⟨.inl h1, h2⟩
      · rintro ⟨h1 | h1, h2⟩
        · exact ⟨h1, h2⟩
        · exact absurd (h1.trans z) h2
  · rintro od es σ H4 hes sl ⟨x1, y1, rfl, kf, Lf, hLf, kl, hkf, hLfv⟩ s5
    rw [List.take_length] at hkf
    have hu5 := hu.keep (keeps s5)
    have s05 := s03.trans s5
    have ok : twoOk n ((min m o : Nat) : Int) ((max m o : Nat) : Int) := by
      have := U.new_bd C
      exact ⟨⟨by omega, by omega⟩, ⟨by omega, by omega⟩, by omega⟩
    walk_at "st"
    refine Pm.w_ixT hu5.tup (atI2 _ _).1 ?_
    walk_at "st"
    refine Pm.w_ixT hu5.tup (atI2 _ _).2 ?_
    walk_at "st"
    have hLf5 : LD K (upd H4 d (.dT es)) f kf Lf := hLf.keep (o := .dT es) (fun t xs e => by rw [upd_ne (ne_of e (sl _ _ upd_same) (fun z => nomatch z))]; exact e) (by rw [upd_ne hfd])
    refine ⟨n, c, d, cut, t, L, D, F, B, _, _, rfl, n2, hc.same s05, C, hd.same s05, M, Z, hB, fun z => absurd ok z, fun _ v H6 s6 nv hv => ?_⟩
    have hv : H6 v = some (.tup [.int (D (min (min m o) (max m o)) (max (min m o) (max m o))).num, .int ((D (min (min m o) (max m o)) (max (min m o) (max m o))).den : Int)]) := hv
    have bd := U.new_bd C
    rw [Nat.min_eq_left (a := min m o) (by omega), Nat.max_eq_right (a := min m o) (by omega)] at hv
    walk_at "st"
    have kls : kf.length < 1000000 := by
      have h4 : ks.length = (tiesL n cut).length := perm_len hLD.nd C.ties_nodup (fun p => by rw [hks, C.ties])
      have h5 : (tiesL n cut).length ≤ 3000 := by rw [tiesL, sortP_len, List.length_append, sides0_len (by omega)]; omega
      omega
    refine w_ldPut (hLf5.same s6) (hu5.keep (keeps s6)) (frv_new hv) kls (fun es7 hL7 kp7 => ?_)
    walk_at "st"
    have Hf : H f = none := s03.free hf
    rw [eT] at q
    have nnew : castP (min m o, max m o) ∉ ks := fun z => U.new_notin C (C.ties.mpr ((hks _).mp z))
    refine q f _ t' (same_but Hf (s05.trans s6)) Hf U.cut' ?_ (M.turn' C U)
    refine laid_len C U hks hLv hL7 (fun p => by rw [mem_putk, hkf]) (fun p hp ne => ?_) updF_same
    have ne2 : p ≠ castP (min m o, max m o) := fun z => nnew (z ▸ hp)
    rw [updF_ne ne2]
    exact hLfv p ((hkf p).mpr ⟨hp, ne⟩)
end
section
variable {P : Program} {w : World} {K : PySem.W.Frag} {mg : Str → Option Value} {base : Heap}
def partOk (p : IP) : Prop := 0 < p.2 ∧ Int.gcd p.1 p.2 = 1
def lenOk (p : IP) : Prop := partOk p ∧ 0 < p.1
instance (p : IP) : Decidable (partOk p) := by unfold partOk; infer_instance
instance (p : IP) : Decidable (lenOk p) := by unfold lenOk; infer_instance
def spIsPart (K : PySem.W.Frag) : Sp := fun vs H Q _ => ∃ (t : Addr) (p : IP), vs = [.ref t] ∧ FrV K H (.ref t) p ∧ Q (.bl (decide (partOk p))) H
theorem ok_is_part (T : Tx K mg) : FnOk P w K mg base CX0 2 T.a_is_part T.fd_is_part ["pair"] (spIsPart K) := by
  refine T.F_is_part.ok sc_is_part (fun vs H Q E h => ?_) (fun cdv A outer s H vs Q E hr h => ?_)
  · obtain ⟨t, p, rfl, _⟩ := h
    rfl
  obtain ⟨t, p, rfl, ht, q⟩ := h
  refine ⟨_, (pss_cons (ps_if (PW.pt (pw_or (pt_cmpR op_ne (pe_callB (c_len (K := K)) (by rfl) T.m_len PySem.boot_len (pa_cons (pv 0) pa_nil)) (pe_int) (nomark _)) (pw_or1 (pt_cmpR op_le (pe_ix (ix_tupK (K := K)) (pv 0) (pe_int) (fun _ _ => rfl)) (pe_int) (nomark _))))) (pss_one (ps_ret (pe_bl))) pss_nil)
      (pss_one (ps_ret (pe_cmpR op_eq (pe_call (ok_measure T) (hr.mono (by decide)) (by rfl) T.g_measure T.F_measure.kp T.b_measure .nil pass0 (pa_cons (pe_ix (ix_tupK (K := K)) (pv 0) (pe_int) (fun _ _ => rfl)) (pa_cons (pe_ix (ix_tupK (K := K)) (pv 0) (pe_int) (fun _ _ => rfl)) pa_nil))) (pe_int) (nomark _))))), ?_⟩
  walk_at "st"
  refine Pm.w_lenT ht.tup ?_
  walk_at "st"
  refine Pm.w_iteN (fun z => absurd rfl z) (fun _ => ?_)
  walk_at "st"
  refine Pm.w_ixT ht.tup (atI2 _ _).2 ?_
  walk_at "st"
  refine Pm.w_ite (fun z => ?_) (fun z => ?_)
  · walk_at "st"
    rw [decide_eq_false (show ¬ partOk p from fun k => by have := k.1; omega)] at q
    exact q
  · walk_at "st"
    refine Pm.w_ixT ht.tup (atI2 _ _).1 ?_
    walk_at "st"
    refine Pm.w_ixT ht.tup (atI2 _ _).2 ?_
    walk_at "st"
    refine ⟨_, _, rfl, ?_⟩
    walk_at "st"
    rw [show decide (((Int.gcd p.1 p.2 : Nat) : Int) = 1) = decide (partOk p) from decide_eq_decide.mpr ⟨fun k => ⟨by omega, by omega⟩, fun k => by have := k.2; omega⟩]
    exact q
def spIsLength (K : PySem.W.Frag) : Sp := fun vs H Q _ => ∃ (t : Addr) (p : IP), vs = [.ref t] ∧ FrV K H (.ref t) p ∧ Q (.bl (decide (lenOk p))) H
theorem ok_is_length (T : Tx K mg) : FnOk P w K mg base CX0 3 T.a_is_length T.fd_is_length ["pair"] (spIsLength K) := by
  refine T.F_is_length.ok sc_is_length (fun vs H Q E h => ?_) (fun cdv A outer s H vs Q E hr h => ?_)
  · obtain ⟨t, p, rfl, _⟩ := h
    rfl
  obtain ⟨t, p, rfl, ht, q⟩ := h
  refine ⟨_, (pss_one (ps_ret ((pe_and (pe_call (ok_is_part T) (hr.mono (by decide)) (by rfl) T.g_is_part T.F_is_part.kp T.b_is_part .nil pass0 (pa_cons (pv 0) pa_nil)) (pe_one (pe_cmpR op_gt (pe_ix (ix_tupK (K := K)) (pv 0) (pe_int) (fun _ _ => rfl)) (pe_int) (nomark _))))))), ?_⟩
  walk_at "st"
  refine ⟨t, p, rfl, ht, ?_⟩
  walk_at "st"
  refine Pm.w_ite (fun z => ?_) (fun z => ?_)
  · walk_at "st"
    refine Pm.w_ixT ht.tup (atI2 _ _).1 ?_
    walk_at "st"
    rw [show decide (p.1 > 0) = decide (lenOk p) from decide_eq_decide.mpr ⟨fun k => ⟨z, k⟩, fun k => k.2⟩]
    exact q
  · walk_at "st"
    rw [decide_eq_false (show ¬ lenOk p from fun k => z k.1)] at q
    exact q
end
section
variable {P : Program} {w : World} {K : PySem.W.Frag} {mg : Str → Option Value} {base : Heap}
/-- the lengths of a dict, those at a post multiplied -/
def strL (R : IP → Rat) (p : Int) (f : Rat) (k : IP) : Rat := if p = k.1 ∨ p = k.2 then R k * f else R k
theorem LenD.stretch {H : Hp} {d : Addr} {n : Nat} {cut : List IP} {t : Tr} {D : Nat → Nat → Rat} {R : IP → Rat} {ks : List IP} {p : Nat} {f : Rat} (h : LD K H d ks (fun k => rp (strL R p f k))) (hks : ∀ p, p ∈ ks ↔ ∃ q, q ∈ t.all 0 ∧ p = castP q) (hR : ∀ q ∈ t.all 0, R (castP q) = D q.1 q.2) : LenD K H d t (strD D p f) := by
  refine ⟨ks, _, h, hks, fun q hq => ?_⟩
  congr 1
  unfold strL strD
  rw [hR q hq]
  by_cases c : q.1 = p ∨ q.2 = p
  · rw [if_pos c, if_pos (show (p : Int) = (castP q).1 ∨ (p : Int) = (castP q).2 by simp only [castP]; omega)]
    grind
  · rw [if_neg c, if_neg (show ¬ ((p : Int) = (castP q).1 ∨ (p : Int) = (castP q).2) by simp only [castP]; omega)]
theorem in_pair {H : Hp} {Q : VK} {t : Addr} {p : IP} {i : Int} (h : Pr H (.ref t) p) (q : Q (.bl (decide (i = p.1 ∨ i = p.2))) H) : rIn K false (.int i) (.ref t) H Q := by
  refine w_inInts (ns := [p.1, p.2]) (.inr h.tup) ?_
  have e : decide (i ∈ [p.1, p.2]) = decide (i = p.1 ∨ i = p.2) := by simp
  rw [e]
  exact q
/-- lengths as fractions -/
theorem LenD.rats {H : Hp} {d : Addr} {t : Tr} {D : Nat → Nat → Rat} (h : LenD K H d t D) : ∃ ks, LD K H d ks (fun k => rp (D k.1.toNat k.2.toNat)) ∧ (∀ p, p ∈ ks ↔ ∃ q, q ∈ t.all 0 ∧ p = castP q) := by
  obtain ⟨ks, L, h1, h2, h3⟩ := h
  refine ⟨ks, h1.congr fun k hk => ?_, h2⟩
  obtain ⟨q, hq, rfl⟩ := (h2 k).mp hk
  rw [h3 q hq]
  rfl
def spStretched (K : PySem.W.Frag) (C1 C2 : Addr) : Sp := fun vs H Q E => ∃ (n : Nat) (d fa : Addr) (cut : List IP) (t : Tr) (L : Len) (D : Nat → Nat → Rat) (F B m : Nat) (post : Int) (fp : IP), vs = [.int n, .ref d, .int post, .ref fa] ∧ n ≤ 1000 ∧ Cutting n cut t ∧ LenD K H d t D ∧ Meas n t L D ∧ Bd n D F B ∧ B + m ≤ 9000 ∧ FrV K H (.ref fa) fp ∧ fp.1.natAbs < 2 ^ m ∧ fp.2.natAbs < 2 ^ m ∧
  (¬ (0 ≤ post ∧ post < n) → E (.ref C1) none H) ∧ (0 ≤ post ∧ post < n → ¬ lenOk fp → E (.ref C2) none H) ∧
  (0 ≤ post ∧ post < n → ∀ f : Rat, fp = rp f → 0 < f → rb f m → ∀ (d' : Addr) (H' : Hp), Same H H' → H d' = none → LenD K H' d' t (strD D post.toNat f) → Q (.ref d') H')
theorem ok_stretched (T : Tx K mg) : FnOk P w K mg base (L2.CX P w) 4 T.a_stretched T.fd_stretched ["n", "lengths", "post", "factor"] (spStretched K T.c_NoPost T.c_NoFraction) := by
  refine T.F_stretched.okX sc_stretched (fun vs H Q E h => ?_) (fun cdv A outer s H vs Q E hr h => ?_)
  · obtain ⟨n, d, fa, cut, t, L, D, F, B, m, post, fp, rfl, _⟩ := h
    rfl
  obtain ⟨n, d, fa, cut, t, L, D, F, B, m, post, fp, rfl, n2, C, hd, M, Z, hB, hfa, fb1, fb2, hE1, hE2, q⟩ := h
  have hw := C.w
  refine ⟨_, (pss_cons (ps_if (PW.pt (pw_or (pt_cmpR op_lt (pv 2) (pe_int) (nomark _)) (pw_or1 (pt_cmpR op_ge (pv 2) (pv 0) (nomark _))))) (pss_one (ps_raise rfl (takes_of rfl rfl rfl rfl) (pmk_own PySem.F.excBase_ValueError T.x_NoPost T.g_NoPost T.k_NoPost (raises_own T.b_NoPost T.t_NoPost) rfl))) pss_nil)
      (pss_cons (ps_if (pt_not (pt_val (pe_call (ok_is_length T) (hr.mono (by decide)) (by rfl) T.g_is_length T.F_is_length.kp T.b_is_length .nil pass0 (pa_cons (pv 3) pa_nil)))) (pss_one (ps_raise rfl (takes_of rfl rfl rfl rfl) (pmk_own PySem.F.excBase_ValueError T.x_NoFraction T.g_NoFraction T.k_NoFraction (raises_own T.b_NoFraction T.t_NoFraction) rfl))) pss_nil)
      (pss_cons (ps_set (i := 4) sc_stretched.nd rfl (.inl rfl) (pe_dnewT))
      (pss_cons (ps_lock (ps_for (passes_of rfl) rfl (pi_itemsT (pv 1)) (k_gt (K := K) (pg_tup (by rfl) (pgs_cons (pg_name (i := 5) sc_stretched.nd rfl (.inl rfl)) (pgs_cons (pg_name (i := 6) sc_stretched.nd rfl (.inl rfl)) pgs_nil)))) (pss_one (ps_if (pt_cmpR (op_in_seqK (K := K)) (pv 2) (pv 5) (by rfl)) (pss_one (ps_dput (hu_of hr) (pv 4) (pv 5) (pe_call (ok_times T) (hr.mono (by decide)) (by rfl) T.g_times T.F_times.kp T.b_times .nil pass0 (pa_cons (pv 6) (pa_cons (pv 3) pa_nil))) rfl)) (pss_one (ps_dput (hu_of hr) (pv 4) (pv 5) (pv 6) rfl))))))
      (pss_one (ps_ret (pv 4))))))), ?_⟩
  walk_at "st"
  refine Pm.w_ite (fun e => hE1 (by omega)) (fun e1 => ?_)
  walk_at "st"
  refine Pm.w_ite (fun e => hE1 (by omega)) (fun e2 => ?_)
  have pok : 0 ≤ post ∧ post < (n : Int) := ⟨by omega, by omega⟩
  walk_at "st"
  refine ⟨fa, fp, rfl, hfa, ?_⟩
  walk_at "st"
  refine Pm.w_iteN (fun e => hE2 pok e) (fun lk => ?_)
  obtain ⟨p, rfl⟩ : ∃ p : Nat, post = (p : Int) := ⟨post.toNat, by omega⟩
  have ef : fp = rp (Rat.divInt fp.1 fp.2) := lenOk_rat lk.1.1 lk.1.2
  generalize Rat.divInt fp.1 fp.2 = f at ef
  have fpos : 0 < f := by
    have h1 : 0 < f.num := by have := lk.2; rw [ef] at this; exact this
    have h2 : (0 : Rat) ≤ f := Rat.num_nonneg.mp (by omega)
    have h3 : f ≠ 0 := fun z => by rw [z] at h1; exact absurd h1 (by decide)
    grind
  have frb : rb f m := by
    rw [ef] at fb1 fb2
    exact ⟨fb1, by have : ((f.den : Int)).natAbs < 2 ^ m := fb2; omega⟩
  have q := q pok f ef fpos frb
  rw [ef] at hfa
  rw [Int.toNat_natCast] at q
  obtain ⟨ks, hLD, hks⟩ := hd.rats
  generalize hRR : (fun k : IP => D k.1.toNat k.2.toNat) = R at hLD
  have eR : ∀ q ∈ t.all 0, R (castP q) = D q.1 q.2 := fun q _ => by rw [← hRR]; rfl
  have hLD : LD K H d ks (fun k => rp (R k)) := by rw [← hRR]; exact hLD.congr fun _ _ => rfl
  have bR : ∀ k ∈ ks, rb (R k) B := fun k hk => by
    obtain ⟨q, hq, rfl⟩ := (hks k).mp hk
    rw [eR q hq]
    have := Tr.bd hq
    exact Z.rb (by omega) (by omega)
  walk_at "st"
  refine Pm.w_dnewT (fun g hg => ?_)
  have s1 := same_new hg (.dT [])
  have hgd : g ≠ d := by
    obtain ⟨_, es3, h1, _⟩ := hLD
    exact (ne_of_none h1 hg).symm
  have ksl : ks.length ≤ 3000 := by
    have h4 : ks.length = (tiesL n cut).length := perm_len hLD.nd C.ties_nodup (fun p => by rw [hks, C.ties])
    have h5 := C.cut_len
    have h6 : (tiesL n cut).length ≤ 3000 := by rw [tiesL, sortP_len, List.length_append, sides0_len (by omega)]; omega
    omega
  walk_at "st"
  refine w_forItems hLD s1 (fun od uo i σ H4 => ∃ x1 y1, σ = [some (.int n), some (.ref d), some (.int (p : Int)), some (.ref fa), some (.ref g), x1, y1] ∧ LD K H4 g (ks.take i) (fun k => rp (strL R p f k))) (fun od uo Q _ _ h => Pm.w_var rfl h) ?_ ?_ ?_
  · intro od uo huo
    exact ⟨_, _, rfl, by rw [List.take_zero]; exact ld_nil (by rw [upd_ne hgd]; exact upd_same) _⟩
  · rintro od es i k σ H4 hes hki sl kp ⟨x1, y1, rfl, hLf⟩ T1 b v hT1 hb hv
    have sT := same_new hT1 (.tup [.ref b, v])
    have hb2 := hb.keep (keeps sT)
    have hLf2 := hLf.same sT
    have ktk : ks.take (i + 1) = ks.take i ++ [k] := by rw [List.take_add_one, hki] <;> rfl
    have knot : k ∉ ks.take i := fun z => by
      have e1 : (ks.take (i + 1)).Nodup := hLD.nd.sublist (List.take_sublist _ _)
      rw [ktk, List.nodup_append] at e1
      exact e1.2.2 k z k List.mem_cons_self rfl
    have mk := List.mem_of_getElem? hki
    have fin : ∀ {H5 : Hp} {u : V} {r : Rat}, Same (upd H4 T1 (.tup [.ref b, v])) H5 → FrV K H5 u (rp r) → r = strL R p f k → ∀ x1 y1, DPK (fun σ' H' => Same (upd H d (.frz od (.dT es))) H' ∧ ∃ x1 y1, σ' = [some (.int n), some (.ref d), some (.int (p : Int)), some (.ref fa), some (.ref g), x1, y1] ∧ LD K H' g (ks.take (i + 1)) (fun k => rp (strL R p f k))) [some (.int n), some (.ref d), some (.int (p : Int)), some (.ref fa), some (.ref g), x1, y1] u (.ref g) (.ref b) H5 := by
      intro H5 u r s5 hu er x1 y1
      refine w_ldPut (hLf2.same s5) (hb2.keep (keeps s5)) hu (by rw [List.length_take]; omega) (fun es5 hL5 kp5 => ?_)
      refine ⟨same_but (lock_none hes hg) ((sl.trans sT).trans s5), x1, y1, rfl, ?_⟩
      rw [ktk, ← putk_new knot]
      refine hL5.congr fun j hj => ?_
      by_cases e : j = k
      · rw [e, updF_same, er]
      · rw [updF_ne e]
    obtain ⟨vt, rfl, hvt⟩ := hv.keep (keeps sT)
    have hv2 : FrV K _ (.ref vt) (rp (R k)) := ⟨vt, rfl, hvt⟩
    walk_at "st"
    refine Pm.w_gtup (SqT.of upd_same) rfl ?_
    walk_at "st"
    refine in_pair hb2 ?_
    walk_at "st"
    refine Pm.w_ite (fun z => ?_) (fun z => ?_)
    · walk_at "st"
      refine ⟨_, _, _, _, B, m, rfl, hv2.rat, (hfa.keep (kp.trans (keeps sT))).rat, bR k mk, frb, by omega, fun u H5 s5 nu hu => ?_⟩
      walk_at "st"
      exact fin s5 (frv_new hu) (by unfold strL; rw [if_pos z]) _ _
    · walk_at "st"
      exact fin (Same.refl _) hv2 (by unfold strL; rw [if_neg z]) _ _
  · rintro od es σ H4 hes sl ⟨x1, y1, rfl, hLf⟩ s5
    walk_at "st"
    rw [List.take_length] at hLf
    have hLf5 : LD K (upd H4 d (.dT es)) g ks (fun k => rp (strL R p f k)) := hLf.keep (o := .dT es) (fun t xs e => by rw [upd_ne (ne_of e (sl _ _ upd_same) (fun z => nomatch z))]; exact e) (by rw [upd_ne hgd])
    exact q g _ s5 hg (LenD.stretch (n := n) (cut := cut) hLf5 hks eR)
end
section
variable {P : Program} {w : World} {K : PySem.W.Frag} {mg : Str → Option Value} {base : Heap}
theorem ok_crosses (T : Tx K mg) : FnOk P w K mg base CX0 1 T.a_crosses T.fd_crosses ["one", "other"] (spCross K) := by
  refine T.F_crosses.ok sc_crosses (fun vs H Q E h => ?_) (fun cdv A outer s H vs Q E hr h => ?_)
  · obtain ⟨t, u, a, b, c, d, rfl, _⟩ := h
    rfl
  obtain ⟨t, u, a, b, c, d, rfl, h1, h2, q⟩ := h
  refine ⟨_, (pss_cons (ps_set (i := 2) sc_crosses.nd rfl (.inl rfl) (pe_callB (c_min rfl) (by rfl) T.m_min (by decide +kernel) (pa_cons (pe_ix (ix_tupK (K := K)) (pv 0) (pe_int) (fun _ _ => rfl)) (pa_cons (pe_ix (ix_tupK (K := K)) (pv 0) (pe_int) (fun _ _ => rfl)) pa_nil))))
      (pss_cons (ps_set (i := 3) sc_crosses.nd rfl (.inl rfl) (pe_callB (c_max rfl) (by rfl) T.m_max (by decide +kernel) (pa_cons (pe_ix (ix_tupK (K := K)) (pv 0) (pe_int) (fun _ _ => rfl)) (pa_cons (pe_ix (ix_tupK (K := K)) (pv 0) (pe_int) (fun _ _ => rfl)) pa_nil))))
      (pss_cons (ps_for PassesOwn.never rfl (k_it (K := K) (pi_tup (pv 1))) (pg_name (i := 4) sc_crosses.nd rfl (.inl rfl)) (pss_one (ps_if (PW.pt (pw_or (pt_cmpR op_eq (pv 4) (pv 2) (nomark _)) (pw_or1 (pt_cmpR op_eq (pv 4) (pv 3) (nomark _))))) (pss_one (ps_ret (pe_bl))) pss_nil)))
      (pss_one (ps_ret (pe_cmpR op_ne (pe_chain op_lt op_lt (pv 2) (pe_ix (ix_tupK (K := K)) (pv 1) (pe_int) (fun _ _ => rfl)) (pv 3)) (pe_chain op_lt op_lt (pv 2) (pe_ix (ix_tupK (K := K)) (pv 1) (pe_int) (fun _ _ => rfl)) (pv 3)) (nomark _))))))), ?_⟩
  walk_at "st"
  refine Pm.w_ixT h1 (atI2 _ _).1 ?_
  walk_at "st"
  refine Pm.w_ixT h1 (atI2 _ _).2 ?_
  walk_at "st"
  refine Pm.w_ixT h1 (atI2 _ _).1 ?_
  walk_at "st"
  refine Pm.w_ixT h1 (atI2 _ _).2 ?_
  walk_at "st"
  refine Pm.w_rdT h2 ?_
  refine Pm.w_forT (xs := [.int c, .int d]) (fun i σ H' => ∃ x4, σ = [some (.ref t), some (.ref u), some (.int (min a b)), some (.int (max a b)), x4] ∧ H' = H ∧ (1 ≤ i → c ≠ min a b ∧ c ≠ max a b) ∧ (2 ≤ i → d ≠ min a b ∧ d ≠ max a b)) ?_ ?_ ?_ ?_
  · exact ⟨_, rfl, rfl, fun h => absurd h (by omega), fun h => absurd h (by omega)⟩
  · rintro i σ H' _ ⟨x4, rfl, rfl, _⟩
    exact h2
  · rintro i x σ H' hx ⟨x4, rfl, rfl, i1, i2⟩
    match i, hx with
    | 0, hx =>
      cases hx
      walk_at "st"
      refine Pm.w_ite (fun e => ?_) (fun e => ?_)
      · walk_at "st"
        rw [cross_no (.inl e)] at q
        exact q
      · walk_at "st"
        refine Pm.w_ite (fun e => ?_) (fun e2 => ?_)
        · walk_at "st"
          rw [cross_no (.inr (.inl e))] at q
          exact q
        · walk_at "st"
          exact ⟨_, rfl, rfl, fun _ => ⟨e, e2⟩, fun h => absurd h (by omega)⟩
    | 1, hx =>
      cases hx
      walk_at "st"
      refine Pm.w_ite (fun e => ?_) (fun e => ?_)
      · walk_at "st"
        rw [cross_no (.inr (.inr (.inl e)))] at q
        exact q
      · walk_at "st"
        refine Pm.w_ite (fun e => ?_) (fun e2 => ?_)
        · walk_at "st"
          rw [cross_no (.inr (.inr (.inr e)))] at q
          exact q
        · walk_at "st"
          exact ⟨_, rfl, rfl, fun _ => i1 (by omega), fun _ => ⟨e, e2⟩⟩
    | i + 2, hx => simp at hx
  · rintro σ H' ⟨x4, rfl, rfl, i1, i2⟩
    have j1 := i1 (by show 1 ≤ 2; decide)
    have j2 := i2 (by show 2 ≤ 2; decide)
    have ne := And.intro j1.1 (And.intro j1.2 j2)
    walk_at "st"
    refine Pm.w_ixT h2 (atI2 _ _).1 ?_
    walk_at "st"
    refine Pm.w_ite (fun e1 => ?_) (fun e1 => ?_)
    · walk_at "st"
      refine Pm.w_ixT h2 (atI2 _ _).2 ?_
      walk_at "st"
      refine Pm.w_ite (fun e3 => ?_) (fun e3 => ?_)
      · walk_at "st"
        rw [cross_is (a := a) (b := b) ne (by simp [e1]) (by simp [e3])]
        exact q
      · walk_at "st"
        rw [cross_is (a := a) (b := b) ne (by simp [e1]) (by simp [e3])]
        exact q
    · walk_at "st"
      refine Pm.w_ixT h2 (atI2 _ _).2 ?_
      walk_at "st"
      refine Pm.w_ite (fun e3 => ?_) (fun e3 => ?_)
      · walk_at "st"
        rw [cross_is (a := a) (b := b) ne (by simp [e1]) (by simp [e3])]
        exact q
      · walk_at "st"
        rw [cross_is (a := a) (b := b) ne (by simp [e1]) (by simp [e3])]
        exact q
end
section
variable {P : Program} {w : World} {K : PySem.W.Frag} {mg : Str → Option Value} {base : Heap}
def spIsRope : Sp := fun vs H Q _ => ∃ (n : Int) (t : Addr) (p : IP), vs = [.int n, .ref t] ∧ Pr H (.ref t) p ∧ Q (.bl (decide (ropeOk n p))) H
theorem ok_is_rope (T : Tx K mg) : FnOk P w K mg base CX0 1 T.a_is_rope T.fd_is_rope ["n", "pair"] spIsRope := by
  refine T.F_is_rope.ok sc_is_rope (fun vs H Q E h => ?_) (fun cdv A outer s H vs Q E hr h => ?_)
  · obtain ⟨n, t, p, rfl, _⟩ := h
    rfl
  obtain ⟨n, t, p, rfl, ht, q⟩ := h
  refine ⟨_, (pss_cons (ps_asg (pv 1) (k_gt (K := K) (pg_tup (by rfl) (pgs_cons (pg_name (i := 2) sc_is_rope.nd rfl (.inl rfl)) (pgs_cons (pg_name (i := 3) sc_is_rope.nd rfl (.inl rfl)) pgs_nil)))))
      (pss_cons (ps_if (PW.pt (pw_or (pt_cmpR op_lt (pv 2) (pe_int) (nomark _)) (pw_or (pt_cmpR op_ge (pv 3) (pv 0) (nomark _)) (pw_or1 (pt_cmpR op_lt (pe_op op_sub (pv 3) (pv 2)) (pe_int) (nomark _)))))) (pss_one (ps_ret (pe_bl))) pss_nil)
      (pss_one (ps_ret (pe_cmpR op_lt (pe_op op_sub (pv 3) (pv 2)) (pe_op op_sub (pv 0) (pe_int)) (nomark _)))))), ?_⟩
  have no : ¬ ropeOk n p → Q (.bl false) H := fun z => by rw [decide_eq_false z] at q; exact q
  walk_at "st"
  refine Pm.w_gtup ht.tup rfl ?_
  walk_at "st"
  refine Pm.w_ite (fun e => ?_) (fun e1 => ?_)
  · walk_at "st"
    exact no (fun z => by unfold ropeOk at z; omega)
  walk_at "st"
  refine Pm.w_ite (fun e => ?_) (fun e2 => ?_)
  · walk_at "st"
    exact no (fun z => by unfold ropeOk at z; omega)
  walk_at "st"
  refine Pm.w_ite (fun e => ?_) (fun e3 => ?_)
  · walk_at "st"
    exact no (fun z => by unfold ropeOk at z; omega)
  walk_at "st"
  rw [show decide (ropeOk n p) = decide (p.2 - p.1 < n - 1) from decide_eq_decide.mpr ⟨fun z => z.2.2.2, fun z => ⟨by omega, by omega, by omega, z⟩⟩] at q
  exact q
def spKept (C : Addr) : Sp := fun vs H Q E => ∃ (n : Int) (r : Addr) (ps : List IP), vs = [.int n, .ref r] ∧ PLt H r ps ∧ ps.length ≤ 1000 ∧ (¬ KeptOk n ps → ∀ H', Same H H' → E (.ref C) none H') ∧ (KeptOk n ps → PLNew H (sortP (ps.map tied)) Q)
theorem ok_kept (T : Tx K mg) : FnOk P w K mg base (L2.CX P w) 2 T.a_kept T.fd_kept ["n", "ropes"] (spKept T.c_NoCutting) := by
  refine T.F_kept.okX sc_kept (fun vs H Q E h => ?_) (fun cdv A outer s H vs Q E hr h => ?_)
  · obtain ⟨n, r, ps, rfl, _⟩ := h
    rfl
  obtain ⟨n, r, ps, rfl, ⟨rvs, hrv, hpr⟩, pl, hE, q⟩ := h
  refine ⟨_, (pss_cons (ps_if (PW.pt (pw_or (pt_cmpR op_lt (pv 0) (pe_glob (by rfl) T.g_FEWEST T.r_FEWEST) (nomark _)) (pw_or (pt_cmpR op_gt (pv 0) (pe_glob (by rfl) T.g_MOST T.r_MOST) (nomark _)) (pw_or1 (pt_cmpR op_ne (pe_callB (c_len (K := K)) (by rfl) T.m_len PySem.boot_len (pa_cons (pv 1) pa_nil)) (pe_op op_sub (pv 0) (pe_int)) (nomark _)))))) (pss_one (ps_raise rfl (takes_of rfl rfl rfl rfl) (pmk_own PySem.F.excBase_ValueError T.x_NoCutting T.g_NoCutting T.k_NoCutting (raises_own T.b_NoCutting T.t_NoCutting) rfl))) pss_nil)
      (pss_cons (ps_set (i := 2) sc_kept.nd rfl (.inl rfl) (pe_callB (cr_sortK (K := K)) (by rfl) T.m_sorted (by decide +kernel) (pa_cons (pe_lc (own := [("rope", 3)]) (g := gName 3) (tt := tYes) rfl sc_kept.nd (k_il (K := K) (pi_list (pv 1))) (blkOk_by (N := N_kept) (sc := defScope s_kept) (by decide +kernel)) (fun _ _ _ _ _ => (pg_name (i := 3) sc_kept.nd rfl (.inl rfl))) (fun _ _ _ _ _ => pts_nil) (fun _ _ _ _ _ => (pe_call (ok_tie_of T) (hr.mono (by decide)) (by rfl) T.g_tie_of T.F_tie_of.kp T.b_tie_of .nil pass0 (pa_cons (pe_ix (ix_tupK (K := K)) (pv 3) (pe_int) (fun _ _ => rfl)) (pa_cons (pe_ix (ix_tupK (K := K)) (pv 3) (pe_int) (fun _ _ => rfl)) pa_nil))))) pa_nil)))
      (pss_cons (ps_for (passes_of rfl) rfl (pi_range1 (by rfl) T.m_range (pa_cons (pe_callB (c_len (K := K)) (by rfl) T.m_len PySem.boot_len (pa_cons (pv 2) pa_nil)) pa_nil)) (pg_name (i := 4) sc_kept.nd rfl (.inl rfl)) (pss_cons (ps_if (pt_not (pt_val (pe_call (ok_is_rope T) (hr.mono (by decide)) (by rfl) T.g_is_rope T.F_is_rope.kp T.b_is_rope .nil pass0 (pa_cons (pv 0) (pa_cons (pe_ix (ix_listK (K := K)) (pv 2) (pv 4) (fun _ _ => rfl)) pa_nil))))) (pss_one (ps_raise rfl (takes_of rfl rfl rfl rfl) (pmk_own PySem.F.excBase_ValueError T.x_NoCutting T.g_NoCutting T.k_NoCutting (raises_own T.b_NoCutting T.t_NoCutting) rfl))) pss_nil)
      (pss_one (ps_for (passes_of rfl) rfl (k_il (K := K) (pi_list (pe_slice (sl_listK (K := K)) (pv 2) po_none (po_some (pv 4))))) (pg_name (i := 5) sc_kept.nd rfl (.inl rfl)) (pss_one (ps_if (PW.pt (pw_or (pt_cmpR (op_eqDK (K := K) hr.units) (pv 5) (pe_ix (ix_listK (K := K)) (pv 2) (pv 4) (fun _ _ => rfl)) (nomark _)) (pw_or1 (pt_val (pe_call (ok_crosses T) (hr.mono (by decide)) (by rfl) T.g_crosses T.F_crosses.kp T.b_crosses .nil pass0 (pa_cons (pv 5) (pa_cons (pe_ix (ix_listK (K := K)) (pv 2) (pv 4) (fun _ _ => rfl)) pa_nil))))))) (pss_one (ps_raise rfl (takes_of rfl rfl rfl rfl) (pmk_own PySem.F.excBase_ValueError T.x_NoCutting T.g_NoCutting T.k_NoCutting (raises_own T.b_NoCutting T.t_NoCutting) rfl))) pss_nil))))))
      (pss_one (ps_ret (pv 2)))))), ?_⟩
  have plen := hpr.length
  walk_at "st"
  refine Pm.w_ite (fun e => ?_) (fun e1 => ?_)
  · exact hE (fun z => by have := z.1; omega) _ (Same.refl _)
  walk_at "st"
  refine Pm.w_ite (fun e => ?_) (fun e2 => ?_)
  · exact hE (fun z => by have := z.1; omega) _ (Same.refl _)
  walk_at "st"
  refine Pm.w_lenL (SqL.of hrv) ?_
  walk_at "st"
  refine Pm.w_iteN (fun e => ?_) (fun e3 => ?_)
  · exact hE (fun z => by have := z.2.1; omega) _ (Same.refl _)
  walk_at "st"
  refine Pm.w_rdL (SqL.of hrv) ?_
  refine Pm.w_lcLf (R := Pr) pr_mono (S := Pr) pr_mono (SqL.of hrv) hpr tied (fun _ => true) (by omega) (fun D x p H1 Nx hD hm hs s1 put skip => ?_) (fun D H1 ws hD s1 hd ha => ?_)
  · obtain ⟨t, rfl, ht⟩ := hs
    walk_at "st"
    refine Pm.w_ixT (SqT.of ht) (atI2 _ _).1 ?_
    walk_at "st"
    refine Pm.w_ixT (SqT.of ht) (atI2 _ _).2 ?_
    walk_at "st"
    exact ⟨_, _, rfl, fun u H2 s2 nu hu => put _ _ rfl s2 hu⟩
  rw [List.filter_eq_self.mpr (fun _ _ => rfl)] at ha
  walk_at "st"
  refine Pm.w_sortP (SqL.of hd) ha (fun ys c hc hy => ?_)
  have s2 := s1.trans (same_new hc (.lst ys))
  have hHc : H c = none := s1.free hc
  have hc2 : upd H1 c (.lst ys) c = some (.lst ys) := upd_same
  have hy2 := prs_keep (keeps (same_new hc (.lst ys))) hy
  generalize upd H1 c (.lst ys) = H2 at s2 hc2 hy2
  generalize hcut : sortP (ps.map tied) = cut at hy2
  have ko : KeptOk n ps ↔ GoodP n cut := by
    unfold KeptOk
    rw [hcut]
    exact ⟨fun z => z.2.2, fun z => ⟨⟨by omega, by omega⟩, by omega, z⟩⟩
  have clen : ys.length = cut.length := hy2.length
  have cle : cut.length = ps.length := by rw [← hcut, sortP_len, List.length_map]
  walk_at "st"
  refine Pm.w_lenL (SqL.of hc2) ?_
  walk_at "st"
  rw [Int.toNat_natCast]
  refine Pm.w_forR (fun i σ H3 => ∃ x y z, σ = [some (.int n), some (.ref r), some (.ref c), x, y, z] ∧ Same H2 H3 ∧ GoodP n (cut.take i)) ⟨_, _, _, rfl, Same.refl _, by rw [List.take_zero]; exact good_nil n⟩ ?_ ?_
  · rintro i σ H3 hi ⟨x, y, z, rfl, s3, hg⟩
    obtain ⟨p, hp, t, et, ht⟩ := hy2.get (List.getElem?_eq_getElem hi)
    have hat : atI ys (0 + (i : Int)) = some (.ref t) := by rw [Int.zero_add]; exact atI_nat (by rw [List.getElem?_eq_getElem hi, et])
    have cH3 := s3 _ _ hc2
    have tak : cut.take (i + 1) = cut.take i ++ [p] := by rw [List.take_add_one, hp] <;> rfl
    have bad : (¬ ropeOk n p ∨ ∃ p' ∈ cut.take i, ¬ okPair p' p) → ¬ KeptOk n ps := fun z k => by
      have g := good_take (k := i + 1) (ko.mp k)
      rw [tak, good_snoc] at g
      rcases z with z | ⟨p', h1, h2⟩
      · exact z g.2.1
      · exact h2 (g.2.2 p' h1)
    walk_at "st"
    refine Pm.w_ixL (SqL.of cH3) hat ?_
    walk_at "st"
    refine ⟨n, t, p, rfl, ⟨t, rfl, s3 _ _ ht⟩, ?_⟩
    walk_at "st"
    refine Pm.w_iteN (fun e => ?_) (fun e => ?_)
    · exact hE (bad (.inl e)) _ (s2.trans s3)
    walk_at "st"
    refine Pm.w_slL (SqL.of cH3) (fun g hg' => ?_)
    have s4 := s3.trans (same_new hg' (.lst (cutV ys none (some (0 + (i : Int))))))
    have es : cutV ys none (some (0 + (i : Int))) = ys.take i := by rw [cut_take (by omega) (by omega), show (0 + (i : Int)).toNat = i by omega]
    rw [es] at s4 ⊢
    have pt := (prs_keep (keeps s4) hy2).take i
    refine Pm.w_rdL (SqL.of upd_same) ?_
    refine Pm.w_forL (xs := ys.take i) (fun j σ H5 => ∃ z, σ = [some (.int n), some (.ref r), some (.ref c), x, some (.int (0 + (i : Int))), z] ∧ H5 = upd H3 g (.lst (ys.take i)) ∧ ∀ p' ∈ (cut.take i).take j, okPair p' p) ?_ ?_ ?_ ?_
    · exact ⟨_, rfl, rfl, fun p' hp' => by rw [List.take_zero] at hp'; exact absurd hp' List.not_mem_nil⟩
    · rintro j σ H5 _ ⟨z, _, e5, _⟩
      rw [e5]; exact SqL.of upd_same
    · rintro j x' σ H5 hx ⟨z, rfl, rfl, hok⟩
      obtain ⟨p', hp', t', rfl, ht'⟩ := pt.get hx
      have mp' : p' ∈ cut.take i := List.mem_of_getElem? hp'
      have cH5 := s4 _ _ hc2
      have tak2 : (cut.take i).take (j + 1) = (cut.take i).take j ++ [p'] := by rw [List.take_add_one, hp'] <;> rfl
      walk_at "st"
      refine Pm.w_ixL (SqL.of cH5) hat ?_
      walk_at "st"
      refine Pm.w_eqP ⟨t', rfl, ht'⟩ ⟨t, rfl, s4 _ _ ht⟩ ?_
      walk_at "st"
      refine Pm.w_ite (fun e1 => ?_) (fun e1 => ?_)
      · exact hE (bad (.inr ⟨p', mp', fun z => z.1 e1⟩)) _ (s2.trans s4)
      walk_at "st"
      refine Pm.w_ixL (SqL.of cH5) hat ?_
      walk_at "st"
      refine ⟨t', t, p'.1, p'.2, p.1, p.2, rfl, SqT.of ht', SqT.of (s4 _ _ ht), ?_⟩
      walk_at "st"
      refine Pm.w_ite (fun e2 => ?_) (fun e2 => ?_)
      · exact hE (bad (.inr ⟨p', mp', fun z => z.2 e2⟩)) _ (s2.trans s4)
      walk_at "st"
      refine ⟨_, rfl, rfl, fun p2 hp2 => ?_⟩
      rw [tak2] at hp2
      rcases List.mem_append.mp hp2 with h | h
      · exact hok p2 h
      · rw [List.mem_singleton.mp h]; exact ⟨e1, e2⟩
    · rintro σ H5 ⟨z, rfl, rfl, hok⟩
      rw [List.take_of_length_le (l := cut.take i) (by rw [List.length_take, List.length_take, clen]; exact Nat.le_refl _)] at hok
      refine ⟨_, _, _, rfl, s4, ?_⟩
      rw [tak, good_snoc]
      exact ⟨hg, e, hok⟩
  · rintro σ H3 ⟨x, y, z, rfl, s3, hg⟩
    rw [clen, List.take_length] at hg
    walk_at "st"
    have q := q (ko.mpr hg)
    rw [hcut] at q
    exact q c _ ys (s2.trans s3) hHc (s3 _ _ hc2) (prs_keep (keeps s3) hy2)
end
section
variable {P : Program} {w : World} {K : PySem.W.Frag} {mg : Str → Option Value} {base : Heap}
theorem sub_full : ∀ {l m : List IP}, l.Nodup → (∀ x ∈ l, x ∈ m) → m.length ≤ l.length → ∀ x ∈ m, x ∈ l
  | [], m, _, _, h, x, hx => by
    have : m = [] := List.length_eq_zero_iff.mp (Nat.le_zero.mp h)
    rw [this] at hx
    exact hx
  | a :: r, m, nd, sub, h, x, hx => by
    have ⟨n1, n2⟩ := List.nodup_cons.mp nd
    have am : a ∈ m := sub a List.mem_cons_self
    have ml : (m.erase a).length = m.length - 1 := List.length_erase_of_mem am
    have ih := sub_full (m := m.erase a) n2 (fun y hy => (List.mem_erase_of_ne (show y ≠ a from fun e => n1 (by rw [← e]; exact hy))).mpr (sub y (List.mem_cons_of_mem _ hy))) (by rw [List.length_cons] at h; omega)
    by_cases e : x = a
    · rw [e]; exact List.mem_cons_self
    · exact List.mem_cons_of_mem _ (ih x ((List.mem_erase_of_ne e).mpr hx))
/-- what sized_by lets by -/
def SzOk (n : Nat) (cut : List IP) (ks : List IP) (L : IP → IP) : Prop := (∀ p, p ∈ ks ↔ p ∈ tiesL n cut) ∧ ∀ p ∈ ks, lenOk (L p)
theorem szOk_iff {n : Nat} {cut : List IP} {ks : List IP} {L : IP → IP} (nd : (tiesL n cut).Nodup) (nk : ks.Nodup) : SzOk n cut ks L ↔ (∀ p ∈ tiesL n cut, p ∈ ks ∧ lenOk (L p)) ∧ ks.length = (tiesL n cut).length := by
  constructor
  · rintro ⟨h1, h2⟩
    exact ⟨fun p hp => ⟨(h1 p).mpr hp, h2 p ((h1 p).mpr hp)⟩, perm_len nk nd h1⟩
  · rintro ⟨h1, h2⟩
    have up : ∀ p ∈ ks, p ∈ tiesL n cut := sub_full nd (fun p hp => (h1 p hp).1) (by omega)
    exact ⟨fun p => ⟨up p, fun hp => (h1 p hp).1⟩, fun p hp => (h1 p (up p hp)).2⟩
def spSizedBy (K : PySem.W.Frag) (C : Addr) : Sp := fun vs H Q E => ∃ (n : Nat) (c d : Addr) (cut ks : List IP) (L : IP → IP), vs = [.int n, .ref c, .ref d] ∧ 1 ≤ n ∧ n ≤ 1000 ∧ PLt H c cut ∧ cut.length ≤ 1000 ∧ (tiesL n cut).Nodup ∧ LD K H d ks L ∧
  (¬ SzOk n cut ks L → ∀ H', Same H H' → E (.ref C) none H') ∧ (SzOk n cut ks L → ∀ (g : Addr) (H' : Hp), Same H H' → H g = none → LD K H' g (tiesL n cut) L → Q (.ref g) H')
theorem ok_sized_by (T : Tx K mg) : FnOk P w K mg base (L2.CX P w) 4 T.a_sized_by T.fd_sized_by ["n", "cut", "lengths"] (spSizedBy K T.c_BadLength) := by
  refine T.F_sized_by.okX sc_sized_by (fun vs H Q E h => ?_) (fun cdv A outer s H vs Q E hr h => ?_)
  · obtain ⟨n, c, d, cut, ks, L, rfl, _⟩ := h
    rfl
  obtain ⟨n, c, d, cut, ks, L, rfl, n1, n2, hc, cl, nd, hL, hE, q⟩ := h
  have tl : (tiesL n cut).length ≤ 3000 := by rw [tiesL, sortP_len, List.length_append, sides0_len (by omega)]; omega
  rw [szOk_iff nd hL.nd] at hE q
  refine ⟨_, (pss_cons (ps_set (i := 3) sc_sized_by.nd rfl (.inl rfl) (pe_dnewT))
      (pss_cons (ps_for (passes_of rfl) rfl (k_il (K := K) (pi_list (pe_call (ok_ties T) (hr.mono (by decide)) (by rfl) T.g_ties T.F_ties.kp T.b_ties .nil pass0 (pa_cons (pv 0) (pa_cons (pv 1) pa_nil))))) (pg_name (i := 4) sc_sized_by.nd rfl (.inl rfl)) (pss_cons (ps_if (PW.pt (pw_or (pt_cmp (pc_dnotin (hu_of hr) (pv 4) (pv 2))) (pw_or1 (pt_not (pt_val (pe_call (ok_is_length T) (hr.mono (by decide)) (by rfl) T.g_is_length T.F_is_length.kp T.b_is_length .nil pass0 (pa_cons (pe_dget (hu_of hr) (pv 2) (pv 4) (fun _ _ => rfl)) pa_nil))))))) (pss_one (ps_raise rfl (takes_of rfl rfl rfl rfl) (pmk_own PySem.F.excBase_ValueError T.x_BadLength T.g_BadLength T.k_BadLength (raises_own T.b_BadLength T.t_BadLength) rfl))) pss_nil)
      (pss_one (ps_dput (hu_of hr) (pv 3) (pv 4) (pe_dget (hu_of hr) (pv 2) (pv 4) (fun _ _ => rfl)) rfl))))
      (pss_cons (ps_if (pt_cmpR op_ne (pe_callB call_len_dT (by rfl) T.m_len PySem.boot_len (pa_cons (pv 2) pa_nil)) (pe_callB call_len_dT (by rfl) T.m_len PySem.boot_len (pa_cons (pv 3) pa_nil)) (nomark _)) (pss_one (ps_raise rfl (takes_of rfl rfl rfl rfl) (pmk_own PySem.F.excBase_ValueError T.x_BadLength T.g_BadLength T.k_BadLength (raises_own T.b_BadLength T.t_BadLength) rfl))) pss_nil)
      (pss_one (ps_ret (pv 3)))))), ?_⟩
  walk_at "st"
  refine Pm.w_dnewT (fun g hg => ?_)
  have s1 := same_new hg (.dT [])
  have hgd : g ≠ d := by
    obtain ⟨_, es3, h1, _⟩ := hL
    exact (ne_of_none h1 hg).symm
  walk_at "st"
  refine ⟨n, c, cut, rfl, by omega, n2, hc.same s1, cl, fun l H2 ws s2 nl hl hpl => ?_⟩
  have s12 := s1.trans s2
  have nlg : g ≠ l := ne_of_none upd_same nl
  refine Pm.w_rdL (SqL.of hl) ?_
  refine Pm.w_forL (xs := ws) (fun i σ H4 => ∃ x, σ = [some (.int n), some (.ref c), some (.ref d), some (.ref g), x] ∧ Same H H4 ∧ H4 l = some (.lst ws) ∧ Prs H4 ws (tiesL n cut) ∧ LD K H4 g ((tiesL n cut).take i) L ∧ ∀ p ∈ (tiesL n cut).take i, p ∈ ks ∧ lenOk (L p)) ⟨_, rfl, s12, hl, hpl, by rw [List.take_zero]; exact ld_nil (s2 _ _ upd_same) _, by rw [List.take_zero]; exact fun p h => nomatch h⟩ (fun i σ H4 _ ⟨x, _, _, h, _⟩ => SqL.of h) ?_ ?_
  · rintro i v σ H4 hi ⟨x, rfl, s4, hl4, hpl4, hg4, hal⟩
    obtain ⟨k, hk, hv⟩ := hpl4.get hi
    obtain ⟨b, rfl, hb⟩ := hv
    have hb : Pr H4 (.ref b) k := ⟨b, rfl, hb⟩
    have mk := List.mem_of_getElem? hk
    have ktk : (tiesL n cut).take (i + 1) = (tiesL n cut).take i ++ [k] := by rw [List.take_add_one, hk] <;> rfl
    have hL4 := hL.same s4
    walk_at "st"
    refine w_ldNotIn hL4 hb ?_
    walk_at "st"
    rcases (show k ∉ ks ∨ k ∈ ks from (Classical.em _).symm) with kin | kin
    · rw [decide_eq_false kin]
      walk_at "st"
      exact hE (fun z => kin (z.1 k mk).1) _ s4
    rw [decide_eq_true kin]
    walk_at "st"
    refine w_ldGet hL4 hb kin (fun u hu => ?_)
    walk_at "st"
    refine ⟨u, _, rfl, hu, ?_⟩
    walk_at "st"
    refine Pm.w_iteN (fun e => ?_) (fun lk => ?_)
    · exact hE (fun z => e (z.1 k mk).2) _ s4
    walk_at "st"
    refine w_ldGet hL4 hb kin (fun u2 hu2 => ?_)
    walk_at "st"
    refine w_ldPut hg4 hb hu2 (by rw [List.length_take]; omega) (fun es5 hL5 kp5 => ?_)
    have knot : k ∉ (tiesL n cut).take i := fun z => by
      have e1 : ((tiesL n cut).take (i + 1)).Nodup := nd.sublist (List.take_sublist _ _)
      rw [ktk, List.nodup_append] at e1
      exact e1.2.2 k z k List.mem_cons_self rfl
    refine ⟨_, rfl, same_but hg s4, by rw [upd_ne nlg.symm]; exact hl4, prs_keep kp5 hpl4, ?_, ?_⟩
    · rw [ktk, ← putk_new knot]
      refine hL5.congr fun j hj => ?_
      by_cases e : j = k
      · rw [e, updF_same]
      · rw [updF_ne e]
    · rw [ktk]
      intro p hp
      rcases List.mem_append.mp hp with z | z
      · exact hal p z
      · rw [List.mem_singleton.mp z]
        exact ⟨kin, lk⟩
  · rintro σ H4 ⟨x, rfl, s4, hl4, hpl4, hg4, hal⟩
    rw [hpl.length, List.take_length] at hg4 hal
    walk_at "st"
    refine w_ldLen (hL.same s4) ?_
    walk_at "st"
    refine w_ldLen hg4 ?_
    walk_at "st"
    refine Pm.w_iteN (fun e => ?_) (fun e => ?_)
    · exact hE (fun z => e (by rw [z.2])) _ s4
    · walk_at "st"
      exact q ⟨hal, by omega⟩ g _ s4 hg hg4
def spPosts (K : PySem.W.Frag) (C : Addr) : Sp := fun vs H Q _ => ∃ (p : Addr) (H0 Hs : Hp) (S : Ms) (P A : List (Deed × Ms)), vs = [.ref p] ∧ MeadAt K C H0 Hs H p S P A ∧ Q (.int S.n) H
theorem ok_Mead_posts (T : Tx K mg) : FnOk P w K mg base CX0 1 T.a_Mead_posts T.fd_Mead_posts ["self"] (spPosts K T.c_Mead) := by
  refine T.F_Mead_posts.ok sc_Mead_posts (fun vs H Q E h => ?_) (fun cdv A outer s H vs Q E hr h => ?_)
  · obtain ⟨p, H0, Hs, S, P, A, rfl, _⟩ := h
    rfl
  obtain ⟨p, H0, Hs, S, P, A, rfl, M, q⟩ := h
  obtain ⟨dx, lp, la, c, d, vs, us, p0, l0, a0, ps, ls, as, nla, hp, hlp, hla, hc, hd, hP, hA⟩ := M.ex
  refine ⟨_, (pss_one (ps_ret (k_fld (K := K) (pe_fld (pv 0) rfl)))), ?_⟩
  walk_at "st"
  refine w_fldAt hp T.cl_Mead T.n_Mead_many (mf_many _ _ _ _ _) ?_
  exact q
def spMRopes (K : PySem.W.Frag) (C : Addr) : Sp := fun vs H Q _ => ∃ (p : Addr) (H0 Hs : Hp) (S : Ms) (P A : List (Deed × Ms)), vs = [.ref p] ∧ MeadAt K C H0 Hs H p S P A ∧ ∀ (l : Addr) (H' : Hp), Same H H' → H l = none → PLt H' l S.cut → Q (.ref l) H'
theorem ok_Mead_ropes (T : Tx K mg) : FnOk P w K mg base CX0 1 T.a_Mead_ropes T.fd_Mead_ropes ["self"] (spMRopes K T.c_Mead) := by
  refine T.F_Mead_ropes.ok sc_Mead_ropes (fun vs H Q E h => ?_) (fun cdv A outer s H vs Q E hr h => ?_)
  · obtain ⟨p, H0, Hs, S, P, A, rfl, _⟩ := h
    rfl
  obtain ⟨p, H0, Hs, S, P, A, rfl, M, q⟩ := h
  obtain ⟨dx, lp, la, c, d, vs, us, p0, l0, a0, ps, ls, as, nla, hp, hlp, hla, hc, hd, hP, hA⟩ := M.ex
  obtain ⟨cv, hcv, hpv⟩ := hc.same M.ss
  refine ⟨_, (pss_one (ps_ret (pe_callTy (c_listOf (K := K)) (by rfl) T.m_list (by decide +kernel) (pa_cons (k_fld (K := K) (pe_fld (pv 0) rfl)) pa_nil)))), ?_⟩
  walk_at "st"
  refine w_fldAt hp T.cl_Mead T.n_Mead_cut (mf_cut _ _ _ _ _) ?_
  walk_at "st"
  refine Pm.w_listOf (SqL.of hcv) (fun y hy => ?_)
  exact q y _ (same_new hy _) hy ⟨cv, upd_same, prs_keep (keeps (same_new hy _)) hpv⟩
def spMLengths (K : PySem.W.Frag) (C : Addr) : Sp := fun vs H Q _ => ∃ (p : Addr) (H0 Hs : Hp) (S : Ms) (P A : List (Deed × Ms)), vs = [.ref p] ∧ MeadAt K C H0 Hs H p S P A ∧ ∀ (g : Addr) (H' : Hp), Same H H' → H g = none → DLs K H' g S → Q (.ref g) H'
theorem ok_Mead_lengths (T : Tx K mg) : FnOk P w K mg base CX0 1 T.a_Mead_lengths T.fd_Mead_lengths ["self"] (spMLengths K T.c_Mead) := by
  refine T.F_Mead_lengths.ok sc_Mead_lengths (fun vs H Q E h => ?_) (fun cdv A outer s H vs Q E hr h => ?_)
  · obtain ⟨p, H0, Hs, S, P, A, rfl, _⟩ := h
    rfl
  obtain ⟨p, H0, Hs, S, P, A, rfl, M, q⟩ := h
  obtain ⟨dx, lp, la, c, d, vs, us, p0, l0, a0, ps, ls, as, nla, hp, hlp, hla, hc, hd, hP, hA⟩ := M.ex
  obtain ⟨ks, h1, h2, h3, h4⟩ := hd.same M.ss
  refine ⟨_, (pss_one (ps_ret (pe_callTy (call_dictT hr.u2) (by rfl) T.m_dict (by decide +kernel) (pa_cons (k_fld (K := K) (pe_fld (pv 0) rfl)) pa_nil)))), ?_⟩
  walk_at "st"
  refine w_fldAt hp T.cl_Mead T.n_Mead_sized (mf_sized _ _ _ _ _) ?_
  walk_at "st"
  refine w_ldDict h1 h3 (fun g es hg hLg => ?_)
  exact q g _ (same_new hg _) hg ⟨ks, hLg, h2, h3, h4⟩
/-- the three of a state, new -/
def StNew (K : PySem.W.Frag) (H : Hp) (S : Ms) (Q : VK) : Prop := ∀ (t c d : Addr) (H' : Hp), Same H H' → H t = none → H' t = some (.tup [.int S.n, .ref c, .ref d]) → H c = none → H d = none → PLt H' c S.cut → DLs K H' d S → Q (.ref t) H'
def spState (K : PySem.W.Frag) (C : Addr) : Sp := fun vs H Q _ => ∃ (p dx c d : Addr) (lp la : V) (S : Ms), vs = [.ref p] ∧ H p = some (.ins C dx (mf (.ref c) (.int S.n) (.ref d) lp la)) ∧ PLt H c S.cut ∧ DLs K H d S ∧ StNew K H S Q
theorem ok_Mead_state (T : Tx K mg) : FnOk P w K mg base CX0 1 T.a_Mead_state T.fd_Mead_state ["self"] (spState K T.c_Mead) := by
  refine T.F_Mead_state.ok sc_Mead_state (fun vs H Q E h => ?_) (fun cdv A outer s H vs Q E hr h => ?_)
  · obtain ⟨p, dx, c, d, lp, la, S, rfl, _⟩ := h
    rfl
  obtain ⟨p, dx, c, d, lp, la, S, rfl, hp, hc, hd, q⟩ := h
  obtain ⟨cv, hcv, hpv⟩ := hc
  refine ⟨_, (pss_one (ps_ret (pe_tup (pa_cons (k_fld (K := K) (pe_fld (pv 0) rfl)) (pa_cons (pe_callTy (c_listOf (K := K)) (by rfl) T.m_list (by decide +kernel) (pa_cons (k_fld (K := K) (pe_fld (pv 0) rfl)) pa_nil)) (pa_cons (pe_callTy (call_dictT hr.u2) (by rfl) T.m_dict (by decide +kernel) (pa_cons (k_fld (K := K) (pe_fld (pv 0) rfl)) pa_nil)) pa_nil)))))), ?_⟩
  walk_at "st"
  refine w_fldAt hp T.cl_Mead T.n_Mead_many (mf_many _ _ _ _ _) ?_
  walk_at "st"
  refine w_fldAt hp T.cl_Mead T.n_Mead_cut (mf_cut _ _ _ _ _) ?_
  walk_at "st"
  refine Pm.w_listOf (SqL.of hcv) (fun y hy => ?_)
  have s1 := same_new hy (.lst cv)
  obtain ⟨ks, h1, h2, h3, h4⟩ := hd.same s1
  walk_at "st"
  refine w_fldAt (s1 _ _ hp) T.cl_Mead T.n_Mead_sized (mf_sized _ _ _ _ _) ?_
  walk_at "st"
  refine w_ldDict h1 h3 (fun g es hg hLg => ?_)
  have s2 := same_new hg (.dT es)
  walk_at "st"
  refine Pm.w_newT (fun t ht => ?_)
  have s3 := same_new ht (.tup [.int S.n, .ref y, .ref g])
  have s13 := s1.trans (s2.trans s3)
  exact q t y g _ s13 ((s1.trans s2).free ht) upd_same hy (s1.free hg) ⟨cv, s3 _ _ (s2 _ _ upd_same), prs_keep (keeps s13) hpv⟩ ⟨ks, hLg.same s3, h2, h3, h4⟩
/-- all but one object stand as they were -/
def SameX (p : Addr) (H H' : Hp) : Prop := ∀ b o, b ≠ p → H b = some o → H' b = some o
def spStandAt (K : PySem.W.Frag) (C : Addr) : Sp := fun vs H Q _ => ∃ (p dx s c d : Addr) (cf nf df lp la : V) (S : Ms), vs = [.ref p, .ref s] ∧ H p = some (.ins C dx (mf cf nf df lp la)) ∧ H s = some (.tup [.int S.n, .ref c, .ref d]) ∧ PLt H c S.cut ∧ DLs K H d S ∧
  ∀ (c' d' : Addr) (H' : Hp), SameX p H H' → H' p = some (.ins C dx (mf (.ref c') (.int S.n) (.ref d') lp la)) → H c' = none → H d' = none → PLt H' c' S.cut → DLs K H' d' S → Q .non H'
theorem ok_Mead_stand_at (T : Tx K mg) : FnOk P w K mg base CX0 1 T.a_Mead_stand_at T.fd_Mead_stand_at ["self", "state"] (spStandAt K T.c_Mead) := by
  refine T.F_Mead_stand_at.ok sc_Mead_stand_at (fun vs H Q E h => ?_) (fun cdv A outer s H vs Q E hr h => ?_)
  · obtain ⟨p, dx, z, c, d, cf, nf, df, lp, la, S, rfl, _⟩ := h
    rfl
  obtain ⟨p, dx, z, c, d, cf, nf, df, lp, la, S, rfl, hp, hz, hc, hd, q⟩ := h
  refine ⟨_, (pss_cons (k_sfld (K := K) (ps_fld (pv 0) (pe_ix (ix_tupK (K := K)) (pv 1) (pe_int) (fun _ _ => rfl)) rfl))
      (pss_cons (k_sfld (K := K) (ps_fld (pv 0) (pe_callTy (c_listOf (K := K)) (by rfl) T.m_list (by decide +kernel) (pa_cons (pe_ix (ix_tupK (K := K)) (pv 1) (pe_int) (fun _ _ => rfl)) pa_nil)) rfl))
      (pss_one (k_sfld (K := K) (ps_fld (pv 0) (pe_callTy (call_dictT hr.u2) (by rfl) T.m_dict (by decide +kernel) (pa_cons (pe_ix (ix_tupK (K := K)) (pv 1) (pe_int) (fun _ _ => rfl)) pa_nil)) rfl))))), ?_⟩
  have nzp : z ≠ p := ne_of hz hp (fun z => nomatch z)
  obtain ⟨cv, hcv, hpv⟩ := hc
  have ncp : c ≠ p := ne_of hcv hp (fun z => nomatch z)
  obtain ⟨ks, h1, h2, h3, h4⟩ := hd
  have ndp : d ≠ p := by
    obtain ⟨_, es, h, _⟩ := h1
    exact ne_of h hp (fun z => nomatch z)
  have kp : ∀ fs, Keeps H (upd H p (.ins T.c_Mead dx fs)) := fun fs t xs e => by rw [upd_ne (ne_of e hp (fun z => nomatch z))]; exact e
  walk_at "st"
  refine Pm.w_ixT (SqT.of hz) rfl ?_
  walk_at "st"
  refine w_sfldAt hp T.cl_Mead T.n_Mead_many (by show 5 < 1000; decide) ?_
  rw [mf_pmany]
  have hz1 : upd H p (.ins T.c_Mead dx (mf cf (.int S.n) df lp la)) z = some (.tup [.int S.n, .ref c, .ref d]) := by rw [upd_ne nzp]; exact hz
  have hcv1 : upd H p (.ins T.c_Mead dx (mf cf (.int S.n) df lp la)) c = some (.lst cv) := by rw [upd_ne ncp]; exact hcv
  have h11 : LD K (upd H p (.ins T.c_Mead dx (mf cf (.int S.n) df lp la))) d ks (fun k => rp (S.D k.1.toNat k.2.toNat)) := h1.keep (o := .tup []) (kp _) (upd_ne ndp)
  have hp1 : upd H p (.ins T.c_Mead dx (mf cf (.int S.n) df lp la)) p = some (.ins T.c_Mead dx (mf cf (.int S.n) df lp la)) := upd_same
  have sx1 : SameX p H (upd H p (.ins T.c_Mead dx (mf cf (.int S.n) df lp la))) := fun b o nb e => by rw [upd_ne nb]; exact e
  have hpv1 := prs_keep (kp (mf cf (.int S.n) df lp la)) hpv
  have fr1 : ∀ b, upd H p (.ins T.c_Mead dx (mf cf (.int S.n) df lp la)) b = none → H b = none := fun b e => by
    by_cases z : b = p
    · rw [z, upd_same] at e; cases e
    · rw [upd_ne z] at e; exact e
  generalize upd H p (.ins T.c_Mead dx (mf cf (.int S.n) df lp la)) = H1 at hz1 hcv1 h11 hp1 sx1 hpv1 fr1 ⊢
  walk_at "st"
  refine Pm.w_ixT (SqT.of hz1) rfl ?_
  walk_at "st"
  refine Pm.w_listOf (SqL.of hcv1) (fun y hy => ?_)
  have s2 := same_new hy (.lst cv)
  walk_at "st"
  refine w_sfldAt (s2 _ _ hp1) T.cl_Mead T.n_Mead_cut (by show 5 < 1000; decide) ?_
  rw [mf_pcut]
  have nyp : y ≠ p := (ne_of_none hp1 hy).symm
  have kp2 : Keeps H1 (upd (upd H1 y (.lst cv)) p (.ins T.c_Mead dx (mf (.ref y) (.int S.n) df lp la))) := fun t xs e => by rw [upd_ne (ne_of e hp1 (fun z => nomatch z))]; exact s2 _ _ e
  have hz2 : upd (upd H1 y (.lst cv)) p (.ins T.c_Mead dx (mf (.ref y) (.int S.n) df lp la)) z = some (.tup [.int S.n, .ref c, .ref d]) := kp2 _ _ hz1
  have h12 : LD K (upd (upd H1 y (.lst cv)) p (.ins T.c_Mead dx (mf (.ref y) (.int S.n) df lp la))) d ks (fun k => rp (S.D k.1.toNat k.2.toNat)) := h11.keep (o := .tup []) kp2 (by
    obtain ⟨_, es, h, _⟩ := h11
    rw [upd_ne ndp, h, s2 _ _ h])
  have hp2 : upd (upd H1 y (.lst cv)) p (.ins T.c_Mead dx (mf (.ref y) (.int S.n) df lp la)) p = some (.ins T.c_Mead dx (mf (.ref y) (.int S.n) df lp la)) := upd_same
  have hy2 : upd (upd H1 y (.lst cv)) p (.ins T.c_Mead dx (mf (.ref y) (.int S.n) df lp la)) y = some (.lst cv) := by rw [upd_ne nyp]; exact upd_same
  have sx2 : SameX p H (upd (upd H1 y (.lst cv)) p (.ins T.c_Mead dx (mf (.ref y) (.int S.n) df lp la))) := fun b o nb e => by rw [upd_ne nb]; exact s2 _ _ (sx1 b o nb e)
  have hpv2 := prs_keep kp2 hpv1
  have fr2 : ∀ b, upd (upd H1 y (.lst cv)) p (.ins T.c_Mead dx (mf (.ref y) (.int S.n) df lp la)) b = none → H b = none := fun b e => by
    by_cases z : b = p
    · rw [z, upd_same] at e; cases e
    · rw [upd_ne z] at e; exact fr1 _ (s2.free e)
  generalize upd (upd H1 y (.lst cv)) p (.ins T.c_Mead dx (mf (.ref y) (.int S.n) df lp la)) = H2 at hz2 h12 hp2 hy2 sx2 hpv2 fr2 ⊢
  walk_at "st"
  refine Pm.w_ixT (SqT.of hz2) rfl ?_
  walk_at "st"
  refine w_ldDict h12 h3 (fun g es hg hLg => ?_)
  have s3 := same_new hg (.dT es)
  walk_at "st"
  refine w_sfldAt (s3 _ _ hp2) T.cl_Mead T.n_Mead_sized (by show 5 < 1000; decide) ?_
  rw [mf_psized]
  have ngp : g ≠ p := (ne_of_none hp2 hg).symm
  have kp3 : Keeps (upd H2 g (.dT es)) (upd (upd H2 g (.dT es)) p (.ins T.c_Mead dx (mf (.ref y) (.int S.n) (.ref g) lp la))) := fun t xs e => by rw [upd_ne (ne_of e (s3 _ _ hp2) (fun z => nomatch z))]; exact e
  walk_at "st"
  refine q y g _ (fun b o nb e => by rw [upd_ne nb]; exact s3 _ _ (sx2 b o nb e)) upd_same (fr1 _ hy) (fr2 _ hg) ⟨cv, ?_, ?_⟩ ⟨ks, ?_, h2, h3, h4⟩
  · rw [upd_ne nyp]; exact s3 _ _ hy2
  · exact prs_keep kp3 (prs_keep (keeps s3) hpv2)
  · exact hLg.keep (o := .tup []) kp3 (upd_ne ngp)
end
section
variable {P : Program} {w : World} {K : PySem.W.Frag} {mg : Str → Option Value} {base : Heap}
def spDone (K : PySem.W.Frag) (C : Addr) : Sp := fun vs H Q _ => ∃ (p s c d : Addr) (u : V) (H0 Hs : Hp) (S S' : Ms) (P A : List (Deed × Ms)) (dd : Deed), vs = [.ref p, u, .ref s] ∧ MeadAt K C H0 Hs H p S P A ∧ P.length ≤ 1000 ∧ DeedAt K H u dd ∧ H s = some (.tup [.int S'.n, .ref c, .ref d]) ∧ (PLt H0 c S'.cut ∨ PLt Hs c S'.cut) ∧ DLs K H d S' ∧
  ∀ (H0' Hs' H' : Hp), Same H0 H0' → Same Hs Hs' → MeadAt K C H0' Hs' H' p S' (P ++ [(dd, S)]) [] → Q .non H'
theorem ok_Mead_done (T : Tx K mg) : FnOk P w K mg base CX0 2 T.a_Mead_done T.fd_Mead_done ["self", "deed", "state"] (spDone K T.c_Mead) := by
  refine T.F_Mead_done.ok sc_Mead_done (fun vs H Q E h => ?_) (fun cdv A outer s H vs Q E hr h => ?_)
  · obtain ⟨p, z, c, d, u, H0, Hs, S, S', P, A, dd, rfl, _⟩ := h
    rfl
  obtain ⟨p, z, c', d', u, H0, Hs, S, S', P, A, dd, rfl, M, Pl, hu, hz, hc', hd', q⟩ := h
  obtain ⟨dx, lp, la, c, d, vs, us, p0, l0, a0, ps, ls, as, nla, hp, hlp, hla, hc, hd, hP, hA⟩ := M.ex
  refine ⟨_, (pss_cons (ps_expr (k_bm (K := K) (pe_bm PySem.F.plainAttrs_list PySem.F.slot_list_append PySem.F.type_list_append mt_append (k_fld (K := K) (pe_fld (pv 0) rfl)) (pa_cons (pe_tup (pa_cons (pv 1) (pa_cons (pe_meth0 (pv 0) T.cl_Mead T.M_Mead_state (ok_Mead_state T) (hr.mono (by decide)) T.b_Mead_state .nil pass0 ) pa_nil))) pa_nil))))
      (pss_cons (k_sfld (K := K) (ps_fld (pv 0) (pe_lst pa_nil) rfl))
      (pss_one (ps_expr (pe_meth (pv 0) T.cl_Mead T.M_Mead_stand_at (ok_Mead_stand_at T) (hr.mono (by decide)) T.b_Mead_stand_at .nil pass0 (pa_cons (pv 2) pa_nil)))))), ?_⟩
  have npl : p ≠ lp := ne_of hp hlp (fun z => nomatch z)
  have nzl : z ≠ lp := ne_of hz hlp (fun z => nomatch z)
  have nc'l : c' ≠ lp ∧ c' ≠ p ∧ PLt H c' S'.cut := by
    rcases hc' with ⟨xs, h1, h2⟩ | ⟨xs, h1, h2⟩
    · exact ⟨ne_of_none h1 l0, ne_of_none h1 p0, PLt.same ⟨xs, h1, h2⟩ M.s0⟩
    · exact ⟨ne_of_none h1 ls, ne_of_none h1 ps, PLt.same ⟨xs, h1, h2⟩ M.ss⟩
  obtain ⟨nc'l, nc'p, hc'⟩ := nc'l
  have vl := hP.length
  walk_at "st"
  refine w_fldAt hp T.cl_Mead T.n_Mead_past (mf_past _ _ _ _ _) ?_
  refine ⟨.inl ⟨rfl, _, SqL.of hlp⟩, ?_⟩
  walk_at "st"
  refine w_methAt hp (mf_no _ _ _ _ _ (by decide +kernel) (by decide +kernel) (by decide +kernel) (by decide +kernel) (by decide +kernel)) ?_
  walk_at "st"
  refine ⟨p, dx, c, d, .ref lp, .ref la, S, rfl, hp, hc.same M.ss, hd.same M.ss, fun t1 c1 d1 H1 s1 nt1 ht1 nc1 nd1 hc1 hd1 => ?_⟩
  walk_at "st"
  refine Pm.w_newT (fun e1 he1 => ?_)
  have s2 := same_new he1 (.tup [u, .ref t1])
  have s12 := s1.trans s2
  walk_at "st"
  refine Pm.w_append (s12 _ _ hlp) (size_lt (by omega)) ?_
  have fe1 : H e1 = none := s1.free he1
  have el : e1 ≠ lp := (ne_of_none hlp fe1).symm
  have hp3 : upd (upd H1 e1 (.tup [u, .ref t1])) lp (.lst (vs ++ [.ref e1])) p = some (.ins T.c_Mead dx (mf (.ref c) (.int S.n) (.ref d) (.ref lp) (.ref la))) := by rw [upd_ne npl]; exact s12 _ _ hp
  have hlp3 : upd (upd H1 e1 (.tup [u, .ref t1])) lp (.lst (vs ++ [.ref e1])) lp = some (.lst (vs ++ [.ref e1])) := upd_same
  have fr3 : ∀ b o, b ≠ lp → H b = some o → upd (upd H1 e1 (.tup [u, .ref t1])) lp (.lst (vs ++ [.ref e1])) b = some o := fun b o nb e => by rw [upd_ne nb]; exact s12 _ _ e
  have kp3 : Keeps H1 (upd (upd H1 e1 (.tup [u, .ref t1])) lp (.lst (vs ++ [.ref e1]))) := fun b xs e => by rw [upd_ne (ne_of e (s1 _ _ hlp) (fun z => nomatch z))]; exact s2 _ _ e
  have he3 : upd (upd H1 e1 (.tup [u, .ref t1])) lp (.lst (vs ++ [.ref e1])) e1 = some (.tup [u, .ref t1]) := by rw [upd_ne el]; exact upd_same
  have nu3 : ∀ b, H b = none → H1 b ≠ none → upd (upd H1 e1 (.tup [u, .ref t1])) lp (.lst (vs ++ [.ref e1])) b = H1 b := fun b e e2 => by
    rw [upd_ne (ne_of_none hlp e).symm, upd_ne (fun z => e2 (by rw [z]; exact he1))]
  have n3 : ∀ b, upd (upd H1 e1 (.tup [u, .ref t1])) lp (.lst (vs ++ [.ref e1])) b = none → H b = none := fun b e => by
    by_cases z : b = lp
    · rw [z, upd_same] at e; cases e
    · rw [upd_ne z] at e; exact s12.free e
  generalize upd (upd H1 e1 (.tup [u, .ref t1])) lp (.lst (vs ++ [.ref e1])) = H3 at hp3 hlp3 fr3 kp3 he3 nu3 n3 ⊢
  have hc3 : H3 c1 = H1 c1 := nu3 c1 nc1 (by obtain ⟨xs, h, _⟩ := hc1; rw [h]; exact fun z => nomatch z)
  have hd3 : H3 d1 = H1 d1 := nu3 d1 nd1 (by obtain ⟨_, ⟨_, xs, h, _⟩, _⟩ := hd1; rw [h]; exact fun z => nomatch z)
  have hc13 := hc1.keep kp3 hc3
  have hd13 := hd1.keep kp3 hd3
  have ht13 := kp3 _ _ ht1
  walk_at "st"
  refine Pm.w_newL (fun g hg => ?_)
  have s4 := same_new hg (.lst [])
  have nglp : g ≠ lp := (ne_of_none hlp3 hg).symm
  have ngp : g ≠ p := (ne_of_none hp3 hg).symm
  walk_at "st"
  refine w_sfldAt (s4 _ _ hp3) T.cl_Mead T.n_Mead_ahead (by show 5 < 1000; decide) ?_
  rw [mf_pahead]
  have hp5 : upd (upd H3 g (.lst [])) p (.ins T.c_Mead dx (mf (.ref c) (.int S.n) (.ref d) (.ref lp) (.ref g))) p = some (.ins T.c_Mead dx (mf (.ref c) (.int S.n) (.ref d) (.ref lp) (.ref g))) := upd_same
  have fr5 : ∀ b o, b ≠ p → H3 b = some o → upd (upd H3 g (.lst [])) p (.ins T.c_Mead dx (mf (.ref c) (.int S.n) (.ref d) (.ref lp) (.ref g))) b = some o := fun b o nb e => by rw [upd_ne nb]; exact s4 _ _ e
  have hg5 : upd (upd H3 g (.lst [])) p (.ins T.c_Mead dx (mf (.ref c) (.int S.n) (.ref d) (.ref lp) (.ref g))) g = some (.lst []) := by rw [upd_ne ngp]; exact upd_same
  have n5 : ∀ b, upd (upd H3 g (.lst [])) p (.ins T.c_Mead dx (mf (.ref c) (.int S.n) (.ref d) (.ref lp) (.ref g))) b = none → H b = none := fun b e => by
    by_cases z : b = p
    · rw [z, upd_same] at e; cases e
    · rw [upd_ne z] at e; exact n3 _ (s4.free e)
  generalize upd (upd H3 g (.lst [])) p (.ins T.c_Mead dx (mf (.ref c) (.int S.n) (.ref d) (.ref lp) (.ref g))) = H5 at hp5 fr5 hg5 n5 ⊢
  have kp5 : Keeps H3 H5 := fun b xs e => fr5 b _ (ne_of e hp3 (fun z => nomatch z)) e
  have f05 : ∀ b o, b ≠ p → b ≠ lp → H b = some o → H5 b = some o := fun b o h1 h2 h3 => fr5 b o h1 (fr3 b o h2 h3)
  have k05 : Keeps H H5 := fun b xs e => f05 b _ (ne_of e hp (fun z => nomatch z)) (ne_of e hlp (fun z => nomatch z)) e
  walk_at "st"
  refine w_methAt hp5 (mf_no _ _ _ _ _ (by decide +kernel) (by decide +kernel) (by decide +kernel) (by decide +kernel) (by decide +kernel)) ?_
  walk_at "st"
  have hc5 : PLt H5 c' S'.cut := hc'.keep k05 (by obtain ⟨xs, h, _⟩ := hc'; rw [f05 _ _ nc'p nc'l h, h])
  have hd5 : DLs K H5 d' S' := hd'.keep k05 (by
    obtain ⟨_, ⟨_, xs, h, _⟩, _⟩ := hd'
    rw [f05 _ _ (ne_of h hp (fun z => nomatch z)) (ne_of h hlp (fun z => nomatch z)) h, h])
  refine ⟨p, dx, z, c', d', _, _, _, _, _, S', rfl, hp5, k05 _ _ hz, hc5, hd5, fun c6 d6 H6 sx hp6 nc6 nd6 hc6 hd6 => ?_⟩
  walk_at "st"
  have kp6 : Keeps H5 H6 := fun b xs e => sx b _ (ne_of e hp5 (fun z => nomatch z)) e
  have f06 : ∀ b o, b ≠ p → b ≠ lp → H b = some o → H6 b = some o := fun b o h1 h2 h3 => sx b o h1 (f05 b o h1 h2 h3)
  have s06 : Same H0 H6 := fun b o e => f06 b o (ne_of_none e p0) (ne_of_none e l0) (M.s0 _ _ e)
  have ss6 : Same Hs H6 := fun b o e => f06 b o (ne_of_none e ps) (ne_of_none e ls) (M.ss _ _ e)
  have g0 : H g = none := n3 g hg
  have z0 : ∀ b, H b = none → H0 b = none := fun b e => M.s0.free e
  have zs : ∀ b, H b = none → Hs b = none := fun b e => M.ss.free e
  have nlg : lp ≠ g := nglp.symm
  have hl6 := sx lp _ npl.symm (fr5 lp _ npl.symm hlp3)
  have hg6 := sx g _ ngp hg5
  have hc16 : H6 c1 = H1 c1 := by
    obtain ⟨xs, h, _⟩ := hc13
    have n1 := (ne_of_none hp nc1).symm
    rw [sx c1 _ n1 (fr5 c1 _ n1 h), ← hc3, h]
  have hd16 : H6 d1 = H1 d1 := by
    obtain ⟨_, ⟨_, xs, h, _⟩, _⟩ := hd13
    have n1 := (ne_of_none hp nd1).symm
    rw [sx d1 _ n1 (fr5 d1 _ n1 h), ← hd3, h]
  have kp16 : Keeps H1 H6 := kp3.trans (kp5.trans kp6)
  have ent : ∀ Hx, Same Hs Hx → Keeps H6 Hx → (∀ b, H0 b = none → b ≠ p → b ≠ lp → b ≠ g → Hx b = H6 b) → All2 (EnAt K Hx) (vs ++ [.ref e1]) (P ++ [(dd, S)]) ∧ All2 (EnAt K Hx) [] [] := by
    refine fun Hx sg kx ex => ⟨(hP.mono fun _ _ r => r.same sg).snoc ⟨e1, t1, c1, d1, u, rfl, kx _ _ (kp6 _ _ (kp5 _ _ he3)), hu.keep ((keeps s1).trans (kp16.trans kx)), kx _ _ (kp16 _ _ ht1), ?_, ?_⟩, trivial⟩
    · refine hc1.keep (kp16.trans kx) ?_
      rw [ex c1 (z0 _ nc1) (ne_of_none hp nc1).symm (ne_of_none hlp nc1).symm ?_, hc16]
      obtain ⟨xs, h, _⟩ := hc13
      exact fun z => by rw [z, hg] at h; cases h
    · refine hd1.keep (kp16.trans kx) ?_
      rw [ex d1 (z0 _ nd1) (ne_of_none hp nd1).symm (ne_of_none hlp nd1).symm ?_, hd16]
      obtain ⟨_, ⟨_, xs, h, _⟩, _⟩ := hd13
      exact fun z => by rw [z, hg] at h; cases h
  obtain ⟨H0', Hs', r1, r2, r3⟩ := mead_mk (K := K) (C := T.c_Mead) (S := S') (P := P ++ [(dd, S)]) (A := []) s06 ss6 M.dj p0 l0 (z0 _ g0) ps ls (zs _ g0) nlg hp6 hl6 hg6 hc6 (z0 _ (n5 _ nc6)) (ne_of_none hlp (n5 _ nc6)).symm (fun z => by rw [z, hg5] at nc6; cases nc6) hd6 (z0 _ (n5 _ nd6)) ent
  exact q H0' Hs' H6 r1 r2 r3
end
section
variable {P : Program} {w : World} {K : PySem.W.Frag} {mg : Str → Option Value} {base : Heap}
theorem SameX.keeps {p C dx : Addr} {fs : List (Str × V)} {H H' : Hp} (h : SameX p H H') (hp : H p = some (.ins C dx fs)) : Keeps H H' := fun b xs e => h b _ (ne_of e hp (fun z => nomatch z)) e
theorem SameX.put {p : Addr} {H H' : Hp} {o : HO} (h : SameX p H H') : SameX p H (upd H' p o) := fun b u nb e => by rw [upd_ne nb]; exact h b u nb e
theorem SameX.step {p : Addr} {H H' H2 : Hp} (h : SameX p H H') (s : Same H' H2) : SameX p H H2 := fun b u nb e => s _ _ (h b u nb e)
theorem SameX.plt {p C dx : Addr} {fs : List (Str × V)} {H H' : Hp} {c : Addr} {ps : List IP} (h : SameX p H H') (hp : H p = some (.ins C dx fs)) (hc : PLt H c ps) : PLt H' c ps := hc.keep (h.keeps hp) (by
  obtain ⟨xs, h1, _⟩ := hc
  rw [h c _ (ne_of h1 hp (fun z => nomatch z)) h1, h1])
theorem SameX.ld {p C dx : Addr} {fs : List (Str × V)} {H H' : Hp} {d : Addr} {ks : List IP} {L : IP → IP} (h : SameX p H H') (hp : H p = some (.ins C dx fs)) (hd : LD K H d ks L) : LD K H' d ks L := hd.keep (o := .tup []) (h.keeps hp) (by
  obtain ⟨_, xs, h1, _⟩ := hd
  rw [h d _ (ne_of h1 hp (fun z => nomatch z)) h1, h1])
theorem gone_put {p b : Addr} {H : Hp} {o u : HO} (hp : H p = some u) (h : upd H p o b = none) : H b = none := by
  by_cases z : b = p
  · rw [z, upd_same] at h; cases h
  · rw [upd_ne z] at h; exact h
def spInit (K : PySem.W.Frag) (C C1 C2 : Addr) : Sp := fun vs H Q E => ∃ (p r d dx : Addr) (n : Int) (ps ks : List IP) (L : IP → IP) (H0 : Hp), vs = [.ref p, .int n, .ref r, .ref d] ∧ H p = some (.ins C dx []) ∧ Same H0 H ∧ H0 p = none ∧ Keeps H H0 ∧ PLt H r ps ∧ ps.length ≤ 1000 ∧ LD K H d ks L ∧
  (¬ KeptOk n ps → ∀ H', E (.ref C1) none H') ∧
  (KeptOk n ps → ∃ (nn : Nat) (t : Tr), n = nn ∧ nn ≤ 12 ∧ Cutting nn (sortP (ps.map tied)) t ∧ (¬ SzOk nn (sortP (ps.map tied)) ks L → ∀ H', E (.ref C2) none H') ∧
    (SzOk nn (sortP (ps.map tied)) ks L → ∃ S : Ms, S.n = nn ∧ S.cut = sortP (ps.map tied) ∧ (∀ k ∈ tiesL nn (sortP (ps.map tied)), L k = rp (S.D k.1.toNat k.2.toNat)) ∧ ∀ (H0' Hs' H' : Hp), Same H0 H0' → MeadAt K C H0' Hs' H' p S [] [] → Q .non H'))
theorem ok_Mead___init__ (T : Tx K mg) : FnOk P w K mg base (L2.CX P w) 5 T.a_Mead___init__ T.fd_Mead___init__ ["self", "n", "ropes", "lengths"] (spInit K T.c_Mead T.c_NoCutting T.c_BadLength) := by
  refine T.F_Mead___init__.okX sc_Mead___init__ (fun vs H Q E h => ?_) (fun cdv A outer s H vs Q E hr h => ?_)
  · obtain ⟨p, r, d, dx, n, ps, ks, L, H0, rfl, _⟩ := h
    rfl
  obtain ⟨p, r, d, dx, n, ps, ks, L, H0, rfl, hp, s0, p0, k0, hr0, pl, hL, hE1, q⟩ := h
  refine ⟨_, (pss_cons (k_sfld (K := K) (ps_fld (pv 0) (pe_call (ok_kept T) (hr.mono (by decide)) (by rfl) T.g_kept T.F_kept.kp T.b_kept .nil (passes_call (takes_of rfl rfl rfl rfl) (fun _ _ _ _ h => h)) (pa_cons (pv 1) (pa_cons (pv 2) pa_nil))) rfl))
      (pss_cons (k_sfld (K := K) (ps_fld (pv 0) (pv 1) rfl))
      (pss_cons (k_sfld (K := K) (ps_fld (pv 0) (pe_call (ok_sized_by T) (hr.mono (by decide)) (by rfl) T.g_sized_by T.F_sized_by.kp T.b_sized_by .nil (passes_call (takes_of rfl rfl rfl rfl) (fun _ _ _ _ h => h)) (pa_cons (pv 1) (pa_cons (k_fld (K := K) (pe_fld (pv 0) rfl)) (pa_cons (pv 3) pa_nil)))) rfl))
      (pss_cons (k_sfld (K := K) (ps_fld (pv 0) (pe_lst pa_nil) rfl))
      (pss_one (k_sfld (K := K) (ps_fld (pv 0) (pe_lst pa_nil) rfl))))))), ?_⟩
  walk_at "st"
  refine ⟨n, r, ps, rfl, hr0, pl, fun z H' _ => hE1 z H', fun ok c H1 cv s1 nc hc hpc => ?_⟩
  obtain ⟨nn, t, rfl, n12, C, hE2, q⟩ := q ok
  generalize sortP (ps.map tied) = cut at *
  have cl := C.cut_len
  have n3 := C.n3
  walk_at "st"
  refine w_sfldAt (s1 _ _ hp) T.cl_Mead T.n_Mead_cut (by show 0 < 1000; decide) ?_
  have sx1 : SameX p H (upd H1 p (.ins T.c_Mead dx (putF "cut" (.ref c) []))) := SameX.put fun b o nb e => s1 _ _ e
  have ncp : c ≠ p := ne_of hc (s1 _ _ hp) (fun z => nomatch z)
  have kx1 : Keeps H1 (upd H1 p (.ins T.c_Mead dx (putF "cut" (.ref c) []))) := fun b xs e => by rw [upd_ne (ne_of e (s1 _ _ hp) (fun z => nomatch z))]; exact e
  have hc1 : PLt (upd H1 p (.ins T.c_Mead dx (putF "cut" (.ref c) []))) c cut := ⟨cv, by rw [upd_ne ncp]; exact hc, prs_keep kx1 hpc⟩
  have hp1 : upd H1 p (.ins T.c_Mead dx (putF "cut" (.ref c) [])) p = some (.ins T.c_Mead dx (putF "cut" (.ref c) [])) := upd_same
  have n1 : ∀ b, upd H1 p (.ins T.c_Mead dx (putF "cut" (.ref c) [])) b = none → H b = none := fun b e => s1.free (gone_put (s1 _ _ hp) e)
  generalize upd H1 p (.ins T.c_Mead dx (putF "cut" (.ref c) [])) = H2 at sx1 hc1 hp1 n1 ⊢
  walk_at "st"
  refine w_sfldAt hp1 T.cl_Mead T.n_Mead_many (by show 1 < 1000; decide) ?_
  have sx2 : SameX p H (upd H2 p (.ins T.c_Mead dx (putF "many" (.int nn) (putF "cut" (.ref c) [])))) := sx1.put
  have sy2 : SameX p H2 (upd H2 p (.ins T.c_Mead dx (putF "many" (.int nn) (putF "cut" (.ref c) [])))) := SameX.put fun b o nb e => e
  have hc2 := sy2.plt hp1 hc1
  have hp2 : upd H2 p (.ins T.c_Mead dx (putF "many" (.int nn) (putF "cut" (.ref c) []))) p = some (.ins T.c_Mead dx (putF "many" (.int nn) (putF "cut" (.ref c) []))) := upd_same
  have n2 : ∀ b, upd H2 p (.ins T.c_Mead dx (putF "many" (.int nn) (putF "cut" (.ref c) []))) b = none → H b = none := fun b e => n1 b (gone_put hp1 e)
  generalize upd H2 p (.ins T.c_Mead dx (putF "many" (.int nn) (putF "cut" (.ref c) []))) = H3 at sx2 sy2 hc2 hp2 n2 ⊢
  have hL3 := sx2.ld hp hL
  walk_at "st"
  refine w_fldAt hp2 T.cl_Mead T.n_Mead_cut (v := .ref c) (by rw [show putF "many" (V.int nn) (putF "cut" (V.ref c) []) = ([("cut", .ref c), ("many", .int nn)] : List (Str × V)) from by rw [show putF "cut" (V.ref c) [] = ([("cut", .ref c)] : List (Str × V)) from rfl, pf_cons (by decide +kernel)]; rfl]; exact lk_here) ?_
  walk_at "st"
  refine ⟨nn, c, d, cut, ks, L, rfl, by omega, by omega, hc2, by omega, C.ties_nodup, hL3, fun z H' _ => hE2 z H', fun ok2 g H4 s4 ng hg => ?_⟩
  obtain ⟨⟨Sn, Sc, SD⟩, eS1, eS2, eS3, q2⟩ := q ok2
  have eS1 : nn = Sn := eS1.symm
  have eS2 : cut = Sc := eS2.symm
  subst eS1 eS2
  walk_at "st"
  refine w_sfldAt (s4 _ _ hp2) T.cl_Mead T.n_Mead_sized (by show 2 < 1000; decide) ?_
  have ngp : g ≠ p := (ne_of_none hp2 ng).symm
  have sx4 : SameX p H (upd H4 p (.ins T.c_Mead dx (putF "sized" (.ref g) (putF "many" (.int nn) (putF "cut" (.ref c) []))))) := (sx2.step s4).put
  have sy4 : SameX p H4 (upd H4 p (.ins T.c_Mead dx (putF "sized" (.ref g) (putF "many" (.int nn) (putF "cut" (.ref c) []))))) := SameX.put fun b o nb e => e
  have hc4 := sy4.plt (s4 _ _ hp2) (hc2.same s4)
  have hg4 := sy4.ld (s4 _ _ hp2) hg
  have hp4 : upd H4 p (.ins T.c_Mead dx (putF "sized" (.ref g) (putF "many" (.int nn) (putF "cut" (.ref c) [])))) p = some (.ins T.c_Mead dx (putF "sized" (.ref g) (putF "many" (.int nn) (putF "cut" (.ref c) [])))) := upd_same
  have n4 : ∀ b, upd H4 p (.ins T.c_Mead dx (putF "sized" (.ref g) (putF "many" (.int nn) (putF "cut" (.ref c) [])))) b = none → H b = none := fun b e => n2 b (s4.free (gone_put (s4 _ _ hp2) e))
  generalize upd H4 p (.ins T.c_Mead dx (putF "sized" (.ref g) (putF "many" (.int nn) (putF "cut" (.ref c) [])))) = H5 at sx4 sy4 hc4 hg4 hp4 n4 ⊢
  walk_at "st"
  refine Pm.w_newL (fun l1 hl1 => ?_)
  have s6 := same_new hl1 (.lst [])
  walk_at "st"
  refine w_sfldAt (s6 _ _ hp4) T.cl_Mead T.n_Mead_past (by show 3 < 1000; decide) ?_
  have nl1p : l1 ≠ p := (ne_of_none hp4 hl1).symm
  have nl1c : c ≠ l1 := by obtain ⟨xs, h, _⟩ := hc4; exact ne_of_none h hl1
  have sx6 : SameX p H (upd (upd H5 l1 (.lst [])) p (.ins T.c_Mead dx (putF "past" (.ref l1) (putF "sized" (.ref g) (putF "many" (.int nn) (putF "cut" (.ref c) [])))))) := (sx4.step s6).put
  have sy6 : SameX p (upd H5 l1 (.lst [])) (upd (upd H5 l1 (.lst [])) p (.ins T.c_Mead dx (putF "past" (.ref l1) (putF "sized" (.ref g) (putF "many" (.int nn) (putF "cut" (.ref c) [])))))) := SameX.put fun b o nb e => e
  have hc6 := sy6.plt (s6 _ _ hp4) (hc4.same s6)
  have hg6 := sy6.ld (s6 _ _ hp4) (hg4.same s6)
  have hl16 := sy6 l1 _ nl1p upd_same
  have hp6 : upd (upd H5 l1 (.lst [])) p (.ins T.c_Mead dx (putF "past" (.ref l1) (putF "sized" (.ref g) (putF "many" (.int nn) (putF "cut" (.ref c) []))))) p = some (.ins T.c_Mead dx (putF "past" (.ref l1) (putF "sized" (.ref g) (putF "many" (.int nn) (putF "cut" (.ref c) []))))) := upd_same
  have n6 : ∀ b, upd (upd H5 l1 (.lst [])) p (.ins T.c_Mead dx (putF "past" (.ref l1) (putF "sized" (.ref g) (putF "many" (.int nn) (putF "cut" (.ref c) []))))) b = none → H b = none := fun b e => n4 b (s6.free (gone_put (s6 _ _ hp4) e))
  have f1 : H l1 = none := n4 _ hl1
  generalize upd (upd H5 l1 (.lst [])) p (.ins T.c_Mead dx (putF "past" (.ref l1) (putF "sized" (.ref g) (putF "many" (.int nn) (putF "cut" (.ref c) []))))) = H6 at sx6 sy6 hc6 hg6 hl16 hp6 n6 ⊢
  walk_at "st"
  refine Pm.w_newL (fun l2 hl2 => ?_)
  have s7 := same_new hl2 (.lst [])
  walk_at "st"
  refine w_sfldAt (s7 _ _ hp6) T.cl_Mead T.n_Mead_ahead (by show 4 < 1000; decide) ?_
  rw [mf_new]
  have nl2p : l2 ≠ p := (ne_of_none hp6 hl2).symm
  have nl2c : c ≠ l2 := by obtain ⟨xs, h, _⟩ := hc6; exact ne_of_none h hl2
  have n12' : l1 ≠ l2 := ne_of_none hl16 hl2
  have sx7 : SameX p H (upd (upd H6 l2 (.lst [])) p (.ins T.c_Mead dx (mf (.ref c) (.int nn) (.ref g) (.ref l1) (.ref l2)))) := (sx6.step s7).put
  have sy7 : SameX p (upd H6 l2 (.lst [])) (upd (upd H6 l2 (.lst [])) p (.ins T.c_Mead dx (mf (.ref c) (.int nn) (.ref g) (.ref l1) (.ref l2)))) := SameX.put fun b o nb e => e
  have hc7 := sy7.plt (s7 _ _ hp6) (hc6.same s7)
  have hg7 := sy7.ld (s7 _ _ hp6) (hg6.same s7)
  have hl17 := sy7 l1 _ nl1p (s7 _ _ hl16)
  have hl27 := sy7 l2 _ nl2p upd_same
  have f2 : H l2 = none := n6 _ hl2
  have fc : H c = none := nc
  have fg : H g = none := n2 _ ng
  walk_at "st"
  have s07 : Same H0 (upd (upd H6 l2 (.lst [])) p (.ins T.c_Mead dx (mf (.ref c) (.int nn) (.ref g) (.ref l1) (.ref l2)))) := fun b o e => sx7 b o (ne_of_none e p0) (s0 _ _ e)
  have z0 : ∀ b, H b = none → H0 b = none := fun b e => s0.free e
  have hd7 : DLs K (upd (upd H6 l2 (.lst [])) p (.ins T.c_Mead dx (mf (.ref c) (.int nn) (.ref g) (.ref l1) (.ref l2)))) g ⟨nn, Sc, SD⟩ := by
    refine ⟨_, hg7.congr fun k hk => (eS3 k hk).symm, fun _ => Iff.rfl, fun k hk => small_tie' C n12 hk, ?_⟩
    rw [C.ties_len']
    omega
  obtain ⟨H0', Hs', r1, _, r3⟩ := mead_mk (K := K) (C := T.c_Mead) (S := ⟨nn, Sc, SD⟩) (P := []) (A := []) (Hs := fun _ => none) s07 (fun _ _ e => nomatch e) (fun _ _ e => nomatch e) p0 (z0 _ f1) (z0 _ f2) rfl rfl rfl n12' upd_same hl17 hl27 hc7 (z0 _ fc) nl1c nl2c hd7 (z0 _ fg) (fun _ _ _ _ => ⟨trivial, trivial⟩)
  exact q2 H0' Hs' _ r1 r3
end
section
variable {P : Program} {w : World} {K : PySem.W.Frag} {mg : Str → Option Value} {base : Heap}
theorem PLt.down {H H' : Hp} {a : Addr} {ps : List IP} (h : PLt H' a ps) (k : Keeps H' H) (e : H a = H' a) : PLt H a ps := h.keep k e
def spLength (K : PySem.W.Frag) (C C1 : Addr) : Sp := fun vs H Q E => ∃ (p : Addr) (H0 Hs : Hp) (S : Ms) (P A : List (Deed × Ms)) (B : Nat) (a b : Int), vs = [.ref p, .int a, .int b] ∧ MeadAt K C H0 Hs H p S P A ∧ Ok S B ∧ 4 * B ≤ 9000 ∧
  (¬ twoOk S.n a b → E (.ref C1) none H) ∧ (twoOk S.n a b → FrNew H (S.D (min a.toNat b.toNat) (max a.toNat b.toNat)) Q)
theorem ok_Mead_length (T : Tx K mg) : FnOk P w K mg base (L2.CX P w) 8 T.a_Mead_length T.fd_Mead_length ["self", "a", "b"] (spLength K T.c_Mead T.c_NoPost) := by
  refine T.F_Mead_length.okX sc_Mead_length (fun vs H Q E h => ?_) (fun cdv A outer s H vs Q E hr h => ?_)
  · obtain ⟨p, H0, Hs, S, P, A, B, a, b, rfl, _⟩ := h
    rfl
  obtain ⟨p, H0, Hs, S, P, A, B, a, b, rfl, M, ⟨n12, t, L, F, C, Mm, Z⟩, hB, hE, q⟩ := h
  obtain ⟨dx, lp, la, c, d, vs, us, p0, l0, a0, ps, ls, as, nla, hp, hlp, hla, hc, hd, hP, hA⟩ := M.ex
  refine ⟨_, (pss_one (ps_ret (pe_call (ok_measured T) (hr.mono (by decide)) (by rfl) T.g_measured T.F_measured.kp T.b_measured .nil (passes_call (takes_of rfl rfl rfl rfl) (fun _ _ _ _ h => h)) (pa_cons (k_fld (K := K) (pe_fld (pv 0) rfl)) (pa_cons (k_fld (K := K) (pe_fld (pv 0) rfl)) (pa_cons (k_fld (K := K) (pe_fld (pv 0) rfl)) (pa_cons (pv 1) (pa_cons (pv 2) pa_nil)))))))), ?_⟩
  walk_at "st"
  refine w_fldAt hp T.cl_Mead T.n_Mead_many (mf_many _ _ _ _ _) ?_
  walk_at "st"
  refine w_fldAt hp T.cl_Mead T.n_Mead_cut (mf_cut _ _ _ _ _) ?_
  walk_at "st"
  refine w_fldAt hp T.cl_Mead T.n_Mead_sized (mf_sized _ _ _ _ _) ?_
  walk_at "st"
  exact ⟨S.n, c, d, S.cut, t, L, S.D, F, B, a, b, rfl, by omega, hc.same M.ss, C, (hd.same M.ss).len C, Mm, Z, hB, hE, q⟩
/-- an entry of past: a deed, and something -/
def EnT (K : PySem.W.Frag) (H : Hp) (v : V) (e : Deed) : Prop := ∃ (t s : Addr) (u : V), v = .ref t ∧ H t = some (.tup [u, .ref s]) ∧ DeedAt K H u e
theorem enT_mono (H H' : Hp) (v : V) (e : Deed) (k : Keeps H H') (h : EnT K H v e) : EnT K H' v e := by
  obtain ⟨t, s, u, rfl, h1, h2⟩ := h
  exact ⟨t, s, u, rfl, k _ _ h1, h2.keep k⟩
theorem deed_mono (H H' : Hp) (v : V) (e : Deed) (k : Keeps H H') (h : DeedAt K H v e) : DeedAt K H' v e := h.keep k
theorem all2_map {α β γ : Type} {R : α → β → Prop} {R2 : α → γ → Prop} {f : β → γ} (g : ∀ x y, R x y → R2 x (f y)) : ∀ {xs : List α} {ys : List β}, All2 R xs ys → All2 R2 xs (ys.map f)
  | [], [], _ => trivial
  | _ :: _, _ :: _, h => ⟨g _ _ h.1, all2_map g h.2⟩
def spDeeds (K : PySem.W.Frag) (C : Addr) : Sp := fun vs H Q _ => ∃ (p : Addr) (H0 Hs : Hp) (S : Ms) (P A : List (Deed × Ms)), vs = [.ref p] ∧ MeadAt K C H0 Hs H p S P A ∧ P.length ≤ 1000 ∧ ∀ (l : Addr) (H' : Hp) (ws : List V), Same H H' → H l = none → H' l = some (.lst ws) → All2 (DeedAt K H') ws (P.map (·.1)) → Q (.ref l) H'
theorem ok_Mead_deeds (T : Tx K mg) : FnOk P w K mg base CX0 1 T.a_Mead_deeds T.fd_Mead_deeds ["self"] (spDeeds K T.c_Mead) := by
  refine T.F_Mead_deeds.ok sc_Mead_deeds (fun vs H Q E h => ?_) (fun cdv A outer s H vs Q E hr h => ?_)
  · obtain ⟨p, H0, Hs, S, P, A, rfl, _⟩ := h
    rfl
  obtain ⟨p, H0, Hs, S, P, A, rfl, M, Pl, q⟩ := h
  obtain ⟨dx, lp, la, c, d, vs, us, p0, l0, a0, ps, ls, as, nla, hp, hlp, hla, hc, hd, hP, hA⟩ := M.ex
  refine ⟨_, (pss_one (ps_ret (pe_lc (own := [("entry", 1)]) (g := gName 1) (tt := tYes) rfl sc_Mead_deeds.nd (k_il (K := K) (pi_list (k_fld (K := K) (pe_fld (pv 0) rfl)))) (blkOk_by (N := N_Mead_deeds) (sc := defScope s_Mead_deeds) (by decide +kernel)) (fun _ _ _ _ _ => (pg_name (i := 1) sc_Mead_deeds.nd rfl (.inl rfl))) (fun _ _ _ _ _ => pts_nil) (fun _ _ _ _ _ => (pe_ix (ix_tupK (K := K)) (pv 1) (pe_int) (fun _ _ => rfl)))))), ?_⟩
  walk_at "st"
  refine w_fldAt hp T.cl_Mead T.n_Mead_past (mf_past _ _ _ _ _) ?_
  refine Pm.w_rdL (SqL.of hlp) ?_
  have hT : All2 (EnT K H) vs (P.map (·.1)) := all2_map (fun v e r => by
    obtain ⟨t, z, c, d, u, e1, h1, h2, h3, _⟩ := r.same M.ss
    exact ⟨t, z, u, e1, h1, h2⟩) hP
  refine Pm.w_lcLf (R := DeedAt K) deed_mono (S := EnT K) enT_mono (SqL.of hlp) hT id (fun _ => true) (by rw [List.length_map]; omega) (fun D x e H3 Nx hD hm hs s3 put skip => ?_) (fun D H3 ws hD s3 hd ha => ?_)
  · obtain ⟨t, z, u, rfl, h1, h2⟩ := hs
    walk_at "st"
    refine Pm.w_ixT (SqT.of h1) rfl ?_
    exact put _ _ rfl (Same.refl _) h2
  · rw [List.map_id, List.filter_eq_self.mpr fun _ _ => rfl] at ha
    exact q D H3 ws s3 hD hd ha
def spTurn (K : PySem.W.Frag) (C C1 : Addr) : Sp := fun vs H Q E => ∃ (p : Addr) (H0 Hs : Hp) (S : Ms) (P A : List (Deed × Ms)) (B : Nat) (a b : Int), vs = [.ref p, .int a, .int b] ∧ MeadAt K C H0 Hs H p S P A ∧ Ok S B ∧ 4 * B ≤ 9000 ∧ P.length ≤ 1000 ∧
  (tieOf a b ∉ S.cut → ∀ H', Same H H' → E (.ref C1) none H') ∧ (tieOf a b ∈ S.cut → ∀ (H0' Hs' H' : Hp) (u : Addr), Same H0 H0' → Same Hs Hs' → MeadAt K C H0' Hs' H' p (turnS S a b) (P ++ [((Deed.turn a b).told, S)]) [] → Pr H' (.ref u) (freshP S a b) → Q (.ref u) H')
theorem ok_Mead_turn (T : Tx K mg) : FnOk P w K mg base (L2.CX P w) 9 T.a_Mead_turn T.fd_Mead_turn ["self", "a", "b"] (spTurn K T.c_Mead T.c_NoRope) := by
  refine T.F_Mead_turn.okX sc_Mead_turn (fun vs H Q E h => ?_) (fun cdv A outer s H vs Q E hr h => ?_)
  · obtain ⟨p, H0, Hs, S, P, A, B, a, b, rfl, _⟩ := h
    rfl
  obtain ⟨p, H0, Hs, S, P, A, B, a, b, rfl, M, ⟨n12, t, L, F, C, Mm, Z⟩, hB, Pl, hE, q⟩ := h
  obtain ⟨dx, lp, la, c, d, vs, us, p0, l0, a0, ps, ls, as, nla, hp, hlp, hla, hc, hd, hP, hA⟩ := M.ex
  have hcH := hc.same M.ss
  have cl := C.cut_len
  have n3 := C.n3
  refine ⟨_, (pss_cons (ps_set (i := 3) sc_Mead_turn.nd rfl (.inl rfl) (pe_call (ok_laid T) (hr.mono (by decide)) (by rfl) T.g_laid T.F_laid.kp T.b_laid .nil (passes_call (takes_of rfl rfl rfl rfl) (fun _ _ _ _ h => h)) (pa_cons (k_fld (K := K) (pe_fld (pv 0) rfl)) (pa_cons (k_fld (K := K) (pe_fld (pv 0) rfl)) (pa_cons (k_fld (K := K) (pe_fld (pv 0) rfl)) (pa_cons (pv 1) (pa_cons (pv 2) pa_nil)))))))
      (pss_cons (ps_set (i := 4) sc_Mead_turn.nd rfl (.inl rfl) (pe_call (ok_turned T) (hr.mono (by decide)) (by rfl) T.g_turned T.F_turned.kp T.b_turned .nil (passes_call (takes_of rfl rfl rfl rfl) (fun _ _ _ _ h => h)) (pa_cons (k_fld (K := K) (pe_fld (pv 0) rfl)) (pa_cons (k_fld (K := K) (pe_fld (pv 0) rfl)) (pa_cons (pv 1) (pa_cons (pv 2) pa_nil))))))
      (pss_cons (ps_setLc (i := 5) (own := [("rope", 6)]) (g := gName 6) rfl sc_Mead_turn.nd rfl rfl (sw_true rfl rfl rfl (by decide +kernel)) (k_il (K := K) (pi_list (pv 4))) (blkOk_by (N := N_Mead_turn) (sc := defScope s_Mead_turn) (by decide +kernel)) (fun _ _ _ _ _ => (pg_name (i := 6) sc_Mead_turn.nd rfl (.inl rfl))) (fun _ _ _ _ _ => (pts_one (pt_cmpR (op_notInDK (K := K) hr.u65) (pv 6) (k_fld (K := K) (pe_fld (pv 0) rfl)) (by rfl)))) (fun _ _ _ _ _ => (pv 6)))
      (pss_cons (ps_expr (pe_meth (pv 0) T.cl_Mead T.M_Mead_done (ok_Mead_done T) (hr.mono (by decide)) T.b_Mead_done .nil pass0 (pa_cons (pe_tup (pa_cons (pe_str) (pa_cons (pe_callB (c_min rfl) (by rfl) T.m_min (by decide +kernel) (pa_cons (pv 1) (pa_cons (pv 2) pa_nil))) (pa_cons (pe_callB (c_max rfl) (by rfl) T.m_max (by decide +kernel) (pa_cons (pv 1) (pa_cons (pv 2) pa_nil))) pa_nil)))) (pa_cons (pe_tup (pa_cons (k_fld (K := K) (pe_fld (pv 0) rfl)) (pa_cons (pv 4) (pa_cons (pv 3) pa_nil)))) pa_nil))))
      (pss_one (ps_ret (pe_ix (ix_listK (K := K)) (pv 5) (pe_int) (fun _ _ => rfl)))))))), ?_⟩
  walk_at "st"
  refine w_fldAt hp T.cl_Mead T.n_Mead_many (mf_many _ _ _ _ _) ?_
  walk_at "st"
  refine w_fldAt hp T.cl_Mead T.n_Mead_cut (mf_cut _ _ _ _ _) ?_
  walk_at "st"
  refine w_fldAt hp T.cl_Mead T.n_Mead_sized (mf_sized _ _ _ _ _) ?_
  walk_at "st"
  refine ⟨S.n, c, d, S.cut, t, L, S.D, F, B, a, b, rfl, by omega, hcH, C, (hd.same M.ss).len C, Mm, Z, hB, hE, fun e g H1 t' s1 ng C' hg M' => ?_⟩
  have q := q e
  have hp1 := s1 _ _ hp
  walk_at "st"
  refine w_fldAt hp1 T.cl_Mead T.n_Mead_many (mf_many _ _ _ _ _) ?_
  walk_at "st"
  refine w_fldAt hp1 T.cl_Mead T.n_Mead_cut (mf_cut _ _ _ _ _) ?_
  walk_at "st"
  have bl : 2 ≤ (besideL S.n (tiesL S.n S.cut) a b).length := by
    rw [C.beside_len (mem_ties.mpr (.inr e)), if_pos e]
    omega
  refine ⟨S.n, c, S.cut, a, b, rfl, by omega, by omega, hcH.same s1, by omega, fun z => absurd e z, fun _ => ⟨bl, fun l H2 ws s2 nl hl hpl => ?_⟩⟩
  have s12 := s1.trans s2
  have hp2 := s12 _ _ hp
  have wl := hpl.length
  have cl' := C'.cut_len
  obtain ⟨x, y, et, hxy, eT⟩ := C.rope_nat e
  obtain ⟨t'', m, o, Rr, U⟩ := C.turn hxy
  have fresh := U.fresh C
  have eF : freshP S a b = castP (min m o, max m o) := by
    have e1 := congrArg Prod.fst et
    have e2 := congrArg Prod.snd et
    simp only [tieOf, castP] at e1 e2
    have : besideL S.n (tiesL S.n S.cut) a b = besideL S.n (tiesL S.n S.cut) x y := by
      rcases Int.le_total a b with z | z
      · rw [show a = (x : Int) by omega, show b = (y : Int) by omega]
      · rw [beside_comm, show a = (y : Int) by omega, show b = (x : Int) by omega]
    unfold freshP
    rw [this, U.bes]
    rfl
  rw [← eT, ← eF] at fresh
  obtain ⟨cv, hcv, hpv⟩ := hcH.same s12
  walk_at "st"
  refine Pm.w_rdL (SqL.of hl) ?_
  refine Pm.w_lcLf (R := Pr) pr_mono (S := Pr) pr_mono (SqL.of hl) hpl id (fun p => !decide (p ∈ S.cut)) (by omega) (fun D1 x1 p H3 Nx hD hm hs s3 put skip => ?_) (fun D1 H3 ws3 hD s3 hd3 ha => ?_)
  · walk_at "st"
    refine w_fldAt (s3 _ _ hp2) T.cl_Mead T.n_Mead_cut (mf_cut _ _ _ _ _) ?_
    refine Pm.w_ninPL hs (SqL.of (s3 _ _ hcv)) (prs_keep (keeps s3) hpv) ?_
    walk_at "st"
    refine Pm.w_iteN (fun z => ?_) (fun z => ?_)
    · walk_at "st"
      exact put _ _ (by simp [z]) (Same.refl _) hs
    · exact skip _ (by simp [z]) (Same.refl _)
  rw [List.map_id, fresh] at ha
  have hw : ∃ u, ws3 = [.ref u] ∧ Pr H3 (.ref u) (freshP S a b) := by
    match ws3, ha with
    | [x], h =>
      obtain ⟨u, rfl, hu⟩ := h.1
      exact ⟨u, rfl, u, rfl, hu⟩
  obtain ⟨u, rfl, hu⟩ := hw
  have s03 := s12.trans s3
  have hp3 := s03 _ _ hp
  walk_at "st"
  refine w_methAt hp3 (mf_no _ _ _ _ _ (by decide +kernel) (by decide +kernel) (by decide +kernel) (by decide +kernel) (by decide +kernel)) ?_
  walk_at "st"
  refine Pm.w_newT (fun t1 ht1 => ?_)
  have s4 := same_new ht1 (.tup [.str "turn", .int (min a b), .int (max a b)])
  walk_at "st"
  refine w_fldAt (s4 _ _ hp3) T.cl_Mead T.n_Mead_many (mf_many _ _ _ _ _) ?_
  walk_at "st"
  refine Pm.w_newT (fun t2 ht2 => ?_)
  have s5 := same_new ht2 (.tup [.int S.n, .ref l, .ref g])
  walk_at "st"
  have s05 := s03.trans (s4.trans s5)
  have s25 := s3.trans (s4.trans s5)
  have s15 := s2.trans s25
  obtain ⟨H0', Hs', g1, g2, M5, f5⟩ := M.grow s05
  have hl5 : PLt H0' l (turnedL S.n S.cut a b) := PLt.down ⟨ws, s25 _ _ hl, prs_keep (keeps s25) hpl⟩ M5.k0 (f5 l (s1.free nl))
  have hD5 : H0' D1 = some (.lst [.ref u]) := by rw [f5 D1 (s12.free hD)]; exact (s4.trans s5) _ _ hd3
  have hu5 : Pr H0' (.ref u) (freshP S a b) := hu.keep ((keeps (s4.trans s5)).trans M5.k0)
  refine ⟨p, t2, l, g, .ref t1, H0', Hs', S, turnS S a b, P, A, (Deed.turn a b).told, rfl, M5, Pl, ⟨t1, rfl, s5 _ _ upd_same⟩, upd_same, .inl hl5, LenD.dls (S := turnS S a b) (hg.same s15) C' n12, fun H0'' Hs'' H6 r1 r2 M6 => ?_⟩
  walk_at "st"
  refine Pm.w_ixL (SqL.of (M6.s0 _ _ (r1 _ _ hD5))) (show atI [V.ref u] 0 = some (.ref u) from rfl) ?_
  exact q H0'' Hs'' H6 u (g1.trans r1) (g2.trans r2) M6 (hu5.keep (keeps (r1.trans M6.s0)))
def spMStretch (K : PySem.W.Frag) (C C1 C2 : Addr) : Sp := fun vs H Q E => ∃ (p fa : Addr) (H0 Hs : Hp) (S : Ms) (P A : List (Deed × Ms)) (B m : Nat) (post : Int) (f : Rat), vs = [.ref p, .int post, .ref fa] ∧ MeadAt K C H0 Hs H p S P A ∧ Ok S B ∧ B + m ≤ 9000 ∧ P.length ≤ 1000 ∧ FrV K H (.ref fa) (rp f) ∧ rb f m ∧
  (¬ (0 ≤ post ∧ post < S.n) → ∀ H', Same H H' → E (.ref C1) none H') ∧ (0 ≤ post ∧ post < S.n → ¬ 0 < f → ∀ H', Same H H' → E (.ref C2) none H') ∧
  (0 ≤ post ∧ post < S.n → 0 < f → ∀ (H0' Hs' H' : Hp), Same H0 H0' → Same Hs Hs' → MeadAt K C H0' Hs' H' p (strS S post.toNat f) (P ++ [(Deed.stretch post f, S)]) [] → Q .non H')
theorem lenOk_rp' {f : Rat} : lenOk (rp f) ↔ 0 < f := by
  unfold lenOk partOk rp
  simp only
  have := f.den_nz
  have r : Int.gcd f.num (f.den : Int) = 1 := f.reduced
  constructor
  · intro h
    have h2 : (0 : Rat) ≤ f := Rat.num_nonneg.mp (by omega)
    have h3 : f ≠ 0 := fun z => by rw [z] at h; exact absurd h.2 (by decide)
    grind
  · exact fun h => ⟨⟨by omega, r⟩, pos_num h⟩
theorem ok_Mead_stretch (T : Tx K mg) : FnOk P w K mg base (L2.CX P w) 5 T.a_Mead_stretch T.fd_Mead_stretch ["self", "post", "factor"] (spMStretch K T.c_Mead T.c_NoPost T.c_NoFraction) := by
  refine T.F_Mead_stretch.okX sc_Mead_stretch (fun vs H Q E h => ?_) (fun cdv A outer s H vs Q E hr h => ?_)
  · obtain ⟨p, fa, H0, Hs, S, P, A, B, m, post, f, rfl, _⟩ := h
    rfl
  obtain ⟨p, fa, H0, Hs, S, P, A, B, m, post, f, rfl, M, ⟨n12, t, L, F, C, Mm, Z⟩, hB, Pl, hfa, hfm, hE1, hE2, q⟩ := h
  obtain ⟨dx, lp, la, c, d, vs, us, p0, l0, a0, ps, ls, as, nla, hp, hlp, hla, hc, hd, hP, hA⟩ := M.ex
  refine ⟨_, (pss_cons (ps_set (i := 3) sc_Mead_stretch.nd rfl (.inl rfl) (pe_call (ok_stretched T) (hr.mono (by decide)) (by rfl) T.g_stretched T.F_stretched.kp T.b_stretched .nil (passes_call (takes_of rfl rfl rfl rfl) (fun _ _ _ _ h => h)) (pa_cons (k_fld (K := K) (pe_fld (pv 0) rfl)) (pa_cons (k_fld (K := K) (pe_fld (pv 0) rfl)) (pa_cons (pv 1) (pa_cons (pv 2) pa_nil))))))
      (pss_one (ps_expr (pe_meth (pv 0) T.cl_Mead T.M_Mead_done (ok_Mead_done T) (hr.mono (by decide)) T.b_Mead_done .nil pass0 (pa_cons (pe_tup (pa_cons (pe_str) (pa_cons (pv 1) (pa_cons (pv 2) pa_nil)))) (pa_cons (pe_tup (pa_cons (k_fld (K := K) (pe_fld (pv 0) rfl)) (pa_cons (k_fld (K := K) (pe_fld (pv 0) rfl)) (pa_cons (pv 3) pa_nil)))) pa_nil)))))), ?_⟩
  walk_at "st"
  refine w_fldAt hp T.cl_Mead T.n_Mead_many (mf_many _ _ _ _ _) ?_
  walk_at "st"
  refine w_fldAt hp T.cl_Mead T.n_Mead_sized (mf_sized _ _ _ _ _) ?_
  walk_at "st"
  refine ⟨S.n, d, fa, S.cut, t, L, S.D, F, B, m, post, rp f, rfl, by omega, C, (hd.same M.ss).len C, Mm, Z, hB, hfa, hfm.1, by show ((f.den : Int)).natAbs < 2 ^ m; have := hfm.2; omega, fun z => hE1 z _ (Same.refl _), fun po z => hE2 po (fun y => z (lenOk_rp'.mpr y)) _ (Same.refl _), fun po f' ef fpos _ g H1 s1 ng hg => ?_⟩
  have e1 := rp_inj ef
  subst e1
  have q := q po fpos
  walk_at "st"
  have hp1 := s1 _ _ hp
  refine w_methAt hp1 (mf_no _ _ _ _ _ (by decide +kernel) (by decide +kernel) (by decide +kernel) (by decide +kernel) (by decide +kernel)) ?_
  walk_at "st"
  refine Pm.w_newT (fun t1 ht1 => ?_)
  have s4 := same_new ht1 (.tup [.str "stretch", .int post, .ref fa])
  walk_at "st"
  refine w_fldAt (s4 _ _ hp1) T.cl_Mead T.n_Mead_many (mf_many _ _ _ _ _) ?_
  walk_at "st"
  refine w_fldAt (s4 _ _ hp1) T.cl_Mead T.n_Mead_cut (mf_cut _ _ _ _ _) ?_
  walk_at "st"
  refine Pm.w_newT (fun t2 ht2 => ?_)
  have s5 := same_new ht2 (.tup [.int S.n, .ref c, .ref g])
  walk_at "st"
  have s05 := s1.trans (s4.trans s5)
  obtain ⟨H0', Hs', g1, g2, M5, f5⟩ := M.grow s05
  refine ⟨p, t2, c, g, .ref t1, H0', Hs', S, strS S post.toNat f, P, A, Deed.stretch post f, rfl, M5, Pl, ⟨t1, fa, rfl, s5 _ _ upd_same, hfa.keep (keeps s05)⟩, upd_same, .inr (hc.same g2), LenD.dls (S := strS S post.toNat f) (hg.same (s4.trans s5)) C n12, fun H0'' Hs'' H6 r1 r2 M6 => ?_⟩
  walk_at "st"
  exact q H0'' Hs'' H6 (g1.trans r1) (g2.trans r2) M6
end
section
variable {P : Program} {w : World} {K : PySem.W.Frag} {mg : Str → Option Value} {base : Heap}
/-- a value put where it belongs -/
theorem w_ldPutS {nx : L2.St → Hp → Prop} {σ : L2.St} {H : Hp} {d b : Addr} {ks : List IP} {L : IP → IP} {k : IP} {v : V} (h : LD K H d ks L) (hb : Pr H (.ref b) k) (hv : FrV K H v (L k)) (hl : ks.length < 1000000) (q : ∀ es, LD K (upd H d (.dT es)) d (putk ks k) L → Keeps H (upd H d (.dT es)) → nx σ (upd H d (.dT es))) : DPK nx σ v (.ref d) (.ref b) H :=
  w_ldPut h hb hv hl fun es h1 h2 => q es (h1.congr fun j _ => by
    by_cases e : j = k
    · rw [e, updF_same]
    · rw [updF_ne e]) h2
def spMovedUp : Sp := fun vs H Q _ => ∃ i k : Int, vs = [.int i, .int k] ∧ Q (.int (mu k i)) H
theorem ok_moved_up (T : Tx K mg) : FnOk P w K mg base CX0 1 T.a_moved_up T.fd_moved_up ["post", "k"] spMovedUp := by
  refine T.F_moved_up.ok sc_moved_up (fun vs H Q E h => ?_) (fun cdv A outer s H vs Q E hr h => ?_)
  · obtain ⟨i, k, rfl, _⟩ := h
    rfl
  obtain ⟨i, k, rfl, q⟩ := h
  refine ⟨_, (pss_cons (ps_if (pt_cmpR op_gt (pv 0) (pv 1) (nomark _)) (pss_one (ps_ret (pe_op op_add (pv 0) (pe_int)))) pss_nil)
      (pss_one (ps_ret (pv 0)))), ?_⟩
  unfold mu at q
  walk_at "st"
  refine Pm.w_ite (fun e => ?_) (fun e => ?_)
  · rw [if_pos e] at q
    walk_at "st"
    exact q
  · rw [if_neg e] at q
    walk_at "st"
    exact q
def spSetOut (K : PySem.W.Frag) (C C1 C2 C3 : Addr) : Sp := fun vs H Q E => ∃ (p fa fb : Addr) (H0 Hs : Hp) (S : Ms) (P A : List (Deed × Ms)) (B : Nat) (k : Int) (x y : Rat), vs = [.ref p, .int k, .ref fa, .ref fb] ∧ MeadAt K C H0 Hs H p S P A ∧ Ok S B ∧ P.length ≤ 1000 ∧ FrV K H (.ref fa) (rp x) ∧ FrV K H (.ref fb) (rp y) ∧
  (¬ (0 ≤ k ∧ k < S.n) → ∀ H', Same H H' → E (.ref C1) none H') ∧ (0 ≤ k ∧ k < S.n → ¬ (0 < x ∧ 0 < y) → ∀ H', Same H H' → E (.ref C2) none H') ∧ (0 ≤ k ∧ k < S.n → 0 < x ∧ 0 < y → S.n = 12 → ∀ H', Same H H' → E (.ref C3) none H') ∧
  (0 ≤ k ∧ k < S.n → 0 < x ∧ 0 < y → S.n ≠ 12 → ∀ (H0' Hs' H' : Hp), Same H0 H0' → Same Hs Hs' → MeadAt K C H0' Hs' H' p (setS S k.toNat x y) (P ++ [(Deed.set k x y, S)]) [] → Q (.int (k + 1)) H')
theorem ok_Mead_set_out (T : Tx K mg) : FnOk P w K mg base (L2.CX P w) 4 T.a_Mead_set_out T.fd_Mead_set_out ["self", "k", "one", "other"] (spSetOut K T.c_Mead T.c_NoPost T.c_NoFraction T.c_Full) := by
  refine T.F_Mead_set_out.okX sc_Mead_set_out (fun vs H Q E h => ?_) (fun cdv A outer s H vs Q E hr h => ?_)
  · obtain ⟨p, fa, fb, H0, Hs, S, P, A, B, k, x, y, rfl, _⟩ := h
    rfl
  obtain ⟨p, fa, fb, H0, Hs, S, P, A, B, k, x, y, rfl, M, ⟨n12, t, L, F, C, Mm, Z⟩, Pl, hfa, hfb, hE1, hE2, hE3, q⟩ := h
  obtain ⟨dx, lp, la, c, d, vs, us, p0, l0, a0, ps, ls, as, nla, hp, hlp, hla, hc, hd, hP, hA⟩ := M.ex
  have cl := C.cut_len
  have n3 := C.n3
  refine ⟨_, (pss_cons (ps_if (PW.pt (pw_or (pt_cmpR op_lt (pv 1) (pe_int) (nomark _)) (pw_or1 (pt_cmpR op_ge (pv 1) (k_fld (K := K) (pe_fld (pv 0) rfl)) (nomark _))))) (pss_one (ps_raise rfl (takes_of rfl rfl rfl rfl) (pmk_own PySem.F.excBase_ValueError T.x_NoPost T.g_NoPost T.k_NoPost (raises_own T.b_NoPost T.t_NoPost) rfl))) pss_nil)
      (pss_cons (ps_if (PW.pt (pw_or (pt_not (pt_val (pe_call (ok_is_length T) (hr.mono (by decide)) (by rfl) T.g_is_length T.F_is_length.kp T.b_is_length .nil pass0 (pa_cons (pv 2) pa_nil)))) (pw_or1 (pt_not (pt_val (pe_call (ok_is_length T) (hr.mono (by decide)) (by rfl) T.g_is_length T.F_is_length.kp T.b_is_length .nil pass0 (pa_cons (pv 3) pa_nil))))))) (pss_one (ps_raise rfl (takes_of rfl rfl rfl rfl) (pmk_own PySem.F.excBase_ValueError T.x_NoFraction T.g_NoFraction T.k_NoFraction (raises_own T.b_NoFraction T.t_NoFraction) rfl))) pss_nil)
      (pss_cons (ps_if (pt_cmpR op_eq (k_fld (K := K) (pe_fld (pv 0) rfl)) (pe_glob (by rfl) T.g_MOST T.r_MOST) (nomark _)) (pss_one (ps_raise rfl (takes_of rfl rfl rfl rfl) (pmk_own PySem.F.excBase_ValueError T.x_Full T.g_Full T.k_Full (raises_own T.b_Full T.t_Full) rfl))) pss_nil)
      (pss_cons (ps_set (i := 4) sc_Mead_set_out.nd rfl (.inl rfl) (pe_op op_mod (pe_op op_add (pv 1) (pe_int)) (k_fld (K := K) (pe_fld (pv 0) rfl))))
      (pss_cons (ps_set (i := 5) sc_Mead_set_out.nd rfl (.inl rfl) (pe_op op_add (pv 1) (pe_int)))
      (pss_cons (ps_setLc (i := 6) (own := [("a", 7), ("b", 8)]) (g := gTup K 2 (gCons (gName 7) (gCons (gName 8) (gNil)))) (tt := tYes) rfl sc_Mead_set_out.nd rfl rfl (sw_true rfl rfl rfl (by decide +kernel)) (k_il (K := K) (pi_list (k_fld (K := K) (pe_fld (pv 0) rfl)))) (blkOk_by (N := N_Mead_set_out) (sc := defScope s_Mead_set_out) (by decide +kernel)) (fun _ _ _ _ _ => (k_gt (K := K) (pg_tup (by rfl) (pgs_cons (pg_name (i := 7) sc_Mead_set_out.nd rfl (.inl rfl)) (pgs_cons (pg_name (i := 8) sc_Mead_set_out.nd rfl (.inl rfl)) pgs_nil))))) (fun _ _ _ _ _ => pts_nil) (fun _ _ _ _ _ => (pe_tup (pa_cons (pe_call (ok_moved_up T) (hr.mono (by decide)) (by rfl) T.g_moved_up T.F_moved_up.kp T.b_moved_up .nil pass0 (pa_cons (pv 7) (pa_cons (pv 1) pa_nil))) (pa_cons (pe_call (ok_moved_up T) (hr.mono (by decide)) (by rfl) T.g_moved_up T.F_moved_up.kp T.b_moved_up .nil pass0 (pa_cons (pv 8) (pa_cons (pv 1) pa_nil))) pa_nil)))))
      (pss_cons (ps_expr (k_bm (K := K) (pe_bm PySem.F.plainAttrs_list PySem.F.slot_list_append PySem.F.type_list_append mt_append (pv 6) (pa_cons (pe_call (ok_tie_of T) (hr.mono (by decide)) (by rfl) T.g_tie_of T.F_tie_of.kp T.b_tie_of .nil pass0 (pa_cons (pv 1) (pa_cons (pe_call (ok_moved_up T) (hr.mono (by decide)) (by rfl) T.g_moved_up T.F_moved_up.kp T.b_moved_up .nil pass0 (pa_cons (pv 4) (pa_cons (pv 1) pa_nil))) pa_nil))) pa_nil))))
      (pss_cons (ps_set (i := 9) sc_Mead_set_out.nd rfl (.inl rfl) (pe_dnewT))
      (pss_cons (ps_lock (ps_for (passes_of rfl) rfl (pi_itemsT (k_fld (K := K) (pe_fld (pv 0) rfl))) (k_gt (K := K) (pg_tup (by rfl) (pgs_cons (k_gt (K := K) (pg_tup (by rfl) (pgs_cons (pg_name (i := 7) sc_Mead_set_out.nd rfl (.inl rfl)) (pgs_cons (pg_name (i := 8) sc_Mead_set_out.nd rfl (.inl rfl)) pgs_nil)))) (pgs_cons (pg_name (i := 10) sc_Mead_set_out.nd rfl (.inl rfl)) pgs_nil)))) (pss_one (ps_dput (hu_of hr) (pv 9) (pe_tup (pa_cons (pe_call (ok_moved_up T) (hr.mono (by decide)) (by rfl) T.g_moved_up T.F_moved_up.kp T.b_moved_up .nil pass0 (pa_cons (pv 7) (pa_cons (pv 1) pa_nil))) (pa_cons (pe_call (ok_moved_up T) (hr.mono (by decide)) (by rfl) T.g_moved_up T.F_moved_up.kp T.b_moved_up .nil pass0 (pa_cons (pv 8) (pa_cons (pv 1) pa_nil))) pa_nil))) (pv 10) rfl))))
      (pss_cons (ps_dput (hu_of hr) (pv 9) (pe_call (ok_tie_of T) (hr.mono (by decide)) (by rfl) T.g_tie_of T.F_tie_of.kp T.b_tie_of .nil pass0 (pa_cons (pv 1) (pa_cons (pv 5) pa_nil))) (pv 2) rfl)
      (pss_cons (ps_dput (hu_of hr) (pv 9) (pe_call (ok_tie_of T) (hr.mono (by decide)) (by rfl) T.g_tie_of T.F_tie_of.kp T.b_tie_of .nil pass0 (pa_cons (pv 5) (pa_cons (pe_call (ok_moved_up T) (hr.mono (by decide)) (by rfl) T.g_moved_up T.F_moved_up.kp T.b_moved_up .nil pass0 (pa_cons (pv 4) (pa_cons (pv 1) pa_nil))) pa_nil))) (pv 3) rfl)
      (pss_cons (ps_expr (pe_meth (pv 0) T.cl_Mead T.M_Mead_done (ok_Mead_done T) (hr.mono (by decide)) T.b_Mead_done .nil pass0 (pa_cons (pe_tup (pa_cons (pe_str) (pa_cons (pv 1) (pa_cons (pv 2) (pa_cons (pv 3) pa_nil))))) (pa_cons (pe_tup (pa_cons (pe_op op_add (k_fld (K := K) (pe_fld (pv 0) rfl)) (pe_int)) (pa_cons (pe_callB (cr_sortK (K := K)) (by rfl) T.m_sorted (by decide +kernel) (pa_cons (pv 6) pa_nil)) (pa_cons (pv 9) pa_nil)))) pa_nil))))
      (pss_one (ps_ret (pv 5))))))))))))))), ?_⟩
  walk_at "st"
  refine Pm.w_ite (fun e => hE1 (by omega) _ (Same.refl _)) (fun e1 => ?_)
  walk_at "st"
  refine w_fldAt hp T.cl_Mead T.n_Mead_many (mf_many _ _ _ _ _) ?_
  walk_at "st"
  refine Pm.w_ite (fun e => hE1 (by omega) _ (Same.refl _)) (fun e2 => ?_)
  have kok : 0 ≤ k ∧ k < (S.n : Int) := ⟨by omega, by omega⟩
  walk_at "st"
  refine ⟨fa, _, rfl, hfa, ?_⟩
  walk_at "st"
  refine Pm.w_iteN (fun e => hE2 kok (fun z => e (lenOk_rp'.mpr z.1)) _ (Same.refl _)) (fun lx => ?_)
  walk_at "st"
  refine ⟨fb, _, rfl, hfb, ?_⟩
  walk_at "st"
  refine Pm.w_iteN (fun e => hE2 kok (fun z => e (lenOk_rp'.mpr z.2)) _ (Same.refl _)) (fun ly => ?_)
  have xy : 0 < x ∧ 0 < y := ⟨lenOk_rp'.mp lx, lenOk_rp'.mp ly⟩
  walk_at "st"
  refine w_fldAt hp T.cl_Mead T.n_Mead_many (mf_many _ _ _ _ _) ?_
  walk_at "st"
  refine Pm.w_ite (fun e => hE3 kok xy (by omega) _ (Same.refl _)) (fun e3 => ?_)
  have q := q kok xy (by omega)
  obtain ⟨k, rfl⟩ : ∃ j : Nat, k = (j : Int) := ⟨k.toNat, by omega⟩
  rw [Int.toNat_natCast] at q
  have hk : k < S.n := by omega
  obtain ⟨t2, E2⟩ := ear_put C.w C.n3 hk
  have C2 : Cutting (S.n + 1) (setCut S.n k S.cut) t2 := C.set hk E2
  have ma := mu_aft hk
  walk_at "st"
  refine w_fldAt hp T.cl_Mead T.n_Mead_many (mf_many _ _ _ _ _) ?_
  walk_at "st"
  obtain ⟨cv, hcv, hpv⟩ := hc.same M.ss
  have vl := hpv.length
  refine w_fldAt hp T.cl_Mead T.n_Mead_cut (mf_cut _ _ _ _ _) ?_
  refine Pm.w_rdL (SqL.of hcv) ?_
  refine Pm.w_lcLf (R := Pr) pr_mono (S := Pr) pr_mono (SqL.of hcv) hpv (muP k) (fun _ => true) (by omega) (fun D1 x1 e H3 Nx hD hm hs s3 put skip => ?_) (fun D1 H3 ws hD s3 hd3 ha => ?_)
  · obtain ⟨b, rfl, hb⟩ := hs
    walk_at "st"
    refine Pm.w_gtup (SqT.of hb) rfl ?_
    walk_at "st"
    refine ⟨_, _, rfl, ?_⟩
    walk_at "st"
    refine ⟨_, _, rfl, ?_⟩
    walk_at "st"
    refine Pm.w_newT (fun b2 hb2 => ?_)
    exact put _ _ rfl (same_new hb2 _) ⟨b2, rfl, upd_same⟩
  rw [List.filter_eq_self.mpr fun _ _ => rfl] at ha
  have wl := ha.length
  rw [List.length_map] at wl
  walk_at "st"
  refine ⟨.inl ⟨rfl, _, SqL.of hd3⟩, ?_⟩
  walk_at "st"
  refine ⟨_, _, rfl, ?_⟩
  rw [ma]
  walk_at "st"
  refine ⟨_, _, rfl, fun b1 H4 s4 nb1 hb1 => ?_⟩
  walk_at "st"
  refine Pm.w_append (s4 _ _ hd3) (size_lt (by omega)) ?_
  have hl5 : upd H4 D1 (.lst (ws ++ [.ref b1])) D1 = some (.lst (ws ++ [.ref b1])) := upd_same
  have kp5 : Keeps H4 (upd H4 D1 (.lst (ws ++ [.ref b1]))) := keeps_lst (s4 _ _ hd3)
  have s5 : Same H (upd H4 D1 (.lst (ws ++ [.ref b1]))) := same_but hD (s3.trans s4)
  have hp5 : Prs (upd H4 D1 (.lst (ws ++ [.ref b1]))) (ws ++ [.ref b1]) (S.cut.map (muP k) ++ [tieOf k (aft S.n k)]) := (prs_keep ((keeps s4).trans kp5) ha).append (ys' := [tieOf k (aft S.n k)]) ⟨hb1.keep kp5, trivial⟩
  generalize upd H4 D1 (.lst (ws ++ [.ref b1])) = H5 at hl5 kp5 s5 hp5 ⊢
  walk_at "st"
  refine Pm.w_dnewT (fun g hg => ?_)
  have s6 := same_new hg (.dT [])
  have s06 := s5.trans s6
  obtain ⟨ks, h1, h2, h3, h4⟩ := (hd.same M.ss).same s5
  have ngd : g ≠ d := by
    obtain ⟨_, es3, h, _⟩ := h1
    exact (ne_of_none h hg).symm
  have gl : D1 ≠ g := ne_of_none hl5 hg
  have npd : p ≠ d := by
    obtain ⟨_, es3, h, _⟩ := h1
    exact (ne_of h (s5 _ _ hp) (fun z => nomatch z)).symm
  walk_at "st"
  refine w_forItems h1 s6 (fun od uo i σ H7 => ∃ x1 y1 z1, σ = [some (.ref p), some (.int (k : Int)), some (.ref fa), some (.ref fb), some (.int (((k : Int) + 1) % S.n)), some (.int ((k : Int) + 1)), some (.ref D1), x1, y1, some (.ref g), z1] ∧ ∃ kf, LD K H7 g kf (fun j => rp ((setS S k x y).D j.1.toNat j.2.toNat)) ∧ (∀ j, j ∈ kf ↔ j ∈ (ks.take i).map (muP k)) ∧ kf.length ≤ i) (fun od uo Q _ _ h => Pm.w_fld (Pm.w_var rfl (w_fldAt (by rw [upd_ne npd]; exact s06 _ _ hp) T.cl_Mead T.n_Mead_sized (mf_sized _ _ _ _ _) h))) ?_ ?_ ?_
  · intro od uo huo
    exact ⟨_, _, _, rfl, [], ld_nil (by rw [upd_ne ngd]; exact upd_same) _, fun j => by simp, Nat.le_refl _⟩
  · rintro od es i kk σ H7 hes hki sl kp ⟨x1, y1, z1, rfl, kf, hLf, hkf, kl⟩ T1 b v hT1 hb hv
    have sT := same_new hT1 (.tup [.ref b, v])
    have hb2 := hb.keep (keeps sT)
    have ktk : ks.take (i + 1) = ks.take i ++ [kk] := by rw [List.take_add_one, hki] <;> rfl
    have mk := List.mem_of_getElem? hki
    obtain ⟨vt, rfl, hvt⟩ := hv.keep (keeps sT)
    walk_at "st"
    refine Pm.w_gtup (SqT.of upd_same) rfl ?_
    walk_at "st"
    refine Pm.w_gtup hb2.tup rfl ?_
    walk_at "st"
    refine ⟨_, _, rfl, ?_⟩
    walk_at "st"
    refine ⟨_, _, rfl, ?_⟩
    walk_at "st"
    refine Pm.w_newT (fun b3 hb3 => ?_)
    have sU := same_new hb3 (.tup [.int (mu k kk.1), .int (mu k kk.2)])
    have ev : rp (S.D kk.1.toNat kk.2.toNat) = rp ((setS S k x y).D (muP k kk).1.toNat (muP k kk).2.toNat) := by
      obtain ⟨q0, hq0, rfl⟩ := C.ties.mp ((h2 kk).mp mk)
      rw [muP_skp]
      show _ = rp (setD S.n k x y S.D (Tr.skp (k + 1) q0).1 (Tr.skp (k + 1) q0).2)
      rw [setD_old]
      rfl
    have hv3 : FrV K (upd (upd H7 T1 (.tup [.ref b, .ref vt])) b3 (.tup [.int (mu k kk.1), .int (mu k kk.2)])) (.ref vt) (rp ((setS S k x y).D (muP k kk).1.toNat (muP k kk).2.toNat)) := by
      rw [← ev]
      exact FrV.keep (keeps sU) ⟨vt, rfl, hvt⟩
    refine w_ldPutS (k := muP k kk) ((hLf.same sT).same sU) ⟨b3, rfl, upd_same⟩ hv3 (by have : i < ks.length := (List.getElem?_eq_some_iff.mp hki).1; omega) (fun es8 hL8 kp8 => ?_)
    refine ⟨same_but (lock_none hes hg) ((sl.trans sT).trans sU), _, _, _, rfl, putk kf (muP k kk), hL8, fun j => ?_, ?_⟩
    · rw [mem_putk, hkf, ktk, List.map_append, List.mem_append, List.map_singleton, List.mem_singleton]
    · have := putk_len kf (muP k kk)
      omega
  · rintro od es σ H7 hes sl ⟨x1, y1, z1, rfl, kf, hLf, hkf, kl⟩ s8
    rw [List.take_length] at hkf
    have hLf8 : LD K (upd H7 d (.dT es)) g kf (fun j => rp ((setS S k x y).D j.1.toNat j.2.toNat)) := hLf.keep (o := .dT es) (fun t xs e => by rw [upd_ne (ne_of e (sl _ _ upd_same) (fun z => nomatch z))]; exact e) (by rw [upd_ne ngd])
    generalize upd H7 d (.dT es) = H8 at hLf8 s8 ⊢
    have hg0 : H g = none := s5.free hg
    have hkl : kf.length ≤ 1000 := by omega
    walk_at "st"
    refine ⟨_, _, rfl, fun b3 H9 s9 nb3 hb3 => ?_⟩
    have tk1 : tieOf (k : Int) ((k : Int) + 1) = castP (min k (k + 1), max k (k + 1)) := tie_cast k (k + 1)
    have tk2 : tieOf ((k : Int) + 1) (aft S.n k) = castP (min (k + 1) (aft S.n k), max (k + 1) (aft S.n k)) := tie_cast (k + 1) (aft S.n k)
    have v1 : rp x = rp ((setS S k x y).D (tieOf (k : Int) ((k : Int) + 1)).1.toNat (tieOf (k : Int) ((k : Int) + 1)).2.toNat) := by
      rw [tk1]
      show _ = rp (setD S.n k x y S.D (min k (k + 1)) (max k (k + 1)))
      rw [setD_one Mm C.n3 hk]
    have v2 : rp y = rp ((setS S k x y).D (tieOf ((k : Int) + 1) (aft S.n k)).1.toNat (tieOf ((k : Int) + 1) (aft S.n k)).2.toNat) := by
      rw [tk2]
      show _ = rp (setD S.n k x y S.D (min (k + 1) (aft S.n k)) (max (k + 1) (aft S.n k)))
      unfold aft
      rw [setD_two Mm C.n3 hk]
    have s59 := s8.trans s9
    have hfa9 := hfa.keep (keeps (s5.trans s59))
    rw [v1] at hfa9
    refine w_ldPutS (hLf8.same s9) hb3 hfa9 (by omega) (fun es10 hL10 kp10 => ?_)
    have s10 : Same H5 (upd H9 g (.dT es10)) := same_but hg s59
    generalize upd H9 g (.dT es10) = H10 at hL10 kp10 s10 ⊢
    have hp10 := s10 _ _ (s5 _ _ hp)
    walk_at "st"
    refine ⟨_, _, rfl, ?_⟩
    rw [ma]
    walk_at "st"
    refine ⟨_, _, rfl, fun b4 H11 s11 nb4 hb4 => ?_⟩
    have hfb11 := hfb.keep (keeps (s5.trans (s10.trans s11)))
    rw [v2] at hfb11
    refine w_ldPutS (hL10.same s11) hb4 hfb11 (by have := putk_len kf (tieOf (k : Int) ((k : Int) + 1)); omega) (fun es12 hL12 kp12 => ?_)
    have s12 : Same H5 (upd H11 g (.dT es12)) := same_but hg (s10.trans s11)
    generalize upd H11 g (.dT es12) = H12 at hL12 kp12 s12 ⊢
    have s012 := s5.trans s12
    have hp12 := s012 _ _ hp
    walk_at "st"
    refine w_methAt hp12 (mf_no _ _ _ _ _ (by decide +kernel) (by decide +kernel) (by decide +kernel) (by decide +kernel) (by decide +kernel)) ?_
    walk_at "st"
    refine Pm.w_newT (fun t1 ht1 => ?_)
    have s13 := same_new ht1 (.tup [.str "set", .int k, .ref fa, .ref fb])
    walk_at "st"
    refine w_fldAt (s13 _ _ hp12) T.cl_Mead T.n_Mead_many (mf_many _ _ _ _ _) ?_
    walk_at "st"
    refine Pm.w_sortP (SqL.of (s13 _ _ (s12 _ _ hl5))) (prs_keep (keeps (s12.trans s13)) hp5) (fun ys l2 nl2 hys => ?_)
    have s14 := same_new nl2 (.lst ys)
    walk_at "st"
    refine Pm.w_newT (fun t3 ht3 => ?_)
    have s15 := same_new ht3 (.tup [.int ((S.n : Int) + 1), .ref l2, .ref g])
    walk_at "st"
    have s1215 := s13.trans (s14.trans s15)
    have s015 := s012.trans s1215
    obtain ⟨H0', Hs', g1, g2, M5, f5⟩ := M.grow s015
    have eC : sortP (S.cut.map (muP k) ++ [tieOf (k : Int) ((aft S.n k : Nat) : Int)]) = (setS S k x y).cut := by
      show _ = setCut S.n k S.cut
      unfold setCut
      rw [ma]
    rw [eC] at hys
    have hl5' : PLt H0' l2 (setS S k x y).cut := PLt.down ⟨ys, s15 _ _ upd_same, prs_keep (keeps (s14.trans s15)) hys⟩ M5.k0 (f5 l2 ((s012.trans s13).free nl2))
    have hDL : DLs K H12 g (setS S k x y) := by
      refine ⟨_, hL12, fun j => ?_, ?_, ?_⟩
      · show _ ↔ j ∈ tiesL (S.n + 1) (setCut S.n k S.cut)
        rw [mem_putk, mem_putk, hkf, C2.ties, tk1, tk2]
        constructor
        · rintro ((hj | hj) | hj)
          · obtain ⟨kk, hkk, rfl⟩ := List.mem_map.mp hj
            obtain ⟨q0, hq0, rfl⟩ := C.ties.mp ((h2 kk).mp hkk)
            exact ⟨_, (E2.all _).mpr (.inl ⟨q0, hq0, rfl⟩), muP_skp k q0⟩
          · exact ⟨_, (E2.all _).mpr (.inr (.inl rfl)), hj⟩
          · exact ⟨_, (E2.all _).mpr (.inr (.inr rfl)), hj⟩
        · rintro ⟨q1, hq1, rfl⟩
          rcases (E2.all _).mp hq1 with ⟨q0, hq0, rfl⟩ | rfl | rfl
          · exact .inl (.inl (List.mem_map.mpr ⟨castP q0, (h2 _).mpr (C.ties.mpr ⟨q0, hq0, rfl⟩), muP_skp k q0⟩))
          · exact .inl (.inr rfl)
          · exact .inr rfl
      · intro j hj
        refine small_tie' (cut := setCut S.n k S.cut) C2 (by omega) ?_
        rw [mem_putk, mem_putk, hkf, tk1, tk2] at hj
        rw [C2.ties]
        rcases hj with (hj | hj) | hj
        · obtain ⟨kk, hkk, rfl⟩ := List.mem_map.mp hj
          obtain ⟨q0, hq0, rfl⟩ := C.ties.mp ((h2 kk).mp hkk)
          exact ⟨_, (E2.all _).mpr (.inl ⟨q0, hq0, rfl⟩), muP_skp k q0⟩
        · exact ⟨_, (E2.all _).mpr (.inr (.inl rfl)), hj⟩
        · exact ⟨_, (E2.all _).mpr (.inr (.inr rfl)), hj⟩
      · have l1 := putk_len kf (tieOf (k : Int) ((k : Int) + 1))
        have l2 := putk_len (putk kf (tieOf (k : Int) ((k : Int) + 1))) (tieOf ((k : Int) + 1) (aft S.n k))
        have l3 : ks.length = 2 * S.n - 3 := by rw [perm_len h1.nd C.ties_nodup h2, C.ties_len']
        omega
    refine ⟨p, t3, l2, g, .ref t1, H0', Hs', S, setS S k x y, P, A, Deed.set k x y, rfl, M5, Pl, ⟨t1, fa, fb, rfl, (s14.trans s15) _ _ upd_same, hfa.keep (keeps s015), hfb.keep (keeps s015)⟩, upd_same, .inl hl5', hDL.same s1215, fun H0'' Hs'' H6 r1 r2 M6 => ?_⟩
    walk_at "st"
    exact q H0'' Hs'' H6 (g1.trans r1) (g2.trans r2) M6
end
section
variable {P : Program} {w : World} {K : PySem.W.Frag} {mg : Str → Option Value} {base : Heap}
def spMovedDown : Sp := fun vs H Q _ => ∃ i k : Int, vs = [.int i, .int k] ∧ Q (.int (md k i)) H
theorem ok_moved_down (T : Tx K mg) : FnOk P w K mg base CX0 1 T.a_moved_down T.fd_moved_down ["post", "gone"] spMovedDown := by
  refine T.F_moved_down.ok sc_moved_down (fun vs H Q E h => ?_) (fun cdv A outer s H vs Q E hr h => ?_)
  · obtain ⟨i, k, rfl, _⟩ := h
    rfl
  obtain ⟨i, k, rfl, q⟩ := h
  refine ⟨_, (pss_cons (ps_if (pt_cmpR op_gt (pv 0) (pv 1) (nomark _)) (pss_one (ps_ret (pe_op op_sub (pv 0) (pe_int)))) pss_nil)
      (pss_one (ps_ret (pv 0)))), ?_⟩
  unfold md at q
  walk_at "st"
  refine Pm.w_ite (fun e => ?_) (fun e => ?_)
  · rw [if_pos e] at q
    walk_at "st"
    exact q
  · rw [if_neg e] at q
    walk_at "st"
    exact q
/-- the two lengths that a drawn post had -/
def earOne (S : Ms) (p : Nat) : Rat := S.D (min (bef S.n p) p) (max (bef S.n p) p)
def earTwo (S : Ms) (p : Nat) : Rat := S.D (min p (nxt S.n p)) (max p (nxt S.n p))
def TwoAt (K : PySem.W.Frag) (H : Hp) (u : Addr) (x y : Rat) : Prop := ∃ u1 u2, H u = some (.tup [.ref u1, .ref u2]) ∧ FrV K H (.ref u1) (rp x) ∧ FrV K H (.ref u2) (rp y)
theorem TwoAt.keep {H H' : Hp} {u : Addr} {x y : Rat} (k : Keeps H H') (h : TwoAt K H u x y) : TwoAt K H' u x y := by
  obtain ⟨u1, u2, h1, h2, h3⟩ := h
  exact ⟨u1, u2, k _ _ h1, h2.keep k, h3.keep k⟩
def spMDraw (K : PySem.W.Frag) (C C1 C2 C3 : Addr) : Sp := fun vs H Q E => ∃ (p : Addr) (H0 Hs : Hp) (S : Ms) (P A : List (Deed × Ms)) (B : Nat) (po : Int), vs = [.ref p, .int po] ∧ MeadAt K C H0 Hs H p S P A ∧ Ok S B ∧ P.length ≤ 1000 ∧
  (¬ (0 ≤ po ∧ po < S.n) → ∀ H', Same H H' → E (.ref C1) none H') ∧ (0 ≤ po ∧ po < S.n → S.n = 3 → ∀ H', Same H H' → E (.ref C2) none H') ∧ (0 ≤ po ∧ po < S.n → S.n ≠ 3 → ropeAt S po → ∀ H', Same H H' → E (.ref C3) none H') ∧
  (0 ≤ po ∧ po < S.n → S.n ≠ 3 → ¬ ropeAt S po → ∀ (H0' Hs' H' : Hp) (u : Addr), Same H0 H0' → Same Hs Hs' → MeadAt K C H0' Hs' H' p (drawS S po.toNat) (P ++ [(Deed.draw po, S)]) [] → TwoAt K H' u (earOne S po.toNat) (earTwo S po.toNat) → Q (.ref u) H')
theorem ok_Mead_draw (T : Tx K mg) : FnOk P w K mg base (L2.CX P w) 4 T.a_Mead_draw T.fd_Mead_draw ["self", "post"] (spMDraw K T.c_Mead T.c_NoPost T.c_Few T.c_HasRopes) := by
  refine T.F_Mead_draw.okX sc_Mead_draw (fun vs H Q E h => ?_) (fun cdv A outer s H vs Q E hr h => ?_)
  · obtain ⟨p, H0, Hs, S, P, A, B, po, rfl, _⟩ := h
    rfl
  obtain ⟨p, H0, Hs, S, P, A, B, po, rfl, M, ⟨n12, t, L, F, C, Mm, Z⟩, Pl, hE1, hE2, hE3, q⟩ := h
  obtain ⟨dx, lp, la, c, d, vs, us, p0, l0, a0, ps, ls, as, nla, hp, hlp, hla, hc, hd, hP, hA⟩ := M.ex
  have cl := C.cut_len
  have n3 := C.n3
  refine ⟨_, (pss_cons (ps_set (i := 2) sc_Mead_draw.nd rfl (.inl rfl) (k_fld (K := K) (pe_fld (pv 0) rfl)))
      (pss_cons (ps_if (PW.pt (pw_or (pt_cmpR op_lt (pv 1) (pe_int) (nomark _)) (pw_or1 (pt_cmpR op_ge (pv 1) (pv 2) (nomark _))))) (pss_one (ps_raise rfl (takes_of rfl rfl rfl rfl) (pmk_own PySem.F.excBase_ValueError T.x_NoPost T.g_NoPost T.k_NoPost (raises_own T.b_NoPost T.t_NoPost) rfl))) pss_nil)
      (pss_cons (ps_if (pt_cmpR op_eq (pv 2) (pe_glob (by rfl) T.g_FEWEST T.r_FEWEST) (nomark _)) (pss_one (ps_raise rfl (takes_of rfl rfl rfl rfl) (pmk_own PySem.F.excBase_ValueError T.x_Few T.g_Few T.k_Few (raises_own T.b_Few T.t_Few) rfl))) pss_nil)
      (pss_cons (ps_for (passes_of rfl) rfl (k_il (K := K) (pi_list (k_fld (K := K) (pe_fld (pv 0) rfl)))) (pg_name (i := 3) sc_Mead_draw.nd rfl (.inl rfl)) (pss_one (ps_if (pt_cmpR (op_in_seqK (K := K)) (pv 1) (pv 3) (by rfl)) (pss_one (ps_raise rfl (takes_of rfl rfl rfl rfl) (pmk_own PySem.F.excBase_ValueError T.x_HasRopes T.g_HasRopes T.k_HasRopes (raises_own T.b_HasRopes T.t_HasRopes) rfl))) pss_nil)))
      (pss_cons (ps_set (i := 4) sc_Mead_draw.nd rfl (.inr rfl) (pe_op op_mod (pe_op op_sub (pv 1) (pe_int)) (pv 2)))
      (pss_cons (ps_set (i := 5) sc_Mead_draw.nd rfl (.inr rfl) (pe_op op_mod (pe_op op_add (pv 1) (pe_int)) (pv 2)))
      (pss_cons (ps_set (i := 6) sc_Mead_draw.nd rfl (.inl rfl) (pe_tup (pa_cons (pe_dget (hu_of hr) (k_fld (K := K) (pe_fld (pv 0) rfl)) (pe_call (ok_tie_of T) (hr.mono (by decide)) (by rfl) T.g_tie_of T.F_tie_of.kp T.b_tie_of .nil pass0 (pa_cons (pv 4) (pa_cons (pv 1) pa_nil))) (fun _ _ => rfl)) (pa_cons (pe_dget (hu_of hr) (k_fld (K := K) (pe_fld (pv 0) rfl)) (pe_call (ok_tie_of T) (hr.mono (by decide)) (by rfl) T.g_tie_of T.F_tie_of.kp T.b_tie_of .nil pass0 (pa_cons (pv 1) (pa_cons (pv 5) pa_nil))) (fun _ _ => rfl)) pa_nil))))
      (pss_cons (ps_setLc (i := 7) (own := [("a", 8), ("b", 9)]) (g := gTup K 2 (gCons (gName 8) (gCons (gName 9) (gNil)))) rfl sc_Mead_draw.nd rfl rfl (sw_true rfl rfl rfl (by decide +kernel)) (k_il (K := K) (pi_list (k_fld (K := K) (pe_fld (pv 0) rfl)))) (blkOk_by (N := N_Mead_draw) (sc := defScope s_Mead_draw) (by decide +kernel)) (fun _ _ _ _ _ => (k_gt (K := K) (pg_tup (by rfl) (pgs_cons (pg_name (i := 8) sc_Mead_draw.nd rfl (.inl rfl)) (pgs_cons (pg_name (i := 9) sc_Mead_draw.nd rfl (.inl rfl)) pgs_nil))))) (fun _ _ _ _ _ => (pts_one (pt_cmpR (op_neDK (K := K) hr.units) (pe_tup (pa_cons (pv 8) (pa_cons (pv 9) pa_nil))) (pe_call (ok_tie_of T) (hr.mono (by decide)) (by rfl) T.g_tie_of T.F_tie_of.kp T.b_tie_of .nil pass0 (pa_cons (pv 4) (pa_cons (pv 5) pa_nil))) (nomark _)))) (fun _ _ _ _ _ => (pe_tup (pa_cons (pe_call (ok_moved_down T) (hr.mono (by decide)) (by rfl) T.g_moved_down T.F_moved_down.kp T.b_moved_down .nil pass0 (pa_cons (pv 8) (pa_cons (pv 1) pa_nil))) (pa_cons (pe_call (ok_moved_down T) (hr.mono (by decide)) (by rfl) T.g_moved_down T.F_moved_down.kp T.b_moved_down .nil pass0 (pa_cons (pv 9) (pa_cons (pv 1) pa_nil))) pa_nil)))))
      (pss_cons (ps_set (i := 10) sc_Mead_draw.nd rfl (.inl rfl) (pe_dnewT))
      (pss_cons (ps_lock (ps_for (passes_of rfl) rfl (pi_itemsT (k_fld (K := K) (pe_fld (pv 0) rfl))) (k_gt (K := K) (pg_tup (by rfl) (pgs_cons (k_gt (K := K) (pg_tup (by rfl) (pgs_cons (pg_name (i := 8) sc_Mead_draw.nd rfl (.inl rfl)) (pgs_cons (pg_name (i := 9) sc_Mead_draw.nd rfl (.inl rfl)) pgs_nil)))) (pgs_cons (pg_name (i := 11) sc_Mead_draw.nd rfl (.inl rfl)) pgs_nil)))) (pss_one (ps_if (PW.pt (pw_and (pt_cmpR op_ne (pv 1) (pv 8) (nomark _)) (pw_and1 (pt_cmpR op_ne (pv 1) (pv 9) (nomark _))))) (pss_one (ps_dput (hu_of hr) (pv 10) (pe_tup (pa_cons (pe_call (ok_moved_down T) (hr.mono (by decide)) (by rfl) T.g_moved_down T.F_moved_down.kp T.b_moved_down .nil pass0 (pa_cons (pv 8) (pa_cons (pv 1) pa_nil))) (pa_cons (pe_call (ok_moved_down T) (hr.mono (by decide)) (by rfl) T.g_moved_down T.F_moved_down.kp T.b_moved_down .nil pass0 (pa_cons (pv 9) (pa_cons (pv 1) pa_nil))) pa_nil))) (pv 11) rfl)) pss_nil))))
      (pss_cons (ps_expr (pe_meth (pv 0) T.cl_Mead T.M_Mead_done (ok_Mead_done T) (hr.mono (by decide)) T.b_Mead_done .nil pass0 (pa_cons (pe_tup (pa_cons (pe_str) (pa_cons (pv 1) pa_nil))) (pa_cons (pe_tup (pa_cons (pe_op op_sub (pv 2) (pe_int)) (pa_cons (pe_callB (cr_sortK (K := K)) (by rfl) T.m_sorted (by decide +kernel) (pa_cons (pv 7) pa_nil)) (pa_cons (pv 10) pa_nil)))) pa_nil))))
      (pss_one (ps_ret (pv 6)))))))))))))), ?_⟩
  walk_at "st"
  refine w_fldAt hp T.cl_Mead T.n_Mead_many (mf_many _ _ _ _ _) ?_
  walk_at "st"
  refine Pm.w_ite (fun e => hE1 (by omega) _ (Same.refl _)) (fun e1 => ?_)
  walk_at "st"
  refine Pm.w_ite (fun e => hE1 (by omega) _ (Same.refl _)) (fun e2 => ?_)
  have kok : 0 ≤ po ∧ po < (S.n : Int) := ⟨by omega, by omega⟩
  walk_at "st"
  refine Pm.w_ite (fun e => hE2 kok (by omega) _ (Same.refl _)) (fun e3 => ?_)
  obtain ⟨cv, hcv, hpv⟩ := hc.same M.ss
  have vl := hpv.length
  walk_at "st"
  refine w_fldAt hp T.cl_Mead T.n_Mead_cut (mf_cut _ _ _ _ _) ?_
  refine Pm.w_rdL (SqL.of hcv) ?_
  refine Pm.w_forL (xs := cv) (fun i σ H' => ∃ x, σ = [some (.ref p), some (.int po), some (.int S.n), x, none, none, none, none, none, none, none, none] ∧ H' = H ∧ ∀ r ∈ S.cut.take i, ¬ (po = r.1 ∨ po = r.2)) ⟨_, rfl, rfl, by rw [List.take_zero]; exact fun r h => nomatch h⟩ (fun i σ H' _ ⟨x, _, e, _⟩ => by rw [e]; exact SqL.of hcv) ?_ ?_
  · rintro i v σ H' hi ⟨x, rfl, rfl, hno⟩
    obtain ⟨r, hr', hv⟩ := hpv.get hi
    obtain ⟨b, rfl, hb⟩ := hv
    walk_at "st"
    refine in_pair ⟨b, rfl, hb⟩ ?_
    walk_at "st"
    refine Pm.w_ite (fun e => hE3 kok (by omega) ⟨r, List.mem_of_getElem? hr', e⟩ _ (Same.refl _)) (fun e => ?_)
    walk_at "st"
    refine ⟨_, rfl, rfl, fun r2 h2 => ?_⟩
    rw [List.take_add_one, hr'] at h2
    rcases List.mem_append.mp h2 with z | z
    · exact hno r2 z
    · rw [show r2 = r from by simpa using z]; exact e
  rintro σ H' ⟨x, rfl, rfl, hno⟩
  rw [vl, List.take_length] at hno
  have hnr : ¬ ropeAt S po := fun ⟨r, h1, h2⟩ => hno r h1 h2
  have q := q kok (by omega) hnr
  obtain ⟨po, rfl⟩ : ∃ j : Nat, po = (j : Int) := ⟨po.toNat, by omega⟩
  rw [Int.toNat_natCast] at q
  have hk : po < S.n := by omega
  obtain ⟨t', E2⟩ := draw_ear C (by omega) hk hnr
  have C2 : Cutting (S.n - 1) (drawCut S.n po S.cut) t' := by
    have e : S.n = S.n - 1 + 1 := by omega
    rw [e] at C E2
    have := C.draw (by omega) (by omega) E2
    rw [← e] at this
    exact this
  obtain ⟨eb, ea⟩ := ends_eq' hk
  walk_at "st"
  rw [eb]
  walk_at "st"
  rw [ea]
  walk_at "st"
  refine w_fldAt hp T.cl_Mead T.n_Mead_sized (mf_sized _ _ _ _ _) ?_
  walk_at "st"
  refine ⟨_, _, rfl, fun b1 H1 s1 nb1 hb1 => ?_⟩
  obtain ⟨ks, h1, h2, h3, h4⟩ := hd.same M.ss
  have hd0 := (hd.same M.ss).len C
  rw [tie_cast] at hb1
  have m1 : (min (bef S.n po) po, max (bef S.n po) po) ∈ t.all 0 := (E2.all _).mpr (.inr (.inl rfl))
  have m2 : (min po (nxt S.n po), max po (nxt S.n po)) ∈ t.all 0 := (E2.all _).mpr (.inr (.inr rfl))
  refine w_lenGet (hd0.same s1) hb1 m1 (fun u1 hu1 => ?_)
  walk_at "st"
  refine w_fldAt (s1 _ _ hp) T.cl_Mead T.n_Mead_sized (mf_sized _ _ _ _ _) ?_
  walk_at "st"
  refine ⟨_, _, rfl, fun b2 H2 s2 nb2 hb2 => ?_⟩
  rw [tie_cast] at hb2
  have s12 := s1.trans s2
  refine w_lenGet (hd0.same s12) hb2 m2 (fun u2 hu2 => ?_)
  walk_at "st"
  refine Pm.w_newT (fun uu huu => ?_)
  have s3 := same_new huu (.tup [.ref u1, .ref u2])
  have s03 := s12.trans s3
  have hTwo : TwoAt K (upd H2 uu (.tup [.ref u1, .ref u2])) uu (earOne S po) (earTwo S po) := ⟨u1, u2, upd_same, hu1.keep (keeps (s2.trans s3)), hu2.keep (keeps s3)⟩
  generalize upd H2 uu (.tup [.ref u1, .ref u2]) = H3 at s3 s03 hTwo ⊢
  walk_at "st"
  refine w_fldAt (s03 _ _ hp) T.cl_Mead T.n_Mead_cut (mf_cut _ _ _ _ _) ?_
  refine Pm.w_rdL (SqL.of (s03 _ _ hcv)) ?_
  refine Pm.w_lcLf (R := Pr) pr_mono (S := Pr) pr_mono (SqL.of (s03 _ _ hcv)) (prs_keep (keeps s03) hpv) (mdP po) (fun r => !decide (r = endsT S.n po)) (by omega) (fun D1 x1 e H4 Nx hD hm hs s4 put skip => ?_) (fun D1 H4 ws hD s4 hd4 ha => ?_)
  · obtain ⟨b, rfl, hb⟩ := hs
    walk_at "st"
    refine Pm.w_gtup (SqT.of hb) rfl ?_
    walk_at "st"
    refine Pm.w_newT (fun b5 hb5 => ?_)
    have s5 := same_new hb5 (.tup [.int e.1, .int e.2])
    walk_at "st"
    refine ⟨_, _, rfl, fun b6 H6 s6 nb6 hb6 => ?_⟩
    have ee : tieOf ((bef S.n po : Nat) : Int) ((nxt S.n po : Nat) : Int) = endsT S.n po := by unfold endsT; rw [eb, ea]
    rw [ee] at hb6
    refine Pm.w_neP ⟨b5, rfl, s6 _ _ upd_same⟩ hb6 ?_
    walk_at "st"
    refine Pm.w_iteN (fun z => ?_) (fun z => ?_)
    · walk_at "st"
      refine ⟨_, _, rfl, ?_⟩
      walk_at "st"
      refine ⟨_, _, rfl, ?_⟩
      walk_at "st"
      refine Pm.w_newT (fun b7 hb7 => ?_)
      exact put _ _ (by simpa using z) ((s5.trans s6).trans (same_new hb7 _)) ⟨b7, rfl, upd_same⟩
    · exact skip _ (by simpa using z) (s5.trans s6)
  have wl := ha.length
  rw [List.length_map] at wl
  have fl := List.length_filter_le (fun r : IP => !decide (r = endsT S.n po)) S.cut
  have s04 := s03.trans s4
  walk_at "st"
  refine Pm.w_dnewT (fun g hg => ?_)
  have s6 := same_new hg (.dT [])
  have s06 := s04.trans s6
  have h14 := h1.same s04
  have ngd : g ≠ d := by
    obtain ⟨_, es3, h, _⟩ := h14
    exact (ne_of_none h hg).symm
  have npd : p ≠ d := by
    obtain ⟨_, es3, h, _⟩ := h14
    exact (ne_of h (s04 _ _ hp) (fun z => nomatch z)).symm
  walk_at "st"
  refine w_forItems h14 s6 (fun od uo i σ H7 => ∃ x1 y1 z1 w1, σ = [some (.ref p), some (.int (po : Int)), some (.int S.n), w1, some (.int (bef S.n po)), some (.int (nxt S.n po)), some (.ref uu), some (.ref D1), x1, y1, some (.ref g), z1] ∧ ∃ kf, LD K H7 g kf (fun j => rp ((drawS S po).D j.1.toNat j.2.toNat)) ∧ (∀ j, j ∈ kf ↔ ∃ r ∈ ks.take i, ¬ (po : Int) = r.1 ∧ ¬ (po : Int) = r.2 ∧ j = mdP po r) ∧ kf.length ≤ i) (fun od uo Q _ _ h => Pm.w_fld (Pm.w_var rfl (w_fldAt (by rw [upd_ne npd]; exact s06 _ _ hp) T.cl_Mead T.n_Mead_sized (mf_sized _ _ _ _ _) h))) ?_ ?_ ?_
  · intro od uo huo
    exact ⟨_, _, _, _, rfl, [], ld_nil (by rw [upd_ne ngd]; exact upd_same) _, fun j => by simp, Nat.le_refl _⟩
  · rintro od es i kk σ H7 hes hki sl kp ⟨x1, y1, z1, w1, rfl, kf, hLf, hkf, kl⟩ T1 b v hT1 hb hv
    have sT := same_new hT1 (.tup [.ref b, v])
    have hb2 := hb.keep (keeps sT)
    have ktk : ks.take (i + 1) = ks.take i ++ [kk] := by rw [List.take_add_one, hki] <;> rfl
    have mk := List.mem_of_getElem? hki
    have il : i < ks.length := (List.getElem?_eq_some_iff.mp hki).1
    obtain ⟨vt, rfl, hvt⟩ := hv.keep (keeps sT)
    walk_at "st"
    refine Pm.w_gtup (SqT.of upd_same) rfl ?_
    walk_at "st"
    refine Pm.w_gtup hb2.tup rfl ?_
    walk_at "st"
    have skip : ((po : Int) = kk.1 ∨ (po : Int) = kk.2) → ∀ x1 y1 z1, (Same (upd H4 d (.frz od (.dT es))) (upd H7 T1 (.tup [.ref b, .ref vt])) ∧ ∃ x1' y1' z1' w1', [some (.ref p), some (.int (po : Int)), some (.int S.n), w1, some (.int (bef S.n po)), some (.int (nxt S.n po)), some (.ref uu), some (.ref D1), x1, y1, some (V.ref g), z1] = [some (.ref p), some (.int (po : Int)), some (.int S.n), w1', some (.int (bef S.n po)), some (.int (nxt S.n po)), some (.ref uu), some (.ref D1), x1', y1', some (.ref g), z1'] ∧ ∃ kf, LD K (upd H7 T1 (.tup [.ref b, .ref vt])) g kf (fun j => rp ((drawS S po).D j.1.toNat j.2.toNat)) ∧ (∀ j, j ∈ kf ↔ ∃ r ∈ ks.take (i + 1), ¬ (po : Int) = r.1 ∧ ¬ (po : Int) = r.2 ∧ j = mdP po r) ∧ kf.length ≤ i + 1) := by
      intro hh x1 y1 z1
      refine ⟨sl.trans sT, _, _, _, _, rfl, kf, hLf.same sT, fun j => ?_, by omega⟩
      rw [hkf, ktk]
      constructor
      · rintro ⟨r, hr1, hr2⟩
        exact ⟨r, List.mem_append_left _ hr1, hr2⟩
      · rintro ⟨r, hr1, hr2⟩
        rcases List.mem_append.mp hr1 with z | z
        · exact ⟨r, z, hr2⟩
        · rw [List.mem_singleton.mp z] at hr2
          rcases hh with hh | hh
          · exact absurd hh hr2.1
          · exact absurd hh hr2.2.1
    refine Pm.w_iteN (fun z1' => ?_) (fun z1' => ?_)
    · walk_at "st"
      refine Pm.w_iteN (fun z2' => ?_) (fun z2' => ?_)
      · walk_at "st"
        refine ⟨_, _, rfl, ?_⟩
        walk_at "st"
        refine ⟨_, _, rfl, ?_⟩
        walk_at "st"
        refine Pm.w_newT (fun b3 hb3 => ?_)
        have sU := same_new hb3 (.tup [.int (md po kk.1), .int (md po kk.2)])
        have ev : rp (S.D kk.1.toNat kk.2.toNat) = rp ((drawS S po).D (mdP po kk).1.toNat (mdP po kk).2.toNat) := by
          obtain ⟨q0, hq0, rfl⟩ := C.ties.mp ((h2 kk).mp mk)
          rcases (E2.all _).mp hq0 with ⟨q1, hq1, rfl⟩ | rfl | rfl
          · rw [mdP_skp]
            rfl
          · exfalso
            simp only [castP] at z1' z2'
            omega
          · exfalso
            simp only [castP] at z1' z2'
            omega
        have hv3 : FrV K (upd (upd H7 T1 (.tup [.ref b, .ref vt])) b3 (.tup [.int (md po kk.1), .int (md po kk.2)])) (.ref vt) (rp ((drawS S po).D (mdP po kk).1.toNat (mdP po kk).2.toNat)) := by
          rw [← ev]
          exact FrV.keep (keeps sU) ⟨vt, rfl, hvt⟩
        refine w_ldPutS (k := mdP po kk) ((hLf.same sT).same sU) ⟨b3, rfl, upd_same⟩ hv3 (by omega) (fun es8 hL8 kp8 => ?_)
        refine ⟨same_but (lock_none hes hg) ((sl.trans sT).trans sU), _, _, _, _, rfl, putk kf (mdP po kk), hL8, fun j => ?_, ?_⟩
        · rw [mem_putk, hkf, ktk]
          constructor
          · rintro (⟨r, hr1, hr2⟩ | rfl)
            · exact ⟨r, List.mem_append_left _ hr1, hr2⟩
            · exact ⟨kk, List.mem_append_right _ (List.mem_singleton.mpr rfl), z1', z2', rfl⟩
          · rintro ⟨r, hr1, hr2⟩
            rcases List.mem_append.mp hr1 with z | z
            · exact .inl ⟨r, z, hr2⟩
            · rw [List.mem_singleton.mp z] at hr2
              exact .inr hr2.2.2
        · have := putk_len kf (mdP po kk)
          omega
      · walk_at "st"
        exact skip (.inr z2') _ _ _
    · walk_at "st"
      exact skip (.inl z1') _ _ _
  · rintro od es σ H7 hes sl ⟨x1, y1, z1, w1, rfl, kf, hLf, hkf, kl⟩ s8
    rw [List.take_length] at hkf
    have hLf8 : LD K (upd H7 d (.dT es)) g kf (fun j => rp ((drawS S po).D j.1.toNat j.2.toNat)) := hLf.keep (o := .dT es) (fun t xs e => by rw [upd_ne (ne_of e (sl _ _ upd_same) (fun z => nomatch z))]; exact e) (by rw [upd_ne ngd])
    generalize upd H7 d (.dT es) = H8 at hLf8 s8 ⊢
    have s08 := s04.trans s8
    have hp8 := s08 _ _ hp
    walk_at "st"
    refine w_methAt hp8 (mf_no _ _ _ _ _ (by decide +kernel) (by decide +kernel) (by decide +kernel) (by decide +kernel) (by decide +kernel)) ?_
    walk_at "st"
    refine Pm.w_newT (fun t1 ht1 => ?_)
    have s13 := same_new ht1 (.tup [.str "draw", .int po])
    walk_at "st"
    refine Pm.w_sortP (SqL.of (s13 _ _ (s8 _ _ hd4))) (prs_keep (keeps (s8.trans s13)) ha) (fun ys l2 nl2 hys => ?_)
    have s14 := same_new nl2 (.lst ys)
    walk_at "st"
    have en : ((S.n : Int) - 1) = ((drawS S po).n : Int) := by show _ = ((S.n - 1 : Nat) : Int); omega
    rw [en]
    refine Pm.w_newT (fun t3 ht3 => ?_)
    have s15 := same_new ht3 (.tup [.int (drawS S po).n, .ref l2, .ref g])
    walk_at "st"
    have s815 := s13.trans (s14.trans s15)
    have s015 := s08.trans s815
    obtain ⟨H0', Hs', g1, g2, M5, f5⟩ := M.grow s015
    have hl5' : PLt H0' l2 (drawS S po).cut := PLt.down ⟨ys, s15 _ _ upd_same, prs_keep (keeps (s14.trans s15)) hys⟩ M5.k0 (f5 l2 ((s08.trans s13).free nl2))
    have hDL : DLs K H8 g (drawS S po) := by
      have mem : ∀ j, j ∈ kf ↔ j ∈ tiesL (S.n - 1) (drawCut S.n po S.cut) := by
        intro j
        rw [hkf, C2.ties]
        constructor
        · rintro ⟨r, hr1, z1', z2', rfl⟩
          obtain ⟨q0, hq0, rfl⟩ := C.ties.mp ((h2 r).mp hr1)
          rcases (E2.all _).mp hq0 with ⟨q1, hq1, rfl⟩ | rfl | rfl
          · exact ⟨q1, hq1, mdP_skp po q1⟩
          · exfalso
            simp only [castP] at z1' z2'
            omega
          · exfalso
            simp only [castP] at z1' z2'
            omega
        · rintro ⟨q1, hq1, rfl⟩
          refine ⟨castP (Tr.skp po q1), (h2 _).mpr (C.ties.mpr ⟨_, (E2.all _).mpr (.inl ⟨q1, hq1, rfl⟩), rfl⟩), ?_, ?_, (mdP_skp po q1).symm⟩
          · show ¬ (po : Int) = ((Tr.sk po q1.1 : Nat) : Int)
            unfold Tr.sk
            split <;> omega
          · show ¬ (po : Int) = ((Tr.sk po q1.2 : Nat) : Int)
            unfold Tr.sk
            split <;> omega
      exact ⟨kf, hLf8, mem, fun j hj => small_tie' C2 (by omega) ((mem j).mp hj), by omega⟩
    refine ⟨p, t3, l2, g, .ref t1, H0', Hs', S, drawS S po, P, A, Deed.draw po, rfl, M5, Pl, ⟨t1, rfl, (s14.trans s15) _ _ upd_same⟩, upd_same, .inl hl5', hDL.same s815, fun H0'' Hs'' H6 r1 r2 M6 => ?_⟩
    walk_at "st"
    exact q H0'' Hs'' H6 uu (g1.trans r1) (g2.trans r2) M6 (hTwo.keep ((keeps ((s4.trans s8).trans s815)).trans (M5.k0.trans (keeps (r1.trans M6.s0)))))
end
/-! ### the law's own lowest terms -/
section
variable {P : Program} {w : World} {K : PySem.W.Frag} {mg : Str → Option Value} {base : Heap}
def spLow : Sp := fun vs H Q _ => ∃ (a b : Int) (n : Nat), vs = [.int a, .int b] ∧ b ≠ 0 ∧ b.natAbs < 2 ^ n ∧ n ≤ 9000 ∧ FrNew H (Rat.divInt a b) Q
theorem ok_law_low (T : Tx K mg) : FnOk P w K mg base CX0 1 T.a_law_low T.fd_law_low ["_law_top", "_law_bottom"] spLow := by
  refine T.F_law_low.ok sc_law_low (fun vs H Q E h => ?_) (fun cdv A outer s H vs Q E hr h => ?_)
  · obtain ⟨a, b, n, rfl, _⟩ := h
    rfl
  obtain ⟨a, b, n, rfl, hb, hn, hn9, q⟩ := h
  refine ⟨_, (pss_cons (ps_set (i := 2) sc_law_low.nd rfl (.inl rfl) (pe_callB c_abs (by rfl) T.m_abs (by decide +kernel) (pa_cons (pv 0) pa_nil)))
      (pss_cons (ps_set (i := 3) sc_law_low.nd rfl (.inl rfl) (pe_callB c_abs (by rfl) T.m_abs (by decide +kernel) (pa_cons (pv 1) pa_nil)))
      (pss_cons (ps_while PassesOwn.never (pt_cmpR op_gt (pv 3) (pe_int) (nomark _)) (pss_one (ps_par (i := 2) (j := 3) (by rfl) sc_law_low.nd rfl rfl (by decide) rfl rfl (pa_cons (pv 3) (pa_cons (pe_op op_mod (pv 2) (pv 3)) pa_nil)) (by rfl))))
      (C8.pss_cut (ps_if (pt_cmpR op_lt (pv 1) (pe_int) (nomark _)) (pss_cons (ps_set (i := 0) sc_law_low.nd rfl (.inl rfl) (pe_un un_neg (pv 0)))
      (pss_one (ps_set (i := 1) sc_law_low.nd rfl (.inl rfl) (pe_un un_neg (pv 1))))) pss_nil)
      (pss_one (ps_ret (pe_tup (pa_cons (pe_op op_fdivW (pv 0) (pv 2)) (pa_cons (pe_op op_fdivW (pv 1) (pv 2)) pa_nil))))))))), ?_⟩
  walk_at "st"
  refine Pm.w_while (fun m σ H' => ∃ x y : Nat, σ = [some (.int a), some (.int b), some (.int x), some (.int y)] ∧ m = y ∧ Nat.gcd x y = Int.gcd a b ∧ H' = H) _ ⟨(if a < 0 then -a else a).natAbs, (if b < 0 then -b else b).natAbs, ?_, rfl, gcd_abs a b, rfl⟩ ?_
  · have e : ∀ c : Int, (if c < 0 then -c else c) = (((if c < 0 then -c else c).natAbs : Nat) : Int) := fun c => by split <;> omega
    show [some (V.int a), some (V.int b), some (V.int (if a < 0 then -a else a)), some (V.int (if b < 0 then -b else b))] = _
    rw [← e a, ← e b]
  · rintro m σ H' ⟨x, y, rfl, rfl, hg, rfl⟩
    walk_at "st"
    refine Pm.w_wh (fun c => ?_) (fun c => ?_)
    · walk_at "st"
      exact ⟨_, Nat.mod_lt x (by omega), m, x % m, rfl, rfl, by rw [gcd_turn x m (by omega)]; exact hg, rfl⟩
    · have e : m = 0 := by omega
      subst e
      rw [Nat.gcd_zero_right] at hg
      subst hg
      refine Pm.w_cut (fun σ' H2 => ∃ a' b' : Int, σ' = [some (.int a'), some (.int b'), some (.int ((Int.gcd a b : Nat) : Int)), some (.int ((0 : Nat) : Int))] ∧ H2 = H' ∧ Int.gcd a' b' = Int.gcd a b ∧ 0 < b' ∧ b'.natAbs < 2 ^ n ∧ Rat.divInt a' b' = Rat.divInt a b) ?_ ?_
      · walk_at "st"
        refine Pm.w_ite (fun d => ?_) (fun d => ?_)
        · walk_at "st"
          exact ⟨-a, -b, rfl, rfl, by rw [Int.gcd_neg, Int.neg_gcd], by omega, by omega, Rat.neg_divInt_neg a b⟩
        · walk_at "st"
          exact ⟨a, b, rfl, rfl, rfl, by omega, hn, rfl⟩
      · rintro σ H2 ⟨a', b', rfl, rfl, eg, hb', hn, e⟩
        rw [← eg]
        have g0 : 0 < ((Int.gcd a' b' : Nat) : Int) := gcd_pos (by omega)
        have g1 := gcd_le_right (a := a') hb'
        have n0 : 0 < n := by
          rcases Nat.eq_zero_or_pos n with z | z
          · subst z
            exact absurd hn (by omega)
          · exact z
        have hd : ∀ i : Int, CDivW i ((Int.gcd a' b' : Nat) : Int) := fun i => wide_div g0 (Nat.lt_of_le_of_lt (by omega) hn) n0 hn9
        walk_at "st"
        refine Pm.w_i (hd _) ?_
        walk_at "st"
        refine Pm.w_i (hd _) ?_
        walk_at "st"
        refine Pm.w_newT (fun t ht => ?_)
        have z := div_pos_num (a := a') hb'
        rw [z.1, z.2, e]
        exact q t _ (same_new ht _) ht upd_same
end
section
variable {P : Program} {w : World} {K : PySem.W.Frag} {mg : Str → Option Value} {base : Heap}
def spPart (K : PySem.W.Frag) : Sp := fun vs H Q _ => ∃ (t : Addr) (r : Rat) (n : Nat), vs = [.ref t] ∧ SqT K H t [.int r.num, .int r.den] ∧ r.den < 2 ^ n ∧ n ≤ 9000 ∧ ∀ H', Same H H' → Q (.bl true) H'
theorem ok_law_part (T : Tx K mg) : FnOk P w K mg base CX0 2 T.a_law_part T.fd_law_part ["_law_found"] (spPart K) := by
  refine T.F_law_part.ok sc_law_part (fun vs H Q E h => ?_) (fun cdv A outer s H vs Q E hr h => ?_)
  · obtain ⟨t, r, n, rfl, _⟩ := h
    rfl
  obtain ⟨t, r, n, rfl, ht, hn, hn9, q⟩ := h
  refine ⟨_, (pss_cons (ps_if (PW.pt (pw_or (pt_not (pt_val (pe_callB (call_isK (K := K)) (by rfl) T.m_isinstance (by decide +kernel) (pa_cons (pv 0) (pa_cons (pe_bltn (v := .ty "tuple") (by rfl) T.m_tuple (by decide +kernel) rfl) pa_nil))))) (pw_or1 (pt_cmpR op_ne (pe_callB (c_len (K := K)) (by rfl) T.m_len PySem.boot_len (pa_cons (pv 0) pa_nil)) (pe_int) (nomark _))))) (pss_one (ps_ret (pe_bl))) pss_nil)
      (pss_cons (ps_if (PW.pt (pw_or (pt_not (pt_val (pe_call (ok_law_whole T) (hr.mono (by decide)) (by rfl) T.g_law_whole T.F_law_whole.kp T.b_law_whole .nil pass0 (pa_cons (pe_ix (ix_tupK (K := K)) (pv 0) (pe_int) (fun _ _ => rfl)) pa_nil)))) (pw_or (pt_not (pt_val (pe_call (ok_law_whole T) (hr.mono (by decide)) (by rfl) T.g_law_whole T.F_law_whole.kp T.b_law_whole .nil pass0 (pa_cons (pe_ix (ix_tupK (K := K)) (pv 0) (pe_int) (fun _ _ => rfl)) pa_nil)))) (pw_or1 (pt_cmpR op_le (pe_ix (ix_tupK (K := K)) (pv 0) (pe_int) (fun _ _ => rfl)) (pe_int) (nomark _)))))) (pss_one (ps_ret (pe_bl))) pss_nil)
      (pss_one (ps_ret (pe_cmpR (op_eqDK (K := K) hr.units) (pe_call (ok_law_low T) (hr.mono (by decide)) (by rfl) T.g_law_low T.F_law_low.kp T.b_law_low .nil pass0 (pa_cons (pe_ix (ix_tupK (K := K)) (pv 0) (pe_int) (fun _ _ => rfl)) (pa_cons (pe_ix (ix_tupK (K := K)) (pv 0) (pe_int) (fun _ _ => rfl)) pa_nil))) (pv 0) (nomark _)))))), ?_⟩
  have rd := r.den_nz
  walk_at "st"
  refine Pm.w_isiTup ht (b := true) (by decide +kernel) ?_
  walk_at "st"
  refine Pm.w_lenT ht ?_
  walk_at "st"
  refine Pm.w_iteN (fun z => absurd rfl z) (fun _ => ?_)
  walk_at "st"
  refine Pm.w_ixT ht (atI2 _ _).1 ?_
  walk_at "st"
  refine ⟨_, rfl, ?_⟩
  walk_at "st"
  refine Pm.w_ixT ht (atI2 _ _).2 ?_
  walk_at "st"
  refine ⟨_, rfl, ?_⟩
  walk_at "st"
  refine Pm.w_ixT ht (atI2 _ _).2 ?_
  walk_at "st"
  refine Pm.w_ite (fun z => absurd z (by omega)) (fun _ => ?_)
  walk_at "st"
  refine Pm.w_ixT ht (atI2 _ _).1 ?_
  walk_at "st"
  refine Pm.w_ixT ht (atI2 _ _).2 ?_
  walk_at "st"
  refine ⟨_, _, n, rfl, den_ne r, by omega, hn9, fun u H' s1 nu hu => ?_⟩
  walk_at "st"
  refine Pm.w_eqPair (SqT.of hu) (Same.tup s1 ht) ?_
  rw [divInt_self', decide_eq_true ⟨rfl, rfl⟩]
  exact q H' s1
end
/-! ### the law's own arithmetic -/
section
variable {P : Program} {w : World} {K : PySem.W.Frag} {mg : Str → Option Value} {base : Heap}
def spLAdd (K : PySem.W.Frag) : Sp := fun vs H Q _ => ∃ (t u : Addr) (x y : Rat) (n m : Nat), vs = [.ref t, .ref u] ∧ FrV K H (.ref t) (rp x) ∧ FrV K H (.ref u) (rp y) ∧ rb x n ∧ rb y m ∧ n + m ≤ 9000 ∧ FrNew H (x + y) Q
theorem ok_law_add (T : Tx K mg) : FnOk P w K mg base CX0 2 T.a_law_add T.fd_law_add ["_law_one", "_law_other"] (spLAdd K) := by
  refine T.F_law_add.ok sc_law_add (fun vs H Q E h => ?_) (fun cdv A outer s H vs Q E hr h => ?_)
  · obtain ⟨t, u, x, y, n, m, rfl, _⟩ := h
    rfl
  obtain ⟨t, u, x, y, n, m, rfl, ht, hu, bx, byy, hnm, q⟩ := h
  refine ⟨_, (pss_one (ps_ret (pe_call (ok_law_low T) (hr.mono (by decide)) (by rfl) T.g_law_low T.F_law_low.kp T.b_law_low .nil pass0 (pa_cons (pe_op op_add (pe_op op_mulW (pe_ix (ix_tupK (K := K)) (pv 0) (pe_int) (fun _ _ => rfl)) (pe_ix (ix_tupK (K := K)) (pv 1) (pe_int) (fun _ _ => rfl))) (pe_op op_mulW (pe_ix (ix_tupK (K := K)) (pv 1) (pe_int) (fun _ _ => rfl)) (pe_ix (ix_tupK (K := K)) (pv 0) (pe_int) (fun _ _ => rfl)))) (pa_cons (pe_op op_mulW (pe_ix (ix_tupK (K := K)) (pv 0) (pe_int) (fun _ _ => rfl)) (pe_ix (ix_tupK (K := K)) (pv 1) (pe_int) (fun _ _ => rfl))) pa_nil))))), ?_⟩
  have n0 := rb_pos bx
  have m0 := rb_pos byy
  walk_at "st"
  refine Pm.w_ixT ht.rat (atI2 _ _).1 ?_
  walk_at "st"
  refine Pm.w_ixT hu.rat (atI2 _ _).2 ?_
  walk_at "st"
  refine Pm.w_i (wide_mul bx.1 (rb_den byy) n0 m0 (by omega)) ?_
  walk_at "st"
  refine Pm.w_ixT hu.rat (atI2 _ _).1 ?_
  walk_at "st"
  refine Pm.w_ixT ht.rat (atI2 _ _).2 ?_
  walk_at "st"
  refine Pm.w_i (wide_mul byy.1 (rb_den bx) m0 n0 (by omega)) ?_
  walk_at "st"
  refine Pm.w_ixT ht.rat (atI2 _ _).2 ?_
  walk_at "st"
  refine Pm.w_ixT hu.rat (atI2 _ _).2 ?_
  walk_at "st"
  refine Pm.w_i (wide_mul (rb_den bx) (rb_den byy) n0 m0 (by omega)) ?_
  walk_at "st"
  refine ⟨_, _, n + m, rfl, den_mul x y, wide_lt (rb_den bx) (rb_den byy), hnm, ?_⟩
  rw [plus_is]
  exact q
def spLMul (K : PySem.W.Frag) : Sp := fun vs H Q _ => ∃ (t u : Addr) (x y : Rat) (n m : Nat), vs = [.ref t, .ref u] ∧ FrV K H (.ref t) (rp x) ∧ FrV K H (.ref u) (rp y) ∧ rb x n ∧ rb y m ∧ n + m ≤ 9000 ∧ FrNew H (x * y) Q
theorem ok_law_mul (T : Tx K mg) : FnOk P w K mg base CX0 2 T.a_law_mul T.fd_law_mul ["_law_one", "_law_other"] (spLMul K) := by
  refine T.F_law_mul.ok sc_law_mul (fun vs H Q E h => ?_) (fun cdv A outer s H vs Q E hr h => ?_)
  · obtain ⟨t, u, x, y, n, m, rfl, _⟩ := h
    rfl
  obtain ⟨t, u, x, y, n, m, rfl, ht, hu, bx, byy, hnm, q⟩ := h
  refine ⟨_, (pss_one (ps_ret (pe_call (ok_law_low T) (hr.mono (by decide)) (by rfl) T.g_law_low T.F_law_low.kp T.b_law_low .nil pass0 (pa_cons (pe_op op_mulW (pe_ix (ix_tupK (K := K)) (pv 0) (pe_int) (fun _ _ => rfl)) (pe_ix (ix_tupK (K := K)) (pv 1) (pe_int) (fun _ _ => rfl))) (pa_cons (pe_op op_mulW (pe_ix (ix_tupK (K := K)) (pv 0) (pe_int) (fun _ _ => rfl)) (pe_ix (ix_tupK (K := K)) (pv 1) (pe_int) (fun _ _ => rfl))) pa_nil))))), ?_⟩
  have n0 := rb_pos bx
  have m0 := rb_pos byy
  walk_at "st"
  refine Pm.w_ixT ht.rat (atI2 _ _).1 ?_
  walk_at "st"
  refine Pm.w_ixT hu.rat (atI2 _ _).1 ?_
  walk_at "st"
  refine Pm.w_i (wide_mul bx.1 byy.1 n0 m0 (by omega)) ?_
  walk_at "st"
  refine Pm.w_ixT ht.rat (atI2 _ _).2 ?_
  walk_at "st"
  refine Pm.w_ixT hu.rat (atI2 _ _).2 ?_
  walk_at "st"
  refine Pm.w_i (wide_mul (rb_den bx) (rb_den byy) n0 m0 (by omega)) ?_
  walk_at "st"
  refine ⟨_, _, n + m, rfl, den_mul x y, wide_lt (rb_den bx) (rb_den byy), hnm, ?_⟩
  rw [times_is]
  exact q
def spLDiv (K : PySem.W.Frag) : Sp := fun vs H Q _ => ∃ (t u : Addr) (x y : Rat) (n m : Nat), vs = [.ref t, .ref u] ∧ FrV K H (.ref t) (rp x) ∧ FrV K H (.ref u) (rp y) ∧ rb x n ∧ rb y m ∧ n + m ≤ 9000 ∧ y ≠ 0 ∧ FrNew H (x / y) Q
theorem ok_law_div (T : Tx K mg) : FnOk P w K mg base CX0 2 T.a_law_div T.fd_law_div ["_law_one", "_law_other"] (spLDiv K) := by
  refine T.F_law_div.ok sc_law_div (fun vs H Q E h => ?_) (fun cdv A outer s H vs Q E hr h => ?_)
  · obtain ⟨t, u, x, y, n, m, rfl, _⟩ := h
    rfl
  obtain ⟨t, u, x, y, n, m, rfl, ht, hu, bx, byy, hnm, y0, q⟩ := h
  refine ⟨_, (pss_one (ps_ret (pe_call (ok_law_low T) (hr.mono (by decide)) (by rfl) T.g_law_low T.F_law_low.kp T.b_law_low .nil pass0 (pa_cons (pe_op op_mulW (pe_ix (ix_tupK (K := K)) (pv 0) (pe_int) (fun _ _ => rfl)) (pe_ix (ix_tupK (K := K)) (pv 1) (pe_int) (fun _ _ => rfl))) (pa_cons (pe_op op_mulW (pe_ix (ix_tupK (K := K)) (pv 0) (pe_int) (fun _ _ => rfl)) (pe_ix (ix_tupK (K := K)) (pv 1) (pe_int) (fun _ _ => rfl))) pa_nil))))), ?_⟩
  have n0 := rb_pos bx
  have m0 := rb_pos byy
  walk_at "st"
  refine Pm.w_ixT ht.rat (atI2 _ _).1 ?_
  walk_at "st"
  refine Pm.w_ixT hu.rat (atI2 _ _).2 ?_
  walk_at "st"
  refine Pm.w_i (wide_mul bx.1 (rb_den byy) n0 m0 (by omega)) ?_
  walk_at "st"
  refine Pm.w_ixT ht.rat (atI2 _ _).2 ?_
  walk_at "st"
  refine Pm.w_ixT hu.rat (atI2 _ _).1 ?_
  walk_at "st"
  refine Pm.w_i (wide_mul (rb_den bx) byy.1 n0 m0 (by omega)) ?_
  walk_at "st"
  refine ⟨_, _, n + m, rfl, Int.mul_ne_zero (den_ne x) (fun z => y0 (Rat.num_eq_zero.mp z)), wide_lt (rb_den bx) byy.1, hnm, ?_⟩
  rw [over_is]
  exact q
end
/-! ### drawn lengths -/
section
variable {P : Program} {w : World} {K : PySem.W.Frag} {mg : Str → Option Value} {base : Heap}
def spSize : Sp := fun vs H Q _ => ∃ x : Int, vs = [.int x] ∧ 0 ≤ x ∧ ∀ r : Rat, szd r 1024 128 → FrNew H r Q
theorem szd_div {a b : Int} {N M : Nat} (ha : 1 ≤ a ∧ a ≤ N) (hb : 1 ≤ b ∧ b ≤ M) : szd (Rat.divInt a b) N M := by
  have e := div_pos_num (a := a) (b := b) (by omega)
  have g : (0 : Int) < ((Int.gcd a b : Nat) : Int) := gcd_pos (by omega)
  have n1 : (Rat.divInt a b).num ≤ a := by
    rw [← e.1]
    exact Int.ediv_le_self _ (by omega)
  have d1 : ((Rat.divInt a b).den : Int) ≤ b := by
    rw [← e.2]
    exact Int.ediv_le_self _ (by omega)
  have p : 0 < Rat.divInt a b := by
    rw [Rat.divInt_eq_div]
    refine rat_div_pos ?_ ?_
    · exact Rat.intCast_pos.mpr (by omega)
    · exact Rat.intCast_pos.mpr (by omega)
  have := pos_num p
  exact ⟨p, by omega, by omega⟩
theorem ok_law_size (T : Tx K mg) : FnOk P w K mg base CX0 2 T.a_law_size T.fd_law_size ["_law_one"] spSize := by
  refine T.F_law_size.ok sc_law_size (fun vs H Q E h => ?_) (fun cdv A outer s H vs Q E hr h => ?_)
  · obtain ⟨x, rfl, _⟩ := h
    rfl
  obtain ⟨x, rfl, x0, q⟩ := h
  refine ⟨_, (pss_cons (ps_if (pt_cmpR op_eq (pe_op op_mod (pv 0) (pe_int)) (pe_int) (nomark _)) (pss_one (ps_ret (pe_call (ok_law_low T) (hr.mono (by decide)) (by rfl) T.g_law_low T.F_law_low.kp T.b_law_low .nil pass0 (pa_cons (pe_op op_add (pe_int) (pe_op op_mod (pe_op op_fdiv (pv 0) (pe_int)) (pe_int))) (pa_cons (pe_op op_add (pe_int) (pe_op op_mod (pe_op op_fdiv (pv 0) (pe_int)) (pe_int))) pa_nil))))) pss_nil)
      (pss_one (ps_ret (pe_call (ok_law_low T) (hr.mono (by decide)) (by rfl) T.g_law_low T.F_law_low.kp T.b_law_low .nil pass0 (pa_cons (pe_op op_add (pe_int) (pe_op op_mod (pv 0) (pe_int))) (pa_cons (pe_op op_add (pe_int) (pe_op op_mod (pe_op op_fdiv (pv 0) (pe_int)) (pe_int))) pa_nil)))))), ?_⟩
  walk_at "st"
  refine Pm.w_ite (fun e => ?_) (fun e => ?_)
  · walk_at "st"
    refine ⟨_, _, 8, rfl, by omega, by omega, by decide, q _ (szd_div ?_ ?_)⟩
    · constructor <;> omega
    · constructor <;> omega
  · walk_at "st"
    refine ⟨_, _, 8, rfl, by omega, by omega, by decide, q _ (szd_div ?_ ?_)⟩
    · constructor <;> omega
    · constructor <;> omega
def spSized (K : PySem.W.Frag) : Sp := fun vs H Q _ => ∃ (a r : Addr) (ts : List IP) (row : List Int), vs = [.ref a, .ref r] ∧ PLt H a ts ∧ ts.Nodup ∧ SqL K H r (row.map V.int) ∧ ts.length ≤ row.length ∧ 0 < ts.length ∧ ts.length ≤ 1000 ∧ (∀ x ∈ row, 0 ≤ x) ∧
  ∀ (d : Addr) (H' : Hp) (ks : List IP) (R : IP → Rat), Same H H' → H d = none → LD K H' d ks (fun k => rp (R k)) → (∀ p, p ∈ ks ↔ p ∈ ts) → (∀ p ∈ ts, szd (R p) 1024 128) → Q (.ref d) H'
theorem ok_law_sized (T : Tx K mg) : FnOk P w K mg base CX0 3 T.a_law_sized T.fd_law_sized ["_law_all_ties", "_law_row"] (spSized K) := by
  refine T.F_law_sized.ok sc_law_sized (fun vs H Q E h => ?_) (fun cdv A outer s H vs Q E hr h => ?_)
  · obtain ⟨a, r, ts, row, rfl, _⟩ := h
    rfl
  obtain ⟨a, r, ts, row, rfl, ⟨tvs, hta, hpt⟩, tnd, hR, trl, t0, t1, hrow, q⟩ := h
  have tl := hpt.length
  have r0 : ∀ i : Nat, i < row.length → 0 ≤ row.getD i 0 := fun i hi => by
    rw [List.getD_eq_getElem?_getD, List.getElem?_eq_getElem hi]
    exact hrow _ (List.getElem_mem hi)
  refine ⟨_, (pss_cons (ps_set (i := 2) sc_law_sized.nd rfl (.inl rfl) (pe_dnewT))
      (pss_cons (ps_for PassesOwn.never rfl (pi_range1 (by rfl) T.m_range (pa_cons (pe_callB (c_len (K := K)) (by rfl) T.m_len PySem.boot_len (pa_cons (pv 0) pa_nil)) pa_nil)) (pg_name (i := 3) sc_law_sized.nd rfl (.inl rfl)) (pss_cons (ps_set (i := 4) sc_law_sized.nd rfl (.inl rfl) (pe_op op_mod (pe_op op_add (pv 3) (pe_op op_fdiv (pe_ix (ix_listK (K := K)) (pv 1) (pe_int) (fun _ _ => rfl)) (pe_int))) (pe_callB (c_len (K := K)) (by rfl) T.m_len PySem.boot_len (pa_cons (pv 0) pa_nil))))
      (pss_one (ps_dput (hu_of hr) (pv 2) (pe_ix (ix_listK (K := K)) (pv 0) (pv 4) (fun _ _ => rfl)) (pe_call (ok_law_size T) (hr.mono (by decide)) (by rfl) T.g_law_size T.F_law_size.kp T.b_law_size .nil pass0 (pa_cons (pe_ix (ix_listK (K := K)) (pv 1) (pv 4) (fun _ _ => rfl)) pa_nil)) rfl))))
      (pss_one (ps_ret (pv 2))))), ?_⟩
  walk_at "st"
  refine Pm.w_dnewT (fun d hd => ?_)
  have s1 := same_new hd (.dT [])
  walk_at "st"
  refine Pm.w_lenL (SqL.of (s1 _ _ hta)) ?_
  walk_at "st"
  rw [tl, Int.toNat_natCast]
  have z0 := r0 0 (by omega)
  generalize hsh : (row.getD 0 0 / 17).toNat = sh
  have hsh' : row.getD 0 0 / 17 = (sh : Int) := by omega
  refine Pm.w_forR (fun i σ H2 => ∃ (x y : Option V) (ks : List IP) (R : IP → Rat), σ = [some (.ref a), some (.ref r), some (.ref d), x, y] ∧ Same H H2 ∧ LD K H2 d ks (fun k => rp (R k)) ∧ ks.length ≤ i ∧ (∀ p, p ∈ ks ↔ ∃ k, k < i ∧ ts[(k + sh) % ts.length]? = some p) ∧ ∀ p ∈ ks, szd (R p) 1024 128) ?_ ?_ ?_
  · exact ⟨_, _, [], fun _ => 0, rfl, s1, ld_nil upd_same _, Nat.le_refl _, fun p => ⟨fun h => (nomatch h), fun ⟨k, hk, _⟩ => absurd hk (by omega)⟩, fun _ h => nomatch h⟩
  · rintro i σ H2 hi ⟨x, y, ks, R, rfl, s2, hL, kl, hks, hz⟩
    have hR2 := s2.seq hR
    have hta2 := s2 _ _ hta
    walk_at "st"
    refine Pm.w_ixL hR2 (atI_int (by omega) (by omega)) ?_
    walk_at "st"
    refine Pm.w_lenL (SqL.of hta2) ?_
    walk_at "st"
    rw [tl, Int.zero_add]
    have em : ((i : Int) + row.getD 0 0 / 17) % (ts.length : Int) = (((i + sh) % ts.length : Nat) : Int) := by rw [hsh']; rfl
    rw [show (0 : Int).toNat = 0 from rfl, em]
    have jm : (i + sh) % ts.length < ts.length := Nat.mod_lt _ t0
    generalize hj : (i + sh) % ts.length = j at jm
    refine Pm.w_ixL hR2 (atI_int (by omega) (by omega)) ?_
    walk_at "st"
    refine ⟨_, rfl, by rw [Int.toNat_natCast]; exact r0 j (by omega), fun rr hrr t H3 s3 nt ht => ?_⟩
    walk_at "st"
    obtain ⟨p, hp, u, hu, hut⟩ := hpt.get (List.getElem?_eq_getElem (show j < tvs.length by omega))
    have hH3 := s2.trans s3
    refine Pm.w_ixL (SqL.of (hH3 _ _ hta)) (v := .ref u) (atI_nat (by rw [List.getElem?_eq_getElem (show j < tvs.length by omega), hu])) ?_
    refine w_ldPut (k := p) (p := rp rr) (hL.same s3) ⟨u, rfl, hH3 _ _ hut⟩ (frv_new ht) (by omega) (fun es hL4 kp => ?_)
    refine ⟨_, _, putk ks p, fun k => if k = p then rr else R k, rfl, same_but hd hH3, hL4.congr fun k hk => ?_, Nat.le_trans (putk_len _ _) (by omega), fun p' => ?_, fun p' hp' => ?_⟩
    · by_cases e : k = p
      · simp only [e, if_true, updF_same]
      · simp only [if_neg e, updF_ne e]
    · rw [mem_putk, hks]
      constructor
      · rintro (⟨k, hk, e⟩ | rfl)
        · exact ⟨k, by omega, e⟩
        · exact ⟨i, by omega, by rw [hj]; exact hp⟩
      · rintro ⟨k, hk, e⟩
        by_cases c : k = i
        · subst c
          rw [hj, hp] at e
          exact .inr (Option.some.inj e).symm
        · exact .inl ⟨k, by omega, e⟩
    · by_cases e : p' = p
      · simp only [e, if_true]; exact hrr
      · simp only [if_neg e]
        rcases mem_putk.mp hp' with z | z
        · exact hz _ z
        · exact absurd z e
  · rintro σ H2 ⟨x, y, ks, R, rfl, s2, hL, kl, hks, hz⟩
    walk_at "st"
    have all : ∀ p, p ∈ ks ↔ p ∈ ts := fun p => by
      rw [hks]
      constructor
      · rintro ⟨k, _, e⟩
        exact List.mem_of_getElem? e
      · intro hp
        obtain ⟨j, hj, e⟩ := List.mem_iff_getElem.mp hp
        refine ⟨(j + (ts.length - sh % ts.length)) % ts.length, Nat.mod_lt _ t0, ?_⟩
        have e2 : ((j + (ts.length - sh % ts.length)) % ts.length + sh) % ts.length = j := by
          rw [Nat.mod_add_mod, Nat.add_assoc]
          have h1 := Nat.mod_lt sh t0
          have h2 := Nat.div_add_mod sh ts.length
          rw [show ts.length - sh % ts.length + sh = ts.length * (sh / ts.length + 1) by rw [Nat.mul_add, Nat.mul_one]; omega, Nat.add_mul_mod_self_left]
          exact Nat.mod_eq_of_lt hj
        rw [e2, List.getElem?_eq_getElem hj, e]
    exact q d H2 ks R s2 hd hL all fun p hp => hz p ((all p).mpr hp)
end
section
variable {P : Program} {w : World} {K : PySem.W.Frag} {mg : Str → Option Value} {base : Heap}
def spTup (K : PySem.W.Frag) : Sp := fun vs H Q _ => ∃ (t : Addr) (ns : List Int), vs = [.ref t, .int ns.length] ∧ SqT K H t (ns.map V.int) ∧ Q (.bl true) H
theorem ok_law_tuple (T : Tx K mg) : FnOk P w K mg base CX0 2 T.a_law_tuple T.fd_law_tuple (["_law_found", "_law_many_here"]) (spTup K) := by
  refine T.F_law_tuple.ok sc_law_tuple (fun vs H Q E h => ?_) (fun cdv A outer s H vs Q E hr h => ?_)
  · obtain ⟨t, ns, rfl, _⟩ := h
    rfl
  obtain ⟨t, ns, rfl, ht, q⟩ := h
  refine ⟨_, (pss_cons (ps_if (PW.pt (pw_or (pt_not (pt_val (pe_callB (call_isK (K := K)) (by rfl) T.m_isinstance (by decide +kernel) (pa_cons (pv 0) (pa_cons (pe_bltn (v := .ty "tuple") (by rfl) T.m_tuple (by decide +kernel) rfl) pa_nil))))) (pw_or1 (pt_cmpR op_ne (pe_callB (c_len (K := K)) (by rfl) T.m_len PySem.boot_len (pa_cons (pv 0) pa_nil)) (pv 1) (nomark _))))) (pss_one (ps_ret (pe_bl))) pss_nil)
      (pss_cons (ps_for PassesOwn.never rfl (k_it (K := K) (pi_tup (pv 0))) (pg_name (i := 2) sc_law_tuple.nd rfl (.inl rfl)) (pss_one (ps_if (pt_not (pt_val (pe_call (ok_law_whole T) (hr.mono (by decide)) (by rfl) T.g_law_whole T.F_law_whole.kp T.b_law_whole .nil pass0 (pa_cons (pv 2) pa_nil)))) (pss_one (ps_ret (pe_bl))) pss_nil)))
      (pss_one (ps_ret (pe_bl))))), ?_⟩
  walk_at "st"
  refine Pm.w_isiTup ht (b := true) (by decide +kernel) ?_
  walk_at "st"
  refine Pm.w_lenT ht ?_
  walk_at "st"
  refine Pm.w_iteN (fun z => absurd (by rw [List.length_map]) z) (fun _ => ?_)
  walk_at "st"
  refine Pm.w_rdT ht ?_
  refine Pm.w_forT (xs := ns.map V.int) (fun i σ H' => ∃ x, σ = [some (.ref t), some (.int ns.length), x] ∧ H' = H) ⟨_, rfl, rfl⟩ (fun i σ H' _ ⟨x, _, e⟩ => by rw [e]; exact ht) ?_ ?_
  · rintro i x σ H' hx ⟨y, rfl, rfl⟩
    rw [List.getElem?_map] at hx
    cases ex : ns[i]? with
    | none => rw [ex] at hx; cases hx
    | some z =>
      rw [ex] at hx
      cases hx
      walk_at "st"
      refine ⟨z, rfl, ?_⟩
      walk_at "st"
      exact ⟨_, rfl, rfl⟩
  · rintro σ H' ⟨x, rfl, rfl⟩
    walk_at "st"
    exact q
def spList (K : PySem.W.Frag) : Sp := fun vs H Q _ => ∃ (a : Addr) (xs : List V) (m : Nat), vs = [.ref a, .int m] ∧ SqL K H a xs ∧ (∀ x ∈ xs, ∃ (t : Addr) (ns : List Int), x = .ref t ∧ SqT K H t (ns.map V.int) ∧ ns.length = m) ∧ Q (.bl true) H
theorem ok_law_list (T : Tx K mg) : FnOk P w K mg base CX0 3 T.a_law_list T.fd_law_list (["_law_found", "_law_many_here"]) (spList K) := by
  refine T.F_law_list.ok sc_law_list (fun vs H Q E h => ?_) (fun cdv A outer s H vs Q E hr h => ?_)
  · obtain ⟨a, xs, m, rfl, _⟩ := h
    rfl
  obtain ⟨a, xs, m, rfl, ha, hx, q⟩ := h
  refine ⟨_, (pss_cons (ps_if (pt_not (pt_val (pe_callB (call_isK (K := K)) (by rfl) T.m_isinstance (by decide +kernel) (pa_cons (pv 0) (pa_cons (pe_bltn (v := .ty "list") (by rfl) T.m_list (by decide +kernel) rfl) pa_nil))))) (pss_one (ps_ret (pe_bl))) pss_nil)
      (pss_cons (ps_for PassesOwn.never rfl (k_il (K := K) (pi_list (pv 0))) (pg_name (i := 2) sc_law_list.nd rfl (.inl rfl)) (pss_one (ps_if (pt_not (pt_val (pe_call (ok_law_tuple T) (hr.mono (by decide)) (by rfl) T.g_law_tuple T.F_law_tuple.kp T.b_law_tuple .nil pass0 (pa_cons (pv 2) (pa_cons (pv 1) pa_nil))))) (pss_one (ps_ret (pe_bl))) pss_nil)))
      (pss_one (ps_ret (pe_bl))))), ?_⟩
  walk_at "st"
  refine Pm.w_isiLst ha (b := true) (by decide +kernel) ?_
  walk_at "st"
  refine Pm.w_rdL ha ?_
  refine Pm.w_forL (xs := xs) (fun i σ H' => ∃ x, σ = [some (.ref a), some (.int m), x] ∧ H' = H) ⟨_, rfl, rfl⟩ (fun i σ H' _ ⟨x, _, e⟩ => by rw [e]; exact ha) ?_ ?_
  · rintro i x σ H' hi ⟨y, rfl, rfl⟩
    obtain ⟨t, ns, rfl, ht, rfl⟩ := hx x (List.mem_of_getElem? hi)
    walk_at "st"
    refine ⟨t, ns, rfl, ht, ?_⟩
    walk_at "st"
    exact ⟨_, rfl, rfl⟩
  · rintro σ H' ⟨x, rfl, rfl⟩
    walk_at "st"
    exact q
theorem list_of_prs {K : PySem.W.Frag} {H : Hp} {vs : List V} {ps : List IP} (h : Prs H vs ps) : ∀ x ∈ vs, ∃ (t : Addr) (ns : List Int), x = .ref t ∧ SqT K H t (ns.map V.int) ∧ ns.length = 2 := fun x hx => by
  obtain ⟨p, _, t, rfl, ht⟩ := h.mem hx
  exact ⟨t, [p.1, p.2], rfl, SqT.of ht, rfl⟩
end
section
variable {P : Program} {w : World} {K : PySem.W.Frag} {mg : Str → Option Value} {base : Heap}
def spLDict (K : PySem.W.Frag) : Sp := fun vs H Q _ => ∃ (f d : Addr) (kf kd : List IP) (Lf Ld : IP → IP) (R : IP → Rat) (B : Nat), vs = [.ref f, .ref d] ∧ LD K H f kf Lf ∧ LD K H d kd Ld ∧ f ≠ d ∧ (∀ p, p ∈ kf ↔ p ∈ kd) ∧ (∀ p ∈ kd, Lf p = rp (R p) ∧ Ld p = rp (R p) ∧ rb (R p) B) ∧ B ≤ 9000 ∧ ∀ H', Same H H' → Q (.bl true) H'
theorem ok_law_dict (T : Tx K mg) : FnOk P w K mg base CX0 3 T.a_law_dict T.fd_law_dict ["_law_found", "_law_due"] (spLDict K) := by
  refine T.F_law_dict.ok sc_law_dict (fun vs H Q E h => ?_) (fun cdv A outer s H vs Q E hr h => ?_)
  · obtain ⟨f, d, kf, kd, Lf, Ld, R, B, rfl, _⟩ := h
    rfl
  obtain ⟨f, d, kf, kd, Lf, Ld, R, B, rfl, hf, hd, ne, hk, hv, hB, q⟩ := h
  have len := perm_len hf.nd hd.nd hk
  refine ⟨_, (pss_cons (ps_if (PW.pt (pw_or (pt_not (pt_val (pe_callB (call_isK (K := K)) (by rfl) T.m_isinstance (by decide +kernel) (pa_cons (pv 0) (pa_cons (pe_bltn (v := .ty "dict") (by rfl) T.m_dict (by decide +kernel) rfl) pa_nil))))) (pw_or1 (pt_cmpR op_ne (pe_callB call_len_dT (by rfl) T.m_len PySem.boot_len (pa_cons (pv 0) pa_nil)) (pe_callB call_len_dT (by rfl) T.m_len PySem.boot_len (pa_cons (pv 1) pa_nil)) (nomark _))))) (pss_one (ps_ret (pe_bl))) pss_nil)
      (pss_cons (ps_lock (ps_for PassesOwn.never rfl (pi_itemsT (pv 1)) (k_gt (K := K) (pg_tup (by rfl) (pgs_cons (pg_name (i := 2) sc_law_dict.nd rfl (.inl rfl)) (pgs_cons (pg_name (i := 3) sc_law_dict.nd rfl (.inl rfl)) pgs_nil)))) (pss_one (ps_if (PW.pt (pw_or (pt_cmp (pc_dnotin (hu_of hr) (pv 2) (pv 0))) (pw_or (pt_not (pt_val (pe_call (ok_law_part T) (hr.mono (by decide)) (by rfl) T.g_law_part T.F_law_part.kp T.b_law_part .nil pass0 (pa_cons (pe_dget (hu_of hr) (pv 0) (pv 2) (fun _ _ => rfl)) pa_nil)))) (pw_or1 (pt_cmpR (op_neDK (K := K) hr.units) (pe_dget (hu_of hr) (pv 0) (pv 2) (fun _ _ => rfl)) (pv 3) (nomark _)))))) (pss_one (ps_ret (pe_bl))) pss_nil))))
      (pss_cons (ps_lock (ps_for PassesOwn.never rfl (pi_keysT (pv 0)) (pg_name (i := 2) sc_law_dict.nd rfl (.inl rfl)) (pss_one (ps_if (pt_not (pt_val (pe_call (ok_law_tuple T) (hr.mono (by decide)) (by rfl) T.g_law_tuple T.F_law_tuple.kp T.b_law_tuple .nil pass0 (pa_cons (pv 2) (pa_cons (pe_int) pa_nil))))) (pss_one (ps_ret (pe_bl))) pss_nil))))
      (pss_one (ps_ret (pe_bl)))))), ?_⟩
  walk_at "st"
  refine w_isiLd hf (bb := true) (by decide +kernel) ?_
  walk_at "st"
  refine w_ldLen hf ?_
  walk_at "st"
  refine w_ldLen hd ?_
  walk_at "st"
  refine Pm.w_iteN (fun z => absurd (by rw [len]) z) (fun _ => ?_)
  walk_at "st"
  refine w_forItems hd (Same.refl H) (fun od u i σ H1 => ∃ x y, σ = [some (.ref f), some (.ref d), x, y]) (fun od u Q _ _ h => Pm.w_var rfl h) (fun od u _ => ⟨_, _, rfl⟩) ?_ ?_
  · rintro od es i k σ H1 hes hki s1 kp ⟨x, y, rfl⟩ T1 p v hT1 hp hvv
    have mk := List.mem_of_getElem? hki
    obtain ⟨v1, v2, v3⟩ := hv k mk
    have s2 := same_new hT1 (.tup [.ref p, v])
    have hf1 := hf.lock hes ne (s1.trans s2)
    have hp2 := hp.keep (keeps s2)
    obtain ⟨vt, rfl, hvt⟩ := hvv.keep (keeps s2)
    have hv2 : FrV K _ (.ref vt) (Ld k) := ⟨vt, rfl, hvt⟩
    rw [v2] at hv2
    walk_at "st"
    refine Pm.w_gtup (SqT.of upd_same) rfl ?_
    walk_at "st"
    refine w_ldNotIn hf1 hp2 ?_
    rw [decide_eq_true ((hk k).mpr mk)]
    walk_at "st"
    refine w_ldGet hf1 hp2 ((hk k).mpr mk) (fun u hu => ?_)
    rw [v1] at hu
    walk_at "st"
    refine ⟨u, R k, B, rfl, hu.rat, v3.2, hB, fun H3 s3 => ?_⟩
    have hp3 := hp2.keep (keeps s3)
    have hf3 := hf.lock hes ne ((s1.trans s2).trans s3)
    walk_at "st"
    refine w_ldGet hf3 hp3 ((hk k).mpr mk) (fun u2 hu2 => ?_)
    rw [v1] at hu2
    walk_at "st"
    refine w_neFr hu2 (hv2.keep (keeps s3)) ?_
    rw [decide_eq_true rfl]
    walk_at "st"
    exact ⟨(s1.trans s2).trans s3, _, _, rfl⟩
  · rintro od es σ H1 hes s1 ⟨x, y, rfl⟩ s2
    walk_at "st"
    refine w_forKeysT (hf.same s2) (Same.refl _) (fun od u i σ H1 => ∃ x y, σ = [some (.ref f), some (.ref d), x, y]) (fun od u Q _ _ h => Pm.w_var rfl h) (fun od u _ => ⟨_, _, rfl⟩) ?_ ?_
    · rintro od2 es2 i k σ H3 hes2 hki s3 kp ⟨x, y, rfl⟩ p hp
      walk_at "st"
      refine ⟨p, [k.1, k.2], rfl, hp.tup, ?_⟩
      walk_at "st"
      exact ⟨s3, _, _, rfl⟩
    · rintro od2 es2 σ H3 hes2 s3 ⟨x, y, rfl⟩ s4
      walk_at "st"
      exact q _ (s2.trans s4)
end
section
variable {P : Program} {w : World} {K : PySem.W.Frag} {mg : Str → Option Value} {base : Heap}
def spLSides : Sp := fun vs H Q _ => ∃ n : Nat, vs = [.int n] ∧ 1 ≤ n ∧ n ≤ 1000 ∧ PLNew H (sides0 n) Q
theorem ok_law_sides (T : Tx K mg) : FnOk P w K mg base CX0 1 T.a_law_sides T.fd_law_sides ["_law_n"] spLSides := by
  refine T.F_law_sides.ok sc_law_sides (fun vs H Q E h => ?_) (fun cdv A outer s H vs Q E hr h => ?_)
  · obtain ⟨n, rfl, _⟩ := h
    rfl
  obtain ⟨n, rfl, n1, n2, q⟩ := h
  refine ⟨_, (pss_one (ps_ret (pe_op op_cat (pe_lc (own := [("_law_k", 1)]) (g := gName 1) (tt := tYes) rfl sc_law_sides.nd (pi_range1 (by rfl) T.m_range (pa_cons (pe_op op_sub (pv 0) (pe_int)) pa_nil)) (blkOk_by (N := N_law_sides) (sc := defScope s_law_sides) (by decide +kernel)) (fun _ _ _ _ _ => (pg_name (i := 1) sc_law_sides.nd rfl (.inl rfl))) (fun _ _ _ _ _ => pts_nil) (fun _ _ _ _ _ => (pe_tup (pa_cons (pv 1) (pa_cons (pe_op op_add (pv 1) (pe_int)) pa_nil))))) (pe_lst (pa_cons (pe_tup (pa_cons (pe_int) (pa_cons (pe_op op_sub (pv 0) (pe_int)) pa_nil))) pa_nil))))), ?_⟩
  walk_at "st"
  have en : ((n : Int) - 1).toNat = n - 1 := by omega
  rw [en]
  refine Pm.w_lcRm (R := Pr) pr_mono (fun k : Nat => ((k : Int), (k : Int) + 1)) (by omega) (fun D i H1 Nx hD hi s1 put => ?_) (fun D H1 ws hD s1 hd ha => ?_)
  · walk_at "st"
    refine Pm.w_newT (fun t ht => ?_)
    refine put _ _ (same_new ht _) ⟨t, rfl, ?_⟩
    rw [upd_same, Int.zero_add]
  · walk_at "st"
    refine Pm.w_newT (fun t ht => ?_)
    walk_at "st"
    refine Pm.w_newL (fun l hl => ?_)
    have nD : D ≠ l := ne_of_none (o := .lst ws) ((same_new ht _) _ _ hd) hl
    have hlen := ha.length
    rw [List.length_map, List.length_range] at hlen
    refine Pm.w_cat (by rw [upd_ne nD, upd_ne (ne_of_none hd ht)]; exact hd) upd_same (size_ok (by rw [hlen, List.length_singleton]; omega)) (fun p hp => ?_)
    have k1 : Keeps H1 (upd (upd (upd H1 t (.tup [.int 0, .int ((n : Int) - 1)])) l (.lst [.ref t])) p (.lst (ws ++ [.ref t]))) := keeps ((same_new ht _).trans ((same_new hl _).trans (same_new hp _)))
    have s2 := s1.trans ((same_new ht _).trans ((same_new hl _).trans (same_new hp (.lst (ws ++ [.ref t])))))
    refine q p _ _ s2 (by have := (s1.trans ((same_new ht _).trans (same_new hl (.lst [.ref t])))).free hp; exact this) upd_same ((prs_keep k1 ha).append ⟨⟨t, rfl, ?_⟩, trivial⟩)
    exact ((same_new hl _).trans (same_new hp _)) _ _ upd_same
end
section
variable {P : Program} {w : World} {K : PySem.W.Frag} {mg : Str → Option Value} {base : Heap}
def spLTies : Sp := fun vs H Q _ => ∃ (n : Nat) (c : Addr) (cut : List IP), vs = [.int n, .ref c] ∧ 1 ≤ n ∧ n ≤ 1000 ∧ PLt H c cut ∧ cut.length ≤ 1000 ∧ PLNew H (tiesL n cut) Q
theorem ok_law_ties (T : Tx K mg) : FnOk P w K mg base CX0 2 T.a_law_ties T.fd_law_ties ["_law_n", "_law_cut"] spLTies := by
  refine T.F_law_ties.ok sc_law_ties (fun vs H Q E h => ?_) (fun cdv A outer s H vs Q E hr h => ?_)
  · obtain ⟨n, c, cut, rfl, _⟩ := h
    rfl
  obtain ⟨n, c, cut, rfl, n1, n2, ⟨cvs, hc, pc⟩, cl, q⟩ := h
  refine ⟨_, (pss_one (ps_ret (pe_callB (cr_sortK (K := K)) (by rfl) T.m_sorted (by decide +kernel) (pa_cons (pe_op op_cat (pe_call (ok_law_sides T) (hr.mono (by decide)) (by rfl) T.g_law_sides T.F_law_sides.kp T.b_law_sides .nil pass0 (pa_cons (pv 0) pa_nil)) (pv 1)) pa_nil)))), ?_⟩
  walk_at "st"
  refine ⟨n, rfl, n1, n2, fun p H1 ws s1 np hp ha => ?_⟩
  walk_at "st"
  have l1 := ha.length
  rw [sides0_len n1] at l1
  have l2 := pc.length
  refine Pm.w_cat hp (s1 _ _ hc) (size_ok (by omega)) (fun l hl => ?_)
  have k1 := keeps (same_new hl (.lst (ws ++ cvs)))
  refine Pm.w_sortP (SqL.of upd_same) ((prs_keep k1 ha).append (prs_keep ((keeps s1).trans k1) pc)) (fun ys p2 hp2 hy => ?_)
  have s2 := s1.trans (same_new hl (.lst (ws ++ cvs)))
  exact q p2 _ ys (s2.trans (same_new hp2 _)) (s2.free hp2) upd_same (prs_keep (keeps (same_new hp2 _)) hy)
end
section
variable {P : Program} {w : World} {K : PySem.W.Frag} {mg : Str → Option Value} {base : Heap}
def spWild : Sp := fun vs H Q _ => ∃ (n : Nat) (x : Int), vs = [.int n, .int x] ∧ ∀ (i : Int) H', Same H H' → Q (.int i) H'
theorem ok_law_wild (T : Tx K mg) : FnOk P w K mg base CX0 1 T.a_law_wild T.fd_law_wild ["_law_n", "_law_one"] spWild := by
  refine T.F_law_wild.ok sc_law_wild (fun vs H Q E h => ?_) (fun cdv A outer s H vs Q E hr h => ?_)
  · obtain ⟨n, x, rfl, _⟩ := h
    rfl
  obtain ⟨n, x, rfl, q⟩ := h
  refine ⟨_, (pss_cons (ps_if (pt_cmpR op_eq (pe_op op_mod (pe_op op_fdiv (pv 1) (pe_int)) (pe_int)) (pe_int) (nomark _)) (pss_one (ps_ret (pe_ix (ix_listK (K := K)) (pe_lst (pa_cons (pe_un un_neg (pv 0)) (pa_cons (pe_un un_neg (pe_int)) (pa_cons (pe_op op_add (pv 0) (pe_int)) (pa_cons (pe_op op_pow (pe_int) (pe_int)) (pa_cons (pe_un un_neg (pe_op op_pow (pe_int) (pe_int))) pa_nil)))))) (pe_op op_mod (pv 1) (pe_int)) (fun _ _ => rfl)))) pss_nil)
      (pss_one (ps_ret (pe_op op_sub (pe_op op_mod (pv 1) (pe_op op_add (pv 0) (pe_int))) (pe_int))))), ?_⟩
  walk_at "st"
  refine Pm.w_ite (fun e1 => ?_) (fun e1 => ?_)
  · walk_at "st"
    refine Pm.w_newL (fun p hp => ?_)
    walk_at "st"
    refine Pm.w_ixL (K := K) (xs := ([-(n : Int), -2, (n : Int) + 1, 10 ^ (20 : Int).toNat, -(10 ^ (20 : Int).toNat)] : List Int).map V.int) (SqL.of upd_same) (atI_int (by omega) (by show _ < (5 : Int); omega)) ?_
    exact q _ _ (same_new hp _)
  · walk_at "st"
    exact q _ _ (Same.refl _)
end
section
variable {P : Program} {w : World} {K : PySem.W.Frag} {mg : Str → Option Value} {base : Heap}
def spLBeside : Sp := fun vs H Q _ => ∃ (n : Nat) (l : Addr) (T0 : List IP) (a b : Int), vs = [.int n, .ref l, .int a, .int b] ∧ n ≤ 1000 ∧ PLt H l T0 ∧ ILNew H (besideL n T0 a b) Q
theorem ok_law_beside (T : Tx K mg) : FnOk P w K mg base CX0 2 T.a_law_beside T.fd_law_beside ["_law_n", "_law_all_ties", "_law_a", "_law_b"] spLBeside := by
  refine T.F_law_beside.ok sc_law_beside (fun vs H Q E h => ?_) (fun cdv A outer s H vs Q E hr h => ?_)
  · obtain ⟨n, l, T0, a, b, rfl, _⟩ := h
    rfl
  obtain ⟨n, l, T0, a, b, rfl, n2, ⟨ws, hl, ha⟩, q⟩ := h
  refine ⟨_, (pss_cons (ps_set (i := 4) sc_law_beside.nd rfl (.inl rfl) (pe_lst pa_nil))
      (pss_cons (ps_for PassesOwn.never rfl (pi_range1 (by rfl) T.m_range (pa_cons (pv 0) pa_nil)) (pg_name (i := 5) sc_law_beside.nd rfl (.inl rfl)) (pss_one (ps_if (PW.pt (pw_and (pt_cmpR (op_inDK (K := K) hr.u65) (pe_call (ok_law_pair T) (hr.mono (by decide)) (by rfl) T.g_law_pair T.F_law_pair.kp T.b_law_pair .nil pass0 (pa_cons (pv 2) (pa_cons (pv 5) pa_nil))) (pv 1) (by rfl)) (pw_and1 (pt_cmpR (op_inDK (K := K) hr.u65) (pe_call (ok_law_pair T) (hr.mono (by decide)) (by rfl) T.g_law_pair T.F_law_pair.kp T.b_law_pair .nil pass0 (pa_cons (pv 3) (pa_cons (pv 5) pa_nil))) (pv 1) (by rfl))))) (pss_one (ps_expr (k_bm (K := K) (pe_bm PySem.F.plainAttrs_list PySem.F.slot_list_append PySem.F.type_list_append mt_append (pv 4) (pa_cons (pv 5) pa_nil))))) pss_nil)))
      (pss_one (ps_ret (pv 4))))), ?_⟩
  walk_at "st"
  refine Pm.w_newL (fun f hf => ?_)
  walk_at "st"
  rw [Int.toNat_natCast]
  have s3 : Same H (upd H f (.lst [])) := same_new hf _
  have nlf : l ≠ f := ne_of_none hl hf
  have hHf : H f = none := hf
  refine Pm.w_forR (fun i σ H3 => ∃ x, σ = [some (.int n), some (.ref l), some (.int a), some (.int b), some (.ref f), x] ∧ Same H H3 ∧ H3 l = some (.lst ws) ∧ Prs H3 ws (T0) ∧ H3 f = some (.lst ((((List.range i).filter (isBeside (T0) a b)).map fun c : Nat => (c : Int)).map V.int))) ?_ ?_ ?_
  · exact ⟨_, rfl, same_but hHf (Same.refl _), s3 _ _ hl, prs_keep (keeps s3) ha, upd_same⟩
  · rintro i σ H3 hi ⟨x, rfl, sm, hl3, ha3, hf3⟩
    have hz : ((((List.range i).filter (isBeside (T0) a b)).map fun c : Nat => (c : Int)).map V.int).length < sizeLine := by
      rw [List.length_map, List.length_map]
      have := List.length_filter_le (isBeside (T0) a b) (List.range i)
      rw [List.length_range] at this
      exact size_lt (by omega)
    have fin : ∀ H5 : Hp, Same H3 H5 → isBeside (T0) a b i = false → ∃ x, ([some (.int n), some (.ref l), some (.int a), some (.int b), some (.ref f), some (.int (0 + (i : Nat)))] : L2.St) = [some (.int n), some (.ref l), some (.int a), some (.int b), some (.ref f), x] ∧ Same H H5 ∧ H5 l = some (.lst ws) ∧ Prs H5 ws (T0) ∧ H5 f = some (.lst ((((List.range (i + 1)).filter (isBeside (T0) a b)).map fun c : Nat => (c : Int)).map V.int)) := fun H5 s5 z => by
      refine ⟨_, rfl, sm.trans s5, s5 _ _ hl3, prs_keep (keeps s5) ha3, ?_⟩
      rw [besides_snoc, z, if_neg Bool.false_ne_true, List.append_nil]
      exact s5 _ _ hf3
    walk_at "st"
    refine ⟨a, _, rfl, fun t4 H4 s4 nt4 ht4 => ?_⟩
    rw [Int.zero_add] at ht4
    walk_at "st"
    refine Pm.w_inPL ht4 (SqL.of (s4 _ _ hl3)) (prs_keep (keeps s4) ha3) ?_
    walk_at "st"
    refine Pm.w_ite (fun e1 => ?_) (fun e1 => ?_)
    · walk_at "st"
      refine ⟨b, _, rfl, fun t5 H5 s5 nt5 ht5 => ?_⟩
      rw [Int.zero_add] at ht5
      have s45 := s4.trans s5
      walk_at "st"
      refine Pm.w_inPL ht5 (SqL.of (s45 _ _ hl3)) (prs_keep (keeps s45) ha3) ?_
      walk_at "st"
      refine Pm.w_ite (fun e2 => ?_) (fun e2 => ?_)
      · have z : isBeside (T0) a b i = true := by unfold isBeside; rw [decide_eq_true e1, decide_eq_true e2]; rfl
        walk_at "st"
        refine ⟨.inl ⟨rfl, _, SqL.of (s45 _ _ hf3)⟩, ?_⟩
        walk_at "st"
        refine Pm.w_append (s45 _ _ hf3) hz ?_
        walk_at "st"
        refine ⟨_, rfl, same_but hHf (sm.trans s45), ?_, ?_, ?_⟩
        · rw [upd_ne nlf]; exact s45 _ _ hl3
        · exact prs_keep (keeps_lst (s45 _ _ hf3)) (prs_keep (keeps s45) ha3)
        · rw [upd_same, besides_snoc, z, if_pos rfl, List.map_append, Int.zero_add]
          rfl
      · have z : isBeside (T0) a b i = false := by unfold isBeside; rw [decide_eq_false e2, Bool.and_false]
        walk_at "st"
        exact fin H5 s45 z
    · have z : isBeside (T0) a b i = false := by unfold isBeside; rw [decide_eq_false e1, Bool.false_and]
      walk_at "st"
      exact fin H4 s4 z
  · rintro σ H3 ⟨x, rfl, sm, hl3, ha3, hf3⟩
    walk_at "st"
    exact q f _ sm hHf hf3
end
section
variable {P : Program} {w : World} {K : PySem.W.Frag} {mg : Str → Option Value} {base : Heap}
def spLTurned : Sp := fun vs H Q _ => ∃ (n : Nat) (c r : Addr) (cut : List IP) (rope : IP), vs = [.int n, .ref c, .ref r] ∧ 1 ≤ n ∧ n ≤ 1000 ∧ PLt H c cut ∧ cut.length ≤ 1000 ∧ Pr H (.ref r) rope ∧ rope.1 < rope.2 ∧ 2 ≤ (besideL n (tiesL n cut) rope.1 rope.2).length ∧ PLNew H (turnedL n cut rope.1 rope.2) Q
theorem ok_law_turned (T : Tx K mg) : FnOk P w K mg base CX0 3 T.a_law_turned T.fd_law_turned ["_law_n", "_law_cut", "_law_rope"] spLTurned := by
  refine T.F_law_turned.ok sc_law_turned (fun vs H Q E h => ?_) (fun cdv A outer s H vs Q E hr h => ?_)
  · obtain ⟨n, c, r, cut, rope, rfl, _⟩ := h
    rfl
  obtain ⟨n, c, r, cut, rope, rfl, n1, n2, hc, cl, hrp, hlt, l2, q⟩ := h
  obtain ⟨a, b⟩ := rope
  simp only at hlt l2 q
  have eT : tieOf a b = (a, b) := tie_lt hlt
  refine ⟨_, (pss_cons (ps_set (i := 3) sc_law_turned.nd rfl (.inl rfl) (pe_call (ok_law_beside T) (hr.mono (by decide)) (by rfl) T.g_law_beside T.F_law_beside.kp T.b_law_beside .nil pass0 (pa_cons (pv 0) (pa_cons (pe_call (ok_law_ties T) (hr.mono (by decide)) (by rfl) T.g_law_ties T.F_law_ties.kp T.b_law_ties .nil pass0 (pa_cons (pv 0) (pa_cons (pv 1) pa_nil))) (pa_cons (pe_ix (ix_tupK (K := K)) (pv 2) (pe_int) (fun _ _ => rfl)) (pa_cons (pe_ix (ix_tupK (K := K)) (pv 2) (pe_int) (fun _ _ => rfl)) pa_nil))))))
      (pss_one (ps_ret (pe_callB (cr_sortK (K := K)) (by rfl) T.m_sorted (by decide +kernel) (pa_cons (pe_op op_cat (pe_lc (own := [("_law_one", 4)]) (g := gName 4) rfl sc_law_turned.nd (k_il (K := K) (pi_list (pv 1))) (blkOk_by (N := N_law_turned) (sc := defScope s_law_turned) (by decide +kernel)) (fun _ _ _ _ _ => (pg_name (i := 4) sc_law_turned.nd rfl (.inl rfl))) (fun _ _ _ _ _ => (pts_one (pt_cmpR (op_neDK (K := K) hr.units) (pv 4) (pv 2) (nomark _)))) (fun _ _ _ _ _ => (pv 4))) (pe_lst (pa_cons (pe_tup (pa_cons (pe_ix (ix_listK (K := K)) (pv 3) (pe_int) (fun _ _ => rfl)) (pa_cons (pe_ix (ix_listK (K := K)) (pv 3) (pe_int) (fun _ _ => rfl)) pa_nil))) pa_nil))) pa_nil))))), ?_⟩
  walk_at "st"
  refine ⟨n, c, cut, rfl, n1, n2, hc, cl, fun tl H1 tvs s1 ntl htl htp => ?_⟩
  have hr1 := hrp.keep (keeps s1)
  walk_at "st"
  refine Pm.w_ixT hr1.tup (atI2 _ _).1 ?_
  walk_at "st"
  refine Pm.w_ixT hr1.tup (atI2 _ _).2 ?_
  walk_at "st"
  refine ⟨n, tl, _, a, b, rfl, n2, ⟨tvs, htl, htp⟩, fun l H2 s2 nl hl => ?_⟩
  obtain ⟨cv2, hc2, hp2⟩ := hc.same (s1.trans s2)
  walk_at "st"
  refine Pm.w_rdL (SqL.of hc2) ?_
  refine Pm.w_lcLf (R := Pr) pr_mono (S := Pr) pr_mono (SqL.of hc2) hp2 id (fun p => !decide (p = tieOf a b)) (by omega) (fun D x p H3 Nx hD hm hs s3 put skip => ?_) (fun D H3 ws hD s3 hd ha => ?_)
  · obtain ⟨t, rfl, ht⟩ := hs
    obtain ⟨u, eu, hu⟩ := hr1.keep (keeps (s2.trans s3))
    cases eu
    walk_at "st"
    refine Pm.w_neP ⟨t, rfl, ht⟩ ⟨_, rfl, hu⟩ ?_
    walk_at "st"
    refine Pm.w_iteN (fun z => ?_) (fun z => ?_)
    · walk_at "st"
      exact put _ _ (by rw [eT]; simp [z]) (Same.refl _) ⟨t, rfl, ht⟩
    · exact skip _ (by rw [eT]; simp [z]) (Same.refl _)
  · rw [List.map_id] at ha
    have hl3 := s3 _ _ hl
    walk_at "st"
    refine Pm.w_ixL (SqL.of hl3) (atI_getD (i := 0) (by omega)) ?_
    walk_at "st"
    refine Pm.w_ixL (SqL.of hl3) (atI_getD (i := 1) (by omega)) ?_
    walk_at "st"
    refine Pm.w_newT (fun t ht => ?_)
    walk_at "st"
    refine Pm.w_newL (fun k hk => ?_)
    have nDk : D ≠ k := ne_of_none (o := .lst ws) ((same_new ht _) _ _ hd) hk
    have hlen := ha.length
    have hlf := List.length_filter_le (fun p : IP => !decide (p = tieOf a b)) cut
    refine Pm.w_cat (by rw [upd_ne nDk, upd_ne (ne_of_none hd ht)]; exact hd) upd_same (size_ok (by rw [List.length_singleton]; omega)) (fun g hg => ?_)
    have k1 := keeps ((same_new ht (.tup [.int ((besideL n (tiesL n cut) a b).getD 0 0), .int ((besideL n (tiesL n cut) a b).getD 1 0)])).trans ((same_new hk (.lst [.ref t])).trans (same_new hg (.lst (ws ++ [.ref t])))))
    have s4 := (same_new ht (.tup [.int ((besideL n (tiesL n cut) a b).getD 0 0), .int ((besideL n (tiesL n cut) a b).getD 1 0)])).trans ((same_new hk (.lst [.ref t])).trans (same_new hg (.lst (ws ++ [.ref t]))))
    refine Pm.w_sortP (SqL.of upd_same) ((prs_keep k1 ha).append (ys' := [((besideL n (tiesL n cut) a b).getD 0 0, (besideL n (tiesL n cut) a b).getD 1 0)]) ⟨⟨t, rfl, ?_⟩, trivial⟩) (fun ys p2 hp2' hy => ?_)
    · exact ((same_new hk _).trans (same_new hg _)) _ _ upd_same
    · have s5 := s1.trans (s2.trans (s3.trans s4))
      exact q p2 _ ys (s5.trans (same_new hp2' _)) (s5.free hp2') upd_same (prs_keep (keeps (same_new hp2' _)) hy)
end
section
variable {P : Program} {w : World} {K : PySem.W.Frag} {mg : Str → Option Value} {base : Heap}
theorem w_ldPop {K : PySem.W.Frag} {H : Hp} {d b : Addr} {ks : List IP} {L : IP → IP} {k : IP} {Q : VK} (h : LD K H d ks L) (hb : Pr H (.ref b) k) (m : k ∈ ks) (q : ∀ v es, FrV K H v (L k) → LD K (upd H d (.dT es)) d (ks.filter fun j => decide (j ≠ k)) L → Q v (upd H d (.dT es))) : rPop1T (.ref d) [.ref b] H Q := by
  obtain ⟨n, es, h1, h2⟩ := h
  obtain ⟨v, e, hv⟩ := (ens_val h2 k).2 m
  exact ⟨d, es, kk k, b, v, rfl, rfl, h1, hb.kkey, e, q v _ hv ⟨n.sublist List.filter_sublist, _, upd_same, ens_keep (keeps_dT h1) (ens_drop h2)⟩⟩
def spLLaid (K : PySem.W.Frag) : Sp := fun vs H Q _ => ∃ (n : Nat) (c d r : Addr) (cut : List IP) (t t' : Tr) (L : Len) (D : Nat → Nat → Rat) (F B x y m o : Nat) (Rr : List (Nat × Nat)), vs = [.int n, .ref c, .ref d, .ref r] ∧ n ≤ 12 ∧ PLt H c cut ∧ Cutting n cut t ∧ LenD K H d t D ∧ Meas n t L D ∧ Bd n D F B ∧ 5 * B + 2 ≤ 9000 ∧ Pr H (.ref r) (castP (x, y)) ∧ Turning n cut t t' x y m o Rr ∧
  ∀ (d' : Addr) (H' : Hp), Same H H' → H d' = none → LenD K H' d' t' D → Q (.ref d') H'
theorem ok_law_laid (T : Tx K mg) : FnOk P w K mg base CX0 3 T.a_law_laid T.fd_law_laid ["_law_n", "_law_cut", "_law_sized_here", "_law_rope"] (spLLaid K) := by
  refine T.F_law_laid.ok sc_law_laid (fun vs H Q E h => ?_) (fun cdv A outer s H vs Q E hr h => ?_)
  · obtain ⟨n, c, d, r, cut, t, t', L, D, F, B, x, y, m, o, Rr, rfl, _⟩ := h
    rfl
  obtain ⟨n, c, d, r, cut, t, t', L, D, F, B, x, y, m, o, Rr, rfl, n12, hc, C, hd, M, Z, hB, hrp, U, q⟩ := h
  have cl := C.cut_len
  have n3 := C.n3
  have hw := C.w
  have bes := U.bes
  have cr := U.cross C
  have nb := U.new_bd C
  have am := U.F.am
  have mb := U.F.mb
  have mem1 : ∀ e, e = m ∨ e = o → (min x e, max x e) ∈ t.all 0 ∧ (min y e, max y e) ∈ t.all 0 := by
    intro e he
    rcases he with rfl | rfl
    · have := U.F.btw
      rw [Nat.min_eq_left (by omega), Nat.max_eq_right (by omega), Nat.min_eq_right (by omega), Nat.max_eq_left (by omega)]
      exact ⟨am, mb⟩
    · have := U.F.btw
      rcases U.F.out with ⟨h1, h2, h3⟩ | ⟨h1, h2, h3⟩
      · rw [Nat.min_eq_right (by omega), Nat.max_eq_left (by omega), Nat.min_eq_right (by omega), Nat.max_eq_left (by omega)]
        exact ⟨h2, h3⟩
      · rw [Nat.min_eq_left (by omega), Nat.max_eq_right (by omega), Nat.min_eq_left (by omega), Nat.max_eq_right (by omega)]
        exact ⟨h2, h3⟩
  have rope := Tr.inn_all (ropes_bd U.rope_mem).1
  have rbd := Tr.bd rope
  simp only at rbd
  generalize he0 : min m o = e0 at *
  generalize he1 : max m o = e1 at *
  have c0 : e0 = m ∨ e0 = o := by omega
  have c1 : e1 = m ∨ e1 = o := by omega
  obtain ⟨x0, y0⟩ := mem1 e0 c0
  obtain ⟨x1, y1⟩ := mem1 e1 c1
  have xn : x < n := by omega
  have yn : y < n := by omega
  have e0n : e0 < n := by omega
  have e1n : e1 < n := by omega
  refine ⟨_, (pss_cons (ps_set (i := 4) sc_law_laid.nd rfl (.inl rfl) (pe_call (ok_law_beside T) (hr.mono (by decide)) (by rfl) T.g_law_beside T.F_law_beside.kp T.b_law_beside .nil pass0 (pa_cons (pv 0) (pa_cons (pe_call (ok_law_ties T) (hr.mono (by decide)) (by rfl) T.g_law_ties T.F_law_ties.kp T.b_law_ties .nil pass0 (pa_cons (pv 0) (pa_cons (pv 1) pa_nil))) (pa_cons (pe_ix (ix_tupK (K := K)) (pv 3) (pe_int) (fun _ _ => rfl)) (pa_cons (pe_ix (ix_tupK (K := K)) (pv 3) (pe_int) (fun _ _ => rfl)) pa_nil))))))
      (pss_cons (ps_set (i := 5) sc_law_laid.nd rfl (.inl rfl) (pe_call (ok_law_mul T) (hr.mono (by decide)) (by rfl) T.g_law_mul T.F_law_mul.kp T.b_law_mul .nil pass0 (pa_cons (pe_dget (hu_of hr) (pv 2) (pe_call (ok_law_pair T) (hr.mono (by decide)) (by rfl) T.g_law_pair T.F_law_pair.kp T.b_law_pair .nil pass0 (pa_cons (pe_ix (ix_tupK (K := K)) (pv 3) (pe_int) (fun _ _ => rfl)) (pa_cons (pe_ix (ix_listK (K := K)) (pv 4) (pe_int) (fun _ _ => rfl)) pa_nil))) (fun _ _ => rfl)) (pa_cons (pe_dget (hu_of hr) (pv 2) (pe_call (ok_law_pair T) (hr.mono (by decide)) (by rfl) T.g_law_pair T.F_law_pair.kp T.b_law_pair .nil pass0 (pa_cons (pe_ix (ix_tupK (K := K)) (pv 3) (pe_int) (fun _ _ => rfl)) (pa_cons (pe_ix (ix_listK (K := K)) (pv 4) (pe_int) (fun _ _ => rfl)) pa_nil))) (fun _ _ => rfl)) pa_nil))))
      (pss_cons (ps_set (i := 6) sc_law_laid.nd rfl (.inl rfl) (pe_call (ok_law_mul T) (hr.mono (by decide)) (by rfl) T.g_law_mul T.F_law_mul.kp T.b_law_mul .nil pass0 (pa_cons (pe_dget (hu_of hr) (pv 2) (pe_call (ok_law_pair T) (hr.mono (by decide)) (by rfl) T.g_law_pair T.F_law_pair.kp T.b_law_pair .nil pass0 (pa_cons (pe_ix (ix_tupK (K := K)) (pv 3) (pe_int) (fun _ _ => rfl)) (pa_cons (pe_ix (ix_listK (K := K)) (pv 4) (pe_int) (fun _ _ => rfl)) pa_nil))) (fun _ _ => rfl)) (pa_cons (pe_dget (hu_of hr) (pv 2) (pe_call (ok_law_pair T) (hr.mono (by decide)) (by rfl) T.g_law_pair T.F_law_pair.kp T.b_law_pair .nil pass0 (pa_cons (pe_ix (ix_tupK (K := K)) (pv 3) (pe_int) (fun _ _ => rfl)) (pa_cons (pe_ix (ix_listK (K := K)) (pv 4) (pe_int) (fun _ _ => rfl)) pa_nil))) (fun _ _ => rfl)) pa_nil))))
      (pss_cons (ps_set (i := 7) sc_law_laid.nd rfl (.inl rfl) (pe_callTy (call_dictT hr.u2) (by rfl) T.m_dict (by decide +kernel) (pa_cons (pv 2) pa_nil)))
      (pss_cons (ps_expr (k_bm (K := K) (pe_bm PySem.F.plainAttrs_dict PySem.F.slot_dict_pop PySem.F.type_dict_pop (mt_pop1T hr.u2) (pv 7) (pa_cons (pv 3) pa_nil))))
      (pss_cons (ps_dput (hu_of hr) (pv 7) (pe_tup (pa_cons (pe_ix (ix_listK (K := K)) (pv 4) (pe_int) (fun _ _ => rfl)) (pa_cons (pe_ix (ix_listK (K := K)) (pv 4) (pe_int) (fun _ _ => rfl)) pa_nil))) (pe_call (ok_law_div T) (hr.mono (by decide)) (by rfl) T.g_law_div T.F_law_div.kp T.b_law_div .nil pass0 (pa_cons (pe_call (ok_law_add T) (hr.mono (by decide)) (by rfl) T.g_law_add T.F_law_add.kp T.b_law_add .nil pass0 (pa_cons (pv 5) (pa_cons (pv 6) pa_nil))) (pa_cons (pe_dget (hu_of hr) (pv 2) (pv 3) (fun _ _ => rfl)) pa_nil))) rfl)
      (pss_one (ps_ret (pv 7))))))))), ?_⟩
  walk_at "st"
  refine ⟨n, c, cut, rfl, by omega, by omega, hc, by omega, fun l H1 tvs s1 nl hl ha => ?_⟩
  have hr1 := hrp.keep (keeps s1)
  walk_at "st"
  refine Pm.w_ixT hr1.tup (atI2 _ _).1 ?_
  walk_at "st"
  refine Pm.w_ixT hr1.tup (atI2 _ _).2 ?_
  walk_at "st"
  refine ⟨n, l, tiesL n cut, _, _, rfl, by omega, ⟨tvs, hl, ha⟩, fun b H2 s2 nbd hbd => ?_⟩
  have bes' : besideL n (tiesL n cut) (castP (x, y)).1 (castP (x, y)).2 = [(e0 : Int), (e1 : Int)] := bes
  rw [bes'] at hbd
  have s12 := s1.trans s2
  have hrr : ∀ {H' : Hp}, Same H H' → Pr H' (.ref r) (castP (x, y)) := fun s => hrp.keep (keeps s)
  have b0 : atI [V.int (e0 : Int), V.int (e1 : Int)] 0 = some (.int (e0 : Int)) := rfl
  have b1 : atI [V.int (e0 : Int), V.int (e1 : Int)] 1 = some (.int (e1 : Int)) := rfl
  walk_at "st"
  refine Pm.w_ixT (hrr s12).tup (atI2 _ _).1 ?_
  walk_at "st"
  refine Pm.w_ixL (SqL.of hbd) b0 ?_
  walk_at "st"
  refine ⟨_, _, rfl, fun p3 H3 s3 n3' h3 => ?_⟩
  rw [show tieOf (castP (x, y)).1 (e0 : Int) = castP (min x e0, max x e0) from tie_cast x e0] at h3
  have s13 := s12.trans s3
  refine w_lenGet (hd.same s13) h3 x0 (fun u1 hu1 => ?_)
  walk_at "st"
  refine Pm.w_ixT (hrr s13).tup (atI2 _ _).2 ?_
  walk_at "st"
  refine Pm.w_ixL (SqL.of (s3 _ _ hbd)) b1 ?_
  walk_at "st"
  refine ⟨_, _, rfl, fun p4 H4 s4 n4' h4 => ?_⟩
  rw [show tieOf (castP (x, y)).2 (e1 : Int) = castP (min y e1, max y e1) from tie_cast y e1] at h4
  have s14 := s13.trans s4
  refine w_lenGet (hd.same s14) h4 y1 (fun u2 hu2 => ?_)
  walk_at "st"
  refine ⟨_, _, _, _, B, B, rfl, hu1.keep (keeps s4), hu2, Z.rb (by omega) (by omega), Z.rb (by omega) (by omega), by omega, fun u3 H5 s5 n5 h5 => ?_⟩
  have s15 := s14.trans s5
  have hbd5 := (s3.trans (s4.trans s5)) _ _ hbd
  walk_at "st"
  refine Pm.w_ixT (hrr s15).tup (atI2 _ _).1 ?_
  walk_at "st"
  refine Pm.w_ixL (SqL.of hbd5) b1 ?_
  walk_at "st"
  refine ⟨_, _, rfl, fun p6 H6 s6 n6' h6 => ?_⟩
  rw [show tieOf (castP (x, y)).1 (e1 : Int) = castP (min x e1, max x e1) from tie_cast x e1] at h6
  have s16 := s15.trans s6
  refine w_lenGet (hd.same s16) h6 x1 (fun u4 hu4 => ?_)
  walk_at "st"
  refine Pm.w_ixT (hrr s16).tup (atI2 _ _).2 ?_
  walk_at "st"
  refine Pm.w_ixL (SqL.of (s6 _ _ hbd5)) b0 ?_
  walk_at "st"
  refine ⟨_, _, rfl, fun p7 H7 s7 n7' h7 => ?_⟩
  rw [show tieOf (castP (x, y)).2 (e0 : Int) = castP (min y e0, max y e0) from tie_cast y e0] at h7
  have s17 := s16.trans s7
  refine w_lenGet (hd.same s17) h7 y0 (fun u5 hu5 => ?_)
  walk_at "st"
  refine ⟨_, _, _, _, B, B, rfl, hu4.keep (keeps s7), hu5, Z.rb (by omega) (by omega), Z.rb (by omega) (by omega), by omega, fun u6 H8 s8 n8 h8 => ?_⟩
  have s18 := s17.trans s8
  obtain ⟨ks, Ld, hLD, hks, hLv⟩ := hd.same s18
  walk_at "st"
  refine w_ldDict hLD (fun k hk => ?_) (fun g es9 hg hLDg => ?_)
  · obtain ⟨q9, hq9, rfl⟩ := (hks k).mp hk
    have := Tr.bd hq9
    unfold smallP castP
    simp only
    omega
  have s9 := same_new hg (.dT es9)
  have s19 := s18.trans s9
  walk_at "st"
  refine ⟨.inr (.inr (.inl ⟨rfl, .inr ⟨_, upd_same⟩⟩)), ?_⟩
  walk_at "st"
  have mrope : castP (x, y) ∈ ks := (hks _).mpr ⟨_, rope, rfl⟩
  refine w_ldPop hLDg (hrr s19) mrope (fun v es10 hv hLD10 => ?_)
  have Hg : H8 g = none := hg
  have s20 := same_but (o := .dT es10) Hg s9
  have s10' := s18.trans s20
  have h5' := (s6.trans (s7.trans (s8.trans s20))) _ _ h5
  have h8' := s20 _ _ h8
  generalize upd (upd H8 g (.dT es9)) g (.dT es10) = H10 at *
  walk_at "st"
  refine ⟨_, _, _, _, B + B, B + B, rfl, frv_new h5', frv_new h8', rb_mul (Z.rb (by omega) (by omega)) (Z.rb (by omega) (by omega)), rb_mul (Z.rb (by omega) (by omega)) (Z.rb (by omega) (by omega)), by omega, fun u7 H11 s11 n11 h11 => ?_⟩
  walk_at "st"
  have s111 := s10'.trans s11
  refine w_lenGet (hd.same s111) (hrr s111) rope (fun u8 hu8 => ?_)
  walk_at "st"
  have n0 := M.ne (show x ≠ y by omega) xn yn
  have val : (D (min x e0) (max x e0) * D (min y e1) (max y e1) + D (min x e1) (max x e1) * D (min y e0) (max y e0)) / D x y = D e0 e1 := by
    rcases cr with ⟨h1, h2, h3, h4, h5⟩ | ⟨h1, h2, h3, h4, h5⟩
    · rw [Nat.min_eq_left (show x ≤ e0 by omega), Nat.max_eq_right (show x ≤ e0 by omega), Nat.min_eq_left (show y ≤ e1 by omega), Nat.max_eq_right (show y ≤ e1 by omega), Nat.min_eq_left (show x ≤ e1 by omega), Nat.max_eq_right (show x ≤ e1 by omega), Nat.min_eq_right (show e0 ≤ y by omega), Nat.max_eq_left (show e0 ≤ y by omega)]
      have p := M.pl xn e0n yn e1n
      generalize D x e0 = a1 at *
      generalize D y e1 = a2 at *
      generalize D x e1 = a3 at *
      generalize D e0 y = a4 at *
      generalize D e0 e1 = a5 at *
      generalize D x y = a6 at *
      clear hu1 hu2 hu4 hu5 hu8 h5' h8' h11 h5 h8
      grind
    · rw [Nat.min_eq_right (show e0 ≤ x by omega), Nat.max_eq_left (show e0 ≤ x by omega), Nat.min_eq_right (show e1 ≤ y by omega), Nat.max_eq_left (show e1 ≤ y by omega), Nat.min_eq_left (show x ≤ e1 by omega), Nat.max_eq_right (show x ≤ e1 by omega), Nat.min_eq_right (show e0 ≤ y by omega), Nat.max_eq_left (show e0 ≤ y by omega)]
      have p := M.pl e0n xn e1n yn
      generalize D e0 x = a1 at *
      generalize D e1 y = a2 at *
      generalize D x e1 = a3 at *
      generalize D e0 y = a4 at *
      generalize D e0 e1 = a5 at *
      generalize D x y = a6 at *
      clear hu1 hu2 hu4 hu5 hu8 h5' h8' h11 h5 h8
      grind
  refine ⟨_, _, _, _, B + B + (B + B) + 1, B, rfl, frv_new h11, hu8, rb_add (rb_mul (Z.rb (by omega) (by omega)) (Z.rb (by omega) (by omega))) (rb_mul (Z.rb (by omega) (by omega)) (Z.rb (by omega) (by omega))), Z.rb xn yn, by omega, n0, fun u9 H12 s13' n12' h12 => ?_⟩
  rw [val] at h12
  have s112 := s111.trans s13'
  have hbd12 : H12 b = some (.lst [.int (e0 : Int), .int (e1 : Int)]) := (s3.trans (s4.trans (s5.trans (s6.trans (s7.trans (s8.trans (s20.trans (s11.trans s13')))))))) _ _ hbd
  walk_at "st"
  refine Pm.w_ixL (SqL.of hbd12) b0 ?_
  walk_at "st"
  refine Pm.w_ixL (SqL.of hbd12) b1 ?_
  walk_at "st"
  refine Pm.w_newT (fun w1 hw1 => ?_)
  have r1 := same_new hw1 (.tup [.int (e0 : Int), .int (e1 : Int)])
  have hLD13 := hLD10.same ((s11.trans s13').trans r1)
  have kls : (ks.filter fun j => decide (j ≠ castP (x, y))).length < 1000000 := by
    have h4 : ks.length = (tiesL n cut).length := perm_len hLD.nd C.ties_nodup (fun p => by rw [hks, C.ties])
    have h5 : (tiesL n cut).length ≤ 3000 := by rw [tiesL, sortP_len, List.length_append, sides0_len (by omega)]; omega
    have := List.length_filter_le (fun j => decide (j ≠ castP (x, y))) ks
    omega
  refine w_ldPut (k := castP (e0, e1)) (p := rp (D e0 e1)) hLD13 (pr_new upd_same) (frv_new (r1 _ _ h12)) kls (fun es14 hL14 kp14 => ?_)
  walk_at "st"
  have HHg : H g = none := s18.free Hg
  have nnew : castP (e0, e1) ∉ ks := fun z => by
    have := U.new_notin C
    rw [he0, he1] at this
    exact this (C.ties.mpr ((hks _).mp z))
  refine q g _ (same_but HHg (s112.trans r1)) HHg ?_
  refine laid_len C U hks hLv hL14 (fun p => ?_) (fun p hp ne => ?_) (by rw [he0, he1]; exact updF_same)
  · rw [mem_putk, List.mem_filter, he0, he1]
    simp only [decide_eq_true_eq, ne_eq]
  · rw [updF_ne (fun z : p = castP (e0, e1) => nnew (by rw [← z]; exact hp))]
end
section
variable {P : Program} {w : World} {K : PySem.W.Frag} {mg : Str → Option Value} {base : Heap}
def spLStretched (K : PySem.W.Frag) : Sp := fun vs H Q _ => ∃ (n : Nat) (d fa : Addr) (cut : List IP) (t : Tr) (D : Nat → Nat → Rat) (F B m p : Nat) (f : Rat), vs = [.ref d, .int p, .ref fa] ∧ n ≤ 1000 ∧ Cutting n cut t ∧ LenD K H d t D ∧ Bd n D F B ∧ B + m ≤ 9000 ∧ FrV K H (.ref fa) (rp f) ∧ rb f m ∧
  ∀ (d' : Addr) (H' : Hp), Same H H' → H d' = none → LenD K H' d' t (strD D p f) → Q (.ref d') H'
theorem ok_law_stretched (T : Tx K mg) : FnOk P w K mg base CX0 3 T.a_law_stretched T.fd_law_stretched ["_law_sized_here", "_law_post", "_law_factor"] (spLStretched K) := by
  refine T.F_law_stretched.ok sc_law_stretched (fun vs H Q E h => ?_) (fun cdv A outer s H vs Q E hr h => ?_)
  · obtain ⟨n, d, fa, cut, t, D, F, B, m, p, f, rfl, _⟩ := h
    rfl
  obtain ⟨n, d, fa, cut, t, D, F, B, m, p, f, rfl, n2, C, hd, Z, hB, hfa, frb, q⟩ := h
  have hw := C.w
  refine ⟨_, (pss_cons (ps_set (i := 3) sc_law_stretched.nd rfl (.inl rfl) (pe_dnewT))
      (pss_cons (ps_lock (ps_for PassesOwn.never rfl (pi_itemsT (pv 0)) (k_gt (K := K) (pg_tup (by rfl) (pgs_cons (pg_name (i := 4) sc_law_stretched.nd rfl (.inl rfl)) (pgs_cons (pg_name (i := 5) sc_law_stretched.nd rfl (.inl rfl)) pgs_nil)))) (pss_cons (ps_dput (hu_of hr) (pv 3) (pv 4) (pv 5) rfl)
      (pss_one (ps_if (pt_cmpR (op_in_seqK (K := K)) (pv 1) (pv 4) (by rfl)) (pss_one (ps_dput (hu_of hr) (pv 3) (pv 4) (pe_call (ok_law_mul T) (hr.mono (by decide)) (by rfl) T.g_law_mul T.F_law_mul.kp T.b_law_mul .nil pass0 (pa_cons (pv 5) (pa_cons (pv 2) pa_nil))) rfl)) pss_nil)))))
      (pss_one (ps_ret (pv 3))))), ?_⟩
  obtain ⟨ks, hLD, hks⟩ := hd.rats
  generalize hRR : (fun k : IP => D k.1.toNat k.2.toNat) = R at hLD
  have eR : ∀ q ∈ t.all 0, R (castP q) = D q.1 q.2 := fun q _ => by rw [← hRR]; rfl
  have hLD : LD K H d ks (fun k => rp (R k)) := by rw [← hRR]; exact hLD.congr fun _ _ => rfl
  have bR : ∀ k ∈ ks, rb (R k) B := fun k hk => by
    obtain ⟨q, hq, rfl⟩ := (hks k).mp hk
    rw [eR q hq]
    have := Tr.bd hq
    exact Z.rb (by omega) (by omega)
  walk_at "st"
  refine Pm.w_dnewT (fun g hg => ?_)
  have s1 := same_new hg (.dT [])
  have hgd : g ≠ d := by
    obtain ⟨_, es3, h1, _⟩ := hLD
    exact (ne_of_none h1 hg).symm
  have ksl : ks.length ≤ 3000 := by
    have h4 : ks.length = (tiesL n cut).length := perm_len hLD.nd C.ties_nodup (fun p => by rw [hks, C.ties])
    have h5 := C.cut_len
    have h6 : (tiesL n cut).length ≤ 3000 := by rw [tiesL, sortP_len, List.length_append, sides0_len (by omega)]; omega
    omega
  walk_at "st"
  refine w_forItems hLD s1 (fun od uo i σ H4 => ∃ x1 y1, σ = [some (.ref d), some (.int (p : Int)), some (.ref fa), some (.ref g), x1, y1] ∧ LD K H4 g (ks.take i) (fun k => rp (strL R p f k))) (fun od uo Q _ _ h => Pm.w_var rfl h) ?_ ?_ ?_
  · intro od uo huo
    exact ⟨_, _, rfl, by rw [List.take_zero]; exact ld_nil (by rw [upd_ne hgd]; exact upd_same) _⟩
  · rintro od es i k σ H4 hes hki sl kp ⟨x1, y1, rfl, hLf⟩ T1 b v hT1 hb hv
    have sT := same_new hT1 (.tup [.ref b, v])
    have hb2 := hb.keep (keeps sT)
    have hLf2 := hLf.same sT
    have ktk : ks.take (i + 1) = ks.take i ++ [k] := by rw [List.take_add_one, hki] <;> rfl
    have knot : k ∉ ks.take i := fun z => by
      have e1 : (ks.take (i + 1)).Nodup := hLD.nd.sublist (List.take_sublist _ _)
      rw [ktk, List.nodup_append] at e1
      exact e1.2.2 k z k List.mem_cons_self rfl
    have mk := List.mem_of_getElem? hki
    obtain ⟨vt, rfl, hvt⟩ := hv.keep (keeps sT)
    have hv2 : FrV K _ (.ref vt) (rp (R k)) := ⟨vt, rfl, hvt⟩
    walk_at "st"
    refine Pm.w_gtup (SqT.of upd_same) rfl ?_
    walk_at "st"
    refine w_ldPut hLf2 hb2 hv2 (by rw [List.length_take]; omega) (fun es5 hL5 kp5 => ?_)
    have s5 : Same (upd H d (.frz od (.dT es))) (upd (upd H4 T1 (.tup [.ref b, .ref vt])) g (.dT es5)) := same_but (lock_none hes hg) (sl.trans sT)
    have hb5 := hb2.keep kp5
    have hv5 := hv2.keep kp5
    have kp05 := (kp.trans (keeps sT)).trans kp5
    generalize upd (upd H4 T1 (.tup [.ref b, .ref vt])) g (.dT es5) = H5 at *
    walk_at "st"
    refine in_pair hb5 ?_
    walk_at "st"
    refine Pm.w_ite (fun z => ?_) (fun z => ?_)
    · walk_at "st"
      refine ⟨_, _, _, _, B, m, rfl, hv5, hfa.keep kp05, bR k mk, frb, by omega, fun u H6 s6 nu hu => ?_⟩
      walk_at "st"
      refine w_ldPut (hL5.same s6) (hb5.keep (keeps s6)) (frv_new hu) (by have := putk_len (ks.take i) k; rw [List.length_take] at this; omega) (fun es7 hL7 kp7 => ?_)
      refine ⟨same_but (lock_none hes hg) (s5.trans s6), _, _, rfl, ?_⟩
      rw [ktk, ← putk_new knot]
      rw [putk_old (mem_putk.mpr (.inr rfl))] at hL7
      refine hL7.congr fun j hj => ?_
      by_cases e : j = k
      · rw [e, updF_same]
        unfold strL
        rw [if_pos z]
      · rw [updF_ne e, updF_ne e]
    · walk_at "st"
      refine ⟨s5, _, _, rfl, ?_⟩
      rw [ktk, ← putk_new knot]
      refine hL5.congr fun j hj => ?_
      by_cases e : j = k
      · rw [e, updF_same]
        unfold strL
        rw [if_neg z]
      · rw [updF_ne e]
  · rintro od es σ H4 hes sl ⟨x1, y1, rfl, hLf⟩ s5
    walk_at "st"
    rw [List.take_length] at hLf
    have hLf5 : LD K (upd H4 d (.dT es)) g ks (fun k => rp (strL R p f k)) := hLf.keep (o := .dT es) (fun t xs e => by rw [upd_ne (ne_of e (sl _ _ upd_same) (fun z => nomatch z))]; exact e) (by rw [upd_ne hgd])
    exact q g _ s5 hg (LenD.stretch (n := n) (cut := cut) hLf5 hks eR)
end
section
variable {P : Program} {w : World} {K : PySem.W.Frag} {mg : Str → Option Value} {base : Heap}
def spLParts (K : PySem.W.Frag) : Sp := fun vs H Q _ => ∃ (f d : Addr) (rs : List Rat) (B : Nat), vs = [.ref f, .ref d] ∧ Row K H f (rs.map rp) ∧ Row K H d (rs.map rp) ∧ rs.length ≤ 1000 ∧ (∀ r ∈ rs, rb r B) ∧ B ≤ 9000 ∧ ∀ H', Same H H' → Q (.bl true) H'
theorem ok_law_parts (T : Tx K mg) : FnOk P w K mg base CX0 3 T.a_law_parts T.fd_law_parts ["_law_found", "_law_due"] (spLParts K) := by
  refine T.F_law_parts.ok sc_law_parts (fun vs H Q E h => ?_) (fun cdv A outer s H vs Q E hr h => ?_)
  · obtain ⟨f, d, rs, B, rfl, _⟩ := h
    rfl
  obtain ⟨f, d, rs, B, rfl, ⟨fv, hf, af⟩, ⟨dv, hd, ad⟩, hl, hb, hB, q⟩ := h
  have l1 := af.length
  have l2 := ad.length
  rw [List.length_map] at l1 l2
  refine ⟨_, (pss_cons (ps_if (PW.pt (pw_or (pt_not (pt_val (pe_callB (call_isK (K := K)) (by rfl) T.m_isinstance (by decide +kernel) (pa_cons (pv 0) (pa_cons (pe_bltn (v := .ty "list") (by rfl) T.m_list (by decide +kernel) rfl) pa_nil))))) (pw_or1 (pt_cmpR op_ne (pe_callB (c_len (K := K)) (by rfl) T.m_len PySem.boot_len (pa_cons (pv 0) pa_nil)) (pe_callB (c_len (K := K)) (by rfl) T.m_len PySem.boot_len (pa_cons (pv 1) pa_nil)) (nomark _))))) (pss_one (ps_ret (pe_bl))) pss_nil)
      (pss_cons (ps_for PassesOwn.never rfl (pi_range1 (by rfl) T.m_range (pa_cons (pe_callB (c_len (K := K)) (by rfl) T.m_len PySem.boot_len (pa_cons (pv 1) pa_nil)) pa_nil)) (pg_name (i := 2) sc_law_parts.nd rfl (.inl rfl)) (pss_one (ps_if (PW.pt (pw_or (pt_not (pt_val (pe_call (ok_law_part T) (hr.mono (by decide)) (by rfl) T.g_law_part T.F_law_part.kp T.b_law_part .nil pass0 (pa_cons (pe_ix (ix_listK (K := K)) (pv 0) (pv 2) (fun _ _ => rfl)) pa_nil)))) (pw_or1 (pt_cmpR (op_neDK (K := K) hr.units) (pe_ix (ix_listK (K := K)) (pv 0) (pv 2) (fun _ _ => rfl)) (pe_ix (ix_listK (K := K)) (pv 1) (pv 2) (fun _ _ => rfl)) (nomark _))))) (pss_one (ps_ret (pe_bl))) pss_nil)))
      (pss_one (ps_ret (pe_bl))))), ?_⟩
  walk_at "st"
  refine Pm.w_isiLst (SqL.of hf) (b := true) (by decide +kernel) ?_
  walk_at "st"
  refine Pm.w_lenL (SqL.of hf) ?_
  walk_at "st"
  refine Pm.w_lenL (SqL.of hd) ?_
  walk_at "st"
  refine Pm.w_iteN (fun z => absurd (by rw [l1, l2]) z) (fun _ => ?_)
  walk_at "st"
  refine Pm.w_lenL (SqL.of hd) ?_
  walk_at "st"
  rw [l2, Int.toNat_natCast]
  refine Pm.w_forR (fun i σ H1 => ∃ x, σ = [some (.ref f), some (.ref d), x] ∧ Same H H1) ⟨_, rfl, Same.refl _⟩ ?_ ?_
  · rintro i σ H1 hi ⟨x, rfl, s1⟩
    have er : (rs.map rp)[i]? = some (rp rs[i]) := by rw [List.getElem?_map, List.getElem?_eq_getElem hi]; rfl
    obtain ⟨v1, hv1, t1, rfl, h1⟩ := af.get' er
    obtain ⟨v2, hv2, t2, rfl, h2⟩ := ad.get' er
    have f1 : FrV K H (.ref t1) (rp rs[i]) := ⟨t1, rfl, h1⟩
    have f2 : FrV K H (.ref t2) (rp rs[i]) := ⟨t2, rfl, h2⟩
    have bi := hb _ (List.getElem_mem hi)
    walk_at "st"
    rw [Int.zero_add]
    refine Pm.w_ixL (SqL.of (s1 _ _ hf)) (atI_nat hv1) ?_
    walk_at "st"
    refine ⟨_, _, B, rfl, (f1.keep (keeps s1)).rat, bi.2, hB, fun H2 s2 => ?_⟩
    have s12 := s1.trans s2
    walk_at "st"
    refine Pm.w_ixL (SqL.of (s12 _ _ hf)) (atI_nat hv1) ?_
    walk_at "st"
    refine Pm.w_ixL (SqL.of (s12 _ _ hd)) (atI_nat hv2) ?_
    walk_at "st"
    refine w_neFr (f1.keep (keeps s12)) (f2.keep (keeps s12)) ?_
    rw [decide_eq_true rfl]
    walk_at "st"
    exact ⟨_, rfl, s12⟩
  · rintro σ H1 ⟨x, rfl, s1⟩
    walk_at "st"
    exact q _ s1
end
section
variable {P : Program} {w : World} {K : PySem.W.Frag} {mg : Str → Option Value} {base : Heap}
theorem nin_pair {H : Hp} {Q : VK} {t : Addr} {p : IP} {i : Int} (h : Pr H (.ref t) p) (q : Q (.bl (!decide (i = p.1 ∨ i = p.2))) H) : rIn K true (.int i) (.ref t) H Q := by
  refine w_ninInts (ns := [p.1, p.2]) (.inr h.tup) ?_
  have e : decide (i ∈ [p.1, p.2]) = decide (i = p.1 ∨ i = p.2) := by simp
  rw [e]
  exact q
def shL (st k : Int) (cut ks : List IP) : List IP := (ks.filter fun r => kpS st k r && decide (r ∈ cut)).map (shP st k)
theorem shL_snoc (st k : Int) (cut l : List IP) (kk : IP) : shL st k cut (l ++ [kk]) = shL st k cut l ++ (if kpS st k kk && decide (kk ∈ cut) then [shP st k kk] else []) := by
  unfold shL
  rw [List.filter_append, List.map_append]
  congr 1
  by_cases c0 : (kpS st k kk && decide (kk ∈ cut)) = true
  · rw [if_pos c0]
    simp only [List.filter, c0, List.map_cons, List.map_nil]
  · rw [if_neg c0]
    simp only [List.filter, Bool.not_eq_true] at c0 ⊢
    simp only [c0, List.map_nil]
def spShift (K : PySem.W.Frag) : Sp := fun vs H Q _ => ∃ (s c d : Addr) (n st k : Int) (cut ks : List IP) (L L' : IP → IP), vs = [.ref s, .int k, .int st] ∧ (st = 1 ∨ st = -1) ∧ H s = some (.tup [.int n, .ref c, .ref d]) ∧ PLt H c cut ∧ LD K H d ks L ∧ ks.length ≤ 1000 ∧ (∀ r ∈ ks, kpS st k r = true → L' (shP st k r) = L r) ∧
  ∀ (t l g : Addr) (H' : Hp) (kf : List IP), Same H H' → H t = none → H' t = some (.tup [.int (n + st), .ref l, .ref g]) → H l = none → H g = none → PLt H' l (shL st k cut ks) → LD K H' g kf L' → (∀ j, j ∈ kf ↔ ∃ r ∈ ks, kpS st k r = true ∧ j = shP st k r) → kf.length ≤ 1000 → Q (.ref t) H'
theorem ok_law_shift (T : Tx K mg) : FnOk P w K mg base CX0 1 T.a_law_shift T.fd_law_shift (["_law_state", "_law_post", "_law_step"]) (spShift K) := by
  refine T.F_law_shift.ok sc_law_shift (fun vs H Q E h => ?_) (fun cdv A outer s H vs Q E hr h => ?_)
  · obtain ⟨z, c, d, n, st, k, cut, ks, L, L', rfl, _⟩ := h
    rfl
  obtain ⟨z, c, d, n, st, k, cut, ks, L, L', rfl, hst, hz, hc, hL, ksl, hL', q⟩ := h
  refine ⟨_, (pss_cons (ps_set (i := 3) sc_law_shift.nd rfl (.inl rfl) (pe_lst pa_nil))
      (pss_cons (ps_set (i := 4) sc_law_shift.nd rfl (.inl rfl) (pe_dnewT))
      (pss_cons (ps_lock (ps_for PassesOwn.never rfl (pi_itemsT (pe_ix (ix_tupK (K := K)) (pv 0) (pe_int) (fun _ _ => rfl))) (k_gt (K := K) (pg_tup (by rfl) (pgs_cons (pg_name (i := 5) sc_law_shift.nd rfl (.inl rfl)) (pgs_cons (pg_name (i := 6) sc_law_shift.nd rfl (.inl rfl)) pgs_nil)))) (pss_one (ps_if (PW.pt (pw_or (pt_cmpR op_gt (pv 2) (pe_int) (nomark _)) (pw_or1 (pt_cmpR (op_notIn_seqK (K := K)) (pv 1) (pv 5) (by rfl))))) (pss_cons (ps_set (i := 7) sc_law_shift.nd rfl (.inl rfl) (pe_op op_add (pe_ix (ix_tupK (K := K)) (pv 5) (pe_int) (fun _ _ => rfl)) (pe_op op_mul (pv 2) (pe_callTy c_int1 (by rfl) T.m_int (by decide +kernel) (pa_cons (pe_cmpR op_gt (pe_ix (ix_tupK (K := K)) (pv 5) (pe_int) (fun _ _ => rfl)) (pv 1) (nomark _)) pa_nil)))))
      (pss_cons (ps_set (i := 8) sc_law_shift.nd rfl (.inl rfl) (pe_op op_add (pe_ix (ix_tupK (K := K)) (pv 5) (pe_int) (fun _ _ => rfl)) (pe_op op_mul (pv 2) (pe_callTy c_int1 (by rfl) T.m_int (by decide +kernel) (pa_cons (pe_cmpR op_gt (pe_ix (ix_tupK (K := K)) (pv 5) (pe_int) (fun _ _ => rfl)) (pv 1) (nomark _)) pa_nil)))))
      (pss_cons (ps_dput (hu_of hr) (pv 4) (pe_tup (pa_cons (pv 7) (pa_cons (pv 8) pa_nil))) (pv 6) rfl)
      (pss_one (ps_if (pt_cmpR (op_inDK (K := K) hr.u65) (pv 5) (pe_ix (ix_tupK (K := K)) (pv 0) (pe_int) (fun _ _ => rfl)) (by rfl)) (pss_one (ps_expr (k_bm (K := K) (pe_bm PySem.F.plainAttrs_list PySem.F.slot_list_append PySem.F.type_list_append mt_append (pv 3) (pa_cons (pe_tup (pa_cons (pv 7) (pa_cons (pv 8) pa_nil))) pa_nil))))) pss_nil))))) pss_nil))))
      (pss_one (ps_ret (pe_tup (pa_cons (pe_op op_add (pe_ix (ix_tupK (K := K)) (pv 0) (pe_int) (fun _ _ => rfl)) (pv 2)) (pa_cons (pv 3) (pa_cons (pv 4) pa_nil))))))))), ?_⟩
  walk_at "st"
  refine Pm.w_newL (fun l hl => ?_)
  have s1 := same_new hl (.lst [])
  walk_at "st"
  refine Pm.w_dnewT (fun g hg => ?_)
  have s2 := same_new hg (.dT [])
  have nlg : l ≠ g := ne_of_none upd_same hg
  have s02 := s1.trans s2
  have hg0 : H g = none := s1.free hg
  have ngd : g ≠ d := by
    obtain ⟨_, es3, h, _⟩ := hL
    exact (ne_of_none h hg0).symm
  have nld : l ≠ d := by
    obtain ⟨_, es3, h, _⟩ := hL
    exact (ne_of_none h hl).symm
  have nzd : z ≠ d := by
    obtain ⟨_, es3, h, _⟩ := hL
    exact ne_of hz h (fun z => nomatch z)
  have ncd : c ≠ d := by
    obtain ⟨_, es3, h, _⟩ := hL
    obtain ⟨xs, h2, _⟩ := hc
    exact ne_of h2 h (fun z => nomatch z)
  have ncl : c ≠ l := by
    obtain ⟨xs, h2, _⟩ := hc
    exact ne_of_none h2 hl
  walk_at "st"
  refine w_forItems hL s02 (fun od uo i σ H4 => ∃ x1 y1 z1 w1, σ = [some (.ref z), some (.int k), some (.int st), some (.ref l), some (.ref g), x1, y1, z1, w1] ∧ ∃ kf, LD K H4 g kf L' ∧ (∀ j, j ∈ kf ↔ ∃ r ∈ ks.take i, kpS st k r = true ∧ j = shP st k r) ∧ kf.length ≤ i ∧ PLt H4 l (shL st k cut (ks.take i))) (fun od uo Q _ _ h => Pm.w_op (Pm.w_var rfl (Pm.w_c (Pm.w_ixT (SqT.of (by rw [upd_ne nzd]; exact s02 _ _ hz)) rfl h)))) ?_ ?_ ?_
  · intro od uo huo
    refine ⟨_, _, _, _, rfl, [], ld_nil (by rw [upd_ne ngd]; exact upd_same) _, fun j => by simp, Nat.le_refl _, [], ?_, trivial⟩
    rw [upd_ne nld]
    exact s2 _ _ upd_same
  · rintro od es i kk σ H4 hes hki sl kp ⟨x1, y1, z1, w1, rfl, kf, hLf, hkf, kl, hpl⟩ T1 b v hT1 hb hv
    have sT := same_new hT1 (.tup [.ref b, v])
    have hb2 := hb.keep (keeps sT)
    have ktk : ks.take (i + 1) = ks.take i ++ [kk] := by rw [List.take_add_one, hki] <;> rfl
    have mk := List.mem_of_getElem? hki
    have il : i < ks.length := (List.getElem?_eq_some_iff.mp hki).1
    obtain ⟨vt, rfl, hvt⟩ := hv.keep (keeps sT)
    have shs := shL_snoc st k cut (ks.take i) kk
    rw [← ktk] at shs
    have hzl : upd H4 T1 (.tup [.ref b, .ref vt]) z = some (.tup [.int n, .ref c, .ref d]) := sT _ _ (sl _ _ (by rw [upd_ne nzd]; exact hz))
    have pll : ((shL st k cut (ks.take i))).length ≤ i := by
      unfold shL
      rw [List.length_map]
      refine Nat.le_trans (List.length_filter_le _ _) ?_
      rw [List.length_take]
      omega
    have skip : kpS st k kk = false → ∀ a1 a2 a3 a4, (Same (upd H d (.frz od (.dT es))) (upd H4 T1 (.tup [.ref b, .ref vt])) ∧ ∃ x1 y1 z1 w1, [some (.ref z), some (.int k), some (.int st), some (.ref l), some (V.ref g), a1, a2, a3, a4] = [some (.ref z), some (.int k), some (.int st), some (.ref l), some (.ref g), x1, y1, z1, w1] ∧ ∃ kf, LD K (upd H4 T1 (.tup [.ref b, .ref vt])) g kf L' ∧ (∀ j, j ∈ kf ↔ ∃ r ∈ ks.take (i + 1), kpS st k r = true ∧ j = shP st k r) ∧ kf.length ≤ i + 1 ∧ PLt (upd H4 T1 (.tup [.ref b, .ref vt])) l (shL st k cut (ks.take (i + 1)))) := by
      intro hh a1 a2 a3 a4
      refine ⟨sl.trans sT, _, _, _, _, rfl, kf, hLf.same sT, fun j => ?_, by omega, ?_⟩
      · rw [hkf, ktk]
        constructor
        · rintro ⟨r, hr1, hr2⟩
          exact ⟨r, List.mem_append_left _ hr1, hr2⟩
        · rintro ⟨r, hr1, hr2⟩
          rcases List.mem_append.mp hr1 with z | z
          · exact ⟨r, z, hr2⟩
          · rw [List.mem_singleton.mp z, hh] at hr2
            exact absurd hr2.1 Bool.false_ne_true
      · rw [shs, hh, Bool.false_and, if_neg Bool.false_ne_true, List.append_nil]
        exact hpl.same sT
    walk_at "st"
    refine Pm.w_gtup (SqT.of upd_same) rfl ?_
    walk_at "st"
    rcases hst with rfl | rfl
    · have kt : kpS 1 k kk = true := rfl
      rw [decide_eq_true (show (1 : Int) > 0 by decide)]
      walk_at "st"
      refine Pm.w_ixT hb2.tup (atI2 _ _).1 ?_
      walk_at "st"
      refine Pm.w_ixT hb2.tup (atI2 _ _).1 ?_
      walk_at "st"
      refine Pm.w_ixT hb2.tup (atI2 _ _).2 ?_
      walk_at "st"
      refine Pm.w_ixT hb2.tup (atI2 _ _).2 ?_
      walk_at "st"
      simp only [decide_eq_true_eq]
      rw [show (kk.1 + 1 * (if k < kk.1 then 1 else 0)) = sh 1 k kk.1 from rfl, show (kk.2 + 1 * (if k < kk.2 then 1 else 0)) = sh 1 k kk.2 from rfl]
      refine Pm.w_newT (fun b3 hb3 => ?_)
      have sU := same_new hb3 (.tup [.int (sh 1 k kk.1), .int (sh 1 k kk.2)])
      have hv3 : FrV K (upd (upd H4 T1 (.tup [.ref b, .ref vt])) b3 (.tup [.int (sh 1 k kk.1), .int (sh 1 k kk.2)])) (.ref vt) (L' (shP 1 k kk)) := by
        rw [hL' kk mk kt]
        exact FrV.keep (keeps sU) ⟨vt, rfl, hvt⟩
      refine w_ldPutS (k := shP 1 k kk) ((hLf.same sT).same sU) ⟨b3, rfl, upd_same⟩ hv3 (by omega) (fun es8 hL8 kp8 => ?_)
      have sU8 : Same (upd H d (.frz od (.dT es))) (upd (upd (upd H4 T1 (.tup [.ref b, .ref vt])) b3 (.tup [.int (sh 1 k kk.1), .int (sh 1 k kk.2)])) g (.dT es8)) := same_but (lock_none hes hg0) ((sl.trans sT).trans sU)
      have hz8 := sU8 z _ (by rw [upd_ne nzd]; exact hz)
      have hc8 : PLt (upd (upd (upd H4 T1 (.tup [.ref b, .ref vt])) b3 (.tup [.int (sh 1 k kk.1), .int (sh 1 k kk.2)])) g (.dT es8)) c cut := hc.keep ((kp.trans (keeps (sT.trans sU))).trans kp8) (by
        obtain ⟨xs, h2, _⟩ := hc
        rw [sU8 c _ (by rw [upd_ne ncd]; exact h2), h2])
      have hb8 := (hb2.keep (keeps sU)).keep kp8
      have hpl8 : PLt (upd (upd (upd H4 T1 (.tup [.ref b, .ref vt])) b3 (.tup [.int (sh 1 k kk.1), .int (sh 1 k kk.2)])) g (.dT es8)) l (shL 1 k cut (ks.take i)) := (hpl.same (sT.trans sU)).keep kp8 (upd_ne nlg)
      have hkf8 : ∀ j, j ∈ putk kf (shP 1 k kk) ↔ ∃ r ∈ ks.take (i + 1), kpS 1 k r = true ∧ j = shP 1 k r := fun j => by
        rw [mem_putk, hkf, ktk]
        constructor
        · rintro (⟨r, hr1, hr2⟩ | rfl)
          · exact ⟨r, List.mem_append_left _ hr1, hr2⟩
          · exact ⟨kk, List.mem_append_right _ (List.mem_singleton.mpr rfl), kt, rfl⟩
        · rintro ⟨r, hr1, hr2⟩
          rcases List.mem_append.mp hr1 with z | z
          · exact .inl ⟨r, z, hr2⟩
          · rw [List.mem_singleton.mp z] at hr2
            exact .inr hr2.2
      have pl8 := putk_len kf (shP 1 k kk)
      generalize upd (upd (upd H4 T1 (.tup [.ref b, .ref vt])) b3 (.tup [.int (sh 1 k kk.1), .int (sh 1 k kk.2)])) g (.dT es8) = H8 at hL8 sU8 hz8 hc8 hb8 hpl8 ⊢
      obtain ⟨cv8, hcv8, hpv8⟩ := hc8
      walk_at "st"
      refine Pm.w_ixT (SqT.of hz8) rfl ?_
      refine Pm.w_inPL hb8 (SqL.of hcv8) hpv8 ?_
      walk_at "st"
      refine Pm.w_ite (fun zc => ?_) (fun zc => ?_)
      · obtain ⟨lv, hlv, hplv⟩ := hpl8
        have lvl := hplv.length
        walk_at "st"
        refine ⟨.inl ⟨rfl, _, SqL.of hlv⟩, ?_⟩
        walk_at "st"
        refine Pm.w_newT (fun b9 hb9 => ?_)
        have s9 := same_new hb9 (.tup [.int (sh 1 k kk.1), .int (sh 1 k kk.2)])
        walk_at "st"
        refine Pm.w_append (s9 _ _ hlv) (size_lt (by omega)) ?_
        walk_at "st"
        have kp10 := keeps_lst (ys := lv ++ [.ref b9]) (s9 _ _ hlv)
        refine ⟨same_but (lock_none hes hl) (sU8.trans s9), _, _, _, _, rfl, _, (hL8.same s9).keep (o := .tup []) kp10 (upd_ne nlg.symm), hkf8, by omega, ?_⟩
        rw [shs, kt, Bool.true_and, if_pos (decide_eq_true zc)]
        exact ⟨_, upd_same, (prs_keep ((keeps s9).trans kp10) hplv).snoc ⟨b9, rfl, kp10 _ _ upd_same⟩⟩
      · walk_at "st"
        refine ⟨sU8, _, _, _, _, rfl, _, hL8, hkf8, by omega, ?_⟩
        rw [shs, kt, Bool.true_and, if_neg (by rw [decide_eq_false zc]; exact Bool.false_ne_true), List.append_nil]
        exact hpl8
    · rw [decide_eq_false (show ¬ (-1 : Int) > 0 by decide)]
      walk_at "st"
      refine nin_pair hb2 ?_
      walk_at "st"
      refine Pm.w_iteN (fun zz => ?_) (fun zz => ?_)
      · have kt : kpS (-1) k kk = true := by
          unfold kpS
          rw [decide_eq_false (by decide), decide_eq_false zz]
          rfl
        walk_at "st"
        refine Pm.w_ixT hb2.tup (atI2 _ _).1 ?_
        walk_at "st"
        refine Pm.w_ixT hb2.tup (atI2 _ _).1 ?_
        walk_at "st"
        refine Pm.w_ixT hb2.tup (atI2 _ _).2 ?_
        walk_at "st"
        refine Pm.w_ixT hb2.tup (atI2 _ _).2 ?_
        walk_at "st"
        simp only [decide_eq_true_eq]
        rw [show (kk.1 + -1 * (if k < kk.1 then 1 else 0)) = sh (-1) k kk.1 from rfl, show (kk.2 + -1 * (if k < kk.2 then 1 else 0)) = sh (-1) k kk.2 from rfl]
        refine Pm.w_newT (fun b3 hb3 => ?_)
        have sU := same_new hb3 (.tup [.int (sh (-1) k kk.1), .int (sh (-1) k kk.2)])
        have hv3 : FrV K (upd (upd H4 T1 (.tup [.ref b, .ref vt])) b3 (.tup [.int (sh (-1) k kk.1), .int (sh (-1) k kk.2)])) (.ref vt) (L' (shP (-1) k kk)) := by
          rw [hL' kk mk kt]
          exact FrV.keep (keeps sU) ⟨vt, rfl, hvt⟩
        refine w_ldPutS (k := shP (-1) k kk) ((hLf.same sT).same sU) ⟨b3, rfl, upd_same⟩ hv3 (by omega) (fun es8 hL8 kp8 => ?_)
        have sU8 : Same (upd H d (.frz od (.dT es))) (upd (upd (upd H4 T1 (.tup [.ref b, .ref vt])) b3 (.tup [.int (sh (-1) k kk.1), .int (sh (-1) k kk.2)])) g (.dT es8)) := same_but (lock_none hes hg0) ((sl.trans sT).trans sU)
        have hz8 := sU8 z _ (by rw [upd_ne nzd]; exact hz)
        have hc8 : PLt (upd (upd (upd H4 T1 (.tup [.ref b, .ref vt])) b3 (.tup [.int (sh (-1) k kk.1), .int (sh (-1) k kk.2)])) g (.dT es8)) c cut := hc.keep ((kp.trans (keeps (sT.trans sU))).trans kp8) (by
          obtain ⟨xs, h2, _⟩ := hc
          rw [sU8 c _ (by rw [upd_ne ncd]; exact h2), h2])
        have hb8 := (hb2.keep (keeps sU)).keep kp8
        have hpl8 : PLt (upd (upd (upd H4 T1 (.tup [.ref b, .ref vt])) b3 (.tup [.int (sh (-1) k kk.1), .int (sh (-1) k kk.2)])) g (.dT es8)) l (shL (-1) k cut (ks.take i)) := (hpl.same (sT.trans sU)).keep kp8 (upd_ne nlg)
        have hkf8 : ∀ j, j ∈ putk kf (shP (-1) k kk) ↔ ∃ r ∈ ks.take (i + 1), kpS (-1) k r = true ∧ j = shP (-1) k r := fun j => by
          rw [mem_putk, hkf, ktk]
          constructor
          · rintro (⟨r, hr1, hr2⟩ | rfl)
            · exact ⟨r, List.mem_append_left _ hr1, hr2⟩
            · exact ⟨kk, List.mem_append_right _ (List.mem_singleton.mpr rfl), kt, rfl⟩
          · rintro ⟨r, hr1, hr2⟩
            rcases List.mem_append.mp hr1 with z | z
            · exact .inl ⟨r, z, hr2⟩
            · rw [List.mem_singleton.mp z] at hr2
              exact .inr hr2.2
        have pl8 := putk_len kf (shP (-1) k kk)
        generalize upd (upd (upd H4 T1 (.tup [.ref b, .ref vt])) b3 (.tup [.int (sh (-1) k kk.1), .int (sh (-1) k kk.2)])) g (.dT es8) = H8 at hL8 sU8 hz8 hc8 hb8 hpl8 ⊢
        obtain ⟨cv8, hcv8, hpv8⟩ := hc8
        walk_at "st"
        refine Pm.w_ixT (SqT.of hz8) rfl ?_
        refine Pm.w_inPL hb8 (SqL.of hcv8) hpv8 ?_
        walk_at "st"
        refine Pm.w_ite (fun zc => ?_) (fun zc => ?_)
        · obtain ⟨lv, hlv, hplv⟩ := hpl8
          have lvl := hplv.length
          walk_at "st"
          refine ⟨.inl ⟨rfl, _, SqL.of hlv⟩, ?_⟩
          walk_at "st"
          refine Pm.w_newT (fun b9 hb9 => ?_)
          have s9 := same_new hb9 (.tup [.int (sh (-1) k kk.1), .int (sh (-1) k kk.2)])
          walk_at "st"
          refine Pm.w_append (s9 _ _ hlv) (size_lt (by omega)) ?_
          walk_at "st"
          have kp10 := keeps_lst (ys := lv ++ [.ref b9]) (s9 _ _ hlv)
          refine ⟨same_but (lock_none hes hl) (sU8.trans s9), _, _, _, _, rfl, _, (hL8.same s9).keep (o := .tup []) kp10 (upd_ne nlg.symm), hkf8, by omega, ?_⟩
          rw [shs, kt, Bool.true_and, if_pos (decide_eq_true zc)]
          exact ⟨_, upd_same, (prs_keep ((keeps s9).trans kp10) hplv).snoc ⟨b9, rfl, kp10 _ _ upd_same⟩⟩
        · walk_at "st"
          refine ⟨sU8, _, _, _, _, rfl, _, hL8, hkf8, by omega, ?_⟩
          rw [shs, kt, Bool.true_and, if_neg (by rw [decide_eq_false zc]; exact Bool.false_ne_true), List.append_nil]
          exact hpl8
      · have kt : kpS (-1) k kk = false := by
          unfold kpS
          rw [decide_eq_false (by decide), decide_eq_true zz]
          rfl
        walk_at "st"
        exact skip kt _ _ _ _
  · rintro od es σ H4 hes sl ⟨x1, y1, z1, w1, rfl, kf, hLf, hkf, kl, hpl⟩ s5
    rw [List.take_length] at hkf hpl
    have kq : Keeps H4 (upd H4 d (.dT es)) := fun t xs e => by rw [upd_ne (ne_of e (sl _ _ upd_same) (fun z => nomatch z))]; exact e
    have hLf5 : LD K (upd H4 d (.dT es)) g kf L' := hLf.keep (o := .dT es) kq (by rw [upd_ne ngd])
    have hpl5 : PLt (upd H4 d (.dT es)) l (shL st k cut ks) := hpl.keep kq (by rw [upd_ne nld])
    generalize upd H4 d (.dT es) = H5 at hLf5 hpl5 s5 ⊢
    walk_at "st"
    refine Pm.w_ixT (SqT.of (s5 _ _ hz)) rfl ?_
    walk_at "st"
    refine Pm.w_newT (fun t ht => ?_)
    have s6 := same_new ht (.tup [.int (n + st), .ref l, .ref g])
    exact q t l g _ kf (s5.trans s6) (s5.free ht) upd_same hl hg0 (hpl5.same s6) (hLf5.same s6) hkf (by omega)
end
section
variable {P : Program} {w : World} {K : PySem.W.Frag} {mg : Str → Option Value} {base : Heap}
theorem w_ite' {p A C : Prop} [Decidable p] (h2 : ¬ p → C) (h1 : p → A) : if decide p = true then A else C := Pm.w_ite h1 h2
def spLSet (K : PySem.W.Frag) : Sp := fun vs H Q _ => ∃ (z c d : Addr) (S : Ms) (B : Nat) (k : Int) (fa fb : Addr) (x y : Rat), vs = [.ref z, .int k, .ref fa, .ref fb] ∧ StA K H z c d S ∧ Ok S B ∧ FrV K H (.ref fa) (rp x) ∧ FrV K H (.ref fb) (rp y) ∧ ModNew K H S c d (.set k x y) Q
theorem ok_law_set (T : Tx K mg) : FnOk P w K mg base CX0 2 T.a_law_set T.fd_law_set (["_law_state", "_law_k", "_law_one", "_law_other"]) (spLSet K) := by
  refine T.F_law_set.ok sc_law_set (fun vs H Q E h => ?_) (fun cdv A outer s H vs Q E hr h => ?_)
  · obtain ⟨z, c, d, S, B, k, fa, fb, x, y, rfl, _⟩ := h
    rfl
  obtain ⟨z, c, d, S, B, k, fa, fb, x, y, rfl, hst, ⟨n12, t, L, F, C, Mm, Z⟩, hfa, hfb, q⟩ := h
  obtain ⟨hz, hc, hd⟩ := id hst
  have cl := C.cut_len
  have n3 := C.n3
  refine ⟨_, (pss_cons (ps_if (pt_not (pt_chain op_le op_lt (pe_int) (pv 1) (pe_ix (ix_tupK (K := K)) (pv 0) (pe_int) (fun _ _ => rfl)))) (pss_one (ps_ret (pe_tup (pa_cons (pv 0) (pa_cons (pe_tup (pa_cons (pe_str) (pa_cons (pe_int) pa_nil))) pa_nil))))) pss_nil)
      (pss_cons (ps_if (PW.pt (pw_or (pt_cmpR op_lt (pe_ix (ix_tupK (K := K)) (pv 2) (pe_int) (fun _ _ => rfl)) (pe_int) (nomark _)) (pw_or1 (pt_cmpR op_lt (pe_ix (ix_tupK (K := K)) (pv 3) (pe_int) (fun _ _ => rfl)) (pe_int) (nomark _))))) (pss_one (ps_ret (pe_tup (pa_cons (pv 0) (pa_cons (pe_tup (pa_cons (pe_str) (pa_cons (pe_int) pa_nil))) pa_nil))))) pss_nil)
      (pss_cons (ps_if (pt_cmpR op_eq (pe_ix (ix_tupK (K := K)) (pv 0) (pe_int) (fun _ _ => rfl)) (pe_int) (nomark _)) (pss_one (ps_ret (pe_tup (pa_cons (pv 0) (pa_cons (pe_tup (pa_cons (pe_str) (pa_cons (pe_int) pa_nil))) pa_nil))))) pss_nil)
      (pss_cons (ps_asg (pe_call (ok_law_shift T) (hr.mono (by decide)) (by rfl) T.g_law_shift T.F_law_shift.kp T.b_law_shift .nil pass0 (pa_cons (pv 0) (pa_cons (pv 1) (pa_cons (pe_int) pa_nil)))) (k_gt (K := K) (pg_tup (by rfl) (pgs_cons (pg_name (i := 4) sc_law_set.nd rfl (.inl rfl)) (pgs_cons (pg_name (i := 5) sc_law_set.nd rfl (.inl rfl)) (pgs_cons (pg_name (i := 6) sc_law_set.nd rfl (.inl rfl)) pgs_nil))))))
      (pss_cons (ps_set (i := 7) sc_law_set.nd rfl (.inl rfl) (pe_op op_mod (pe_op op_add (pv 1) (pe_int)) (pv 4)))
      (pss_cons (ps_expr (k_bm (K := K) (pe_bm PySem.F.plainAttrs_list PySem.F.slot_list_append PySem.F.type_list_append mt_append (pv 5) (pa_cons (pe_call (ok_law_pair T) (hr.mono (by decide)) (by rfl) T.g_law_pair T.F_law_pair.kp T.b_law_pair .nil pass0 (pa_cons (pv 1) (pa_cons (pv 7) pa_nil))) pa_nil))))
      (pss_cons (ps_dput (hu_of hr) (pv 6) (pe_tup (pa_cons (pv 1) (pa_cons (pe_op op_add (pv 1) (pe_int)) pa_nil))) (pv 2) rfl)
      (pss_cons (ps_dput (hu_of hr) (pv 6) (pe_call (ok_law_pair T) (hr.mono (by decide)) (by rfl) T.g_law_pair T.F_law_pair.kp T.b_law_pair .nil pass0 (pa_cons (pe_op op_add (pv 1) (pe_int)) (pa_cons (pv 7) pa_nil))) (pv 3) rfl)
      (pss_one (ps_ret (pe_tup (pa_cons (pe_tup (pa_cons (pv 4) (pa_cons (pe_callB (cr_sortK (K := K)) (by rfl) T.m_sorted (by decide +kernel) (pa_cons (pv 5) pa_nil)) (pa_cons (pv 6) pa_nil)))) (pa_cons (pe_tup (pa_cons (pe_str) (pa_cons (pe_op op_add (pv 1) (pe_int)) pa_nil))) pa_nil))))))))))))), ?_⟩
  walk_at "st"
  refine Pm.w_ite' (fun e1 => ?_) (fun e1 => ?_)
  · walk_at "st"
    refine Pm.w_newT (fun t1 ht1 => ?_)
    walk_at "st"
    refine Pm.w_newT (fun r hr1 => ?_)
    exact q.no (step_set_1 (by omega)) hst ht1 hr1
  walk_at "st"
  refine Pm.w_ixT (SqT.of hz) rfl ?_
  walk_at "st"
  refine Pm.w_iteN (fun e2 => ?_) (fun e2 => ?_)
  · walk_at "st"
    refine Pm.w_newT (fun t1 ht1 => ?_)
    walk_at "st"
    refine Pm.w_newT (fun r hr1 => ?_)
    exact q.no (step_set_1 (by omega)) hst ht1 hr1
  have kok : 0 ≤ k ∧ k < (S.n : Int) := ⟨by omega, by omega⟩
  walk_at "st"
  refine Pm.w_ixT hfa.rat (atI2 _ _).1 ?_
  walk_at "st"
  refine Pm.w_ite (fun e3 => ?_) (fun e3 => ?_)
  · walk_at "st"
    refine Pm.w_newT (fun t1 ht1 => ?_)
    walk_at "st"
    refine Pm.w_newT (fun r hr1 => ?_)
    exact q.no (step_set_3 kok (fun z => num_lt_one.mp e3 z.1)) hst ht1 hr1
  walk_at "st"
  refine Pm.w_ixT hfb.rat (atI2 _ _).1 ?_
  walk_at "st"
  refine Pm.w_ite (fun e4 => ?_) (fun e4 => ?_)
  · walk_at "st"
    refine Pm.w_newT (fun t1 ht1 => ?_)
    walk_at "st"
    refine Pm.w_newT (fun r hr1 => ?_)
    exact q.no (step_set_3 kok (fun z => num_lt_one.mp e4 z.2)) hst ht1 hr1
  have xy : 0 < x ∧ 0 < y := ⟨Classical.byContradiction fun z => e3 (num_lt_one.mpr z), Classical.byContradiction fun z => e4 (num_lt_one.mpr z)⟩
  walk_at "st"
  refine Pm.w_ixT (SqT.of hz) rfl ?_
  walk_at "st"
  refine Pm.w_ite (fun e5 => ?_) (fun e5 => ?_)
  · walk_at "st"
    refine Pm.w_newT (fun t1 ht1 => ?_)
    walk_at "st"
    refine Pm.w_newT (fun r hr1 => ?_)
    exact q.no (step_set_4 kok xy (by omega)) hst ht1 hr1
  have es := step_set_yes (k := k) kok xy (by omega)
  obtain ⟨k, rfl⟩ : ∃ j : Nat, k = (j : Int) := ⟨k.toNat, by omega⟩
  rw [Int.toNat_natCast] at es
  have hk : k < S.n := by omega
  obtain ⟨t2, E2⟩ := ear_put C.w C.n3 hk
  have C2 : Cutting (S.n + 1) (setCut S.n k S.cut) t2 := C.set hk E2
  obtain ⟨ks, h1, h2, h3, h4⟩ := id hd
  have hL' : ∀ r ∈ ks, kpS 1 k r = true → rp ((setS S k x y).D (shP 1 k r).1.toNat (shP 1 k r).2.toNat) = rp (S.D r.1.toNat r.2.toNat) := by
    intro r hr _
    obtain ⟨q0, hq0, rfl⟩ := C.ties.mp ((h2 r).mp hr)
    rw [shP_up, muP_skp]
    show rp (setD S.n k x y S.D (Tr.skp (k + 1) q0).1 (Tr.skp (k + 1) q0).2) = _
    rw [setD_old]
    rfl
  walk_at "st"
  refine ⟨z, c, d, _, 1, _, S.cut, ks, _, fun j => rp ((setS S k x y).D j.1.toNat j.2.toNat), rfl, .inl rfl, hz, hc, h1, h4, hL', fun tt l g H1 kf s1 ntt htt nl ng hpl hLg hkf hkl => ?_⟩
  walk_at "st"
  refine Pm.w_gtup (SqT.of htt) rfl ?_
  have ea : ((k : Int) + 2) % ((S.n : Int) + 1) = ((aft S.n k : Nat) : Int) := by
    unfold aft
    by_cases c0 : k + 1 < S.n
    · rw [if_pos c0, Int.emod_eq_of_lt (by omega) (by omega)]
      omega
    · rw [if_neg c0, show (k : Int) + 2 = (S.n : Int) + 1 by omega, Int.emod_self]
      rfl
  walk_at "st"
  rw [ea]
  obtain ⟨lv, hlv, hplv⟩ := hpl
  have lvl := hplv.length
  have lvb : lv.length ≤ 1000 := by
    rw [lvl]
    unfold shL
    rw [List.length_map]
    exact Nat.le_trans (List.length_filter_le _ _) h4
  refine ⟨.inl ⟨rfl, _, SqL.of hlv⟩, ?_⟩
  walk_at "st"
  refine ⟨_, _, rfl, fun b1 H2 s2 nb1 hb1 => ?_⟩
  walk_at "st"
  refine Pm.w_append (s2 _ _ hlv) (size_lt (by omega)) ?_
  have nlg : l ≠ g := by
    obtain ⟨_, es3, h, _⟩ := hLg
    exact (ne_of h hlv (fun z => nomatch z)).symm
  have kp3 : Keeps H2 (upd H2 l (.lst (lv ++ [.ref b1]))) := keeps_lst (s2 _ _ hlv)
  have s3 : Same H (upd H2 l (.lst (lv ++ [.ref b1]))) := same_but nl (s1.trans s2)
  have hl3 : upd H2 l (.lst (lv ++ [.ref b1])) l = some (.lst (lv ++ [.ref b1])) := upd_same
  have hp3 : Prs (upd H2 l (.lst (lv ++ [.ref b1]))) (lv ++ [.ref b1]) (shL 1 k S.cut ks ++ [tieOf k (aft S.n k)]) := (prs_keep ((keeps s2).trans kp3) hplv).append (ys' := [tieOf k (aft S.n k)]) ⟨hb1.keep kp3, trivial⟩
  have hLg3 : LD K (upd H2 l (.lst (lv ++ [.ref b1]))) g kf (fun j => rp ((setS S k x y).D j.1.toNat j.2.toNat)) := (hLg.same s2).keep (o := .tup []) kp3 (upd_ne nlg.symm)
  generalize upd H2 l (.lst (lv ++ [.ref b1])) = H3 at kp3 s3 hl3 hp3 hLg3 ⊢
  have tk1 : tieOf (k : Int) ((k : Int) + 1) = castP (min k (k + 1), max k (k + 1)) := tie_cast k (k + 1)
  have tk1' : ((k : Int), (k : Int) + 1) = castP (min k (k + 1), max k (k + 1)) := by rw [← tk1, tie_lt (by omega)]
  have tk2 : tieOf ((k : Int) + 1) (aft S.n k) = castP (min (k + 1) (aft S.n k), max (k + 1) (aft S.n k)) := tie_cast (k + 1) (aft S.n k)
  have v1 : rp x = rp ((setS S k x y).D ((k : Int), (k : Int) + 1).1.toNat ((k : Int), (k : Int) + 1).2.toNat) := by
    rw [tk1']
    show _ = rp (setD S.n k x y S.D (min k (k + 1)) (max k (k + 1)))
    rw [setD_one Mm C.n3 hk]
  have v2 : rp y = rp ((setS S k x y).D (tieOf ((k : Int) + 1) (aft S.n k)).1.toNat (tieOf ((k : Int) + 1) (aft S.n k)).2.toNat) := by
    rw [tk2]
    show _ = rp (setD S.n k x y S.D (min (k + 1) (aft S.n k)) (max (k + 1) (aft S.n k)))
    unfold aft
    rw [setD_two Mm C.n3 hk]
  walk_at "st"
  refine Pm.w_newT (fun b3 hb3 => ?_)
  have s4 := same_new hb3 (.tup [.int k, .int ((k : Int) + 1)])
  have hfa4 := hfa.keep (keeps (s3.trans s4))
  rw [v1] at hfa4
  refine w_ldPutS (k := ((k : Int), (k : Int) + 1)) (hLg3.same s4) ⟨b3, rfl, upd_same⟩ hfa4 (by omega) (fun es5 hL5 kp5 => ?_)
  have s5 : Same H (upd (upd H3 b3 (.tup [.int k, .int ((k : Int) + 1)])) g (.dT es5)) := same_but ng (s3.trans s4)
  have hl5 : upd (upd H3 b3 (.tup [.int k, .int ((k : Int) + 1)])) g (.dT es5) l = some (.lst (lv ++ [.ref b1])) := by rw [upd_ne nlg]; exact s4 _ _ hl3
  have hp5 := prs_keep ((keeps s4).trans kp5) hp3
  generalize upd (upd H3 b3 (.tup [.int k, .int ((k : Int) + 1)])) g (.dT es5) = H5 at hL5 kp5 s5 hl5 hp5 ⊢
  walk_at "st"
  refine ⟨_, _, rfl, fun b4 H6 s6 nb4 hb4 => ?_⟩
  have hfb6 := hfb.keep (keeps (s5.trans s6))
  rw [v2] at hfb6
  refine w_ldPutS (hL5.same s6) hb4 hfb6 (by have := putk_len kf ((k : Int), (k : Int) + 1); omega) (fun es7 hL7 kp7 => ?_)
  have s7 : Same H (upd H6 g (.dT es7)) := same_but ng (s5.trans s6)
  have hl7 : upd H6 g (.dT es7) l = some (.lst (lv ++ [.ref b1])) := by rw [upd_ne nlg]; exact s6 _ _ hl5
  have hp7 := prs_keep ((keeps s6).trans kp7) hp5
  generalize upd H6 g (.dT es7) = H7 at hL7 kp7 s7 hl7 hp7 ⊢
  walk_at "st"
  refine Pm.w_sortP (SqL.of hl7) hp7 (fun ys l2 nl2 hys => ?_)
  have s8 := same_new nl2 (.lst ys)
  walk_at "st"
  refine Pm.w_newT (fun t3 ht3 => ?_)
  have en : ((S.n : Int) + 1) = ((setS S k x y).n : Int) := rfl
  have s9 := same_new ht3 (.tup [.int ((S.n : Int) + 1), .ref l2, .ref g])
  walk_at "st"
  refine Pm.w_newT (fun t4 ht4 => ?_)
  have s10 := same_new ht4 (.tup [.str "yes", .int ((k : Int) + 1)])
  walk_at "st"
  refine Pm.w_newT (fun t5 ht5 => ?_)
  have s11 := same_new ht5 (.tup [.ref t3, .ref t4])
  have s711 := s8.trans (s9.trans (s10.trans s11))
  have eC : sortP (shL 1 k S.cut ks ++ [tieOf (k : Int) ((aft S.n k : Nat) : Int)]) = setCut S.n k S.cut := by
    unfold setCut shL
    rw [mu_aft hk]
    exact sortP_congr ((sh_set C h1.nd h2).append_right _)
  rw [eC] at hys
  have mem : ∀ j, j ∈ putk (putk kf ((k : Int), (k : Int) + 1)) (tieOf ((k : Int) + 1) (aft S.n k)) ↔ j ∈ tiesL (S.n + 1) (setCut S.n k S.cut) := by
    intro j
    rw [mem_putk, mem_putk, hkf, C2.ties, tk1', tk2]
    constructor
    · rintro ((⟨kk, hkk, _, rfl⟩ | hj) | hj)
      · obtain ⟨q0, hq0, rfl⟩ := C.ties.mp ((h2 kk).mp hkk)
        rw [shP_up]
        exact ⟨_, (E2.all _).mpr (.inl ⟨q0, hq0, rfl⟩), muP_skp k q0⟩
      · exact ⟨_, (E2.all _).mpr (.inr (.inl rfl)), hj⟩
      · exact ⟨_, (E2.all _).mpr (.inr (.inr rfl)), hj⟩
    · rintro ⟨q1, hq1, rfl⟩
      rcases (E2.all _).mp hq1 with ⟨q0, hq0, rfl⟩ | rfl | rfl
      · exact .inl (.inl ⟨castP q0, (h2 _).mpr (C.ties.mpr ⟨q0, hq0, rfl⟩), rfl, by rw [shP_up, muP_skp]⟩)
      · exact .inl (.inr rfl)
      · exact .inr rfl
  have hDL : DLs K H7 g (setS S k x y) := by
    refine ⟨_, hL7, mem, fun j hj => small_tie' (cut := setCut S.n k S.cut) C2 (by omega) ((mem j).mp hj), ?_⟩
    rw [perm_len hL7.nd C2.ties_nodup mem, C2.ties_len']
    omega
  refine q t5 t3 l2 g _ (.ref t4) (s7.trans s711) ((s7.trans (s8.trans (s9.trans s10))).free ht5) upd_same ?_ (.inl (s7.free nl2)) (.inl ng) ?_
  · rw [es]
    exact ⟨(s10.trans s11) _ _ upd_same, ⟨ys, (s9.trans (s10.trans s11)) _ _ upd_same, prs_keep (keeps s711) hys⟩, hDL.same s711⟩
  · rw [es]
    exact ⟨t4, _, rfl, s11 _ _ upd_same, rfl⟩
end
section
variable {P : Program} {w : World} {K : PySem.W.Frag} {mg : Str → Option Value} {base : Heap}
def spLDraw (K : PySem.W.Frag) : Sp := fun vs H Q _ => ∃ (z c d : Addr) (S : Ms) (B : Nat) (p : Int), vs = [.ref z, .int p] ∧ StA K H z c d S ∧ Ok S B ∧ ModNew K H S c d (.draw p) Q
theorem ok_law_draw (T : Tx K mg) : FnOk P w K mg base CX0 2 T.a_law_draw T.fd_law_draw (["_law_state", "_law_post"]) (spLDraw K) := by
  refine T.F_law_draw.ok sc_law_draw (fun vs H Q E h => ?_) (fun cdv A outer s H vs Q E hr h => ?_)
  · obtain ⟨z, c, d, S, B, p, rfl, _⟩ := h
    rfl
  obtain ⟨z, c, d, S, B, po, rfl, hst, ⟨n12, t, L, F, C, Mm, Z⟩, q⟩ := h
  obtain ⟨hz, hc, hd⟩ := id hst
  have cl := C.cut_len
  have n3 := C.n3
  refine ⟨_, (pss_cons (ps_set (i := 2) sc_law_draw.nd rfl (.inl rfl) (pe_ix (ix_tupK (K := K)) (pv 0) (pe_int) (fun _ _ => rfl)))
      (pss_cons (ps_if (pt_not (pt_chain op_le op_lt (pe_int) (pv 1) (pv 2))) (pss_one (ps_ret (pe_tup (pa_cons (pv 0) (pa_cons (pe_tup (pa_cons (pe_str) (pa_cons (pe_int) pa_nil))) pa_nil))))) pss_nil)
      (pss_cons (ps_if (pt_cmpR op_eq (pv 2) (pe_int) (nomark _)) (pss_one (ps_ret (pe_tup (pa_cons (pv 0) (pa_cons (pe_tup (pa_cons (pe_str) (pa_cons (pe_int) pa_nil))) pa_nil))))) pss_nil)
      (pss_cons (ps_for PassesOwn.never rfl (k_il (K := K) (pi_list (pe_ix (ix_tupK (K := K)) (pv 0) (pe_int) (fun _ _ => rfl)))) (pg_name (i := 3) sc_law_draw.nd rfl (.inl rfl)) (pss_one (ps_if (pt_cmpR (op_in_seqK (K := K)) (pv 1) (pv 3) (by rfl)) (pss_one (ps_ret (pe_tup (pa_cons (pv 0) (pa_cons (pe_tup (pa_cons (pe_str) (pa_cons (pe_int) pa_nil))) pa_nil))))) pss_nil)))
      (pss_cons (ps_set (i := 4) sc_law_draw.nd rfl (.inr rfl) (pe_tup (pa_cons (pe_op op_mod (pe_op op_sub (pe_op op_add (pv 1) (pv 2)) (pe_int)) (pv 2)) (pa_cons (pe_op op_mod (pe_op op_add (pv 1) (pe_int)) (pv 2)) pa_nil))))
      (pss_cons (ps_set (i := 5) sc_law_draw.nd rfl (.inl rfl) (pe_tup (pa_cons (pe_dget (hu_of hr) (pe_ix (ix_tupK (K := K)) (pv 0) (pe_int) (fun _ _ => rfl)) (pe_call (ok_law_pair T) (hr.mono (by decide)) (by rfl) T.g_law_pair T.F_law_pair.kp T.b_law_pair .nil pass0 (pa_cons (pe_ix (ix_tupK (K := K)) (pv 4) (pe_int) (fun _ _ => rfl)) (pa_cons (pv 1) pa_nil))) (fun _ _ => rfl)) (pa_cons (pe_dget (hu_of hr) (pe_ix (ix_tupK (K := K)) (pv 0) (pe_int) (fun _ _ => rfl)) (pe_call (ok_law_pair T) (hr.mono (by decide)) (by rfl) T.g_law_pair T.F_law_pair.kp T.b_law_pair .nil pass0 (pa_cons (pe_ix (ix_tupK (K := K)) (pv 4) (pe_int) (fun _ _ => rfl)) (pa_cons (pv 1) pa_nil))) (fun _ _ => rfl)) pa_nil))))
      (pss_cons (ps_set (i := 6) sc_law_draw.nd rfl (.inl rfl) (pe_call (ok_law_shift T) (hr.mono (by decide)) (by rfl) T.g_law_shift T.F_law_shift.kp T.b_law_shift .nil pass0 (pa_cons (pe_tup (pa_cons (pv 2) (pa_cons (pe_lc (own := [("_law_one", 7)]) (g := gName 7) rfl sc_law_draw.nd (k_il (K := K) (pi_list (pe_ix (ix_tupK (K := K)) (pv 0) (pe_int) (fun _ _ => rfl)))) (blkOk_by (N := N_law_draw) (sc := defScope s_law_draw) (by decide +kernel)) (fun _ _ _ _ _ => (pg_name (i := 7) sc_law_draw.nd rfl (.inl rfl))) (fun _ _ _ _ _ => (pts_one (pt_cmpR (op_neDK (K := K) hr.units) (pv 7) (pe_call (ok_law_pair T) (hr.mono (by decide)) (by rfl) T.g_law_pair T.F_law_pair.kp T.b_law_pair .nil pass0 (pa_cons (pe_ix (ix_tupK (K := K)) (pv 4) (pe_int) (fun _ _ => rfl)) (pa_cons (pe_ix (ix_tupK (K := K)) (pv 4) (pe_int) (fun _ _ => rfl)) pa_nil))) (nomark _)))) (fun _ _ _ _ _ => (pv 7))) (pa_cons (pe_ix (ix_tupK (K := K)) (pv 0) (pe_int) (fun _ _ => rfl)) pa_nil)))) (pa_cons (pv 1) (pa_cons (pe_un un_neg (pe_int)) pa_nil)))))
      (pss_one (ps_ret (pe_tup (pa_cons (pe_tup (pa_cons (pe_ix (ix_tupK (K := K)) (pv 6) (pe_int) (fun _ _ => rfl)) (pa_cons (pe_callB (cr_sortK (K := K)) (by rfl) T.m_sorted (by decide +kernel) (pa_cons (pe_ix (ix_tupK (K := K)) (pv 6) (pe_int) (fun _ _ => rfl)) pa_nil)) (pa_cons (pe_ix (ix_tupK (K := K)) (pv 6) (pe_int) (fun _ _ => rfl)) pa_nil)))) (pa_cons (pe_tup (pa_cons (pe_str) (pa_cons (pv 5) pa_nil))) pa_nil)))))))))))), ?_⟩
  walk_at "st"
  refine Pm.w_ixT (SqT.of hz) rfl ?_
  walk_at "st"
  refine Pm.w_ite' (fun e1 => ?_) (fun e1 => ?_)
  · walk_at "st"
    refine Pm.w_newT (fun t1 ht1 => ?_)
    walk_at "st"
    refine Pm.w_newT (fun r hr1 => ?_)
    exact q.no (step_draw_1 (by omega)) hst ht1 hr1
  walk_at "st"
  refine Pm.w_iteN (fun e2 => ?_) (fun e2 => ?_)
  · walk_at "st"
    refine Pm.w_newT (fun t1 ht1 => ?_)
    walk_at "st"
    refine Pm.w_newT (fun r hr1 => ?_)
    exact q.no (step_draw_1 (by omega)) hst ht1 hr1
  have kok : 0 ≤ po ∧ po < (S.n : Int) := ⟨by omega, by omega⟩
  walk_at "st"
  refine Pm.w_ite (fun e3 => ?_) (fun e3 => ?_)
  · walk_at "st"
    refine Pm.w_newT (fun t1 ht1 => ?_)
    walk_at "st"
    refine Pm.w_newT (fun r hr1 => ?_)
    exact q.no (step_draw_5 kok (by omega)) hst ht1 hr1
  obtain ⟨cv, hcv, hpv⟩ := id hc
  have vl := hpv.length
  walk_at "st"
  refine Pm.w_ixT (SqT.of hz) rfl ?_
  refine Pm.w_rdL (SqL.of hcv) ?_
  refine Pm.w_forL (xs := cv) (fun i σ H' => ∃ x, σ = [some (.ref z), some (.int po), some (.int S.n), x, none, none, none, none] ∧ H' = H ∧ ∀ r ∈ S.cut.take i, ¬ (po = r.1 ∨ po = r.2)) ⟨_, rfl, rfl, by rw [List.take_zero]; exact fun r h => nomatch h⟩ (fun i σ H' _ ⟨x, _, e, _⟩ => by rw [e]; exact SqL.of hcv) ?_ ?_
  · rintro i v σ H' hi ⟨x, rfl, rfl, hno⟩
    obtain ⟨r, hr', hv⟩ := hpv.get hi
    obtain ⟨b, rfl, hb⟩ := hv
    walk_at "st"
    refine in_pair ⟨b, rfl, hb⟩ ?_
    walk_at "st"
    refine Pm.w_ite (fun e => ?_) (fun e => ?_)
    · walk_at "st"
      refine Pm.w_newT (fun t1 ht1 => ?_)
      walk_at "st"
      refine Pm.w_newT (fun r hr1 => ?_)
      exact q.no (step_draw_6 kok (by omega) ⟨_, List.mem_of_getElem? hr', e⟩) hst ht1 hr1
    walk_at "st"
    refine ⟨_, rfl, rfl, fun r2 h2 => ?_⟩
    rw [List.take_add_one, hr'] at h2
    rcases List.mem_append.mp h2 with z | z
    · exact hno r2 z
    · rw [show r2 = r from by simpa using z]; exact e
  rintro σ H' ⟨x, rfl, rfl, hno⟩
  rw [vl, List.take_length] at hno
  have hnr : ¬ ropeAt S po := fun ⟨r, h1, h2⟩ => hno r h1 h2
  have es := step_draw_yes kok (by omega) hnr
  obtain ⟨po, rfl⟩ : ∃ j : Nat, po = (j : Int) := ⟨po.toNat, by omega⟩
  rw [Int.toNat_natCast] at es
  have hk : po < S.n := by omega
  obtain ⟨t', E2⟩ := draw_ear C (by omega) hk hnr
  have C2 : Cutting (S.n - 1) (drawCut S.n po S.cut) t' := by
    have e : S.n = S.n - 1 + 1 := by omega
    rw [e] at C E2
    have := C.draw (by omega) (by omega) E2
    rw [← e] at this
    exact this
  obtain ⟨eb, ea⟩ := ends_eq' hk
  have eb' : ((po : Int) + S.n - 1) % S.n = ((bef S.n po : Nat) : Int) := by
    rw [← eb, show (po : Int) + S.n - 1 = (po : Int) - 1 + 1 * S.n by omega, Int.add_mul_emod_self_right]
  walk_at "st"
  rw [eb', ea]
  refine Pm.w_newT (fun en hen => ?_)
  have s1 := same_new hen (.tup [.int (bef S.n po), .int (nxt S.n po)])
  have hz1 := s1 _ _ hz
  have hen1 : upd H' en (.tup [.int (bef S.n po), .int (nxt S.n po)]) en = some (.tup [.int (bef S.n po), .int (nxt S.n po)]) := upd_same
  generalize upd H' en (.tup [.int (bef S.n po), .int (nxt S.n po)]) = H1 at s1 hz1 hen1 ⊢
  have hd0 := hd.len C
  walk_at "st"
  refine Pm.w_ixT (SqT.of hz1) rfl ?_
  walk_at "st"
  refine Pm.w_ixT (SqT.of hen1) (atI2 _ _).1 ?_
  walk_at "st"
  refine ⟨_, _, rfl, fun b1 H2 s2 nb1 hb1 => ?_⟩
  rw [tie_cast] at hb1
  have m1 : (min (bef S.n po) po, max (bef S.n po) po) ∈ t.all 0 := (E2.all _).mpr (.inr (.inl rfl))
  have m2 : (min po (nxt S.n po), max po (nxt S.n po)) ∈ t.all 0 := (E2.all _).mpr (.inr (.inr rfl))
  have s02 := s1.trans s2
  refine w_lenGet (hd0.same s02) hb1 m1 (fun u1 hu1 => ?_)
  walk_at "st"
  refine Pm.w_ixT (SqT.of (s02 _ _ hz)) rfl ?_
  walk_at "st"
  refine Pm.w_ixT (SqT.of (s2 _ _ hen1)) (atI2 _ _).2 ?_
  walk_at "st"
  refine ⟨_, _, rfl, fun b2 H3 s3 nb2 hb2 => ?_⟩
  rw [tie_cast, Nat.min_comm, Nat.max_comm] at hb2
  have s03 := s02.trans s3
  refine w_lenGet (hd0.same s03) hb2 m2 (fun u2 hu2 => ?_)
  walk_at "st"
  refine Pm.w_newT (fun uu huu => ?_)
  have s4 := same_new huu (.tup [.ref u1, .ref u2])
  have s04 := s03.trans s4
  have hTwo : TwoAt K (upd H3 uu (.tup [.ref u1, .ref u2])) uu (earOne S po) (earTwo S po) := ⟨u1, u2, upd_same, hu1.keep (keeps (s3.trans s4)), hu2.keep (keeps s4)⟩
  have hen4 := (s2.trans (s3.trans s4)) _ _ hen1
  generalize upd H3 uu (.tup [.ref u1, .ref u2]) = H4 at s4 s04 hTwo hen4 ⊢
  walk_at "st"
  refine Pm.w_ixT (SqT.of (s04 _ _ hz)) rfl ?_
  refine Pm.w_rdL (SqL.of (s04 _ _ hcv)) ?_
  refine Pm.w_lcLf (R := Pr) pr_mono (S := Pr) pr_mono (SqL.of (s04 _ _ hcv)) (prs_keep (keeps s04) hpv) id (fun r => !decide (r = endsT S.n po)) (by omega) (fun D1 x1 e H5 Nx hD hm hs s5 put skip => ?_) (fun D1 H5 ws hD s5 hd5 ha => ?_)
  · have hen5 := s5 _ _ hen4
    obtain ⟨bb, rfl, hbb⟩ := hs
    have hs : Pr H5 (.ref bb) e := ⟨bb, rfl, hbb⟩
    walk_at "st"
    refine Pm.w_ixT (SqT.of hen5) (atI2 _ _).1 ?_
    walk_at "st"
    refine Pm.w_ixT (SqT.of hen5) (atI2 _ _).2 ?_
    walk_at "st"
    refine ⟨_, _, rfl, fun b6 H6 s6 nb6 hb6 => ?_⟩
    have ee : tieOf ((bef S.n po : Nat) : Int) ((nxt S.n po : Nat) : Int) = endsT S.n po := by unfold endsT; rw [eb, ea]
    rw [ee] at hb6
    refine Pm.w_neP (hs.keep (keeps s6)) hb6 ?_
    walk_at "st"
    refine Pm.w_iteN (fun z => ?_) (fun z => ?_)
    · walk_at "st"
      exact put _ _ (by simpa using z) s6 (hs.keep (keeps s6))
    · exact skip _ (by simpa using z) s6
  rw [List.map_id] at ha
  have s05 := s04.trans s5
  walk_at "st"
  refine Pm.w_ixT (SqT.of (s05 _ _ hz)) rfl ?_
  walk_at "st"
  refine Pm.w_newT (fun t6 ht6 => ?_)
  have s6 := same_new ht6 (.tup [.int S.n, .ref D1, .ref d])
  have s06 := s05.trans s6
  obtain ⟨ks, h1, h2, h3, h4⟩ := hd.same s06
  have hL' : ∀ r ∈ ks, kpS (-1) po r = true → rp ((drawS S po).D (shP (-1) po r).1.toNat (shP (-1) po r).2.toNat) = rp (S.D r.1.toNat r.2.toNat) := by
    intro r hr hkp
    have hkp : ¬ ((po : Int) = r.1 ∨ (po : Int) = r.2) := by
      unfold kpS at hkp
      rw [decide_eq_false (by decide)] at hkp
      simpa using hkp
    obtain ⟨q0, hq0, rfl⟩ := C.ties.mp ((h2 r).mp hr)
    rcases (E2.all _).mp hq0 with ⟨q1, hq1, rfl⟩ | rfl | rfl
    · rw [shP_dn, mdP_skp]
      rfl
    · exfalso
      simp only [castP] at hkp
      omega
    · exfalso
      simp only [castP] at hkp
      omega
  walk_at "st"
  refine ⟨t6, D1, d, _, -1, _, S.cut.filter (fun r => !decide (r = endsT S.n po)), ks, _, fun j => rp ((drawS S po).D j.1.toNat j.2.toNat), rfl, .inr rfl, upd_same, ⟨ws, s6 _ _ hd5, prs_keep (keeps s6) ha⟩, h1, h4, hL', fun tt l g H7 kf s7 ntt htt nl ng hpl hLg hkf hkl => ?_⟩
  obtain ⟨lv, hlv, hplv⟩ := hpl
  walk_at "st"
  refine Pm.w_ixT (SqT.of htt) rfl ?_
  walk_at "st"
  refine Pm.w_ixT (SqT.of htt) rfl ?_
  walk_at "st"
  refine Pm.w_sortP (SqL.of hlv) hplv (fun ys l2 nl2 hys => ?_)
  have s8 := same_new nl2 (.lst ys)
  walk_at "st"
  refine Pm.w_ixT (SqT.of (s8 _ _ htt)) rfl ?_
  walk_at "st"
  have enn : ((S.n : Int) + -1) = ((drawS S po).n : Int) := by show _ = ((S.n - 1 : Nat) : Int); omega
  rw [enn]
  refine Pm.w_newT (fun t3 ht3 => ?_)
  have s9 := same_new ht3 (.tup [.int (drawS S po).n, .ref l2, .ref g])
  walk_at "st"
  refine Pm.w_newT (fun t4 ht4 => ?_)
  have s10 := same_new ht4 (.tup [.str "yes", .ref uu])
  walk_at "st"
  refine Pm.w_newT (fun t5 ht5 => ?_)
  have s11 := same_new ht5 (.tup [.ref t3, .ref t4])
  have s711 := s8.trans (s9.trans (s10.trans s11))
  have ndc : S.cut.Nodup := C.perm.nodup_iff.mpr (List.pairwise_map.mpr ((Tr.ropes_nodup t 0).imp fun h z => h (castP_inj z)))
  have eC : sortP (shL (-1) po (S.cut.filter fun r => !decide (r = endsT S.n po)) ks) = drawCut S.n po S.cut := by
    unfold drawCut shL
    exact sortP_congr (sh_draw C h1.nd h2 (fun r hr => (List.mem_filter.mp hr).1) (ndc.sublist List.filter_sublist) hno)
  rw [eC] at hys
  have mem : ∀ j, j ∈ kf ↔ j ∈ tiesL (S.n - 1) (drawCut S.n po S.cut) := by
    intro j
    rw [hkf, C2.ties]
    constructor
    · rintro ⟨r, hr1, hkp, rfl⟩
      have hkp : ¬ ((po : Int) = r.1 ∨ (po : Int) = r.2) := by
        unfold kpS at hkp
        rw [decide_eq_false (by decide)] at hkp
        simpa using hkp
      obtain ⟨q0, hq0, rfl⟩ := C.ties.mp ((h2 r).mp hr1)
      rcases (E2.all _).mp hq0 with ⟨q1, hq1, rfl⟩ | rfl | rfl
      · exact ⟨q1, hq1, by rw [shP_dn, mdP_skp]⟩
      · exfalso
        simp only [castP] at hkp
        omega
      · exfalso
        simp only [castP] at hkp
        omega
    · rintro ⟨q1, hq1, rfl⟩
      refine ⟨castP (Tr.skp po q1), (h2 _).mpr (C.ties.mpr ⟨_, (E2.all _).mpr (.inl ⟨q1, hq1, rfl⟩), rfl⟩), ?_, by rw [shP_dn, mdP_skp]⟩
      unfold kpS
      rw [decide_eq_false (show ¬ ((po : Int) = (castP (Tr.skp po q1)).1 ∨ (po : Int) = (castP (Tr.skp po q1)).2) from ?_)]
      · rfl
      · show ¬ ((po : Int) = ((Tr.sk po q1.1 : Nat) : Int) ∨ (po : Int) = ((Tr.sk po q1.2 : Nat) : Int))
        unfold Tr.sk
        split <;> split <;> omega
  have hDL : DLs K H7 g (drawS S po) := ⟨kf, hLg, mem, fun j hj => small_tie' C2 (by omega) ((mem j).mp hj), hkl⟩
  have s07 := s06.trans s7
  refine q t5 t3 l2 g _ (.ref t4) (s07.trans s711) ((s07.trans (s8.trans (s9.trans s10))).free ht5) upd_same ?_ (.inl (s07.free nl2)) (.inl (s06.free ng)) ?_
  · rw [es]
    exact ⟨(s10.trans s11) _ _ upd_same, ⟨ys, (s9.trans (s10.trans s11)) _ _ upd_same, prs_keep (keeps s711) hys⟩, hDL.same s711⟩
  · rw [es]
    obtain ⟨w1, w2, hw1, hw2, hw3⟩ := hTwo.keep (keeps (s5.trans (s6.trans (s7.trans s711))))
    exact ⟨t4, _, rfl, s11 _ _ upd_same, uu, w1, w2, rfl, hw1, hw2, hw3⟩
end
section
variable {P : Program} {w : World} {K : PySem.W.Frag} {mg : Str → Option Value} {base : Heap}
theorem s_ts : ¬ (("turn" : Str) = "set") := by decide +kernel
theorem s_td : ¬ (("turn" : Str) = "draw") := by decide +kernel
theorem s_tt : ¬ (("turn" : Str) = "stretch") := by decide +kernel
theorem s_hs : ¬ (("stretch" : Str) = "set") := by decide +kernel
theorem s_hd : ¬ (("stretch" : Str) = "draw") := by decide +kernel
theorem s_ds : ¬ (("draw" : Str) = "set") := by decide +kernel
theorem s_dh : ¬ (("draw" : Str) = "stretch") := by decide +kernel
theorem s_ss : ¬ (("set" : Str) = "stretch") := by decide +kernel
theorem s_sd : ¬ (("set" : Str) = "draw") := by decide +kernel
theorem s_st : ¬ (("set" : Str) = "turn") := by decide +kernel
theorem s_ht : ¬ (("stretch" : Str) = "turn") := by decide +kernel
theorem s_dt : ¬ (("draw" : Str) = "turn") := by decide +kernel
theorem s_yn : ¬ (("yes" : Str) = "no") := by decide +kernel
theorem s_ny : ¬ (("no" : Str) = "yes") := by decide +kernel
def spLModel (K : PySem.W.Frag) : Sp := fun vs H Q _ => ∃ (z c d : Addr) (dv : V) (S : Ms) (dd : Deed) (B m : Nat), vs = [.ref z, dv] ∧ StA K H z c d S ∧ DeedAt K H dv dd ∧ Ok S B ∧ 5 * B + 2 ≤ 9000 ∧ B + m ≤ 9000 ∧ dd.rbs m ∧ ModNew K H S c d dd Q
theorem ok_law_model (T : Tx K mg) : FnOk P w K mg base CX0 4 T.a_law_model T.fd_law_model (["_law_state", "_law_deed"]) (spLModel K) := by
  refine T.F_law_model.ok sc_law_model (fun vs H Q E h => ?_) (fun cdv A outer s H vs Q E hr h => ?_)
  · obtain ⟨z, c, d, dv, S, dd, B, m, rfl, _⟩ := h
    rfl
  obtain ⟨z, c, d, dv, S, dd, B, m, rfl, hst, hdv, ok, hB5, hBm, hrb, q⟩ := h
  obtain ⟨hz, hc, hd⟩ := id hst
  obtain ⟨n12, t, L, F, C, Mm, Z⟩ := id ok
  have cl := C.cut_len
  have n3 := C.n3
  refine ⟨_, (pss_cons (ps_asg (pv 0) (k_gt (K := K) (pg_tup (by rfl) (pgs_cons (pg_name (i := 2) sc_law_model.nd rfl (.inl rfl)) (pgs_cons (pg_name (i := 3) sc_law_model.nd rfl (.inr rfl)) (pgs_cons (pg_name (i := 4) sc_law_model.nd rfl (.inl rfl)) pgs_nil))))))
      (pss_cons (ps_if (pt_cmpR op_eq (pe_ix (ix_tupK (K := K)) (pv 1) (pe_int) (fun _ _ => rfl)) (pe_str) (nomark _)) (pss_one (ps_ret (pe_call (ok_law_set T) (hr.mono (by decide)) (by rfl) T.g_law_set T.F_law_set.kp T.b_law_set .nil pass0 (pa_cons (pv 0) (pa_cons (pe_ix (ix_tupK (K := K)) (pv 1) (pe_int) (fun _ _ => rfl)) (pa_cons (pe_ix (ix_tupK (K := K)) (pv 1) (pe_int) (fun _ _ => rfl)) (pa_cons (pe_ix (ix_tupK (K := K)) (pv 1) (pe_int) (fun _ _ => rfl)) pa_nil))))))) pss_nil)
      (pss_cons (ps_if (pt_cmpR op_eq (pe_ix (ix_tupK (K := K)) (pv 1) (pe_int) (fun _ _ => rfl)) (pe_str) (nomark _)) (pss_one (ps_ret (pe_call (ok_law_draw T) (hr.mono (by decide)) (by rfl) T.g_law_draw T.F_law_draw.kp T.b_law_draw .nil pass0 (pa_cons (pv 0) (pa_cons (pe_ix (ix_tupK (K := K)) (pv 1) (pe_int) (fun _ _ => rfl)) pa_nil))))) pss_nil)
      (pss_cons (ps_if (pt_cmpR op_eq (pe_ix (ix_tupK (K := K)) (pv 1) (pe_int) (fun _ _ => rfl)) (pe_str) (nomark _)) (pss_cons (ps_if (pt_not (pt_chain op_le op_lt (pe_int) (pe_ix (ix_tupK (K := K)) (pv 1) (pe_int) (fun _ _ => rfl)) (pv 2))) (pss_one (ps_ret (pe_tup (pa_cons (pv 0) (pa_cons (pe_tup (pa_cons (pe_str) (pa_cons (pe_int) pa_nil))) pa_nil))))) pss_nil)
      (pss_cons (ps_if (pt_cmpR op_lt (pe_ix (ix_tupK (K := K)) (pe_ix (ix_tupK (K := K)) (pv 1) (pe_int) (fun _ _ => rfl)) (pe_int) (fun _ _ => rfl)) (pe_int) (nomark _)) (pss_one (ps_ret (pe_tup (pa_cons (pv 0) (pa_cons (pe_tup (pa_cons (pe_str) (pa_cons (pe_int) pa_nil))) pa_nil))))) pss_nil)
      (pss_one (ps_ret (pe_tup (pa_cons (pe_tup (pa_cons (pv 2) (pa_cons (pv 3) (pa_cons (pe_call (ok_law_stretched T) (hr.mono (by decide)) (by rfl) T.g_law_stretched T.F_law_stretched.kp T.b_law_stretched .nil pass0 (pa_cons (pv 4) (pa_cons (pe_ix (ix_tupK (K := K)) (pv 1) (pe_int) (fun _ _ => rfl)) (pa_cons (pe_ix (ix_tupK (K := K)) (pv 1) (pe_int) (fun _ _ => rfl)) pa_nil)))) pa_nil)))) (pa_cons (pe_tup (pa_cons (pe_str) (pa_cons (pe_non) pa_nil))) pa_nil))))))) pss_nil)
      (pss_cons (ps_set (i := 5) sc_law_model.nd rfl (.inl rfl) (pe_call (ok_law_pair T) (hr.mono (by decide)) (by rfl) T.g_law_pair T.F_law_pair.kp T.b_law_pair .nil pass0 (pa_cons (pe_ix (ix_tupK (K := K)) (pv 1) (pe_int) (fun _ _ => rfl)) (pa_cons (pe_ix (ix_tupK (K := K)) (pv 1) (pe_int) (fun _ _ => rfl)) pa_nil))))
      (pss_cons (ps_if (pt_cmpR (op_notInDK (K := K) hr.u65) (pv 5) (pv 3) (by rfl)) (pss_one (ps_ret (pe_tup (pa_cons (pv 0) (pa_cons (pe_tup (pa_cons (pe_str) (pa_cons (pe_int) pa_nil))) pa_nil))))) pss_nil)
      (pss_cons (ps_set (i := 6) sc_law_model.nd rfl (.inl rfl) (pe_call (ok_law_turned T) (hr.mono (by decide)) (by rfl) T.g_law_turned T.F_law_turned.kp T.b_law_turned .nil pass0 (pa_cons (pv 2) (pa_cons (pv 3) (pa_cons (pv 5) pa_nil)))))
      (pss_cons (ps_set (i := 7) sc_law_model.nd rfl (.inl rfl) (pe_ix (ix_listK (K := K)) (pe_lc (own := [("_law_one", 8)]) (g := gName 8) rfl sc_law_model.nd (k_il (K := K) (pi_list (pv 6))) (blkOk_by (N := N_law_model) (sc := defScope s_law_model) (by decide +kernel)) (fun _ _ _ _ _ => (pg_name (i := 8) sc_law_model.nd rfl (.inl rfl))) (fun _ _ _ _ _ => (pts_one (pt_cmpR (op_notInDK (K := K) hr.u65) (pv 8) (pv 3) (by rfl)))) (fun _ _ _ _ _ => (pv 8))) (pe_int) (fun _ _ => rfl)))
      (pss_one (ps_ret (pe_tup (pa_cons (pe_tup (pa_cons (pv 2) (pa_cons (pv 6) (pa_cons (pe_call (ok_law_laid T) (hr.mono (by decide)) (by rfl) T.g_law_laid T.F_law_laid.kp T.b_law_laid .nil pass0 (pa_cons (pv 2) (pa_cons (pv 3) (pa_cons (pv 4) (pa_cons (pv 5) pa_nil))))) pa_nil)))) (pa_cons (pe_tup (pa_cons (pe_str) (pa_cons (pv 7) pa_nil))) pa_nil))))))))))))), ?_⟩
  walk_at "st"
  refine Pm.w_gtup (SqT.of hz) rfl ?_
  walk_at "st"
  cases dd with
  | set k x y =>
    obtain ⟨tt, u, v, rfl, h0, h1, h2⟩ := hdv
    refine Pm.w_ixT (SqT.of h0) rfl ?_
    walk_at "st"
    rw [decide_eq_true rfl]
    walk_at "st"
    refine Pm.w_ixT (SqT.of h0) rfl ?_
    walk_at "st"
    refine Pm.w_ixT (SqT.of h0) rfl ?_
    walk_at "st"
    refine Pm.w_ixT (SqT.of h0) rfl ?_
    walk_at "st"
    exact ⟨z, c, d, S, B, k, u, v, x, y, rfl, hst, ok, h1, h2, q⟩
  | draw p =>
    obtain ⟨tt, rfl, h0⟩ := hdv
    refine Pm.w_ixT (SqT.of h0) rfl ?_
    walk_at "st"
    rw [decide_eq_false s_ds]
    walk_at "st"
    refine Pm.w_ixT (SqT.of h0) rfl ?_
    walk_at "st"
    rw [decide_eq_true rfl]
    walk_at "st"
    refine Pm.w_ixT (SqT.of h0) rfl ?_
    walk_at "st"
    exact ⟨z, c, d, S, B, p, rfl, hst, ok, q⟩
  | stretch p f =>
    obtain ⟨tt, u, rfl, h0, h1⟩ := hdv
    refine Pm.w_ixT (SqT.of h0) rfl ?_
    walk_at "st"
    rw [decide_eq_false s_hs]
    walk_at "st"
    refine Pm.w_ixT (SqT.of h0) rfl ?_
    walk_at "st"
    rw [decide_eq_false s_hd]
    walk_at "st"
    refine Pm.w_ixT (SqT.of h0) rfl ?_
    walk_at "st"
    rw [decide_eq_true rfl]
    walk_at "st"
    refine Pm.w_ixT (SqT.of h0) rfl ?_
    walk_at "st"
    refine Pm.w_ite' (fun e1 => ?_) (fun e1 => ?_)
    · walk_at "st"
      refine Pm.w_newT (fun t1 ht1 => ?_)
      walk_at "st"
      refine Pm.w_newT (fun r hr1 => ?_)
      exact q.no (step_str_1 (by omega)) hst ht1 hr1
    walk_at "st"
    refine Pm.w_iteN (fun e2 => ?_) (fun e2 => ?_)
    · walk_at "st"
      refine Pm.w_newT (fun t1 ht1 => ?_)
      walk_at "st"
      refine Pm.w_newT (fun r hr1 => ?_)
      exact q.no (step_str_1 (by omega)) hst ht1 hr1
    have pok : 0 ≤ p ∧ p < (S.n : Int) := ⟨by omega, by omega⟩
    walk_at "st"
    refine Pm.w_ixT (SqT.of h0) rfl ?_
    walk_at "st"
    refine Pm.w_ixT h1.rat (atI2 _ _).1 ?_
    walk_at "st"
    refine Pm.w_ite (fun e3 => ?_) (fun e3 => ?_)
    · walk_at "st"
      refine Pm.w_newT (fun t1 ht1 => ?_)
      walk_at "st"
      refine Pm.w_newT (fun r hr1 => ?_)
      exact q.no (step_str_3 pok (num_lt_one.mp e3)) hst ht1 hr1
    have fpos : 0 < f := Classical.byContradiction fun z => e3 (num_lt_one.mpr z)
    have es := step_str_yes pok fpos
    obtain ⟨p, rfl⟩ : ∃ j : Nat, p = (j : Int) := ⟨p.toNat, by omega⟩
    rw [Int.toNat_natCast] at es
    walk_at "st"
    refine Pm.w_ixT (SqT.of h0) rfl ?_
    walk_at "st"
    refine Pm.w_ixT (SqT.of h0) rfl ?_
    walk_at "st"
    refine ⟨S.n, d, u, S.cut, t, S.D, F, B, m, p, f, rfl, by omega, C, hd.len C, Z, hBm, h1, hrb, fun g H1 s1 ng hg => ?_⟩
    walk_at "st"
    refine Pm.w_newT (fun t1 ht1 => ?_)
    have s2 := same_new ht1 (.tup [.int S.n, .ref c, .ref g])
    walk_at "st"
    refine Pm.w_newT (fun t2 ht2 => ?_)
    have s3 := same_new ht2 (.tup [.str "yes", .non])
    walk_at "st"
    refine Pm.w_newT (fun r hr1 => ?_)
    have s4 := same_new hr1 (.tup [.ref t1, .ref t2])
    have s14 := s2.trans (s3.trans s4)
    refine q r t1 c g _ (.ref t2) (s1.trans s14) ((s1.trans (s2.trans s3)).free hr1) upd_same ?_ (.inr rfl) (.inl ng) ?_
    · rw [es]
      exact ⟨(s3.trans s4) _ _ upd_same, hc.same (s1.trans s14), LenD.dls (S := strS S p f) (hg.same s14) C n12⟩
    · rw [es]
      exact ⟨t2, _, rfl, s4 _ _ upd_same, rfl⟩
  | turn a b =>
    obtain ⟨tt, rfl, h0⟩ := hdv
    refine Pm.w_ixT (SqT.of h0) rfl ?_
    walk_at "st"
    rw [decide_eq_false s_ts]
    walk_at "st"
    refine Pm.w_ixT (SqT.of h0) rfl ?_
    walk_at "st"
    rw [decide_eq_false s_td]
    walk_at "st"
    refine Pm.w_ixT (SqT.of h0) rfl ?_
    walk_at "st"
    rw [decide_eq_false s_tt]
    walk_at "st"
    refine Pm.w_ixT (SqT.of h0) rfl ?_
    walk_at "st"
    refine Pm.w_ixT (SqT.of h0) rfl ?_
    walk_at "st"
    refine ⟨a, b, rfl, fun rp H1 s1 nrp hrp => ?_⟩
    obtain ⟨cv, hcv, hpv⟩ := hc.same s1
    walk_at "st"
    refine Pm.w_ninPL hrp (SqL.of hcv) hpv ?_
    walk_at "st"
    refine Pm.w_iteN (fun e => ?_) (fun e => ?_)
    · walk_at "st"
      refine Pm.w_newT (fun t1 ht1 => ?_)
      have s2 := same_new ht1 (.tup [.str "no", .int 2])
      walk_at "st"
      refine Pm.w_newT (fun r hr1 => ?_)
      have s3 := same_new hr1 (.tup [.ref z, .ref t1])
      have es := step_turn_no e
      refine q r z c d _ (.ref t1) (s1.trans (s2.trans s3)) ((s1.trans s2).free hr1) upd_same ?_ (.inr rfl) (.inr rfl) ?_
      · rw [es]
        exact hst.same (s1.trans (s2.trans s3))
      · rw [es]
        exact ⟨t1, rfl, s3 _ _ upd_same⟩
    have es := step_turn_yes e
    obtain ⟨x, y, et, hxy, eT⟩ := C.rope_nat e
    obtain ⟨t', mm, o, Rr, U⟩ := C.turn hxy
    have bl : 2 ≤ (besideL S.n (tiesL S.n S.cut) a b).length := by
      rw [C.beside_len (mem_ties.mpr (.inr e)), if_pos e]
      omega
    have e12 : (tieOf a b).1 < (tieOf a b).2 := by
      rw [et]
      have := Tr.bd (Tr.inn_all (ropes_bd hxy).1)
      simp only [castP]
      omega
    have eb : besideL S.n (tiesL S.n S.cut) (tieOf a b).1 (tieOf a b).2 = besideL S.n (tiesL S.n S.cut) a b := by
      unfold tieOf
      simp only
      rcases Int.le_total a b with z | z
      · rw [Int.min_eq_left z, Int.max_eq_right z]
      · rw [Int.min_eq_right z, Int.max_eq_left z, beside_comm]
    have eTT : turnedL S.n S.cut (tieOf a b).1 (tieOf a b).2 = turnedL S.n S.cut a b := by
      unfold tieOf
      simp only
      rcases Int.le_total a b with z | z
      · rw [Int.min_eq_left z, Int.max_eq_right z]
      · rw [Int.min_eq_right z, Int.max_eq_left z, turned_comm]
    walk_at "st"
    refine ⟨S.n, c, rp, S.cut, tieOf a b, rfl, by omega, by omega, ⟨cv, hcv, hpv⟩, by omega, hrp, e12, by rw [eb]; exact bl, fun l H2 ws s2 nl hl hpl => ?_⟩
    rw [eTT] at hpl
    have C' : Cutting S.n (turnedL S.n S.cut a b) t' := by rw [eT]; exact U.cut'
    have wl := hpl.length
    have cl' := C'.cut_len
    have fresh := U.fresh C
    have eF : freshP S a b = castP (min mm o, max mm o) := by
      have e1 := congrArg Prod.fst et
      have e2 := congrArg Prod.snd et
      simp only [tieOf, castP] at e1 e2
      have : besideL S.n (tiesL S.n S.cut) a b = besideL S.n (tiesL S.n S.cut) x y := by
        rcases Int.le_total a b with z | z
        · rw [show a = (x : Int) by omega, show b = (y : Int) by omega]
        · rw [beside_comm, show a = (y : Int) by omega, show b = (x : Int) by omega]
      unfold freshP
      rw [this, U.bes]
      rfl
    rw [← eT, ← eF] at fresh
    walk_at "st"
    refine Pm.w_rdL (SqL.of hl) ?_
    refine Pm.w_lcLf (R := Pr) pr_mono (S := Pr) pr_mono (SqL.of hl) hpl id (fun p => !decide (p ∈ S.cut)) (by omega) (fun D1 x1 p H3 Nx hD hm hs s3 put skip => ?_) (fun D1 H3 ws3 hD s3 hd3 ha => ?_)
    · have s13 := s2.trans s3
      walk_at "st"
      refine Pm.w_ninPL hs (SqL.of (s13 _ _ hcv)) (prs_keep (keeps s13) hpv) ?_
      walk_at "st"
      refine Pm.w_iteN (fun z => ?_) (fun z => ?_)
      · walk_at "st"
        exact put _ _ (by simp [z]) (Same.refl _) hs
      · exact skip _ (by simp [z]) (Same.refl _)
    rw [List.map_id, fresh] at ha
    have hw : ∃ u, ws3 = [.ref u] ∧ Pr H3 (.ref u) (freshP S a b) := by
      match ws3, ha with
      | [x], h =>
        obtain ⟨u, rfl, hu⟩ := h.1
        exact ⟨u, rfl, u, rfl, hu⟩
    obtain ⟨u, rfl, hu⟩ := hw
    walk_at "st"
    refine Pm.w_ixL (SqL.of hd3) (show atI [V.ref u] 0 = some (.ref u) from rfl) ?_
    walk_at "st"
    have s03 := s1.trans (s2.trans s3)
    refine ⟨S.n, c, d, rp, S.cut, t, t', L, S.D, F, B, x, y, mm, o, Rr, rfl, n12, hc.same s03, C, (hd.len C).same s03, Mm, Z, hB5, by rw [← et]; exact hrp.keep (keeps (s2.trans s3)), U, fun g H4 s4 ng hg => ?_⟩
    walk_at "st"
    refine Pm.w_newT (fun t1 ht1 => ?_)
    have s5 := same_new ht1 (.tup [.int S.n, .ref l, .ref g])
    walk_at "st"
    refine Pm.w_newT (fun t2 ht2 => ?_)
    have s6 := same_new ht2 (.tup [.str "yes", .ref u])
    walk_at "st"
    refine Pm.w_newT (fun r hr1 => ?_)
    have s7 := same_new hr1 (.tup [.ref t1, .ref t2])
    have s47 := s5.trans (s6.trans s7)
    have s27 := s3.trans (s4.trans s47)
    refine q r t1 l g _ (.ref t2) (s03.trans (s4.trans s47)) ((s03.trans (s4.trans (s5.trans s6))).free hr1) upd_same ?_ (.inl (s1.free nl)) (.inl (s03.free ng)) ?_
    · rw [es]
      exact ⟨(s6.trans s7) _ _ upd_same, ⟨ws, s27 _ _ hl, prs_keep (keeps s27) hpl⟩, LenD.dls (S := turnS S a b) (hg.same s47) C' n12⟩
    · rw [es]
      exact ⟨t2, _, rfl, s7 _ _ upd_same, hu.keep (keeps (s4.trans s47))⟩
end
section
variable {P : Program} {w : World} {K : PySem.W.Frag} {mg : Str → Option Value} {base : Heap}
def spLDone (K : PySem.W.Frag) (C : Addr) : Sp := fun vs H Q _ => ∃ (p : Addr) (dv : V) (H0 Hs : Hp) (S : Ms) (P A : List (Deed × Ms)) (d : Deed) (B m : Nat), vs = [.ref p, dv] ∧ MeadAt K C H0 Hs H p S P A ∧ DeedAt K H dv d ∧ Ok S B ∧ 4 * B ≤ 9000 ∧ B + m ≤ 9000 ∧ d.rbs m ∧ P.length ≤ 1000 ∧
  ∀ (H0' Hs' H' : Hp) (v : V), Same H0 H0' → Same Hs Hs' → MeadAt K C H0' Hs' H' p ((step S d).st S) ((step S d).past S d P) ((step S d).ahead A) → RepAt K H' v (step S d) → Q v H'
theorem ok_law_done (T : Tx K mg) : FnOk P w K mg base CX0 10 T.a_law_done T.fd_law_done (["_law_mead", "_law_deed"]) (spLDone K T.c_Mead) := by
  refine T.F_law_done.ok sc_law_done (fun vs H Q E h => ?_) (fun cdv A outer s H vs Q E hr h => ?_)
  · obtain ⟨p, dv, H0, Hs, S, P, A, d, B, m, rfl, _⟩ := h
    rfl
  obtain ⟨p, dv, H0, Hs, S, P, A, dd, B, m, rfl, M, hdv, ok, hB, hBm, hrb, Pl, q⟩ := h
  have no : ∀ {j : Nat} {H1 : Hp} {t : Addr}, step S dd = .no j → Same H H1 → H1 t = none → Q (.ref t) (upd H1 t (.tup [.str "no", .int j])) := by
    intro j H1 t e s1 ht
    have s2 := same_new ht (.tup [.str "no", .int j])
    obtain ⟨H0', Hs', g1, g2, M', _⟩ := M.grow (s1.trans s2)
    rw [e] at q
    exact q H0' Hs' _ (.ref t) g1 g2 M' ⟨t, rfl, upd_same⟩
  have yes : ∀ {S' : Ms} {a : Ans} {H0' Hs' H1 : Hp} {t : Addr} {x : V}, step S dd = .yes S' a → Same H0 H0' → Same Hs Hs' → MeadAt K T.c_Mead H0' Hs' H1 p S' (P ++ [(dd.told, S)]) [] → AnsV K H1 x a → H1 t = none → Q (.ref t) (upd H1 t (.tup [.str "yes", x])) := by
    intro S' a H0' Hs' H1 t x e r1 r2 M' hx ht
    have s2 := same_new ht (.tup [.str "yes", x])
    obtain ⟨H0'', Hs'', g1, g2, M'', _⟩ := M'.grow s2
    rw [e] at q
    exact q H0'' Hs'' _ (.ref t) (r1.trans g1) (r2.trans g2) M'' ⟨t, x, rfl, upd_same, hx.keep (keeps s2)⟩
  obtain ⟨dx, lp, la, c, d, vs, us, p0, l0, a0, ps, ls, as, nla, hp, hlp, hla, hc, hd, hP, hA⟩ := M.ex
  have lno : ∀ {k : Str}, (k == "cut") = false → (k == "many") = false → (k == "sized") = false → (k == "past") = false → (k == "ahead") = false → (mf (.ref c) (.int S.n) (.ref d) (.ref lp) (.ref la)).lookup k = none := fun h1 h2 h3 h4 h5 => mf_no _ _ _ _ _ h1 h2 h3 h4 h5
  refine ⟨_, (pss_one (k_many (K := K) (ps_try_many rfl rfl takes0 (fun W pn xe tk _ => (pss_cons (ps_if (pt_cmpR op_eq (pe_ix (ix_tupK (K := K)) (pv 1) (pe_int) (fun _ _ => rfl)) (pe_str) (nomark _)) (pss_one (ps_ret (pe_tup (pa_cons (pe_str) (pa_cons (by exact (pe_methX (pv 0) T.cl_Mead T.M_Mead_set_out (ok_Mead_set_out T) (hr.mono (by decide)) T.b_Mead_set_out (fun q => passAt tk q) (by exact (pa_cons (pe_ix (ix_tupK (K := K)) (pv 1) (pe_int) (fun _ _ => rfl)) (pa_cons (pe_ix (ix_tupK (K := K)) (pv 1) (pe_int) (fun _ _ => rfl)) (pa_cons (pe_ix (ix_tupK (K := K)) (pv 1) (pe_int) (fun _ _ => rfl)) pa_nil)))))) pa_nil))))) pss_nil)
      (pss_cons (ps_if (pt_cmpR op_eq (pe_ix (ix_tupK (K := K)) (pv 1) (pe_int) (fun _ _ => rfl)) (pe_str) (nomark _)) (pss_one (ps_ret (pe_tup (pa_cons (pe_str) (pa_cons (by exact (pe_methX (pv 0) T.cl_Mead T.M_Mead_draw (ok_Mead_draw T) (hr.mono (by decide)) T.b_Mead_draw (fun q => passAt tk q) (by exact (pa_cons (pe_ix (ix_tupK (K := K)) (pv 1) (pe_int) (fun _ _ => rfl)) pa_nil)))) pa_nil))))) pss_nil)
      (pss_cons (ps_if (pt_cmpR op_eq (pe_ix (ix_tupK (K := K)) (pv 1) (pe_int) (fun _ _ => rfl)) (pe_str) (nomark _)) (pss_one (ps_ret (pe_tup (pa_cons (pe_str) (pa_cons (by exact (pe_methX (pv 0) T.cl_Mead T.M_Mead_stretch (ok_Mead_stretch T) (hr.mono (by decide)) T.b_Mead_stretch (fun q => passAt tk q) (by exact (pa_cons (pe_ix (ix_tupK (K := K)) (pv 1) (pe_int) (fun _ _ => rfl)) (pa_cons (pe_ix (ix_tupK (K := K)) (pv 1) (pe_int) (fun _ _ => rfl)) pa_nil))))) pa_nil))))) pss_nil)
      (pss_one (ps_ret (pe_tup (pa_cons (pe_str) (pa_cons (by exact (pe_methX (pv 0) T.cl_Mead T.M_Mead_turn (ok_Mead_turn T) (hr.mono (by decide)) T.b_Mead_turn (fun q => passAt tk q) (by exact (pa_cons (pe_ix (ix_tupK (K := K)) (pv 1) (pe_int) (fun _ _ => rfl)) (pa_cons (pe_ix (ix_tupK (K := K)) (pv 1) (pe_int) (fun _ _ => rfl)) pa_nil))))) pa_nil))))))))) (.cons ⟨rfl, by decide, .inl T.g_NoPost⟩ (fun a oe cls d pn _ _ => (pss_one (ps_ret (pe_tup (pa_cons (pe_str) (pa_cons (pe_int) pa_nil)))))) (.cons ⟨rfl, by decide, .inl T.g_NoRope⟩ (fun a oe cls d pn _ _ => (pss_one (ps_ret (pe_tup (pa_cons (pe_str) (pa_cons (pe_int) pa_nil)))))) (.cons ⟨rfl, by decide, .inl T.g_NoFraction⟩ (fun a oe cls d pn _ _ => (pss_one (ps_ret (pe_tup (pa_cons (pe_str) (pa_cons (pe_int) pa_nil)))))) (.cons ⟨rfl, by decide, .inl T.g_Full⟩ (fun a oe cls d pn _ _ => (pss_one (ps_ret (pe_tup (pa_cons (pe_str) (pa_cons (pe_int) pa_nil)))))) (.cons ⟨rfl, by decide, .inl T.g_Few⟩ (fun a oe cls d pn _ _ => (pss_one (ps_ret (pe_tup (pa_cons (pe_str) (pa_cons (pe_int) pa_nil)))))) (.cons ⟨rfl, by decide, .inl T.g_HasRopes⟩ (fun a oe cls d pn _ _ => (pss_one (ps_ret (pe_tup (pa_cons (pe_str) (pa_cons (pe_int) pa_nil)))))) .nil))))))))), ?_⟩
  walk_at "st"
  cases dd with
  | set k x y =>
    obtain ⟨tt, u, v, rfl, h0, h1, h2⟩ := hdv
    refine Pm.w_ixT (SqT.of h0) rfl ?_
    walk_at "st"
    rw [decide_eq_true rfl]
    walk_at "st"
    refine w_methAt hp (lno (by decide +kernel) (by decide +kernel) (by decide +kernel) (by decide +kernel) (by decide +kernel)) ?_
    walk_at "st"
    refine Pm.w_ixT (SqT.of h0) rfl ?_
    walk_at "st"
    refine Pm.w_ixT (SqT.of h0) rfl ?_
    walk_at "st"
    refine Pm.w_ixT (SqT.of h0) rfl ?_
    walk_at "st"
    refine ⟨p, u, v, H0, Hs, S, P, A, B, k, x, y, rfl, M, ok, Pl, h1, h2, fun z H1 s1 => ?_, fun z z2 H1 s1 => ?_, fun z z2 z3 H1 s1 => ?_, fun z z2 z3 H0' Hs' H1 r1 r2 M' => ?_⟩
    · refine ⟨true, T.exm_NoPost_NoPost, fun _ x hx => ?_, (fun z => nomatch z)⟩
      walk_at "st"
      refine Pm.w_newT (fun t ht => ?_)
      exact no (step_set_1 z) s1 ht
    · refine ⟨false, T.exm_NoFraction_NoPost, (fun z => nomatch z), fun _ => ⟨false, T.exm_NoFraction_NoRope, (fun z => nomatch z), fun _ => ⟨true, T.exm_NoFraction_NoFraction, fun _ x hx => ?_, (fun z => nomatch z)⟩⟩⟩
      walk_at "st"
      refine Pm.w_newT (fun t ht => ?_)
      exact no (step_set_3 z z2) s1 ht
    · refine ⟨false, T.exm_Full_NoPost, (fun z => nomatch z), fun _ => ⟨false, T.exm_Full_NoRope, (fun z => nomatch z), fun _ => ⟨false, T.exm_Full_NoFraction, (fun z => nomatch z), fun _ => ⟨true, T.exm_Full_Full, fun _ x hx => ?_, (fun z => nomatch z)⟩⟩⟩⟩
      walk_at "st"
      refine Pm.w_newT (fun t ht => ?_)
      exact no (step_set_4 z z2 z3) s1 ht
    · walk_at "st"
      refine Pm.w_newT (fun t ht => ?_)
      exact yes (step_set_yes z z2 z3) r1 r2 M' rfl ht
  | draw po =>
    obtain ⟨tt, rfl, h0⟩ := hdv
    refine Pm.w_ixT (SqT.of h0) rfl ?_
    walk_at "st"
    rw [decide_eq_false s_ds]
    walk_at "st"
    refine Pm.w_ixT (SqT.of h0) rfl ?_
    walk_at "st"
    rw [decide_eq_true rfl]
    walk_at "st"
    refine w_methAt hp (lno (by decide +kernel) (by decide +kernel) (by decide +kernel) (by decide +kernel) (by decide +kernel)) ?_
    walk_at "st"
    refine Pm.w_ixT (SqT.of h0) rfl ?_
    walk_at "st"
    refine ⟨p, H0, Hs, S, P, A, B, po, rfl, M, ok, Pl, fun z H1 s1 => ?_, fun z z2 H1 s1 => ?_, fun z z2 z3 H1 s1 => ?_, fun z z2 z3 H0' Hs' H1 u r1 r2 M' hu => ?_⟩
    · refine ⟨true, T.exm_NoPost_NoPost, fun _ x hx => ?_, (fun z => nomatch z)⟩
      walk_at "st"
      refine Pm.w_newT (fun t ht => ?_)
      exact no (step_draw_1 z) s1 ht
    · refine ⟨false, T.exm_Few_NoPost, (fun z => nomatch z), fun _ => ⟨false, T.exm_Few_NoRope, (fun z => nomatch z), fun _ => ⟨false, T.exm_Few_NoFraction, (fun z => nomatch z), fun _ => ⟨false, T.exm_Few_Full, (fun z => nomatch z), fun _ => ⟨true, T.exm_Few_Few, fun _ x hx => ?_, (fun z => nomatch z)⟩⟩⟩⟩⟩
      walk_at "st"
      refine Pm.w_newT (fun t ht => ?_)
      exact no (step_draw_5 z z2) s1 ht
    · refine ⟨false, T.exm_HasRopes_NoPost, (fun z => nomatch z), fun _ => ⟨false, T.exm_HasRopes_NoRope, (fun z => nomatch z), fun _ => ⟨false, T.exm_HasRopes_NoFraction, (fun z => nomatch z), fun _ => ⟨false, T.exm_HasRopes_Full, (fun z => nomatch z), fun _ => ⟨false, T.exm_HasRopes_Few, (fun z => nomatch z), fun _ => ⟨true, T.exm_HasRopes_HasRopes, fun _ x hx => ?_, (fun z => nomatch z)⟩⟩⟩⟩⟩⟩
      walk_at "st"
      refine Pm.w_newT (fun t ht => ?_)
      exact no (step_draw_6 z z2 z3) s1 ht
    · walk_at "st"
      refine Pm.w_newT (fun t ht => ?_)
      obtain ⟨u1, u2, q1, q2, q3⟩ := hu
      exact yes (step_draw_yes z z2 z3) r1 r2 M' ⟨u, u1, u2, rfl, q1, q2, q3⟩ ht
  | stretch po f =>
    obtain ⟨tt, u, rfl, h0, h1⟩ := hdv
    refine Pm.w_ixT (SqT.of h0) rfl ?_
    walk_at "st"
    rw [decide_eq_false s_hs]
    walk_at "st"
    refine Pm.w_ixT (SqT.of h0) rfl ?_
    walk_at "st"
    rw [decide_eq_false s_hd]
    walk_at "st"
    refine Pm.w_ixT (SqT.of h0) rfl ?_
    walk_at "st"
    rw [decide_eq_true rfl]
    walk_at "st"
    refine w_methAt hp (lno (by decide +kernel) (by decide +kernel) (by decide +kernel) (by decide +kernel) (by decide +kernel)) ?_
    walk_at "st"
    refine Pm.w_ixT (SqT.of h0) rfl ?_
    walk_at "st"
    refine Pm.w_ixT (SqT.of h0) rfl ?_
    walk_at "st"
    refine ⟨p, u, H0, Hs, S, P, A, B, m, po, f, rfl, M, ok, hBm, Pl, h1, hrb, fun z H1 s1 => ?_, fun z z2 H1 s1 => ?_, fun z z2 H0' Hs' H1 r1 r2 M' => ?_⟩
    · refine ⟨true, T.exm_NoPost_NoPost, fun _ x hx => ?_, (fun z => nomatch z)⟩
      walk_at "st"
      refine Pm.w_newT (fun t ht => ?_)
      exact no (step_str_1 z) s1 ht
    · refine ⟨false, T.exm_NoFraction_NoPost, (fun z => nomatch z), fun _ => ⟨false, T.exm_NoFraction_NoRope, (fun z => nomatch z), fun _ => ⟨true, T.exm_NoFraction_NoFraction, fun _ x hx => ?_, (fun z => nomatch z)⟩⟩⟩
      walk_at "st"
      refine Pm.w_newT (fun t ht => ?_)
      exact no (step_str_3 z z2) s1 ht
    · walk_at "st"
      refine Pm.w_newT (fun t ht => ?_)
      exact yes (step_str_yes z z2) r1 r2 M' rfl ht
  | turn a b =>
    obtain ⟨tt, rfl, h0⟩ := hdv
    refine Pm.w_ixT (SqT.of h0) rfl ?_
    walk_at "st"
    rw [decide_eq_false s_ts]
    walk_at "st"
    refine Pm.w_ixT (SqT.of h0) rfl ?_
    walk_at "st"
    rw [decide_eq_false s_td]
    walk_at "st"
    refine Pm.w_ixT (SqT.of h0) rfl ?_
    walk_at "st"
    rw [decide_eq_false s_tt]
    walk_at "st"
    refine w_methAt hp (lno (by decide +kernel) (by decide +kernel) (by decide +kernel) (by decide +kernel) (by decide +kernel)) ?_
    walk_at "st"
    refine Pm.w_ixT (SqT.of h0) rfl ?_
    walk_at "st"
    refine Pm.w_ixT (SqT.of h0) rfl ?_
    walk_at "st"
    refine ⟨p, H0, Hs, S, P, A, B, a, b, rfl, M, ok, hB, Pl, fun z H1 s1 => ?_, fun z H0' Hs' H1 u r1 r2 M' hu => ?_⟩
    · refine ⟨false, T.exm_NoRope_NoPost, (fun z => nomatch z), fun _ => ⟨true, T.exm_NoRope_NoRope, fun _ x hx => ?_, (fun z => nomatch z)⟩⟩
      walk_at "st"
      refine Pm.w_newT (fun t ht => ?_)
      exact no (step_turn_no z) s1 ht
    · walk_at "st"
      refine Pm.w_newT (fun t ht => ?_)
      exact yes (step_turn_yes z) r1 r2 M' hu ht
end
section
variable {P : Program} {w : World} {K : PySem.W.Frag} {mg : Str → Option Value} {base : Heap}
theorem LenD.tree {H : Hp} {d : Addr} {n : Nat} {cut : List IP} {t t' : Tr} {D : Nat → Nat → Rat} (h : LenD K H d t D) (C : Cutting n cut t) (C' : Cutting n cut t') : LenD K H d t' D := by
  have e : ∀ q, q ∈ t.all 0 ↔ q ∈ t'.all 0 := fun q => by
    obtain ⟨a, b⟩ := q
    rw [← C.tied, C'.tied]
  obtain ⟨ks, L, h1, h2, h3⟩ := h
  refine ⟨ks, L, h1, fun p => by rw [h2]; exact ⟨fun ⟨q, a, b⟩ => ⟨q, (e q).mp a, b⟩, fun ⟨q, a, b⟩ => ⟨q, (e q).mpr a, b⟩⟩, fun q hq => h3 q ((e q).mpr hq)⟩
/-- two dicts of the same lengths -/
theorem len_dict {H : Hp} {Q : VK} {E : XK} {f d : Addr} {vs : List V} {n F B : Nat} {cut : List IP} {t : Tr} {D : Nat → Nat → Rat} (C : Cutting n cut t) (hf : LenD K H f t D) (hd : LenD K H d t D) (ne : f ≠ d) (Z : Bd n D F B) (hB : B ≤ 9000) (ev : vs = [.ref f, .ref d]) (q : ∀ H', Same H H' → Q (.bl true) H') : spLDict K vs H Q E := by
  obtain ⟨kf, Lf, h1, h2, h3⟩ := hf
  obtain ⟨kd, Ld, g1, g2, g3⟩ := hd
  refine ⟨f, d, kf, kd, Lf, Ld, fun p => D p.1.toNat p.2.toNat, B, ev, h1, g1, ne, fun p => by rw [h2, g2], fun p hp => ?_, hB, q⟩
  obtain ⟨⟨x, y⟩, hq, rfl⟩ := (g2 p).mp hp
  have := Tr.bd hq
  have := C.w
  refine ⟨h3 _ hq, g3 _ hq, ?_⟩
  exact Z.rb (i := x) (k := y) (by simp only at *; omega) (by simp only at *; omega)
/-- the fractions of an answer -/
def Outc.rbs (o : Outc) (B : Nat) : Prop := match o with
  | .yes _ (.two x y) => rb x B ∧ rb y B
  | _ => True
/-- which deed an answer belongs to -/
def Outc.fits (o : Outc) (d : Deed) : Prop := match o, d with
  | .yes _ (.pair _), .turn _ _ => True
  | .yes _ .non, .stretch _ _ => True
  | .yes _ (.num _), .set _ _ _ => True
  | .yes _ (.two _ _), .draw _ => True
  | .no _, _ => True
  | _, _ => False
theorem step_fits (S : Ms) (d : Deed) : (step S d).fits d := by
  cases d <;> unfold step <;> dsimp only <;> split <;> (try split) <;> (try split) <;> trivial
def spLAnswer (K : PySem.W.Frag) : Sp := fun vs H Q _ => ∃ (f d dv : V) (o : Outc) (dd : Deed) (B : Nat), vs = [f, d, dv] ∧ RepAt K H f o ∧ RepAt K H d o ∧ DeedAt K H dv dd ∧ o.fits dd ∧ o.rbs B ∧ B ≤ 9000 ∧ ∀ H', Same H H' → Q (.bl true) H'
theorem eqv_no (j : Nat) : PyData.eqv (.tuple [.str "no", .int j]) (.tuple [.str "no", .int j]) = true := by
  refine SeqAt.eqv_refl _ ?_
  simp only [PyData.canLay0, PyData.canLayAll0, Bool.and_true]
  decide +kernel
theorem shaped_no (j : Nat) : SeqAt.shaped (.tuple [.str "no", .int j]) = true := by
  show ((PyData.tuple [.str "no", .int j]).canLay0 && decide ((PyData.tuple [.str "no", .int j]).depth ≤ 64)) = true
  have h1 : (PyData.tuple [.str "no", .int j]).canLay0 = true := by
    simp only [PyData.canLay0, PyData.canLayAll0, Bool.and_true]
    decide +kernel
  rw [h1, Bool.true_and]
  simp only [PyData.depth, PyData.depthAll]
  rfl
theorem ok_law_answer (T : Tx K mg) : FnOk P w K mg base CX0 4 T.a_law_answer T.fd_law_answer (["_law_found", "_law_due", "_law_deed"]) (spLAnswer K) := by
  refine T.F_law_answer.ok sc_law_answer (fun vs H Q E h => ?_) (fun cdv A outer s H vs Q E hr h => ?_)
  · obtain ⟨f, d, dv, o, dd, B, rfl, _⟩ := h
    rfl
  obtain ⟨f, d, dv, o, dd, B, rfl, hf, hd, hdv, hfit, hB, hB9, q⟩ := h
  refine ⟨_, (pss_cons (ps_if (PW.pt (pw_or (pt_cmpR op_ne (pe_ix (ix_tupK (K := K)) (pv 0) (pe_int) (fun _ _ => rfl)) (pe_ix (ix_tupK (K := K)) (pv 1) (pe_int) (fun _ _ => rfl)) (nomark _)) (pw_or1 (pt_cmpR op_eq (pe_ix (ix_tupK (K := K)) (pv 1) (pe_int) (fun _ _ => rfl)) (pe_str) (nomark _))))) (pss_one (ps_ret (pe_cmpR (op_eqDK (K := K) hr.units) (pv 0) (pv 1) (nomark _)))) pss_nil)
      (pss_cons (ps_if (pt_cmpR op_eq (pe_ix (ix_tupK (K := K)) (pv 2) (pe_int) (fun _ _ => rfl)) (pe_str) (nomark _)) (pss_one (ps_ret ((pe_and (pe_call (ok_law_whole T) (hr.mono (by decide)) (by rfl) T.g_law_whole T.F_law_whole.kp T.b_law_whole .nil pass0 (pa_cons (pe_ix (ix_tupK (K := K)) (pv 0) (pe_int) (fun _ _ => rfl)) pa_nil)) (pe_one (pe_cmpR (op_eqDK (K := K) hr.units) (pe_ix (ix_tupK (K := K)) (pv 0) (pe_int) (fun _ _ => rfl)) (pe_ix (ix_tupK (K := K)) (pv 1) (pe_int) (fun _ _ => rfl)) (nomark _))))))) pss_nil)
      (pss_cons (ps_if (pt_cmpR op_eq (pe_ix (ix_tupK (K := K)) (pv 2) (pe_int) (fun _ _ => rfl)) (pe_str) (nomark _)) (pss_one (ps_ret (pe_cmpR op_isNK (pe_ix (ix_tupK (K := K)) (pv 0) (pe_int) (fun _ _ => rfl)) (pe_non) (nomark _)))) pss_nil)
      (pss_cons (ps_if (pt_cmpR op_eq (pe_ix (ix_tupK (K := K)) (pv 2) (pe_int) (fun _ _ => rfl)) (pe_str) (nomark _)) (pss_cons (ps_if (PW.pt (pw_or (pt_not (pt_val (pe_callB (call_isK (K := K)) (by rfl) T.m_isinstance (by decide +kernel) (pa_cons (pe_ix (ix_tupK (K := K)) (pv 0) (pe_int) (fun _ _ => rfl)) (pa_cons (pe_bltn (v := .ty "tuple") (by rfl) T.m_tuple (by decide +kernel) rfl) pa_nil))))) (pw_or1 (pt_cmpR op_ne (pe_callB (c_len (K := K)) (by rfl) T.m_len PySem.boot_len (pa_cons (pe_ix (ix_tupK (K := K)) (pv 0) (pe_int) (fun _ _ => rfl)) pa_nil)) (pe_int) (nomark _))))) (pss_one (ps_ret (pe_bl))) pss_nil)
      (pss_one (ps_ret (pe_call (ok_law_parts T) (hr.mono (by decide)) (by rfl) T.g_law_parts T.F_law_parts.kp T.b_law_parts .nil pass0 (pa_cons (pe_callTy (c_listOf (K := K)) (by rfl) T.m_list (by decide +kernel) (pa_cons (pe_ix (ix_tupK (K := K)) (pv 0) (pe_int) (fun _ _ => rfl)) pa_nil)) (pa_cons (pe_callTy (c_listOf (K := K)) (by rfl) T.m_list (by decide +kernel) (pa_cons (pe_ix (ix_tupK (K := K)) (pv 1) (pe_int) (fun _ _ => rfl)) pa_nil)) pa_nil)))))) pss_nil)
      (pss_one (ps_ret ((pe_and (pe_call (ok_law_tuple T) (hr.mono (by decide)) (by rfl) T.g_law_tuple T.F_law_tuple.kp T.b_law_tuple .nil pass0 (pa_cons (pe_ix (ix_tupK (K := K)) (pv 0) (pe_int) (fun _ _ => rfl)) (pa_cons (pe_int) pa_nil))) (pe_one (pe_cmpR (op_eqDK (K := K) hr.units) (pe_ix (ix_tupK (K := K)) (pv 0) (pe_int) (fun _ _ => rfl)) (pe_ix (ix_tupK (K := K)) (pv 1) (pe_int) (fun _ _ => rfl)) (nomark _))))))))))), ?_⟩
  walk_at "st"
  cases o with
  | no j =>
    obtain ⟨t1, rfl, h1⟩ := hf
    obtain ⟨t2, rfl, h2⟩ := hd
    refine Pm.w_ixT (SqT.of h1) rfl ?_
    walk_at "st"
    refine Pm.w_ixT (SqT.of h2) rfl ?_
    walk_at "st"
    rw [decide_eq_true rfl]
    walk_at "st"
    refine Pm.w_ixT (SqT.of h2) rfl ?_
    walk_at "st"
    rw [decide_eq_true rfl]
    walk_at "st"
    refine ⟨_, _, .tup (SqT.of h1) (.cons (.str _) (.cons (.int _) .nil)), .tup (SqT.of h2) (.cons (.str _) (.cons (.int _) .nil)), shaped_no j, shaped_no j, ?_⟩
    rw [eqv_no]
    exact q _ (Same.refl _)
  | yes S a =>
    obtain ⟨t1, x1, rfl, h1, g1⟩ := hf
    obtain ⟨t2, x2, rfl, h2, g2⟩ := hd
    refine Pm.w_ixT (SqT.of h1) rfl ?_
    walk_at "st"
    refine Pm.w_ixT (SqT.of h2) rfl ?_
    walk_at "st"
    rw [decide_eq_true rfl]
    walk_at "st"
    refine Pm.w_ixT (SqT.of h2) rfl ?_
    walk_at "st"
    rw [decide_eq_false s_yn]
    walk_at "st"
    cases dd with
    | set k x y =>
      cases a with
      | num n =>
        obtain ⟨tt, u, v, rfl, e0, e1, e2⟩ := hdv
        have g1 : x1 = .int n := g1
        have g2 : x2 = .int n := g2
        subst g1 g2
        refine Pm.w_ixT (SqT.of e0) rfl ?_
        walk_at "st"
        rw [decide_eq_true rfl]
        walk_at "st"
        refine Pm.w_ixT (SqT.of h1) rfl ?_
        walk_at "st"
        refine ⟨_, rfl, ?_⟩
        walk_at "st"
        refine Pm.w_ixT (SqT.of h1) rfl ?_
        walk_at "st"
        refine Pm.w_ixT (SqT.of h2) rfl ?_
        refine ⟨.int n, .int n, .int n, .int n, rfl, rfl, ?_⟩
        rw [show PyData.eqv (.int n) (.int n) = true from SeqAt.eqv_refl _ rfl]
        exact q _ (Same.refl _)
      | pair p => exact hfit.elim
      | non => exact hfit.elim
      | two x y => exact hfit.elim
    | draw p =>
      cases a with
      | num n => exact hfit.elim
      | pair p => exact hfit.elim
      | non => exact hfit.elim
      | two x y =>
        obtain ⟨tt, rfl, e0⟩ := hdv
        obtain ⟨u, u1, u2, rfl, k1, k2, k3⟩ := g1
        obtain ⟨v, v1, v2, rfl, l1, l2, l3⟩ := g2
        refine Pm.w_ixT (SqT.of e0) rfl ?_
        walk_at "st"
        rw [decide_eq_false s_ds]
        walk_at "st"
        refine Pm.w_ixT (SqT.of e0) rfl ?_
        walk_at "st"
        rw [decide_eq_false s_dh]
        walk_at "st"
        refine Pm.w_ixT (SqT.of e0) rfl ?_
        walk_at "st"
        rw [decide_eq_true rfl]
        walk_at "st"
        refine Pm.w_ixT (SqT.of h1) rfl ?_
        walk_at "st"
        refine Pm.w_isiTup (SqT.of k1) (b := true) (by decide +kernel) ?_
        walk_at "st"
        refine Pm.w_ixT (SqT.of h1) rfl ?_
        walk_at "st"
        refine Pm.w_lenT (SqT.of k1) ?_
        walk_at "st"
        refine Pm.w_iteN (fun z => absurd rfl z) (fun _ => ?_)
        walk_at "st"
        refine Pm.w_ixT (SqT.of h1) rfl ?_
        walk_at "st"
        refine ⟨u, _, rfl, .inr (SqT.of k1), fun y1 hy1 => ?_⟩
        have s1 := same_new hy1 (.lst [.ref u1, .ref u2])
        walk_at "st"
        refine Pm.w_ixT (SqT.of (s1 _ _ h2)) rfl ?_
        walk_at "st"
        refine ⟨v, _, rfl, .inr (SqT.of (s1 _ _ l1)), fun y2 hy2 => ?_⟩
        have s2 := same_new hy2 (.lst [.ref v1, .ref v2])
        have s12 := s1.trans s2
        walk_at "st"
        refine ⟨y1, y2, [x, y], B, rfl, ⟨_, s2 _ _ upd_same, ?_⟩, ⟨_, upd_same, ?_⟩, by show 2 ≤ 1000; decide, ?_, hB9, fun H' s' => ?_⟩
        · exact ⟨k2.keep (keeps s12), k3.keep (keeps s12), trivial⟩
        · exact ⟨l2.keep (keeps s12), l3.keep (keeps s12), trivial⟩
        · intro r hr
          rcases List.mem_cons.mp hr with rfl | hr
          · exact hB.1
          · rw [List.mem_singleton.mp hr]; exact hB.2
        · exact q _ (s12.trans s')
    | stretch p f =>
      cases a with
      | num n => exact hfit.elim
      | pair p => exact hfit.elim
      | two x y => exact hfit.elim
      | non =>
        obtain ⟨tt, u, rfl, e0, e1⟩ := hdv
        have g1 : x1 = .non := g1
        subst g1
        refine Pm.w_ixT (SqT.of e0) rfl ?_
        walk_at "st"
        rw [decide_eq_false s_hs]
        walk_at "st"
        refine Pm.w_ixT (SqT.of e0) rfl ?_
        walk_at "st"
        rw [decide_eq_true rfl]
        walk_at "st"
        refine Pm.w_ixT (SqT.of h1) rfl ?_
        walk_at "st"
        refine Pm.w_isN_non ?_
        exact q _ (Same.refl _)
    | turn a' b' =>
      cases a with
      | num n => exact hfit.elim
      | non => exact hfit.elim
      | two x y => exact hfit.elim
      | pair pp =>
        obtain ⟨tt, rfl, e0⟩ := hdv
        obtain ⟨u, rfl, hu⟩ := g1
        obtain ⟨v, rfl, hv⟩ := g2
        refine Pm.w_ixT (SqT.of e0) rfl ?_
        walk_at "st"
        rw [decide_eq_false s_ts]
        walk_at "st"
        refine Pm.w_ixT (SqT.of e0) rfl ?_
        walk_at "st"
        rw [decide_eq_false s_tt]
        walk_at "st"
        refine Pm.w_ixT (SqT.of e0) rfl ?_
        walk_at "st"
        rw [decide_eq_false s_td]
        walk_at "st"
        refine Pm.w_ixT (SqT.of h1) rfl ?_
        walk_at "st"
        refine ⟨u, [pp.1, pp.2], rfl, SqT.of hu, ?_⟩
        walk_at "st"
        refine Pm.w_ixT (SqT.of h1) rfl ?_
        walk_at "st"
        refine Pm.w_ixT (SqT.of h2) rfl ?_
        refine Pm.w_eqP ⟨u, rfl, hu⟩ ⟨v, rfl, hv⟩ ?_
        rw [decide_eq_true rfl]
        exact q _ (Same.refl _)
def spIsAt (K : PySem.W.Frag) (C : Addr) : Sp := fun vs H Q _ => ∃ (p z c d : Addr) (H0 Hs : Hp) (S : Ms) (P A : List (Deed × Ms)) (B : Nat), vs = [.ref p, .ref z] ∧ MeadAt K C H0 Hs H p S P A ∧ StA K H0 z c d S ∧ Ok S B ∧ B ≤ 9000 ∧ ∀ H', Same H H' → Q (.bl true) H'
theorem ok_law_is_at (T : Tx K mg) : FnOk P w K mg base CX0 4 T.a_law_is_at T.fd_law_is_at (["_law_mead", "_law_state"]) (spIsAt K T.c_Mead) := by
  refine T.F_law_is_at.ok sc_law_is_at (fun vs H Q E h => ?_) (fun cdv A outer s H vs Q E hr h => ?_)
  · obtain ⟨p, z, c, d, H0, Hs, S, P, A, B, rfl, _⟩ := h
    rfl
  obtain ⟨p, z, c0, d0, H0, Hs, S, P, A, B, rfl, M, hst, ⟨n12, t, L, F, C, Mm, Z⟩, hB, q⟩ := h
  obtain ⟨hz, hc0, hd0⟩ := id hst
  obtain ⟨dx, lp, la, c, d, vs, us, p0, l0, a0, ps, ls, as, nla, hp, hlp, hla, hc, hd, hP, hA⟩ := M.ex
  have lno : ∀ {k : Str}, (k == "cut") = false → (k == "many") = false → (k == "sized") = false → (k == "past") = false → (k == "ahead") = false → (mf (.ref c) (.int S.n) (.ref d) (.ref lp) (.ref la)).lookup k = none := fun h1 h2 h3 h4 h5 => mf_no _ _ _ _ _ h1 h2 h3 h4 h5
  refine ⟨_, (pss_cons (ps_set (i := 2) sc_law_is_at.nd rfl (.inl rfl) (pe_meth0 (pv 0) T.cl_Mead T.M_Mead_posts (ok_Mead_posts T) (hr.mono (by decide)) T.b_Mead_posts .nil pass0 ))
      (pss_cons (ps_if (PW.pt (pw_or (pt_not (pt_val (pe_call (ok_law_whole T) (hr.mono (by decide)) (by rfl) T.g_law_whole T.F_law_whole.kp T.b_law_whole .nil pass0 (pa_cons (pv 2) pa_nil)))) (pw_or1 (pt_cmpR op_ne (pv 2) (pe_ix (ix_tupK (K := K)) (pv 1) (pe_int) (fun _ _ => rfl)) (nomark _))))) (pss_one (ps_ret (pe_bl))) pss_nil)
      (pss_cons (ps_set (i := 3) sc_law_is_at.nd rfl (.inl rfl) (pe_meth0 (pv 0) T.cl_Mead T.M_Mead_ropes (ok_Mead_ropes T) (hr.mono (by decide)) T.b_Mead_ropes .nil pass0 ))
      (pss_cons (ps_if (PW.pt (pw_or (pt_not (pt_val (pe_call (ok_law_list T) (hr.mono (by decide)) (by rfl) T.g_law_list T.F_law_list.kp T.b_law_list .nil pass0 (pa_cons (pv 3) (pa_cons (pe_int) pa_nil))))) (pw_or1 (pt_cmpR (op_neDK (K := K) hr.units) (pv 3) (pe_ix (ix_tupK (K := K)) (pv 1) (pe_int) (fun _ _ => rfl)) (nomark _))))) (pss_one (ps_ret (pe_bl))) pss_nil)
      (pss_one (ps_ret (pe_call (ok_law_dict T) (hr.mono (by decide)) (by rfl) T.g_law_dict T.F_law_dict.kp T.b_law_dict .nil pass0 (pa_cons (pe_meth0 (pv 0) T.cl_Mead T.M_Mead_lengths (ok_Mead_lengths T) (hr.mono (by decide)) T.b_Mead_lengths .nil pass0 ) (pa_cons (pe_ix (ix_tupK (K := K)) (pv 1) (pe_int) (fun _ _ => rfl)) pa_nil))))))))), ?_⟩
  walk_at "st"
  refine w_methAt hp (lno (by decide +kernel) (by decide +kernel) (by decide +kernel) (by decide +kernel) (by decide +kernel)) ?_
  walk_at "st"
  refine ⟨p, H0, Hs, S, P, A, rfl, M, ?_⟩
  walk_at "st"
  refine ⟨_, rfl, ?_⟩
  walk_at "st"
  refine Pm.w_ixT (SqT.of (M.s0 _ _ hz)) rfl ?_
  walk_at "st"
  refine Pm.w_iteN (fun z => absurd rfl z) (fun _ => ?_)
  walk_at "st"
  refine w_methAt hp (lno (by decide +kernel) (by decide +kernel) (by decide +kernel) (by decide +kernel) (by decide +kernel)) ?_
  walk_at "st"
  refine ⟨p, H0, Hs, S, P, A, rfl, M, fun l H1 s1 nl hl => ?_⟩
  obtain ⟨lv, hlv, hplv⟩ := id hl
  obtain ⟨cv, hcv, hpcv⟩ := (hc0.same M.s0).same s1
  walk_at "st"
  refine ⟨l, lv, 2, rfl, SqL.of hlv, fun x hx => ?_, ?_⟩
  · obtain ⟨pp, _, u, rfl, hu⟩ := hplv.mem hx
    exact ⟨u, [pp.1, pp.2], rfl, SqT.of hu, rfl⟩
  walk_at "st"
  refine Pm.w_ixT (SqT.of (s1 _ _ (M.s0 _ _ hz))) rfl ?_
  refine Pm.w_nePL (SqL.of hlv) hplv (SqL.of hcv) hpcv ?_
  walk_at "st"
  refine Pm.w_iteN (fun z => absurd rfl z) (fun _ => ?_)
  walk_at "st"
  obtain ⟨H0', Hs', g1, g2, M1, f1⟩ := M.grow s1
  have hp1 := s1 _ _ hp
  refine w_methAt hp1 (lno (by decide +kernel) (by decide +kernel) (by decide +kernel) (by decide +kernel) (by decide +kernel)) ?_
  walk_at "st"
  refine ⟨p, H0', Hs', S, P, A, rfl, M1, fun g H2 s2 ng hg => ?_⟩
  have s12 := s1.trans s2
  walk_at "st"
  refine Pm.w_ixT (SqT.of (s12 _ _ (M.s0 _ _ hz))) rfl ?_
  walk_at "st"
  have hd2 := (hd0.same M.s0).same s12
  refine len_dict C (hg.len C) (hd2.len C) ?_ Z hB rfl (fun H3 s3 => q _ (s12.trans s3))
  obtain ⟨_, ⟨_, xs, h, _⟩, _⟩ := (hd0.same M.s0).same s1
  exact (ne_of_none h ng).symm
def spToldAs (K : PySem.W.Frag) : Sp := fun vs H Q _ => ∃ (dv : V) (d : Deed), vs = [dv] ∧ DeedAt K H dv d ∧ ∀ (v : V) (H' : Hp), Same H H' → DeedAt K H' v d.told → Q v H'
theorem ok_law_told_as (T : Tx K mg) : FnOk P w K mg base CX0 1 T.a_law_told_as T.fd_law_told_as (["_law_deed"]) (spToldAs K) := by
  refine T.F_law_told_as.ok sc_law_told_as (fun vs H Q E h => ?_) (fun cdv A outer s H vs Q E hr h => ?_)
  · obtain ⟨dv, d, rfl, _⟩ := h
    rfl
  obtain ⟨dv, dd, rfl, hdv, q⟩ := h
  refine ⟨_, (pss_cons (ps_if (pt_cmpR op_eq (pe_ix (ix_tupK (K := K)) (pv 0) (pe_int) (fun _ _ => rfl)) (pe_str) (nomark _)) (pss_one (ps_ret (pe_tup (pa_cons (pe_str) (pa_cons (pe_callB (c_min rfl) (by rfl) T.m_min (by decide +kernel) (pa_cons (pe_ix (ix_tupK (K := K)) (pv 0) (pe_int) (fun _ _ => rfl)) (pa_cons (pe_ix (ix_tupK (K := K)) (pv 0) (pe_int) (fun _ _ => rfl)) pa_nil))) (pa_cons (pe_callB (c_max rfl) (by rfl) T.m_max (by decide +kernel) (pa_cons (pe_ix (ix_tupK (K := K)) (pv 0) (pe_int) (fun _ _ => rfl)) (pa_cons (pe_ix (ix_tupK (K := K)) (pv 0) (pe_int) (fun _ _ => rfl)) pa_nil))) pa_nil)))))) pss_nil)
      (pss_one (ps_ret (pv 0)))), ?_⟩
  walk_at "st"
  cases dd with
  | turn a b =>
    obtain ⟨tt, rfl, e0⟩ := hdv
    refine Pm.w_ixT (SqT.of e0) rfl ?_
    walk_at "st"
    rw [decide_eq_true rfl]
    walk_at "st"
    refine Pm.w_ixT (SqT.of e0) rfl ?_
    walk_at "st"
    refine Pm.w_ixT (SqT.of e0) rfl ?_
    walk_at "st"
    refine Pm.w_ixT (SqT.of e0) rfl ?_
    walk_at "st"
    refine Pm.w_ixT (SqT.of e0) rfl ?_
    walk_at "st"
    refine Pm.w_newT (fun t ht => ?_)
    exact q _ _ (same_new ht _) ⟨t, rfl, upd_same⟩
  | stretch p f =>
    obtain ⟨tt, u, rfl, e0, e1⟩ := id hdv
    refine Pm.w_ixT (SqT.of e0) rfl ?_
    walk_at "st"
    rw [decide_eq_false s_ht]
    walk_at "st"
    exact q _ _ (Same.refl _) hdv
  | set k x y =>
    obtain ⟨tt, u, v, rfl, e0, e1, e2⟩ := id hdv
    refine Pm.w_ixT (SqT.of e0) rfl ?_
    walk_at "st"
    rw [decide_eq_false s_st]
    walk_at "st"
    exact q _ _ (Same.refl _) hdv
  | draw p =>
    obtain ⟨tt, rfl, e0⟩ := id hdv
    refine Pm.w_ixT (SqT.of e0) rfl ?_
    walk_at "st"
    rw [decide_eq_false s_dt]
    walk_at "st"
    exact q _ _ (Same.refl _) hdv
def spSameDeeds (K : PySem.W.Frag) : Sp := fun vs H Q _ => ∃ (f d : Addr) (fs ds : List V) (l : List Deed), vs = [.ref f, .ref d] ∧ H f = some (.lst fs) ∧ H d = some (.lst ds) ∧ All2 (DeedAt K H) fs l ∧ All2 (DeedAt K H) ds l ∧ l.length ≤ 1000 ∧ Q (.bl true) H
theorem ok_law_same_deeds (T : Tx K mg) : FnOk P w K mg base CX0 1 T.a_law_same_deeds T.fd_law_same_deeds (["_law_found", "_law_due"]) (spSameDeeds K) := by
  refine T.F_law_same_deeds.ok sc_law_same_deeds (fun vs H Q E h => ?_) (fun cdv A outer s H vs Q E hr h => ?_)
  · obtain ⟨f, d, fs, ds, l, rfl, _⟩ := h
    rfl
  obtain ⟨f, d, fs, ds, l, rfl, hf, hd, af, ad, ll, q⟩ := h
  have lf := af.length
  have ld := ad.length
  refine ⟨_, (pss_cons (ps_if (PW.pt (pw_or (pt_not (pt_val (pe_callB (call_isK (K := K)) (by rfl) T.m_isinstance (by decide +kernel) (pa_cons (pv 0) (pa_cons (pe_bltn (v := .ty "list") (by rfl) T.m_list (by decide +kernel) rfl) pa_nil))))) (pw_or1 (pt_cmpR op_ne (pe_callB (c_len (K := K)) (by rfl) T.m_len PySem.boot_len (pa_cons (pv 0) pa_nil)) (pe_callB (c_len (K := K)) (by rfl) T.m_len PySem.boot_len (pa_cons (pv 1) pa_nil)) (nomark _))))) (pss_one (ps_ret (pe_bl))) pss_nil)
      (pss_cons (ps_for PassesOwn.never rfl (pi_range1 (by rfl) T.m_range (pa_cons (pe_callB (c_len (K := K)) (by rfl) T.m_len PySem.boot_len (pa_cons (pv 1) pa_nil)) pa_nil)) (pg_name (i := 2) sc_law_same_deeds.nd rfl (.inl rfl)) (pss_one (ps_if (PW.pt (pw_or (pt_not (pt_val (pe_callB (call_isK (K := K)) (by rfl) T.m_isinstance (by decide +kernel) (pa_cons (pe_ix (ix_listK (K := K)) (pv 0) (pv 2) (fun _ _ => rfl)) (pa_cons (pe_bltn (v := .ty "tuple") (by rfl) T.m_tuple (by decide +kernel) rfl) pa_nil))))) (pw_or1 (pt_cmpR (op_neDK (K := K) hr.units) (pe_ix (ix_listK (K := K)) (pv 0) (pv 2) (fun _ _ => rfl)) (pe_ix (ix_listK (K := K)) (pv 1) (pv 2) (fun _ _ => rfl)) (nomark _))))) (pss_one (ps_ret (pe_bl))) pss_nil)))
      (pss_one (ps_ret (pe_bl))))), ?_⟩
  walk_at "st"
  refine Pm.w_isiLst (SqL.of hf) (b := true) (by decide +kernel) ?_
  walk_at "st"
  refine Pm.w_lenL (SqL.of hf) ?_
  walk_at "st"
  refine Pm.w_lenL (SqL.of hd) ?_
  walk_at "st"
  refine Pm.w_iteN (fun z => absurd (by rw [lf, ld]) z) (fun _ => ?_)
  walk_at "st"
  refine Pm.w_lenL (SqL.of hd) ?_
  walk_at "st"
  refine Pm.w_forR (fun i σ H' => ∃ x, σ = [some (.ref f), some (.ref d), x] ∧ H' = H) ⟨_, rfl, rfl⟩ ?_ ?_
  · rintro i σ H' hi ⟨x, rfl, rfl⟩
    have hi : i < ds.length := by omega
    rw [Int.zero_add]
    obtain ⟨dd, hdd, h1⟩ := ad.get (List.getElem?_eq_getElem hi)
    obtain ⟨fv, hfv, h2⟩ := af.get' hdd
    have hA : atI fs (i : Int) = some fv := atI_nat hfv
    have hD : atI ds (i : Int) = some ds[i] := atI_nat (List.getElem?_eq_getElem hi)
    obtain ⟨tf, xs, rfl, htf⟩ := h2.tup
    walk_at "st"
    refine Pm.w_ixL (SqL.of hf) hA ?_
    walk_at "st"
    refine Pm.w_isiTup (SqT.of htf) (b := true) (by decide +kernel) ?_
    walk_at "st"
    refine Pm.w_ixL (SqL.of hf) hA ?_
    walk_at "st"
    refine Pm.w_ixL (SqL.of hd) hD ?_
    refine ⟨_, _, h2.dp, h1.dp, dd.shaped, dd.shaped, ?_⟩
    rw [dd.eqv]
    walk_at "st"
    exact ⟨_, rfl, rfl⟩
  · rintro σ H' ⟨x, rfl, rfl⟩
    walk_at "st"
    exact q
end
section
variable {P : Program} {w : World} {K : PySem.W.Frag} {mg : Str → Option Value} {base : Heap}
/-- what drawn lengths of a cutting measure -/
theorem drawn_len {n : Nat} {cut : List IP} {t : Tr} (C : Cutting n cut t) (n12 : n ≤ 12) {ks : List IP} {R : IP → Rat} (hks : ∀ p, p ∈ ks ↔ p ∈ tiesL n cut) (hsz : ∀ p ∈ tiesL n cut, szd (R p) 1024 128) :
    ∃ (L : Len) (D : Nat → Nat → Rat) (F : Nat), Meas n t L D ∧ Bd n D F 550 ∧ ∀ (K : PySem.W.Frag) (H : Hp) (d : Addr), LD K H d ks (fun k => rp (R k)) → LenD K H d t D := by
  have hL : ∀ p ∈ t.all 0, szd (R (castP p)) 1024 128 := fun p hp => hsz _ (C.ties.mpr ⟨p, hp, rfl⟩)
  have M := meas_mt (L := fun p => R (castP p)) C.w (fun p hp => (hL p hp).1)
  obtain ⟨F, Z⟩ := meas_bd (L := fun p => R (castP p)) C.w n12 hL
  refine ⟨_, _, F, M, Z, fun K H d h => ⟨ks, _, h, fun p => by rw [hks]; exact C.ties, fun q hq => ?_⟩⟩
  rw [M.tie hq]
theorem Cutting.ties_len {n : Nat} {cut : List IP} {t : Tr} (C : Cutting n cut t) : (tiesL n cut).length = 2 * n - 3 := by
  have := C.cut_len
  have := C.n3
  rw [tiesL, sortP_len, List.length_append, sides0_len (by omega)]
  omega
theorem small_tie {n : Nat} {cut : List IP} {t : Tr} (C : Cutting n cut t) (n12 : n ≤ 12) {p : IP} (h : p ∈ tiesL n cut) : smallP p := by
  obtain ⟨q, hq, rfl⟩ := C.ties.mp h
  have := Tr.bd hq
  have := C.w
  unfold smallP castP
  simp only
  omega
theorem mat_rat (n : Nat) (g : Nat → Nat → Rat) : mat n (fun i k => rp (g i k)) = ((List.range n).map fun i => (List.range n).map fun k => g i k).map (·.map rp) := by
  unfold mat
  rw [List.map_map]
  refine List.map_congr_left fun i _ => ?_
  show _ = List.map rp (List.map _ _)
  rw [List.map_map]
  rfl
/-- the numbers of a table -/
def tabR (D : Nat → Nat → Rat) (i k : Nat) : Rat := if i = k then 0 else D (min i k) (max i k)
theorem rb_zero {B : Nat} (h : 1 ≤ B) : rb 0 B := by
  have : 1 < 2 ^ B := Nat.one_lt_two_pow (by omega)
  exact ⟨by show (0 : Nat) < 2 ^ B; omega, this⟩
theorem tabR_rb {n F B : Nat} {D : Nat → Nat → Rat} (Z : Bd n D F B) (hB : 1 ≤ B) {i k : Nat} (hi : i < n) (hk : k < n) : rb (tabR D i k) B := by
  unfold tabR
  split
  · exact rb_zero hB
  · exact Z.rb (by omega) (by omega)
theorem rows_bd {n B : Nat} {g : Nat → Nat → Rat} (hn : n ≤ 1000) (h : ∀ i k, i < n → k < n → rb (g i k) B) : ((List.range n).map fun i => (List.range n).map fun k => g i k).length ≤ 1000 ∧ ∀ r ∈ ((List.range n).map fun i => (List.range n).map fun k => g i k), r.length ≤ 1000 ∧ ∀ x ∈ r, rb x B := by
  refine ⟨by rw [List.length_map, List.length_range]; exact hn, fun r hr => ?_⟩
  obtain ⟨i, hi, rfl⟩ := List.mem_map.mp hr
  refine ⟨by rw [List.length_map, List.length_range]; exact hn, fun x hx => ?_⟩
  obtain ⟨k, hk, rfl⟩ := List.mem_map.mp hx
  exact h i k (List.mem_range.mp hi) (List.mem_range.mp hk)
theorem tabR_of {n : Nat} {S : Nat → V2} {D : Nat → Nat → Rat} (h : ∀ i k, i < n → k < n → det (S i) (S k) = D i k) : mat n (sprd S) = ((List.range n).map fun i => (List.range n).map fun k => tabR D i k).map (·.map rp) := by
  rw [← mat_rat]
  refine mat_congr fun i k hi hk => ?_
  unfold sprd tabR
  rw [h _ _ (by omega) (by omega)]
theorem LD.ne_list {K : PySem.W.Frag} {H : Hp} {d l : Addr} {ks : List IP} {L : IP → IP} {xs : List V} (h : LD K H d ks L) (hl : H l = some (.lst xs)) : d ≠ l := by
  obtain ⟨_, es, h1, _⟩ := h
  exact ne_of h1 hl (fun z => nomatch z)
theorem szd_rb {r : Rat} (h : szd r 1024 128) : rb r 11 := by
  obtain ⟨_, h1, h2⟩ := h
  exact ⟨by omega, by omega⟩
theorem drawn_len' {n : Nat} {cut : List IP} {t : Tr} (C : Cutting n cut t) (n12 : n ≤ 12) {ks : List IP} {R : IP → Rat} (hks : ∀ p, p ∈ ks ↔ p ∈ tiesL n cut) (hsz : ∀ p ∈ tiesL n cut, szd (R p) 1024 128) :
    ∃ (L : Len) (D : Nat → Nat → Rat) (F : Nat), Meas n t L D ∧ Bd n D F 550 ∧ (∀ q ∈ t.all 0, D q.1 q.2 = R (castP q)) ∧ ∀ (K : PySem.W.Frag) (H : Hp) (d : Addr), LD K H d ks (fun k => rp (R k)) → LenD K H d t D := by
  have hL : ∀ p ∈ t.all 0, szd (R (castP p)) 1024 128 := fun p hp => hsz _ (C.ties.mpr ⟨p, hp, rfl⟩)
  have M := meas_mt (L := fun p => R (castP p)) C.w (fun p hp => (hL p hp).1)
  obtain ⟨F, Z⟩ := meas_bd (L := fun p => R (castP p)) C.w n12 hL
  refine ⟨_, _, F, M, Z, fun q hq => M.tie hq, fun K H d h => ⟨ks, _, h, fun p => by rw [hks]; exact C.ties, fun q hq => ?_⟩⟩
  rw [M.tie hq]
/-- the lengths of the ties have few figures -/
def TieB (S : Ms) (b : Nat) : Prop := ∀ p ∈ tiesL S.n S.cut, rb (S.D p.1.toNat p.2.toNat) b
def spStart (K : PySem.W.Frag) : Sp := fun vs H Q _ => ∃ (r : Addr) (row : List Int), vs = [.ref r] ∧ SqL K H r (row.map V.int) ∧ 33 ≤ row.length ∧ (∀ x ∈ row, 0 ≤ x) ∧ ∀ (z c d : Addr) (H' : Hp) (S : Ms), Same H H' → H z = none → H c = none → H d = none → StA K H' z c d S → Ok S 550 → TieB S 11 → Q (.ref z) H'
theorem ok_law_start (T : Tx K mg) : FnOk P w K mg base CX0 4 T.a_law_start T.fd_law_start (["_law_row"]) (spStart K) := by
  refine T.F_law_start.ok sc_law_start (fun vs H Q E h => ?_) (fun cdv A outer s H vs Q E hr h => ?_)
  · obtain ⟨r, row, rfl, _⟩ := h
    rfl
  obtain ⟨r, row, rfl, hR, hl, h0, q⟩ := h
  refine ⟨_, (pss_cons (ps_set (i := 1) sc_law_start.nd rfl (.inl rfl) (pe_call (ok_law_many T) (hr.mono (by decide)) (by rfl) T.g_law_many T.F_law_many.kp T.b_law_many .nil pass0 (pa_cons (pv 0) pa_nil)))
      (pss_cons (ps_set (i := 2) sc_law_start.nd rfl (.inl rfl) (pe_call (ok_law_ropes T) (hr.mono (by decide)) (by rfl) T.g_law_ropes T.F_law_ropes.kp T.b_law_ropes .nil pass0 (pa_cons (pe_call (ok_law_ears T) (hr.mono (by decide)) (by rfl) T.g_law_ears T.F_law_ears.kp T.b_law_ears .nil pass0 (pa_cons (pv 1) (pa_cons (pe_slice (sl_listK (K := K)) (pv 0) (po_some (pe_int)) po_none) pa_nil))) pa_nil)))
      (pss_one (ps_ret (pe_tup (pa_cons (pv 1) (pa_cons (pv 2) (pa_cons (pe_call (ok_law_sized T) (hr.mono (by decide)) (by rfl) T.g_law_sized T.F_law_sized.kp T.b_law_sized .nil pass0 (pa_cons (pe_call (ok_law_ties T) (hr.mono (by decide)) (by rfl) T.g_law_ties T.F_law_ties.kp T.b_law_ties .nil pass0 (pa_cons (pv 1) (pa_cons (pv 2) pa_nil))) (pa_cons (pe_slice (sl_listK (K := K)) (pv 0) (po_some (pe_int)) po_none) pa_nil))) pa_nil)))))))), ?_⟩
  walk_at "st"
  refine ⟨r, row, rfl, hR, by omega, fun n n3 n12 => ?_⟩
  walk_at "st"
  refine Pm.w_slL hR (fun p1 hp1 => ?_)
  rw [cut_drop (by decide) (by rw [List.length_map]; omega), ← List.map_drop]
  have s1 := same_new hp1 (.lst ((row.drop (2 : Int).toNat).map V.int))
  walk_at "st"
  refine ⟨n, p1, row.drop (2 : Int).toNat, rfl, SqL.of upd_same, n3, n12, by rw [List.length_drop]; show n ≤ row.length - 2 + 3; omega, fun e H2 evs es s2 ne he hA hears hes => ?_⟩
  walk_at "st"
  refine ⟨e, evs, es, rfl, SqL.of he, hA, by omega, fun c H3 cvs s3 nc hc hpc => ?_⟩
  obtain ⟨t, C⟩ := drawn_cutting hears n3
  have hcut : ∃ cut, cut = sortP (es.map ropeOf) := ⟨_, rfl⟩
  obtain ⟨cut, hcut⟩ := hcut
  rw [← hcut] at C hpc
  have lcut := C.cut_len
  have s13 : Same H H3 := s1.trans (s2.trans s3)
  have hR3 := s13.seq hR
  walk_at "st"
  refine ⟨n, c, cut, rfl, by omega, by omega, ⟨cvs, hc, hpc⟩, by omega, fun l H4 tvs s4 nl hl4 hpl => ?_⟩
  have hR4 := s4.seq hR3
  walk_at "st"
  refine Pm.w_slL hR4 (fun p5 hp5 => ?_)
  rw [cut_drop (by decide) (by rw [List.length_map]; omega), ← List.map_drop]
  have s5 := same_new hp5 (.lst ((row.drop (12 : Int).toNat).map V.int))
  have tl := C.ties_len
  walk_at "st"
  refine ⟨l, p5, tiesL n cut, row.drop (12 : Int).toNat, rfl, PLt.same ⟨tvs, hl4, hpl⟩ s5, C.ties_nodup, SqL.of upd_same, by rw [List.length_drop, tl]; show 2 * n - 3 ≤ row.length - 12; omega, by omega, by omega, fun x hx => h0 x (List.mem_of_mem_drop hx), fun d H6 ks R s6 nd hLD hks hsz => ?_⟩
  obtain ⟨L, D, F, M, Z, hDR, hLen⟩ := drawn_len' C n12 hks hsz
  have hD := hLen K H6 d hLD
  have s56 := s5.trans s6
  have s36 := s4.trans s56
  walk_at "st"
  refine Pm.w_newT (fun z hz => ?_)
  have s7 := same_new hz (.tup [.int n, .ref c, .ref d])
  refine q z c d _ ⟨n, cut, D⟩ (s13.trans (s36.trans s7)) ((s13.trans s36).free hz) ((s1.trans s2).free nc) ((s13.trans (s4.trans s5)).free nd) ⟨upd_same, ⟨cvs, (s36.trans s7) _ _ hc, prs_keep (keeps (s36.trans s7)) hpc⟩, LenD.dls (S := ⟨n, cut, D⟩) (hD.same s7) C n12⟩ ⟨n12, t, L, F, C, M, Z⟩ (fun p hp => ?_)
  obtain ⟨q0, hq0, rfl⟩ := C.ties.mp hp
  show rb (D q0.1 q0.2) 11
  rw [hDR q0 hq0]
  exact szd_rb (hsz (castP q0) hp)
end
section
variable {P : Program} {w : World} {K : PySem.W.Frag} {mg : Str → Option Value} {base : Heap}
noncomputable def runS (S : Ms) (ds : List Deed) : Ms := ds.foldl (fun S d => (step S d).st S) S
noncomputable def runP : Ms → List (Deed × Ms) → List Deed → List (Deed × Ms)
  | _, P, [] => P
  | S, P, d :: ds => runP ((step S d).st S) ((step S d).past S d P) ds
theorem runS_snoc (S : Ms) (ds : List Deed) (d : Deed) : runS S (ds ++ [d]) = (step (runS S ds) d).st (runS S ds) := by
  unfold runS
  rw [List.foldl_append]
  rfl
theorem runP_snoc : ∀ (S : Ms) (P : List (Deed × Ms)) (ds : List Deed) (d : Deed), runP S P (ds ++ [d]) = (step (runS S ds) d).past (runS S ds) d (runP S P ds)
  | S, P, [], d => rfl
  | S, P, x :: ds, d => by
    show runP _ _ (ds ++ [d]) = _
    rw [runP_snoc]
    rfl
theorem runP_len : ∀ (S : Ms) (P : List (Deed × Ms)) (ds : List Deed), (runP S P ds).length ≤ P.length + ds.length
  | S, P, [] => Nat.le_refl _
  | S, P, d :: ds => by
    show (runP _ _ ds).length ≤ _
    have h := runP_len ((step S d).st S) ((step S d).past S d P) ds
    have h2 : ((step S d).past S d P).length ≤ P.length + 1 := by
      cases step S d with
      | yes S' a => show (P ++ [_]).length ≤ _; rw [List.length_append, List.length_singleton]; exact Nat.le_refl _
      | no k => show P.length ≤ _; omega
    rw [List.length_cons]
    omega
theorem step_rb {S : Ms} {B : Nat} (h : Ok S B) (d : Deed) : (step S d).rbs B := by
  obtain ⟨n12, t, L, F, C, Mm, Z⟩ := h
  have n3 := C.n3
  cases d with
  | turn a b => unfold step; dsimp only; split <;> trivial
  | stretch p f => unfold step; dsimp only; split <;> (try split) <;> trivial
  | set k x y => unfold step; dsimp only; split <;> (try split) <;> (try split) <;> trivial
  | draw p =>
    unfold step
    dsimp only
    split
    · trivial
    · rename_i e1
      split
      · trivial
      · split
        · trivial
        · have b1 : bef S.n p.toNat < S.n := by unfold bef; split <;> omega
          have b2 : nxt S.n p.toNat < S.n := by unfold nxt; split <;> omega
          exact ⟨Z.rb (by omega) (by omega), Z.rb (by omega) (by omega)⟩
def spLRun (K : PySem.W.Frag) (C : Addr) : Sp := fun vs H Q _ => ∃ (p z c d wl : Addr) (ws : List V) (H0 Hs : Hp) (S : Ms) (A : List (Deed × Ms)) (ds : List Deed) (m : Nat), vs = [.ref p, .ref z, .ref wl] ∧ MeadAt K C H0 Hs H p S [] A ∧ StA K H0 z c d S ∧ H0 wl = some (.lst ws) ∧ All2 (DeedAt K H0) ws ds ∧ ds.length ≤ 100 ∧ (∀ x ∈ ds, x.rbs m) ∧ (∀ i, i ≤ ds.length → ∃ B, Ok (runS S (ds.take i)) B ∧ 5 * B + 2 ≤ 9000 ∧ B + m ≤ 9000) ∧
  ∀ (H0' Hs' H' : Hp) (z' c' d' : Addr) (A' : List (Deed × Ms)), Same H0 H0' → Same Hs Hs' → MeadAt K C H0' Hs' H' p (runS S ds) (runP S [] ds) A' → StA K H0' z' c' d' (runS S ds) → Q (.ref z') H'
theorem ok_law_run (T : Tx K mg) : FnOk P w K mg base CX0 11 T.a_law_run T.fd_law_run (["_law_mead", "_law_state", "_law_wishes"]) (spLRun K T.c_Mead) := by
  refine T.F_law_run.ok sc_law_run (fun vs H Q E h => ?_) (fun cdv A outer s H vs Q E hr h => ?_)
  · obtain ⟨p, z, c, d, wl, ws, H0, Hs, S, A, ds, m, rfl, _⟩ := h
    rfl
  obtain ⟨p, z, c, d, wl, ws, H0, Hs, S, A, ds, m, rfl, M, hst, hwl, hws, dl, hrb, hok, q⟩ := h
  refine ⟨_, (pss_cons (ps_set (i := 3) sc_law_run.nd rfl (.inl rfl) (pe_lst pa_nil))
      (pss_cons (ps_for PassesOwn.never rfl (k_il (K := K) (pi_list (pv 2))) (pg_name (i := 4) sc_law_run.nd rfl (.inl rfl)) (pss_cons (ps_asg (pe_call (ok_law_model T) (hr.mono (by decide)) (by rfl) T.g_law_model T.F_law_model.kp T.b_law_model .nil pass0 (pa_cons (pv 1) (pa_cons (pv 4) pa_nil))) (k_gt (K := K) (pg_tup (by rfl) (pgs_cons (pg_name (i := 1) sc_law_run.nd rfl (.inl rfl)) (pgs_cons (pg_name (i := 5) sc_law_run.nd rfl (.inl rfl)) pgs_nil)))))
      (C8.pss_cut (ps_if (pt_cmpR op_eq (pe_ix (ix_tupK (K := K)) (pv 5) (pe_int) (fun _ _ => rfl)) (pe_str) (nomark _)) (pss_one (ps_expr (k_bm (K := K) (pe_bm PySem.F.plainAttrs_list PySem.F.slot_list_append PySem.F.type_list_append mt_append (pv 3) (pa_cons (pe_call (ok_law_told_as T) (hr.mono (by decide)) (by rfl) T.g_law_told_as T.F_law_told_as.kp T.b_law_told_as .nil pass0 (pa_cons (pv 4) pa_nil)) pa_nil))))) pss_nil)
      (pss_cons (ps_if (PW.pt (pw_or (pt_not (pt_val (pe_call (ok_law_answer T) (hr.mono (by decide)) (by rfl) T.g_law_answer T.F_law_answer.kp T.b_law_answer .nil pass0 (pa_cons (pe_call (ok_law_done T) (hr.mono (by decide)) (by rfl) T.g_law_done T.F_law_done.kp T.b_law_done .nil pass0 (pa_cons (pv 0) (pa_cons (pv 4) pa_nil))) (pa_cons (pv 5) (pa_cons (pv 4) pa_nil)))))) (pw_or1 (pt_not (pt_val (pe_call (ok_law_is_at T) (hr.mono (by decide)) (by rfl) T.g_law_is_at T.F_law_is_at.kp T.b_law_is_at .nil pass0 (pa_cons (pv 0) (pa_cons (pv 1) pa_nil)))))))) (pss_one (ps_ret (pe_non))) pss_nil)
      (pss_one (ps_if (pt_not (pt_val (pe_call (ok_law_same_deeds T) (hr.mono (by decide)) (by rfl) T.g_law_same_deeds T.F_law_same_deeds.kp T.b_law_same_deeds .nil pass0 (pa_cons (pe_meth0 (pv 0) T.cl_Mead T.M_Mead_deeds (ok_Mead_deeds T) (hr.mono (by decide)) T.b_Mead_deeds .nil pass0 ) (pa_cons (pv 3) pa_nil))))) (pss_one (ps_ret (pe_non))) pss_nil))))))
      (pss_one (ps_ret (pv 1))))), ?_⟩
  have wll := hws.length
  walk_at "st"
  refine Pm.w_newL (fun sl hsl => ?_)
  have s1 := same_new hsl (.lst [])
  obtain ⟨H01, Hs1, g1, g2, M1, f1⟩ := M.grow s1
  have hsl1 : H01 sl = some (.lst []) := by rw [f1 sl hsl]; exact upd_same
  walk_at "st"
  refine Pm.w_rdL (SqL.of (M1.s0 _ _ (g1 _ _ hwl))) ?_
  have nsl0 : H0 sl = none := M.s0.free hsl
  refine Pm.w_forL (K := K) (xs := ws) (fun i σ H2 => ∃ (x y : Option V) (z' c' d' : Addr) (H0' Hs' : Hp) (A' : List (Deed × Ms)) (sv : List V), σ = [some (.ref p), some (.ref z'), some (.ref wl), some (.ref sl), x, y] ∧ Same H0 H0' ∧ Same Hs Hs' ∧ MeadAt K T.c_Mead H0' Hs' H2 p (runS S (ds.take i)) (runP S [] (ds.take i)) A' ∧ StA K H0' z' c' d' (runS S (ds.take i)) ∧ c' ≠ sl ∧ H0' sl = some (.lst sv) ∧ All2 (DeedAt K H0') sv ((runP S [] (ds.take i)).map (·.1))) ?_ ?_ ?_ ?_
  · refine ⟨_, _, z, c, d, H01, Hs1, A, [], rfl, g1, g2, ?_, ?_, ?_, hsl1, ?_⟩
    · rw [List.take_zero]; exact M1
    · rw [List.take_zero]; exact hst.same g1
    · obtain ⟨xs, h, _⟩ := hst.2.1
      exact ne_of_none h nsl0
    · rw [List.take_zero]; trivial
  · rintro i σ H2 hi ⟨x, y, z', c', d', H0', Hs', A', sv, rfl, r1, r2, M2, hst2, _, hs2, hsv⟩
    exact SqL.of (M2.s0 _ _ (r1 _ _ hwl))
  · rintro i v σ H2 hi ⟨x, y, z', c', d', H0', Hs', A', sv, rfl, r1, r2, M2, hst2, ncs, hs2, hsv⟩
    obtain ⟨dd, hdd, hv⟩ := hws.get hi
    have hil : i < ds.length := (List.getElem?_eq_some_iff.mp hdd).1
    have tk : ds.take (i + 1) = ds.take i ++ [dd] := by rw [List.take_add_one, hdd] <;> rfl
    have hv0 : DeedAt K H0' v dd := hv.keep (keeps r1)
    obtain ⟨B, ok, hB5, hBm⟩ := hok i (by omega)
    obtain ⟨B1, ok1, hB51, hBm1⟩ := hok (i + 1) (by omega)
    rw [tk, runS_snoc] at ok1
    have hrbd := hrb dd (List.mem_of_getElem? hdd)
    have pl := runP_len S [] (ds.take i)
    rw [List.length_take, List.length_nil] at pl
    rw [tk, runS_snoc, runP_snoc]
    generalize runS S (ds.take i) = Si at *
    generalize runP S [] (ds.take i) = Pi at *
    walk_at "st"
    have hv2 : DeedAt K H2 v dd := hv0.keep (keeps M2.s0)
    refine ⟨z', c', d', v, Si, dd, B, m, rfl, hst2.same M2.s0, hv2, ok, hB5, hBm, hrbd, fun r z3 c3 d3 H3 an s3 nr hr3 hst3 hc3 hd3 han => ?_⟩
    walk_at "st"
    refine Pm.w_gtup (SqT.of hr3) rfl ?_
    obtain ⟨H03, Hs3, g3, g3', M3, f3⟩ := M2.grow s3
    have hst03 : StA K H03 z3 c3 d3 ((step Si dd).st Si) := by
      refine ⟨M3.k0 _ _ hst3.1, ?_, ?_⟩
      · rcases hc3 with h | h
        · exact hst3.2.1.keep M3.k0 (f3 c3 h)
        · subst h
          refine hst3.2.1.keep M3.k0 ?_
          obtain ⟨xs, h, _⟩ := hst2.2.1
          rw [g3 _ _ h, (M3.s0 _ _ (g3 _ _ h))]
      · rcases hd3 with h | h
        · exact hst3.2.2.keep M3.k0 (f3 d3 h)
        · subst h
          refine hst3.2.2.keep M3.k0 ?_
          obtain ⟨_, ⟨_, xs, h, _⟩, _⟩ := hst2.2.2
          rw [g3 _ _ h, (M3.s0 _ _ (g3 _ _ h))]
    have ncs3 : c3 ≠ sl := by
      rcases hc3 with h | h
      · exact fun e => by rw [e, M2.s0 _ _ hs2] at h; cases h
      · rw [h]; exact ncs
    have hs3 := g3 _ _ hs2
    have hsv3 := hsv.mono fun _ _ r => r.keep (keeps g3)
    have hv3 := hv0.keep (keeps g3)
    walk_at "st"
    refine Pm.w_cut (fun σ' Ha => ∃ (H0a Hsa : Hp) (sv' : List V), σ' = [some (.ref p), some (.ref z3), some (.ref wl), some (.ref sl), some v, some an] ∧ Same H0 H0a ∧ Same Hs Hsa ∧ MeadAt K T.c_Mead H0a Hsa Ha p Si Pi A' ∧ StA K H0a z3 c3 d3 ((step Si dd).st Si) ∧ H0a sl = some (.lst sv') ∧ All2 (DeedAt K H0a) sv' (((step Si dd).past Si dd Pi).map (·.1)) ∧ DeedAt K H0a v dd ∧ RepAt K H0a an (step Si dd)) ?_ ?_
    · have r13 := r1.trans g3
      have r23 := r2.trans g3'
      have han3 := han.keep M3.k0
      walk_at "st"
      cases es : step Si dd with
      | no j =>
        rw [es] at han hst03 han3
        obtain ⟨ta, rfl, hta⟩ := han
        refine Pm.w_ixT (SqT.of hta) rfl ?_
        walk_at "st"
        rw [decide_eq_false s_ny]
        walk_at "st"
        exact ⟨H03, Hs3, sv, rfl, r13, r23, M3, hst03, hs3, hsv3, hv3, han3⟩
      | yes S' aa =>
        rw [es] at han hst03 han3
        obtain ⟨ta, xa, rfl, hta, hxa⟩ := id han
        refine Pm.w_ixT (SqT.of hta) rfl ?_
        walk_at "st"
        rw [decide_eq_true rfl]
        walk_at "st"
        refine ⟨.inl ⟨rfl, _, SqL.of (M3.s0 _ _ hs3)⟩, ?_⟩
        walk_at "st"
        refine ⟨v, dd, rfl, hv2.keep (keeps s3), fun v4 H4 s4 hv4 => ?_⟩
        obtain ⟨H04, Hs4, g4, g4', M4, f4⟩ := M3.grow s4
        have hs4 := g4 _ _ hs3
        have svl := hsv.length
        rw [List.length_map] at svl
        walk_at "st"
        refine Pm.w_append (M4.s0 _ _ hs4) (size_lt (by omega)) ?_
        walk_at "st"
        have M5 := M4.put (o' := .lst (sv ++ [v4])) hs4 (fun xs q => nomatch q) (fun xs q => nomatch q)
        have kp5 : Keeps H04 (upd H04 sl (.lst (sv ++ [v4]))) := keeps_lst hs4
        have s05 : Same H0 (upd H04 sl (.lst (sv ++ [v4]))) := same_but nsl0 (r13.trans g4)
        refine ⟨_, Hs4, sv ++ [v4], rfl, s05, r23.trans g4', M5, ⟨kp5 _ _ (g4 _ _ hst03.1), ?_, ?_⟩, upd_same, ?_, hv3.keep ((keeps g4).trans kp5), han3.keep ((keeps g4).trans kp5)⟩
        · exact (hst03.2.1.same g4).keep kp5 (upd_ne ncs3)
        · refine (hst03.2.2.same g4).keep kp5 (upd_ne ?_)
          obtain ⟨_, ⟨_, xs, h, _⟩, _⟩ := hst03.2.2
          exact ne_of h hs3 (fun z => nomatch z)
        · show All2 _ _ ((Pi ++ [(dd.told, Si)]).map (·.1))
          rw [List.map_append]
          refine (hsv3.mono fun _ _ r => r.keep ((keeps g4).trans kp5)).append ⟨(hv4.keep M4.k0).keep kp5, trivial⟩
    rintro σ Ha ⟨H0a, Hsa, sv', rfl, ra1, ra2, Ma, hsta, hsa, hsva, hva, hana⟩
    have fits := step_fits Si dd
    have orb := step_rb ok dd
    have pl2 : ((step Si dd).past Si dd Pi).length ≤ 200 := by
      cases step Si dd with
      | yes S' a => show (Pi ++ [_]).length ≤ _; rw [List.length_append, List.length_singleton]; omega
      | no k => show Pi.length ≤ _; omega
    walk_at "st"
    refine ⟨p, v, H0a, Hsa, Si, Pi, A', dd, B, m, rfl, Ma, hva.keep (keeps Ma.s0), ok, by omega, hBm, hrbd, by omega, fun H0b Hsb Hb fv b1 b2 Mb hfv => ?_⟩
    walk_at "st"
    refine ⟨fv, an, v, step Si dd, dd, B, rfl, hfv, hana.keep (keeps (b1.trans Mb.s0)), hva.keep (keeps (b1.trans Mb.s0)), fits, orb, by omega, fun Hc sc => ?_⟩
    obtain ⟨H0c, Hsc, c1, c2, Mc, fc⟩ := Mb.grow sc
    walk_at "st"
    refine ⟨p, z3, c3, d3, H0c, Hsc, _, _, _, B1, rfl, Mc, hsta.same (b1.trans c1), ok1, by omega, fun Hd sd => ?_⟩
    obtain ⟨H0d, Hsd, d1, d2, Md, fd⟩ := Mc.grow sd
    walk_at "st"
    obtain ⟨dx, lp, la, cc, dc, vs', us', p0, l0, a0, ps, ls, as, nla, hp, hlp, hla, hcc, hdc, hP', hA'⟩ := Md.ex
    refine w_methAt hp (mf_no _ _ _ _ _ (by decide +kernel) (by decide +kernel) (by decide +kernel) (by decide +kernel) (by decide +kernel)) ?_
    walk_at "st"
    refine ⟨p, H0d, Hsd, _, _, _, rfl, Md, by omega, fun lf He wf se nlf hlf hwf => ?_⟩
    obtain ⟨H0e, Hse, e1, e2, Me, fe⟩ := Md.grow se
    have rae := b1.trans (c1.trans (d1.trans e1))
    walk_at "st"
    refine ⟨lf, sl, wf, sv', _, rfl, hlf, Me.s0 _ _ (rae _ _ hsa), hwf, hsva.mono fun _ _ r => r.keep (keeps (rae.trans Me.s0)), by rw [List.length_map]; omega, ?_⟩
    walk_at "st"
    exact ⟨_, _, z3, c3, d3, H0e, Hse, _, sv', rfl, ra1.trans rae, ra2.trans (b2.trans (c2.trans (d2.trans e2))), Me, hsta.same rae, ncs3, rae _ _ hsa, hsva.mono fun _ _ r => r.keep (keeps rae)⟩
  · rintro σ H2 ⟨x, y, z', c', d', H0', Hs', A', sv, rfl, r1, r2, M2, hst2, ncs, hs2, hsv⟩
    rw [wll, List.take_length] at M2 hst2
    walk_at "st"
    exact q H0' Hs' H2 z' c' d' A' r1 r2 M2 hst2
end
section
variable {P : Program} {w : World} {K : PySem.W.Frag} {mg : Str → Option Value} {base : Heap}
theorem cutting_kept {n : Nat} {cut : List IP} {t : Tr} (C : Cutting n cut t) (n12 : n ≤ 12) : KeptOk n cut ∧ sortP (cut.map tied) = cut := by
  have n3 := C.n3
  have hw := C.w
  have bd : ∀ p ∈ cut, ∃ q, p = castP q ∧ q ∈ t.ropes 0 ∧ q ∈ t.all 0 ∧ q.1 < q.2 ∧ q.2 < n ∧ q.1 + 2 ≤ q.2 ∧ ¬ (q.1 = 0 ∧ q.2 = t.w) := fun p hp => by
    obtain ⟨q, hq, rfl⟩ := C.mem.mp hp
    have h1 := (ropes_bd hq).1
    have h2 := Tr.bd (Tr.inn_all h1)
    exact ⟨q, rfl, hq, Tr.inn_all h1, h2.2.1, by omega, Tr.inn_wide h1, (ropes_bd hq).2⟩
  have e1 : cut.map tied = cut := by
    conv => rhs; rw [← List.map_id cut]
    refine List.map_congr_left fun p hp => ?_
    obtain ⟨q, rfl, _, _, h1, _⟩ := bd p hp
    show tieOf (q.1 : Int) (q.2 : Int) = _
    rw [tie_lt (by omega)]
    rfl
  have e2 : sortP cut = cut := sortP_eq C.rise (List.Perm.refl _)
  rw [e1, e2]
  refine ⟨⟨⟨by omega, by omega⟩, by have := C.cut_len; omega, ?_⟩, rfl⟩
  rw [e1, e2]
  refine ⟨fun p hp => ?_, ?_⟩
  · obtain ⟨q, rfl, _, _, h1, h2, h3, h4⟩ := bd p hp
    show 0 ≤ (q.1 : Int) ∧ (q.2 : Int) < n ∧ 2 ≤ (q.2 : Int) - q.1 ∧ (q.2 : Int) - q.1 < (n : Int) - 1
    omega
  · have nd : cut.Nodup := C.perm.nodup_iff.mpr (List.pairwise_map.mpr ((Tr.ropes_nodup t 0).imp fun h z => h (castP_inj z)))
    refine List.Pairwise.imp_of_mem (fun {p q} hp hq ne => ⟨ne, fun cr => ?_⟩) nd
    obtain ⟨a, rfl, _, ha, a1, _⟩ := bd p hp
    obtain ⟨b, rfl, _, hb, b1, _⟩ := bd q hq
    rw [cross_iff (by show (a.1 : Int) < a.2; omega) (by show (b.1 : Int) < b.2; omega)] at cr
    have n1 := Tr.noncross ha hb
    have n2 := Tr.noncross hb ha
    simp only [castP] at cr
    omega
theorem init_ok {C C1 C2 x dx r d : Addr} {vs : List V} {S : Ms} {B : Nat} {H0 H : Hp} {Q : VK} {E : XK} (ok : Ok S B) (ev : vs = [.ref x, .int S.n, .ref r, .ref d]) (hx : H x = some (.ins C dx [])) (s0 : Same H0 H) (x0 : H0 x = none) (k0 : Keeps H H0) (hr : PLt H r S.cut) (hd : DLs K H d S) (q : ∀ H0' Hs' H', Same H0 H0' → MeadAt K C H0' Hs' H' x S [] [] → Q .non H') : spInit K C C1 C2 vs H Q E := by
  obtain ⟨n12, t, L, F, C0, M, Z⟩ := ok
  obtain ⟨kp, ec⟩ := cutting_kept C0 n12
  obtain ⟨ks, h1, h2, h3, h4⟩ := hd
  have cl := C0.cut_len
  have sz : SzOk S.n S.cut ks (fun k => rp (S.D k.1.toNat k.2.toNat)) := ⟨h2, fun p hp => by
    obtain ⟨q0, hq0, rfl⟩ := C0.ties.mp ((h2 p).mp hp)
    have b := Tr.bd hq0
    have := C0.w
    exact lenOk_rp'.mpr (M.above (i := q0.1) (k := q0.2) b.2.1 (by omega))⟩
  refine ⟨x, r, d, dx, S.n, S.cut, ks, _, H0, ev, hx, s0, x0, k0, hr, by omega, h1, fun z => absurd kp z, fun _ => ⟨S.n, t, rfl, n12, by rw [ec]; exact C0, fun z => absurd (by rw [ec]; exact sz) z, fun _ => ⟨S, rfl, ec.symm, fun k _ => rfl, q⟩⟩⟩
/-- the heap with a new instance -/
theorem made_same {H : Hp} {x dx C : Addr} (hx : H x = none) (hdx : H dx = none) (ne : dx ≠ x) : Same H (upd (upd H dx (.own x)) x (.ins C dx [])) ∧ Keeps (upd (upd H dx (.own x)) x (.ins C dx [])) H := by
  constructor
  · intro b o e
    rw [upd_ne (ne_of_none e hx), upd_ne (ne_of_none e hdx)]
    exact e
  · intro b xs e
    by_cases z : b = x
    · rw [z, upd_same] at e; cases e
    · rw [upd_ne z] at e
      by_cases z2 : b = dx
      · rw [z2, upd_same] at e; cases e
      · rw [upd_ne z2] at e; exact e
end
section
variable {P : Program} {w : World} {K : PySem.W.Frag} {mg : Str → Option Value} {base : Heap}
theorem Ok.mono {S : Ms} {B B' : Nat} (h : Ok S B) (e : B ≤ B') : Ok S B' := by
  obtain ⟨n12, t, L, F, C, M, Z⟩ := h
  have pw : ∀ {a : Nat}, a < 2 ^ B → a < 2 ^ B' := fun h => Nat.lt_of_lt_of_le h (Nat.pow_le_pow_right (by decide) e)
  exact ⟨n12, t, L, F, C, M, Z.f0, pw Z.fb, fun i k hi hk => by
    obtain ⟨z, h1, h2⟩ := Z.all i k hi hk
    exact ⟨z, h1, pw h2⟩⟩
theorem rb_mono {r : Rat} {m n : Nat} (h : rb r m) (e : m ≤ n) : rb r n := ⟨Nat.lt_of_lt_of_le h.1 (Nat.pow_le_pow_right (by decide) e), Nat.lt_of_lt_of_le h.2 (Nat.pow_le_pow_right (by decide) e)⟩
theorem Ok.side {S : Ms} {B b k : Nat} (h : Ok S B) (tb : TieB S b) (hk : k < S.n) : rb (sg S.n k * S.D k ((k + 1) % S.n)) b := by
  obtain ⟨n12, t, L, F, C, M, Z⟩ := h
  have n3 := C.n3
  have hw := C.w
  unfold sg
  by_cases c : k + 1 < S.n
  · rw [if_pos c, Nat.mod_eq_of_lt c]
    have m : castP (k, k + 1) ∈ tiesL S.n S.cut := C.ties.mpr ⟨_, Tr.all_iff.mpr (.inr ⟨Nat.zero_le _, rfl, by show k + 1 ≤ 0 + t.w; omega⟩), rfl⟩
    have := tb _ m
    rw [show (1 : Rat) * S.D k (k + 1) = S.D k (k + 1) by grind]
    exact this
  · have e : k + 1 = S.n := by omega
    rw [if_neg c, e, Nat.mod_self, M.anti (i := 0) (k := k) (by omega) hk, show (-1 : Rat) * - S.D 0 k = S.D 0 k by grind]
    have m : castP (0, k) ∈ tiesL S.n S.cut := C.ties.mpr ⟨_, by have := Tr.root_mem (t := t) (lo := 0); rw [Nat.zero_add, show t.w = k by omega] at this; exact this, rfl⟩
    exact tb _ m
theorem TieB.set {S : Ms} {B b k : Nat} {x y : Rat} (h : Ok S B) (tb : TieB S b) (hk : k < S.n) (hx : rb x b) (hy : rb y b) : TieB (setS S k x y) b := by
  obtain ⟨n12, t, L, F, C, M, Z⟩ := h
  obtain ⟨t2, E2⟩ := ear_put C.w C.n3 hk
  have C2 : Cutting (S.n + 1) (setCut S.n k S.cut) t2 := C.set hk E2
  intro p hp
  obtain ⟨q, hq, rfl⟩ := C2.ties.mp hp
  show rb (setD S.n k x y S.D q.1 q.2) b
  rcases (E2.all q).mp hq with ⟨q0, h0, rfl⟩ | rfl | rfl
  · rw [setD_old]
    exact tb _ (C.ties.mpr ⟨q0, h0, rfl⟩)
  · rw [setD_one M C.n3 hk]
    exact hx
  · rw [setD_two M C.n3 hk]
    exact hy
theorem TieB.draw {S : Ms} {B b p : Nat} (h : Ok S B) (tb : TieB S b) (n4 : S.n ≠ 3) (hp : p < S.n) (no : ¬ ropeAt S p) : TieB (drawS S p) b := by
  obtain ⟨n12, t, L, F, C, M, Z⟩ := h
  have n3 := C.n3
  obtain ⟨t', E2⟩ := draw_ear C (by omega) hp no
  have C2 : Cutting (S.n - 1) (drawCut S.n p S.cut) t' := by
    have e : S.n = S.n - 1 + 1 := by omega
    rw [e] at C E2
    have := C.draw (by omega) (by omega) E2
    rw [← e] at this
    exact this
  intro j hj
  obtain ⟨q, hq, rfl⟩ := C2.ties.mp hj
  exact tb (castP (Tr.skp p q)) (C.ties.mpr ⟨_, (E2.all _).mpr (.inl ⟨q, hq, rfl⟩), rfl⟩)
end
section
variable {P : Program} {w : World} {K : PySem.W.Frag} {mg : Str → Option Value} {base : Heap}
def IsSet (d : Deed) : Prop := match d with
  | .set _ x y => rb x 11 ∧ rb y 11
  | _ => False
theorem ok_sets : ∀ (ds : List Deed) {S : Ms} {B : Nat}, Ok S B → TieB S 11 → (∀ d ∈ ds, IsSet d) → Ok (runS S ds) (B + 34 * ds.length)
  | [], S, B, h, _, _ => h
  | d :: ds, S, B, h, tb, hb => by
    have hd := hb d List.mem_cons_self
    have h1 : Ok ((step S d).st S) (B + 34) ∧ TieB ((step S d).st S) 11 := by
      cases d with
      | set k x y =>
        by_cases h1 : 0 ≤ k ∧ k < (S.n : Int)
        · by_cases h2 : 0 < x ∧ 0 < y
          · by_cases h3 : S.n = 12
            · rw [step_set_4 h1 h2 h3]
              exact ⟨h.mono (by omega), tb⟩
            · rw [step_set_yes h1 h2 h3]
              have n12 := h.1
              have hk : k.toNat < S.n := by omega
              exact ⟨h.set hk (by omega) h2.1 h2.2 hd.1 hd.2 (h.side tb hk), tb.set h hk hd.1 hd.2⟩
          · rw [step_set_3 h1 h2]
            exact ⟨h.mono (by omega), tb⟩
        · rw [step_set_1 h1]
          exact ⟨h.mono (by omega), tb⟩
      | turn a b => exact hd.elim
      | stretch p f => exact hd.elim
      | draw p => exact hd.elim
    have := ok_sets ds h1.1 h1.2 (fun y hy => hb y (List.mem_cons_of_mem _ hy))
    rw [List.length_cons, show B + 34 * (ds.length + 1) = B + 34 + 34 * ds.length by omega]
    exact this
def spLaw (K : PySem.W.Frag) : Sp := fun vs H Q _ => ∃ (a : Addr) (ns : List Int), vs = [.ref a] ∧ SqL K H a (ns.map V.int) ∧ ns.length ≤ 63 ∧ ∀ H', Q (.bl true) H'
theorem ok_law (T : Tx K mg) : FnOk P w K mg base CX0 12 T.a_law T.fd_law ["_law_script"] (spLaw K) := by
  refine T.F_law.ok sc_law (fun vs H Q E h => ?_) (fun cdv A outer s H vs Q E hr h => ?_)
  · obtain ⟨a, ns, rfl, _⟩ := h
    rfl
  obtain ⟨sc, ns, rfl, hS, hl, q⟩ := h
  refine ⟨_, (pss_cons (ps_set (i := 1) sc_law.nd rfl (.inl rfl) (pe_call (ok_law_flow T) (hr.mono (by decide)) (by rfl) T.g_law_flow T.F_law_flow.kp T.b_law_flow .nil pass0 (pa_cons (pv 0) (pa_cons (pe_int) pa_nil))))
      (pss_cons (ps_set (i := 2) sc_law.nd rfl (.inl rfl) (pe_slice (sl_listK (K := K)) (pv 1) (po_some (pe_int)) po_none))
      (C8.pss_cut (ps_if (pt_cmpR op_eq (pe_op op_mod (pe_ix (ix_listK (K := K)) (pv 1) (pe_int) (fun _ _ => rfl)) (pe_int)) (pe_int) (nomark _)) (pss_one (ps_set (i := 2) sc_law.nd rfl (.inl rfl) (pe_op op_cat (pe_lst (pa_cons (pe_int) (pa_cons (pe_int) pa_nil))) (pe_slice (sl_listK (K := K)) (pv 1) (po_some (pe_int)) po_none)))) pss_nil)
      (pss_cons (ps_set (i := 3) sc_law.nd rfl (.inl rfl) (pe_call (ok_law_start T) (hr.mono (by decide)) (by rfl) T.g_law_start T.F_law_start.kp T.b_law_start .nil pass0 (pa_cons (pv 2) pa_nil)))
      (pss_cons (ps_set (i := 4) sc_law.nd rfl (.inl rfl) (pe_ix (ix_tupK (K := K)) (pv 3) (pe_int) (fun _ _ => rfl)))
      (pss_cons (ps_set (i := 5) sc_law.nd rfl (.inl rfl) (pe_make T.mk_Mead (ok_Mead___init__ T) (hr.mono (by decide)) (by rfl) T.g_Mead T.b_Mead___init__ .nil passL (pa_cons (pv 4) (pa_cons (pe_callTy (c_listOf (K := K)) (by rfl) T.m_list (by decide +kernel) (pa_cons (pe_ix (ix_tupK (K := K)) (pv 3) (pe_int) (fun _ _ => rfl)) pa_nil)) (pa_cons (pe_callTy (call_dictT hr.u2) (by rfl) T.m_dict (by decide +kernel) (pa_cons (pe_ix (ix_tupK (K := K)) (pv 3) (pe_int) (fun _ _ => rfl)) pa_nil)) pa_nil)))))
      (pss_cons (ps_set (i := 6) sc_law.nd rfl (.inl rfl) (pe_lst pa_nil))
      (pss_cons (ps_for PassesOwn.never rfl (pi_range1 (by rfl) T.m_range (pa_cons (pe_op op_add (pe_int) (pe_op op_mod (pe_ix (ix_listK (K := K)) (pv 1) (pe_int) (fun _ _ => rfl)) (pe_int))) pa_nil)) (pg_name (i := 7) sc_law.nd rfl (.inl rfl)) (pss_cons (ps_set (i := 8) sc_law.nd rfl (.inl rfl) (pe_tup (pa_cons (pe_str) (pa_cons (pe_op op_mod (pe_ix (ix_listK (K := K)) (pv 1) (pe_op op_add (pe_int) (pv 7)) (fun _ _ => rfl)) (pe_op op_add (pv 4) (pv 7))) (pa_cons (pe_call (ok_law_size T) (hr.mono (by decide)) (by rfl) T.g_law_size T.F_law_size.kp T.b_law_size .nil pass0 (pa_cons (pe_ix (ix_listK (K := K)) (pv 1) (pe_op op_add (pe_int) (pv 7)) (fun _ _ => rfl)) pa_nil)) (pa_cons (pe_call (ok_law_size T) (hr.mono (by decide)) (by rfl) T.g_law_size T.F_law_size.kp T.b_law_size .nil pass0 (pa_cons (pe_ix (ix_listK (K := K)) (pv 1) (pe_op op_add (pe_int) (pv 7)) (fun _ _ => rfl)) pa_nil)) pa_nil))))))
      (C8.pss_cut (ps_if (pt_cmpR op_eq (pe_op op_mod (pe_ix (ix_listK (K := K)) (pv 1) (pe_op op_add (pe_int) (pv 7)) (fun _ _ => rfl)) (pe_int)) (pe_int) (nomark _)) (pss_cons (ps_set (i := 9) sc_law.nd rfl (.inl rfl) (pe_tup (pa_cons (pe_call (ok_law_low T) (hr.mono (by decide)) (by rfl) T.g_law_low T.F_law_low.kp T.b_law_low .nil pass0 (pa_cons (pe_op op_sub (pe_op op_mod (pe_ix (ix_listK (K := K)) (pv 1) (pe_op op_add (pe_int) (pv 7)) (fun _ _ => rfl)) (pe_int)) (pe_int)) (pa_cons (pe_int) pa_nil))) (pa_cons (pe_call (ok_law_low T) (hr.mono (by decide)) (by rfl) T.g_law_low T.F_law_low.kp T.b_law_low .nil pass0 (pa_cons (pe_op op_sub (pe_op op_mod (pe_ix (ix_listK (K := K)) (pv 1) (pe_op op_add (pe_int) (pv 7)) (fun _ _ => rfl)) (pe_int)) (pe_int)) (pa_cons (pe_int) pa_nil))) pa_nil))))
      (pss_one (ps_set (i := 8) sc_law.nd rfl (.inl rfl) (pe_tup (pa_cons (pe_str) (pa_cons (pe_call (ok_law_wild T) (hr.mono (by decide)) (by rfl) T.g_law_wild T.F_law_wild.kp T.b_law_wild .nil pass0 (pa_cons (pe_op op_add (pv 4) (pv 7)) (pa_cons (pe_ix (ix_listK (K := K)) (pv 1) (pe_op op_add (pe_int) (pv 7)) (fun _ _ => rfl)) pa_nil))) (pa_cons (pe_ix (ix_tupK (K := K)) (pv 9) (pe_int) (fun _ _ => rfl)) (pa_cons (pe_ix (ix_tupK (K := K)) (pv 9) (pe_int) (fun _ _ => rfl)) pa_nil)))))))) pss_nil)
      (pss_one (ps_expr (k_bm (K := K) (pe_bm PySem.F.plainAttrs_list PySem.F.slot_list_append PySem.F.type_list_append mt_append (pv 6) (pa_cons (pv 8) pa_nil))))))))
      (pss_one (ps_ret (pe_cmpR op_notNK (pe_call (ok_law_run T) (hr.mono (by decide)) (by rfl) T.g_law_run T.F_law_run.kp T.b_law_run .nil pass0 (pa_cons (pv 5) (pa_cons (pv 3) (pa_cons (pv 6) pa_nil)))) (pe_non) (nomark _)))))))))))), ?_⟩
  walk_at "st"
  refine ⟨sc, ns, 54, rfl, hS, by decide, fun row H1 r hrow hb s1 nr hr1 => ?_⟩
  have hR : SqL K H1 r (row.map V.int) := SqL.of hr1
  walk_at "st"
  refine Pm.w_slL hR (fun p1 hp1 => ?_)
  rw [cut_drop (by decide) (by rw [List.length_map, hrow]; decide), ← List.map_drop]
  have s2 := same_new hp1 (.lst ((row.drop (14 : Int).toNat).map V.int))
  have hp1' : upd H1 p1 (.lst ((row.drop (14 : Int).toNat).map V.int)) p1 = some (.lst ((row.drop (14 : Int).toNat).map V.int)) := upd_same
  generalize upd H1 p1 (.lst ((row.drop (14 : Int).toNat).map V.int)) = H2 at s2 hp1' ⊢
  have hR2 := s2.seq hR
  walk_at "st"
  refine Pm.w_cut (fun σ' H' => ∃ (p2 : Addr) (row2 : List Int), σ' = [some (.ref sc), some (.ref r), some (.ref p2), none, none, none, none, none, none, none] ∧ Same H2 H' ∧ SqL K H' p2 (row2.map V.int) ∧ 33 ≤ row2.length ∧ ∀ x ∈ row2, 0 ≤ x) ?_ ?_
  · walk_at "st"
    refine Pm.w_ixL hR2 (atI_int (by omega) (by omega)) ?_
    walk_at "st"
    refine Pm.w_ite (fun e1 => ?_) (fun e1 => ?_)
    · walk_at "st"
      refine Pm.w_newL (fun l1 hl1 => ?_)
      have t1 := same_new hl1 (.lst [.int 5, .int 3])
      walk_at "st"
      refine Pm.w_slL (t1.seq hR2) (fun p3 hp3 => ?_)
      rw [cut_drop (by decide) (by rw [List.length_map, hrow]; decide), ← List.map_drop]
      have t2 := same_new hp3 (.lst ((row.drop (16 : Int).toNat).map V.int))
      refine Pm.w_cat (t2 _ _ upd_same) upd_same (size_ok (by rw [List.length_map, List.length_drop, hrow]; decide)) (fun p4 hp4 => ?_)
      have t3 := same_new hp4 (.lst ([.int 5, .int 3] ++ (row.drop (16 : Int).toNat).map V.int))
      walk_at "st"
      refine ⟨p4, 5 :: 3 :: row.drop (16 : Int).toNat, rfl, t1.trans (t2.trans t3), SqL.of upd_same, ?_, fun x hx => ?_⟩
      · rw [List.length_cons, List.length_cons, List.length_drop, hrow]
        decide
      · rcases List.mem_cons.mp hx with rfl | hx
        · decide
        · rcases List.mem_cons.mp hx with rfl | hx
          · decide
          · exact (hb x (List.mem_of_mem_drop hx)).1
    · walk_at "st"
      exact ⟨p1, row.drop (14 : Int).toNat, rfl, Same.refl _, SqL.of hp1', by rw [List.length_drop, hrow]; decide, fun x hx => (hb x (List.mem_of_mem_drop hx)).1⟩
  rintro σ H2b ⟨p2, row2, rfl, s2b, hp2, r33, r0⟩
  walk_at "st"
  refine ⟨p2, row2, rfl, hp2, r33, r0, fun z c d H3 S s3 nz nc nd hst ok tb => ?_⟩
  have s13 := s2.trans (s2b.trans s3)
  have n3 := ok.n3
  have n12 := ok.1
  walk_at "st"
  refine Pm.w_ixT (SqT.of hst.1) rfl ?_
  walk_at "st"
  refine Pm.w_ixT (SqT.of hst.1) rfl ?_
  obtain ⟨cv, hcv, hpv⟩ := id hst.2.1
  walk_at "st"
  refine Pm.w_listOf (SqL.of hcv) (fun y1 hy1 => ?_)
  have s4 := same_new hy1 (.lst cv)
  have hst4 := hst.same s4
  walk_at "st"
  refine Pm.w_ixT (SqT.of hst4.1) rfl ?_
  obtain ⟨ks, h1, h2, h3, h4⟩ := hst4.2.2
  walk_at "st"
  refine w_ldDict h1 h3 (fun y2 es5 hy2 hL5 => ?_)
  have s5 := same_new hy2 (.dT es5)
  have hst5 := hst4.same s5
  have hy15 : PLt (upd (upd H3 y1 (.lst cv)) y2 (.dT es5)) y1 S.cut := ⟨cv, s5 _ _ upd_same, prs_keep (keeps (s4.trans s5)) hpv⟩
  have hy25 : DLs K (upd (upd H3 y1 (.lst cv)) y2 (.dT es5)) y2 S := ⟨ks, hL5, h2, h3, h4⟩
  have s15 := s13.trans (s4.trans s5)
  generalize upd (upd H3 y1 (.lst cv)) y2 (.dT es5) = H5 at s5 hst5 hy15 hy25 s15 ⊢
  walk_at "st"
  intro p dx np ndx nex
  obtain ⟨sm, km⟩ := made_same (C := T.c_Mead) np ndx nex
  refine init_ok ok rfl upd_same sm np km (hy15.same sm) (hy25.same sm) (fun H07 Hs7 H7 g6 M7 => ⟨rfl, ?_⟩)
  have hst7 := hst5.same g6
  have hR7 : SqL K H07 r (row.map V.int) := (s15.trans g6).seq hR
  walk_at "st"
  refine Pm.w_newL (fun wl hwl => ?_)
  have s8 := same_new hwl (.lst [])
  obtain ⟨H08, Hs8, g8, _, M8, f8⟩ := M7.grow s8
  have hwl8 : H08 wl = some (.lst []) := by rw [f8 wl hwl]; exact upd_same
  have nwl : H07 wl = none := M7.s0.free hwl
  generalize upd H7 wl (.lst []) = H8 at s8 M8 f8 ⊢
  have row0 : ∀ j : Nat, j < 54 → 0 ≤ row.getD j 0 := fun j hj => by
    rw [List.getD_eq_getElem?_getD, List.getElem?_eq_getElem (by omega)]
    exact (hb _ (List.getElem_mem _)).1
  walk_at "st"
  refine Pm.w_ixL (M8.s0.seq (g8.seq hR7)) (atI_int (by omega) (by omega)) ?_
  walk_at "st"
  refine Pm.w_forR (fun i σ H' => ∃ (x7 x8 x9 : Option V) (ds : List Deed) (H0' Hs' : Hp) (wv : List V), σ = [some (.ref sc), some (.ref r), some (.ref p2), some (.ref z), some (.int S.n), some (.ref p), some (.ref wl), x7, x8, x9] ∧ ds.length = i ∧ (∀ x ∈ ds, IsSet x) ∧ Same H07 H0' ∧ MeadAt K T.c_Mead H0' Hs' H' p S [] [] ∧ H0' wl = some (.lst wv) ∧ All2 (DeedAt K H0') wv ds) ⟨_, _, _, [], H08, Hs8, [], rfl, rfl, fun x hx => (nomatch hx), g8, M8, hwl8, trivial⟩ ?_ ?_
  · rintro i σ H' hi ⟨x7, x8, x9, ds, H0', Hs', wv, rfl, ll, hlb, gg, M', hw', hwv⟩
    have hi3 : i < 3 := by omega
    rw [Int.zero_add]
    have hR' : SqL K H' r (row.map V.int) := M'.s0.seq (gg.seq hR7)
    walk_at "st"
    refine Pm.w_ixL hR' (atI_int (by omega) (by omega)) ?_
    walk_at "st"
    refine Pm.w_ixL hR' (atI_int (by omega) (by omega)) ?_
    walk_at "st"
    refine ⟨_, rfl, row0 _ (by omega), fun f0 hf0 u0 Ha sa nu0 hu0 => ?_⟩
    have hRa := sa.seq hR'
    walk_at "st"
    refine Pm.w_ixL hRa (atI_int (by omega) (by omega)) ?_
    walk_at "st"
    refine ⟨_, rfl, row0 _ (by omega), fun f1 hf1 u1 Hb sb nu1 hu1 => ?_⟩
    have hRb := sb.seq hRa
    walk_at "st"
    generalize row.getD _ 0 % ((S.n : Int) + (i : Int)) = k0
    refine Pm.w_newT (fun td htd => ?_)
    have sd := same_new htd (.tup [.str "set", .int k0, .ref u0, .ref u1])
    have hRd := sd.seq hRb
    walk_at "st"
    refine Pm.w_cut (fun σ' Hc => ∃ (x9 : Option V) (dv : V) (dd : Deed), σ' = [some (.ref sc), some (.ref r), some (.ref p2), some (.ref z), some (.int S.n), some (.ref p), some (.ref wl), some (.int (i : Int)), some dv, x9] ∧ Same (upd Hb td (.tup [.str "set", .int k0, .ref u0, .ref u1])) Hc ∧ DeedAt K Hc dv dd ∧ IsSet dd) ?_ ?_
    · walk_at "st"
      refine Pm.w_ixL hRd (atI_int (by omega) (by omega)) ?_
      walk_at "st"
      refine Pm.w_ite (fun e1 => ?_) (fun e1 => ?_)
      · walk_at "st"
        refine Pm.w_ixL hRd (atI_int (by omega) (by omega)) ?_
        walk_at "st"
        refine ⟨_, 2, 2, rfl, by decide, by decide, by decide, fun v1 Hc sc' nv1 hv1 => ?_⟩
        have hRc := sc'.seq hRd
        walk_at "st"
        refine Pm.w_ixL hRc (atI_int (by omega) (by omega)) ?_
        walk_at "st"
        refine ⟨_, 2, 2, rfl, by decide, by decide, by decide, fun v2 He se nv2 hv2 => ?_⟩
        walk_at "st"
        refine Pm.w_newT (fun tp htp => ?_)
        have sf := same_new htp (.tup [.ref v1, .ref v2])
        have hRf := (se.trans sf).seq hRc
        walk_at "st"
        refine Pm.w_ixL hRf (atI_int (by omega) (by omega)) ?_
        walk_at "st"
        refine ⟨S.n + i, _, rfl, fun b0 Hg sg' => ?_⟩
        walk_at "st"
        refine Pm.w_ixT (SqT.of (sg' _ _ upd_same)) (atI2 _ _).1 ?_
        walk_at "st"
        refine Pm.w_ixT (SqT.of (sg' _ _ upd_same)) (atI2 _ _).2 ?_
        walk_at "st"
        refine Pm.w_newT (fun tg htg => ?_)
        have sh' := same_new htg (.tup [.str "set", .int b0, .ref v1, .ref v2])
        walk_at "st"
        have s1h := se.trans (sf.trans (sg'.trans sh'))
        refine ⟨_, _, .set b0 _ _, rfl, sc'.trans s1h, ⟨tg, v1, v2, rfl, upd_same, (frv_new hv1).keep (keeps s1h), (frv_new hv2).keep (keeps (sf.trans (sg'.trans sh')))⟩, rb_div (by decide) ?_ (by decide), rb_div (by decide) ?_ (by decide)⟩
        · generalize row.getD _ 0 = zz
          omega
        · generalize row.getD _ 0 = zz
          omega
      · walk_at "st"
        exact ⟨_, _, .set k0 f0 f1, rfl, Same.refl _, ⟨td, u0, u1, rfl, upd_same, (frv_new hu0).keep (keeps (sb.trans sd)), (frv_new hu1).keep (keeps sd)⟩, szd_rb hf0, szd_rb hf1⟩
    rintro σ Hc ⟨x9', dv, dd, rfl, sc', hdv, hset⟩
    obtain ⟨H0c, Hsc, gc, _, Mc, fc⟩ := M'.grow (sa.trans (sb.trans (sd.trans sc')))
    have hwc := gc _ _ hw'
    have hwvl := hwv.length
    walk_at "st"
    refine ⟨.inl ⟨rfl, _, SqL.of (Mc.s0 _ _ hwc)⟩, ?_⟩
    walk_at "st"
    refine Pm.w_append (Mc.s0 _ _ hwc) (size_lt (by omega)) ?_
    have Me := Mc.put (o' := .lst (wv ++ [dv])) hwc (fun xs q => nomatch q) (fun xs q => nomatch q)
    have kpe : Keeps H0c (upd H0c wl (.lst (wv ++ [dv]))) := keeps_lst hwc
    walk_at "st"
    refine ⟨_, _, _, ds ++ [dd], _, _, wv ++ [dv], rfl, by rw [List.length_append, List.length_singleton, ll], fun x hx => ?_, same_but nwl (gg.trans gc), Me, upd_same, (hwv.mono fun _ _ r => r.keep ((keeps gc).trans kpe)).append ⟨(hdv.keep Mc.k0).keep kpe, trivial⟩⟩
    rcases List.mem_append.mp hx with h | h
    · exact hlb x h
    · rw [List.mem_singleton.mp h]; exact hset
  · rintro σ H' ⟨x7, x8, x9, ds, H0', Hs', wv, rfl, ll, hlb, gg, M', hw', hwv⟩
    have l3 : ds.length ≤ 3 := by omega
    walk_at "st"
    refine ⟨p, z, c, d, wl, wv, H0', Hs', S, [], ds, 11, rfl, M', hst7.same gg, hw', hwv, by omega, fun x hx => ?_, fun i hi => ?_, fun H0a Hsa Ha z' c' d' A' ga _ Ma hsta => ?_⟩
    · have := hlb x hx
      cases x with
      | set k x y => exact this
      | turn a b => exact this.elim
      | stretch p f => exact this.elim
      | draw p => exact this.elim
    · refine ⟨652, (ok_sets (ds.take i) ok tb (fun x hx => hlb x (List.mem_of_mem_take hx))).mono ?_, by decide, by decide⟩
      rw [List.length_take]
      omega
    walk_at "st"
    refine Pm.w_notN_ref ?_
    exact q _
end
/-! ### what the top has written; the end -/
def tx_mk {K : PySem.W.Frag} {h : Heap} {mg : Str → Option Value} (X : K.In h) (G : h.Ns mainGlobals mg)
    {C_Mead : Addr}
    {f_0 : Addr} {od_0 an_0 : Option Addr} {sl_0 : Array (Option Value)} {oc_0 kV_0 dc_0 pm_0 cd_0 ct_0 : Value}
    {f_1 : Addr} {od_1 an_1 : Option Addr} {sl_1 : Array (Option Value)} {oc_1 kV_1 dc_1 pm_1 cd_1 ct_1 : Value}
    {f_2 : Addr} {od_2 an_2 : Option Addr} {sl_2 : Array (Option Value)} {oc_2 kV_2 dc_2 pm_2 cd_2 ct_2 : Value}
    {f_3 : Addr} {od_3 an_3 : Option Addr} {sl_3 : Array (Option Value)} {oc_3 kV_3 dc_3 pm_3 cd_3 ct_3 : Value}
    {f_4 : Addr} {od_4 an_4 : Option Addr} {sl_4 : Array (Option Value)} {oc_4 kV_4 dc_4 pm_4 cd_4 ct_4 : Value}
    {f_5 : Addr} {od_5 an_5 : Option Addr} {sl_5 : Array (Option Value)} {oc_5 kV_5 dc_5 pm_5 cd_5 ct_5 : Value}
    {f_6 : Addr} {od_6 an_6 : Option Addr} {sl_6 : Array (Option Value)} {oc_6 kV_6 dc_6 pm_6 cd_6 ct_6 : Value}
    {f_7 : Addr} {od_7 an_7 : Option Addr} {sl_7 : Array (Option Value)} {oc_7 kV_7 dc_7 pm_7 cd_7 ct_7 : Value}
    {f_8 : Addr} {od_8 an_8 : Option Addr} {sl_8 : Array (Option Value)} {oc_8 kV_8 dc_8 pm_8 cd_8 ct_8 : Value}
    {f_9 : Addr} {od_9 an_9 : Option Addr} {sl_9 : Array (Option Value)} {oc_9 kV_9 dc_9 pm_9 cd_9 ct_9 : Value}
    {f_10 : Addr} {od_10 an_10 : Option Addr} {sl_10 : Array (Option Value)} {oc_10 kV_10 dc_10 pm_10 cd_10 ct_10 : Value}
    {f_11 : Addr} {od_11 an_11 : Option Addr} {sl_11 : Array (Option Value)} {oc_11 kV_11 dc_11 pm_11 cd_11 ct_11 : Value}
    {f_12 : Addr} {od_12 an_12 : Option Addr} {sl_12 : Array (Option Value)} {oc_12 kV_12 dc_12 pm_12 cd_12 ct_12 : Value}
    {f_13 : Addr} {od_13 an_13 : Option Addr} {sl_13 : Array (Option Value)} {oc_13 kV_13 dc_13 pm_13 cd_13 ct_13 : Value}
    {f_14 : Addr} {od_14 an_14 : Option Addr} {sl_14 : Array (Option Value)} {oc_14 kV_14 dc_14 pm_14 cd_14 ct_14 : Value}
    {f_15 : Addr} {od_15 an_15 : Option Addr} {sl_15 : Array (Option Value)} {oc_15 kV_15 dc_15 pm_15 cd_15 ct_15 : Value}
    {f_16 : Addr} {od_16 an_16 : Option Addr} {sl_16 : Array (Option Value)} {oc_16 kV_16 dc_16 pm_16 cd_16 ct_16 : Value}
    {f_17 : Addr} {od_17 an_17 : Option Addr} {sl_17 : Array (Option Value)} {oc_17 kV_17 dc_17 pm_17 cd_17 ct_17 : Value}
    {f_18 : Addr} {od_18 an_18 : Option Addr} {sl_18 : Array (Option Value)} {oc_18 kV_18 dc_18 pm_18 cd_18 ct_18 : Value}
    {f_19 : Addr} {od_19 an_19 : Option Addr} {sl_19 : Array (Option Value)} {oc_19 kV_19 dc_19 pm_19 cd_19 ct_19 : Value}
    {f_20 : Addr} {od_20 an_20 : Option Addr} {sl_20 : Array (Option Value)} {oc_20 kV_20 dc_20 pm_20 cd_20 ct_20 : Value}
    {f_21 : Addr} {od_21 an_21 : Option Addr} {sl_21 : Array (Option Value)} {oc_21 kV_21 dc_21 pm_21 cd_21 ct_21 : Value}
    {f_22 : Addr} {od_22 an_22 : Option Addr} {sl_22 : Array (Option Value)} {oc_22 kV_22 dc_22 pm_22 cd_22 ct_22 : Value}
    {f_23 : Addr} {od_23 an_23 : Option Addr} {sl_23 : Array (Option Value)} {oc_23 kV_23 dc_23 pm_23 cd_23 ct_23 : Value}
    {f_24 : Addr} {od_24 an_24 : Option Addr} {sl_24 : Array (Option Value)} {oc_24 kV_24 dc_24 pm_24 cd_24 ct_24 : Value}
    {f_25 : Addr} {od_25 an_25 : Option Addr} {sl_25 : Array (Option Value)} {oc_25 kV_25 dc_25 pm_25 cd_25 ct_25 : Value}
    {f_26 : Addr} {od_26 an_26 : Option Addr} {sl_26 : Array (Option Value)} {oc_26 kV_26 dc_26 pm_26 cd_26 ct_26 : Value}
    {f_27 : Addr} {od_27 an_27 : Option Addr} {sl_27 : Array (Option Value)} {oc_27 kV_27 dc_27 pm_27 cd_27 ct_27 : Value}
    {f_28 : Addr} {od_28 an_28 : Option Addr} {sl_28 : Array (Option Value)} {oc_28 kV_28 dc_28 pm_28 cd_28 ct_28 : Value}
    {f_29 : Addr} {od_29 an_29 : Option Addr} {sl_29 : Array (Option Value)} {oc_29 kV_29 dc_29 pm_29 cd_29 ct_29 : Value}
    {f_30 : Addr} {od_30 an_30 : Option Addr} {sl_30 : Array (Option Value)} {oc_30 kV_30 dc_30 pm_30 cd_30 ct_30 : Value}
    {f_31 : Addr} {od_31 an_31 : Option Addr} {sl_31 : Array (Option Value)} {oc_31 kV_31 dc_31 pm_31 cd_31 ct_31 : Value}
    {f_32 : Addr} {od_32 an_32 : Option Addr} {sl_32 : Array (Option Value)} {oc_32 kV_32 dc_32 pm_32 cd_32 ct_32 : Value}
    {f_33 : Addr} {od_33 an_33 : Option Addr} {sl_33 : Array (Option Value)} {oc_33 kV_33 dc_33 pm_33 cd_33 ct_33 : Value}
    {f_34 : Addr} {od_34 an_34 : Option Addr} {sl_34 : Array (Option Value)} {oc_34 kV_34 dc_34 pm_34 cd_34 ct_34 : Value}
    {f_35 : Addr} {od_35 an_35 : Option Addr} {sl_35 : Array (Option Value)} {oc_35 kV_35 dc_35 pm_35 cd_35 ct_35 : Value}
    {f_36 : Addr} {od_36 an_36 : Option Addr} {sl_36 : Array (Option Value)} {oc_36 kV_36 dc_36 pm_36 cd_36 ct_36 : Value}
    {f_37 : Addr} {od_37 an_37 : Option Addr} {sl_37 : Array (Option Value)} {oc_37 kV_37 dc_37 pm_37 cd_37 ct_37 : Value}
    {f_38 : Addr} {od_38 an_38 : Option Addr} {sl_38 : Array (Option Value)} {oc_38 kV_38 dc_38 pm_38 cd_38 ct_38 : Value}
    {f_39 : Addr} {od_39 an_39 : Option Addr} {sl_39 : Array (Option Value)} {oc_39 kV_39 dc_39 pm_39 cd_39 ct_39 : Value}
    {f_40 : Addr} {od_40 an_40 : Option Addr} {sl_40 : Array (Option Value)} {oc_40 kV_40 dc_40 pm_40 cd_40 ct_40 : Value}
    {f_41 : Addr} {od_41 an_41 : Option Addr} {sl_41 : Array (Option Value)} {oc_41 kV_41 dc_41 pm_41 cd_41 ct_41 : Value}
    {f_42 : Addr} {od_42 an_42 : Option Addr} {sl_42 : Array (Option Value)} {oc_42 kV_42 dc_42 pm_42 cd_42 ct_42 : Value}
    {f_43 : Addr} {od_43 an_43 : Option Addr} {sl_43 : Array (Option Value)} {oc_43 kV_43 dc_43 pm_43 cd_43 ct_43 : Value}
    {f_44 : Addr} {od_44 an_44 : Option Addr} {sl_44 : Array (Option Value)} {oc_44 kV_44 dc_44 pm_44 cd_44 ct_44 : Value}
    {f_45 : Addr} {od_45 an_45 : Option Addr} {sl_45 : Array (Option Value)} {oc_45 kV_45 dc_45 pm_45 cd_45 ct_45 : Value}
    {f_46 : Addr} {od_46 an_46 : Option Addr} {sl_46 : Array (Option Value)} {oc_46 kV_46 dc_46 pm_46 cd_46 ct_46 : Value}
    {f_47 : Addr} {od_47 an_47 : Option Addr} {sl_47 : Array (Option Value)} {oc_47 kV_47 dc_47 pm_47 cd_47 ct_47 : Value}
    {f_48 : Addr} {od_48 an_48 : Option Addr} {sl_48 : Array (Option Value)} {oc_48 kV_48 dc_48 pm_48 cd_48 ct_48 : Value}
    {f_49 : Addr} {od_49 an_49 : Option Addr} {sl_49 : Array (Option Value)} {oc_49 kV_49 dc_49 pm_49 cd_49 ct_49 : Value}
    {f_50 : Addr} {od_50 an_50 : Option Addr} {sl_50 : Array (Option Value)} {oc_50 kV_50 dc_50 pm_50 cd_50 ct_50 : Value}
    {f_51 : Addr} {od_51 an_51 : Option Addr} {sl_51 : Array (Option Value)} {oc_51 kV_51 dc_51 pm_51 cd_51 ct_51 : Value}
    {f_52 : Addr} {od_52 an_52 : Option Addr} {sl_52 : Array (Option Value)} {oc_52 kV_52 dc_52 pm_52 cd_52 ct_52 : Value}
    {f_53 : Addr} {od_53 an_53 : Option Addr} {sl_53 : Array (Option Value)} {oc_53 kV_53 dc_53 pm_53 cd_53 ct_53 : Value}
    {f_54 : Addr} {od_54 an_54 : Option Addr} {sl_54 : Array (Option Value)} {oc_54 kV_54 dc_54 pm_54 cd_54 ct_54 : Value}
    {f_55 : Addr} {od_55 an_55 : Option Addr} {sl_55 : Array (Option Value)} {oc_55 kV_55 dc_55 pm_55 cd_55 ct_55 : Value}
    {f_56 : Addr} {od_56 an_56 : Option Addr} {sl_56 : Array (Option Value)} {oc_56 kV_56 dc_56 pm_56 cd_56 ct_56 : Value}
    {f_57 : Addr} {od_57 an_57 : Option Addr} {sl_57 : Array (Option Value)} {oc_57 kV_57 dc_57 pm_57 cd_57 ct_57 : Value}
    {f_58 : Addr} {od_58 an_58 : Option Addr} {sl_58 : Array (Option Value)} {oc_58 kV_58 dc_58 pm_58 cd_58 ct_58 : Value}
    {f_59 : Addr} {od_59 an_59 : Option Addr} {sl_59 : Array (Option Value)} {oc_59 kV_59 dc_59 pm_59 cd_59 ct_59 : Value}
    {f_60 : Addr} {od_60 an_60 : Option Addr} {sl_60 : Array (Option Value)} {oc_60 kV_60 dc_60 pm_60 cd_60 ct_60 : Value}
    {f_61 : Addr} {od_61 an_61 : Option Addr} {sl_61 : Array (Option Value)} {oc_61 kV_61 dc_61 pm_61 cd_61 ct_61 : Value}
    {f_62 : Addr} {od_62 an_62 : Option Addr} {sl_62 : Array (Option Value)} {oc_62 kV_62 dc_62 pm_62 cd_62 ct_62 : Value}
    {f_63 : Addr} {od_63 an_63 : Option Addr} {sl_63 : Array (Option Value)} {oc_63 kV_63 dc_63 pm_63 cd_63 ct_63 : Value}
    {f_64 : Addr} {od_64 an_64 : Option Addr} {sl_64 : Array (Option Value)} {oc_64 kV_64 dc_64 pm_64 cd_64 ct_64 : Value}
    {f_65 : Addr} {od_65 an_65 : Option Addr} {sl_65 : Array (Option Value)} {oc_65 kV_65 dc_65 pm_65 cd_65 ct_65 : Value}
    {f_66 : Addr} {od_66 an_66 : Option Addr} {sl_66 : Array (Option Value)} {oc_66 kV_66 dc_66 pm_66 cd_66 ct_66 : Value}
    {f_67 : Addr} {od_67 an_67 : Option Addr} {sl_67 : Array (Option Value)} {oc_67 kV_67 dc_67 pm_67 cd_67 ct_67 : Value}
    {f_68 : Addr} {od_68 an_68 : Option Addr} {sl_68 : Array (Option Value)} {oc_68 kV_68 dc_68 pm_68 cd_68 ct_68 : Value}
    {f_69 : Addr} {od_69 an_69 : Option Addr} {sl_69 : Array (Option Value)} {oc_69 kV_69 dc_69 pm_69 cd_69 ct_69 : Value}
    {f_70 : Addr} {od_70 an_70 : Option Addr} {sl_70 : Array (Option Value)} {oc_70 kV_70 dc_70 pm_70 cd_70 ct_70 : Value}
    {f_71 : Addr} {od_71 an_71 : Option Addr} {sl_71 : Array (Option Value)} {oc_71 kV_71 dc_71 pm_71 cd_71 ct_71 : Value}
    {f_72 : Addr} {od_72 an_72 : Option Addr} {sl_72 : Array (Option Value)} {oc_72 kV_72 dc_72 pm_72 cd_72 ct_72 : Value}
    {f_73 : Addr} {od_73 an_73 : Option Addr} {sl_73 : Array (Option Value)} {oc_73 kV_73 dc_73 pm_73 cd_73 ct_73 : Value}
    {f_74 : Addr} {od_74 an_74 : Option Addr} {sl_74 : Array (Option Value)} {oc_74 kV_74 dc_74 pm_74 cd_74 ct_74 : Value}
    {f_75 : Addr} {od_75 an_75 : Option Addr} {sl_75 : Array (Option Value)} {oc_75 kV_75 dc_75 pm_75 cd_75 ct_75 : Value}
    {f_76 : Addr} {od_76 an_76 : Option Addr} {sl_76 : Array (Option Value)} {oc_76 kV_76 dc_76 pm_76 cd_76 ct_76 : Value}
    {f_77 : Addr} {od_77 an_77 : Option Addr} {sl_77 : Array (Option Value)} {oc_77 kV_77 dc_77 pm_77 cd_77 ct_77 : Value}
    {f_78 : Addr} {od_78 an_78 : Option Addr} {sl_78 : Array (Option Value)} {oc_78 kV_78 dc_78 pm_78 cd_78 ct_78 : Value}
    {f_79 : Addr} {od_79 an_79 : Option Addr} {sl_79 : Array (Option Value)} {oc_79 kV_79 dc_79 pm_79 cd_79 ct_79 : Value}
    {f_80 : Addr} {od_80 an_80 : Option Addr} {sl_80 : Array (Option Value)} {oc_80 kV_80 dc_80 pm_80 cd_80 ct_80 : Value}
    {C_NoCutting : Addr}
    {C_NoRope : Addr}
    {C_NoFraction : Addr}
    {C_NoPost : Addr}
    {C_BadLength : Addr}
    {C_Full : Addr}
    {C_Few : Addr}
    {C_HasRopes : Addr}
    {C_NoBack : Addr}
    {u_FEWEST : Value}
    {u_MOST : Value}
    {c_ONE : Addr} {o_ONE : Obj} {its_ONE : Array Value} {nn_ONE : Nat}
    {c_NOUGHT : Addr} {o_NOUGHT : Obj} {its_NOUGHT : Array Value} {nn_NOUGHT : Nat}
    (oa_Mead : PySem.W.nsIn K mainGlobals "Mead" = some (some (.ref C_Mead)))
    (a0 : PySem.W.nsIn K mainGlobals "_wall" = some (some (.ref f_0)))
    (l0 : K.lookup f_0 = some ⟨oc_0, od_0, .func (PySem.W.fnOf "_wall" "_wall" (defArgs s_wall) (defBody s_wall) (defScope s_wall) .none kV_0 dc_0 pm_0 an_0 cd_0 ct_0), sl_0⟩)
    (c0 : PySem.W.codeIn K cd_0 "_wall" = true)
    (k0 : PySem.W.keepIn K (.ref f_0) = true)
    (a1 : PySem.W.nsIn K mainGlobals "tie_of" = some (some (.ref f_1)))
    (l1 : K.lookup f_1 = some ⟨oc_1, od_1, .func (PySem.W.fnOf "tie_of" "tie_of" (defArgs s_tie_of) (defBody s_tie_of) (defScope s_tie_of) .none kV_1 dc_1 pm_1 an_1 cd_1 ct_1), sl_1⟩)
    (c1 : PySem.W.codeIn K cd_1 "tie_of" = true)
    (k1 : PySem.W.keepIn K (.ref f_1) = true)
    (a2 : PySem.W.nsIn K mainGlobals "crosses" = some (some (.ref f_2)))
    (l2 : K.lookup f_2 = some ⟨oc_2, od_2, .func (PySem.W.fnOf "crosses" "crosses" (defArgs s_crosses) (defBody s_crosses) (defScope s_crosses) .none kV_2 dc_2 pm_2 an_2 cd_2 ct_2), sl_2⟩)
    (c2 : PySem.W.codeIn K cd_2 "crosses" = true)
    (k2 : PySem.W.keepIn K (.ref f_2) = true)
    (a3 : PySem.W.nsIn K mainGlobals "sides" = some (some (.ref f_3)))
    (l3 : K.lookup f_3 = some ⟨oc_3, od_3, .func (PySem.W.fnOf "sides" "sides" (defArgs s_sides) (defBody s_sides) (defScope s_sides) .none kV_3 dc_3 pm_3 an_3 cd_3 ct_3), sl_3⟩)
    (c3 : PySem.W.codeIn K cd_3 "sides" = true)
    (k3 : PySem.W.keepIn K (.ref f_3) = true)
    (a4 : PySem.W.nsIn K mainGlobals "is_rope" = some (some (.ref f_4)))
    (l4 : K.lookup f_4 = some ⟨oc_4, od_4, .func (PySem.W.fnOf "is_rope" "is_rope" (defArgs s_is_rope) (defBody s_is_rope) (defScope s_is_rope) .none kV_4 dc_4 pm_4 an_4 cd_4 ct_4), sl_4⟩)
    (c4 : PySem.W.codeIn K cd_4 "is_rope" = true)
    (k4 : PySem.W.keepIn K (.ref f_4) = true)
    (a5 : PySem.W.nsIn K mainGlobals "kept" = some (some (.ref f_5)))
    (l5 : K.lookup f_5 = some ⟨oc_5, od_5, .func (PySem.W.fnOf "kept" "kept" (defArgs s_kept) (defBody s_kept) (defScope s_kept) .none kV_5 dc_5 pm_5 an_5 cd_5 ct_5), sl_5⟩)
    (c5 : PySem.W.codeIn K cd_5 "kept" = true)
    (k5 : PySem.W.keepIn K (.ref f_5) = true)
    (a6 : PySem.W.nsIn K mainGlobals "ties" = some (some (.ref f_6)))
    (l6 : K.lookup f_6 = some ⟨oc_6, od_6, .func (PySem.W.fnOf "ties" "ties" (defArgs s_ties) (defBody s_ties) (defScope s_ties) .none kV_6 dc_6 pm_6 an_6 cd_6 ct_6), sl_6⟩)
    (c6 : PySem.W.codeIn K cd_6 "ties" = true)
    (k6 : PySem.W.keepIn K (.ref f_6) = true)
    (a7 : PySem.W.nsIn K mainGlobals "plots" = some (some (.ref f_7)))
    (l7 : K.lookup f_7 = some ⟨oc_7, od_7, .func (PySem.W.fnOf "plots" "plots" (defArgs s_plots) (defBody s_plots) (defScope s_plots) .none kV_7 dc_7 pm_7 an_7 cd_7 ct_7), sl_7⟩)
    (c7 : PySem.W.codeIn K cd_7 "plots" = true)
    (k7 : PySem.W.keepIn K (.ref f_7) = true)
    (a8 : PySem.W.nsIn K mainGlobals "beside" = some (some (.ref f_8)))
    (l8 : K.lookup f_8 = some ⟨oc_8, od_8, .func (PySem.W.fnOf "beside" "beside" (defArgs s_beside) (defBody s_beside) (defScope s_beside) .none kV_8 dc_8 pm_8 an_8 cd_8 ct_8), sl_8⟩)
    (c8 : PySem.W.codeIn K cd_8 "beside" = true)
    (k8 : PySem.W.keepIn K (.ref f_8) = true)
    (a9 : PySem.W.nsIn K mainGlobals "turned" = some (some (.ref f_9)))
    (l9 : K.lookup f_9 = some ⟨oc_9, od_9, .func (PySem.W.fnOf "turned" "turned" (defArgs s_turned) (defBody s_turned) (defScope s_turned) .none kV_9 dc_9 pm_9 an_9 cd_9 ct_9), sl_9⟩)
    (c9 : PySem.W.codeIn K cd_9 "turned" = true)
    (k9 : PySem.W.keepIn K (.ref f_9) = true)
    (a10 : PySem.W.nsIn K mainGlobals "measure" = some (some (.ref f_10)))
    (l10 : K.lookup f_10 = some ⟨oc_10, od_10, .func (PySem.W.fnOf "measure" "measure" (defArgs s_measure) (defBody s_measure) (defScope s_measure) .none kV_10 dc_10 pm_10 an_10 cd_10 ct_10), sl_10⟩)
    (c10 : PySem.W.codeIn K cd_10 "measure" = true)
    (k10 : PySem.W.keepIn K (.ref f_10) = true)
    (a11 : PySem.W.nsIn K mainGlobals "lowest" = some (some (.ref f_11)))
    (l11 : K.lookup f_11 = some ⟨oc_11, od_11, .func (PySem.W.fnOf "lowest" "lowest" (defArgs s_lowest) (defBody s_lowest) (defScope s_lowest) .none kV_11 dc_11 pm_11 an_11 cd_11 ct_11), sl_11⟩)
    (c11 : PySem.W.codeIn K cd_11 "lowest" = true)
    (k11 : PySem.W.keepIn K (.ref f_11) = true)
    (a12 : PySem.W.nsIn K mainGlobals "plus" = some (some (.ref f_12)))
    (l12 : K.lookup f_12 = some ⟨oc_12, od_12, .func (PySem.W.fnOf "plus" "plus" (defArgs s_plus) (defBody s_plus) (defScope s_plus) .none kV_12 dc_12 pm_12 an_12 cd_12 ct_12), sl_12⟩)
    (c12 : PySem.W.codeIn K cd_12 "plus" = true)
    (k12 : PySem.W.keepIn K (.ref f_12) = true)
    (a13 : PySem.W.nsIn K mainGlobals "less" = some (some (.ref f_13)))
    (l13 : K.lookup f_13 = some ⟨oc_13, od_13, .func (PySem.W.fnOf "less" "less" (defArgs s_less) (defBody s_less) (defScope s_less) .none kV_13 dc_13 pm_13 an_13 cd_13 ct_13), sl_13⟩)
    (c13 : PySem.W.codeIn K cd_13 "less" = true)
    (k13 : PySem.W.keepIn K (.ref f_13) = true)
    (a14 : PySem.W.nsIn K mainGlobals "times" = some (some (.ref f_14)))
    (l14 : K.lookup f_14 = some ⟨oc_14, od_14, .func (PySem.W.fnOf "times" "times" (defArgs s_times) (defBody s_times) (defScope s_times) .none kV_14 dc_14 pm_14 an_14 cd_14 ct_14), sl_14⟩)
    (c14 : PySem.W.codeIn K cd_14 "times" = true)
    (k14 : PySem.W.keepIn K (.ref f_14) = true)
    (a15 : PySem.W.nsIn K mainGlobals "over" = some (some (.ref f_15)))
    (l15 : K.lookup f_15 = some ⟨oc_15, od_15, .func (PySem.W.fnOf "over" "over" (defArgs s_over) (defBody s_over) (defScope s_over) .none kV_15 dc_15 pm_15 an_15 cd_15 ct_15), sl_15⟩)
    (c15 : PySem.W.codeIn K cd_15 "over" = true)
    (k15 : PySem.W.keepIn K (.ref f_15) = true)
    (a16 : PySem.W.nsIn K mainGlobals "is_part" = some (some (.ref f_16)))
    (l16 : K.lookup f_16 = some ⟨oc_16, od_16, .func (PySem.W.fnOf "is_part" "is_part" (defArgs s_is_part) (defBody s_is_part) (defScope s_is_part) .none kV_16 dc_16 pm_16 an_16 cd_16 ct_16), sl_16⟩)
    (c16 : PySem.W.codeIn K cd_16 "is_part" = true)
    (k16 : PySem.W.keepIn K (.ref f_16) = true)
    (a17 : PySem.W.nsIn K mainGlobals "is_length" = some (some (.ref f_17)))
    (l17 : K.lookup f_17 = some ⟨oc_17, od_17, .func (PySem.W.fnOf "is_length" "is_length" (defArgs s_is_length) (defBody s_is_length) (defScope s_is_length) .none kV_17 dc_17 pm_17 an_17 cd_17 ct_17), sl_17⟩)
    (c17 : PySem.W.codeIn K cd_17 "is_length" = true)
    (k17 : PySem.W.keepIn K (.ref f_17) = true)
    (a18 : PySem.W.nsIn K mainGlobals "two_posts" = some (some (.ref f_18)))
    (l18 : K.lookup f_18 = some ⟨oc_18, od_18, .func (PySem.W.fnOf "two_posts" "two_posts" (defArgs s_two_posts) (defBody s_two_posts) (defScope s_two_posts) .none kV_18 dc_18 pm_18 an_18 cd_18 ct_18), sl_18⟩)
    (c18 : PySem.W.codeIn K cd_18 "two_posts" = true)
    (k18 : PySem.W.keepIn K (.ref f_18) = true)
    (a19 : PySem.W.nsIn K mainGlobals "between" = some (some (.ref f_19)))
    (l19 : K.lookup f_19 = some ⟨oc_19, od_19, .func (PySem.W.fnOf "between" "between" (defArgs s_between) (defBody s_between) (defScope s_between) .none kV_19 dc_19 pm_19 an_19 cd_19 ct_19), sl_19⟩)
    (c19 : PySem.W.codeIn K cd_19 "between" = true)
    (k19 : PySem.W.keepIn K (.ref f_19) = true)
    (a20 : PySem.W.nsIn K mainGlobals "spread" = some (some (.ref f_20)))
    (l20 : K.lookup f_20 = some ⟨oc_20, od_20, .func (PySem.W.fnOf "spread" "spread" (defArgs s_spread) (defBody s_spread) (defScope s_spread) .none kV_20 dc_20 pm_20 an_20 cd_20 ct_20), sl_20⟩)
    (c20 : PySem.W.codeIn K cd_20 "spread" = true)
    (k20 : PySem.W.keepIn K (.ref f_20) = true)
    (a21 : PySem.W.nsIn K mainGlobals "pair_mixed" = some (some (.ref f_21)))
    (l21 : K.lookup f_21 = some ⟨oc_21, od_21, .func (PySem.W.fnOf "pair_mixed" "pair_mixed" (defArgs s_pair_mixed) (defBody s_pair_mixed) (defScope s_pair_mixed) .none kV_21 dc_21 pm_21 an_21 cd_21 ct_21), sl_21⟩)
    (c21 : PySem.W.codeIn K cd_21 "pair_mixed" = true)
    (k21 : PySem.W.keepIn K (.ref f_21) = true)
    (a22 : PySem.W.nsIn K mainGlobals "third" = some (some (.ref f_22)))
    (l22 : K.lookup f_22 = some ⟨oc_22, od_22, .func (PySem.W.fnOf "third" "third" (defArgs s_third) (defBody s_third) (defScope s_third) .none kV_22 dc_22 pm_22 an_22 cd_22 ct_22), sl_22⟩)
    (c22 : PySem.W.codeIn K cd_22 "third" = true)
    (k22 : PySem.W.keepIn K (.ref f_22) = true)
    (a23 : PySem.W.nsIn K mainGlobals "stands" = some (some (.ref f_23)))
    (l23 : K.lookup f_23 = some ⟨oc_23, od_23, .func (PySem.W.fnOf "stands" "stands" (defArgs s_stands) (defBody s_stands) (defScope s_stands) .none kV_23 dc_23 pm_23 an_23 cd_23 ct_23), sl_23⟩)
    (c23 : PySem.W.codeIn K cd_23 "stands" = true)
    (k23 : PySem.W.keepIn K (.ref f_23) = true)
    (a24 : PySem.W.nsIn K mainGlobals "measured" = some (some (.ref f_24)))
    (l24 : K.lookup f_24 = some ⟨oc_24, od_24, .func (PySem.W.fnOf "measured" "measured" (defArgs s_measured) (defBody s_measured) (defScope s_measured) .none kV_24 dc_24 pm_24 an_24 cd_24 ct_24), sl_24⟩)
    (c24 : PySem.W.codeIn K cd_24 "measured" = true)
    (k24 : PySem.W.keepIn K (.ref f_24) = true)
    (a25 : PySem.W.nsIn K mainGlobals "laid" = some (some (.ref f_25)))
    (l25 : K.lookup f_25 = some ⟨oc_25, od_25, .func (PySem.W.fnOf "laid" "laid" (defArgs s_laid) (defBody s_laid) (defScope s_laid) .none kV_25 dc_25 pm_25 an_25 cd_25 ct_25), sl_25⟩)
    (c25 : PySem.W.codeIn K cd_25 "laid" = true)
    (k25 : PySem.W.keepIn K (.ref f_25) = true)
    (a26 : PySem.W.nsIn K mainGlobals "stretched" = some (some (.ref f_26)))
    (l26 : K.lookup f_26 = some ⟨oc_26, od_26, .func (PySem.W.fnOf "stretched" "stretched" (defArgs s_stretched) (defBody s_stretched) (defScope s_stretched) .none kV_26 dc_26 pm_26 an_26 cd_26 ct_26), sl_26⟩)
    (c26 : PySem.W.codeIn K cd_26 "stretched" = true)
    (k26 : PySem.W.keepIn K (.ref f_26) = true)
    (a27 : PySem.W.nsIn K mainGlobals "sized_by" = some (some (.ref f_27)))
    (l27 : K.lookup f_27 = some ⟨oc_27, od_27, .func (PySem.W.fnOf "sized_by" "sized_by" (defArgs s_sized_by) (defBody s_sized_by) (defScope s_sized_by) .none kV_27 dc_27 pm_27 an_27 cd_27 ct_27), sl_27⟩)
    (c27 : PySem.W.codeIn K cd_27 "sized_by" = true)
    (k27 : PySem.W.keepIn K (.ref f_27) = true)
    (a28 : PySem.W.nsIn K mainGlobals "moved_up" = some (some (.ref f_28)))
    (l28 : K.lookup f_28 = some ⟨oc_28, od_28, .func (PySem.W.fnOf "moved_up" "moved_up" (defArgs s_moved_up) (defBody s_moved_up) (defScope s_moved_up) .none kV_28 dc_28 pm_28 an_28 cd_28 ct_28), sl_28⟩)
    (c28 : PySem.W.codeIn K cd_28 "moved_up" = true)
    (k28 : PySem.W.keepIn K (.ref f_28) = true)
    (a29 : PySem.W.nsIn K mainGlobals "moved_down" = some (some (.ref f_29)))
    (l29 : K.lookup f_29 = some ⟨oc_29, od_29, .func (PySem.W.fnOf "moved_down" "moved_down" (defArgs s_moved_down) (defBody s_moved_down) (defScope s_moved_down) .none kV_29 dc_29 pm_29 an_29 cd_29 ct_29), sl_29⟩)
    (c29 : PySem.W.codeIn K cd_29 "moved_down" = true)
    (k29 : PySem.W.keepIn K (.ref f_29) = true)
    (a30 : PySem.W.nsIn K mainGlobals "_law_flow" = some (some (.ref f_30)))
    (l30 : K.lookup f_30 = some ⟨oc_30, od_30, .func (PySem.W.fnOf "_law_flow" "_law_flow" (defArgs s_law_flow) (defBody s_law_flow) (defScope s_law_flow) .none kV_30 dc_30 pm_30 an_30 cd_30 ct_30), sl_30⟩)
    (c30 : PySem.W.codeIn K cd_30 "_law_flow" = true)
    (k30 : PySem.W.keepIn K (.ref f_30) = true)
    (a31 : PySem.W.nsIn K mainGlobals "_law_whole" = some (some (.ref f_31)))
    (l31 : K.lookup f_31 = some ⟨oc_31, od_31, .func (PySem.W.fnOf "_law_whole" "_law_whole" (defArgs s_law_whole) (defBody s_law_whole) (defScope s_law_whole) .none kV_31 dc_31 pm_31 an_31 cd_31 ct_31), sl_31⟩)
    (c31 : PySem.W.codeIn K cd_31 "_law_whole" = true)
    (k31 : PySem.W.keepIn K (.ref f_31) = true)
    (a32 : PySem.W.nsIn K mainGlobals "_law_low" = some (some (.ref f_32)))
    (l32 : K.lookup f_32 = some ⟨oc_32, od_32, .func (PySem.W.fnOf "_law_low" "_law_low" (defArgs s_law_low) (defBody s_law_low) (defScope s_law_low) .none kV_32 dc_32 pm_32 an_32 cd_32 ct_32), sl_32⟩)
    (c32 : PySem.W.codeIn K cd_32 "_law_low" = true)
    (k32 : PySem.W.keepIn K (.ref f_32) = true)
    (a33 : PySem.W.nsIn K mainGlobals "_law_add" = some (some (.ref f_33)))
    (l33 : K.lookup f_33 = some ⟨oc_33, od_33, .func (PySem.W.fnOf "_law_add" "_law_add" (defArgs s_law_add) (defBody s_law_add) (defScope s_law_add) .none kV_33 dc_33 pm_33 an_33 cd_33 ct_33), sl_33⟩)
    (c33 : PySem.W.codeIn K cd_33 "_law_add" = true)
    (k33 : PySem.W.keepIn K (.ref f_33) = true)
    (a34 : PySem.W.nsIn K mainGlobals "_law_mul" = some (some (.ref f_34)))
    (l34 : K.lookup f_34 = some ⟨oc_34, od_34, .func (PySem.W.fnOf "_law_mul" "_law_mul" (defArgs s_law_mul) (defBody s_law_mul) (defScope s_law_mul) .none kV_34 dc_34 pm_34 an_34 cd_34 ct_34), sl_34⟩)
    (c34 : PySem.W.codeIn K cd_34 "_law_mul" = true)
    (k34 : PySem.W.keepIn K (.ref f_34) = true)
    (a35 : PySem.W.nsIn K mainGlobals "_law_div" = some (some (.ref f_35)))
    (l35 : K.lookup f_35 = some ⟨oc_35, od_35, .func (PySem.W.fnOf "_law_div" "_law_div" (defArgs s_law_div) (defBody s_law_div) (defScope s_law_div) .none kV_35 dc_35 pm_35 an_35 cd_35 ct_35), sl_35⟩)
    (c35 : PySem.W.codeIn K cd_35 "_law_div" = true)
    (k35 : PySem.W.keepIn K (.ref f_35) = true)
    (a36 : PySem.W.nsIn K mainGlobals "_law_part" = some (some (.ref f_36)))
    (l36 : K.lookup f_36 = some ⟨oc_36, od_36, .func (PySem.W.fnOf "_law_part" "_law_part" (defArgs s_law_part) (defBody s_law_part) (defScope s_law_part) .none kV_36 dc_36 pm_36 an_36 cd_36 ct_36), sl_36⟩)
    (c36 : PySem.W.codeIn K cd_36 "_law_part" = true)
    (k36 : PySem.W.keepIn K (.ref f_36) = true)
    (a37 : PySem.W.nsIn K mainGlobals "_law_size" = some (some (.ref f_37)))
    (l37 : K.lookup f_37 = some ⟨oc_37, od_37, .func (PySem.W.fnOf "_law_size" "_law_size" (defArgs s_law_size) (defBody s_law_size) (defScope s_law_size) .none kV_37 dc_37 pm_37 an_37 cd_37 ct_37), sl_37⟩)
    (c37 : PySem.W.codeIn K cd_37 "_law_size" = true)
    (k37 : PySem.W.keepIn K (.ref f_37) = true)
    (a38 : PySem.W.nsIn K mainGlobals "_law_many" = some (some (.ref f_38)))
    (l38 : K.lookup f_38 = some ⟨oc_38, od_38, .func (PySem.W.fnOf "_law_many" "_law_many" (defArgs s_law_many) (defBody s_law_many) (defScope s_law_many) .none kV_38 dc_38 pm_38 an_38 cd_38 ct_38), sl_38⟩)
    (c38 : PySem.W.codeIn K cd_38 "_law_many" = true)
    (k38 : PySem.W.keepIn K (.ref f_38) = true)
    (a39 : PySem.W.nsIn K mainGlobals "_law_pair" = some (some (.ref f_39)))
    (l39 : K.lookup f_39 = some ⟨oc_39, od_39, .func (PySem.W.fnOf "_law_pair" "_law_pair" (defArgs s_law_pair) (defBody s_law_pair) (defScope s_law_pair) .none kV_39 dc_39 pm_39 an_39 cd_39 ct_39), sl_39⟩)
    (c39 : PySem.W.codeIn K cd_39 "_law_pair" = true)
    (k39 : PySem.W.keepIn K (.ref f_39) = true)
    (a40 : PySem.W.nsIn K mainGlobals "_law_ears" = some (some (.ref f_40)))
    (l40 : K.lookup f_40 = some ⟨oc_40, od_40, .func (PySem.W.fnOf "_law_ears" "_law_ears" (defArgs s_law_ears) (defBody s_law_ears) (defScope s_law_ears) .none kV_40 dc_40 pm_40 an_40 cd_40 ct_40), sl_40⟩)
    (c40 : PySem.W.codeIn K cd_40 "_law_ears" = true)
    (k40 : PySem.W.keepIn K (.ref f_40) = true)
    (a41 : PySem.W.nsIn K mainGlobals "_law_ropes" = some (some (.ref f_41)))
    (l41 : K.lookup f_41 = some ⟨oc_41, od_41, .func (PySem.W.fnOf "_law_ropes" "_law_ropes" (defArgs s_law_ropes) (defBody s_law_ropes) (defScope s_law_ropes) .none kV_41 dc_41 pm_41 an_41 cd_41 ct_41), sl_41⟩)
    (c41 : PySem.W.codeIn K cd_41 "_law_ropes" = true)
    (k41 : PySem.W.keepIn K (.ref f_41) = true)
    (a42 : PySem.W.nsIn K mainGlobals "_law_sides" = some (some (.ref f_42)))
    (l42 : K.lookup f_42 = some ⟨oc_42, od_42, .func (PySem.W.fnOf "_law_sides" "_law_sides" (defArgs s_law_sides) (defBody s_law_sides) (defScope s_law_sides) .none kV_42 dc_42 pm_42 an_42 cd_42 ct_42), sl_42⟩)
    (c42 : PySem.W.codeIn K cd_42 "_law_sides" = true)
    (k42 : PySem.W.keepIn K (.ref f_42) = true)
    (a43 : PySem.W.nsIn K mainGlobals "_law_ties" = some (some (.ref f_43)))
    (l43 : K.lookup f_43 = some ⟨oc_43, od_43, .func (PySem.W.fnOf "_law_ties" "_law_ties" (defArgs s_law_ties) (defBody s_law_ties) (defScope s_law_ties) .none kV_43 dc_43 pm_43 an_43 cd_43 ct_43), sl_43⟩)
    (c43 : PySem.W.codeIn K cd_43 "_law_ties" = true)
    (k43 : PySem.W.keepIn K (.ref f_43) = true)
    (a44 : PySem.W.nsIn K mainGlobals "_law_sized" = some (some (.ref f_44)))
    (l44 : K.lookup f_44 = some ⟨oc_44, od_44, .func (PySem.W.fnOf "_law_sized" "_law_sized" (defArgs s_law_sized) (defBody s_law_sized) (defScope s_law_sized) .none kV_44 dc_44 pm_44 an_44 cd_44 ct_44), sl_44⟩)
    (c44 : PySem.W.codeIn K cd_44 "_law_sized" = true)
    (k44 : PySem.W.keepIn K (.ref f_44) = true)
    (a45 : PySem.W.nsIn K mainGlobals "_law_beside" = some (some (.ref f_45)))
    (l45 : K.lookup f_45 = some ⟨oc_45, od_45, .func (PySem.W.fnOf "_law_beside" "_law_beside" (defArgs s_law_beside) (defBody s_law_beside) (defScope s_law_beside) .none kV_45 dc_45 pm_45 an_45 cd_45 ct_45), sl_45⟩)
    (c45 : PySem.W.codeIn K cd_45 "_law_beside" = true)
    (k45 : PySem.W.keepIn K (.ref f_45) = true)
    (a46 : PySem.W.nsIn K mainGlobals "_law_turned" = some (some (.ref f_46)))
    (l46 : K.lookup f_46 = some ⟨oc_46, od_46, .func (PySem.W.fnOf "_law_turned" "_law_turned" (defArgs s_law_turned) (defBody s_law_turned) (defScope s_law_turned) .none kV_46 dc_46 pm_46 an_46 cd_46 ct_46), sl_46⟩)
    (c46 : PySem.W.codeIn K cd_46 "_law_turned" = true)
    (k46 : PySem.W.keepIn K (.ref f_46) = true)
    (a47 : PySem.W.nsIn K mainGlobals "_law_tuple" = some (some (.ref f_47)))
    (l47 : K.lookup f_47 = some ⟨oc_47, od_47, .func (PySem.W.fnOf "_law_tuple" "_law_tuple" (defArgs s_law_tuple) (defBody s_law_tuple) (defScope s_law_tuple) .none kV_47 dc_47 pm_47 an_47 cd_47 ct_47), sl_47⟩)
    (c47 : PySem.W.codeIn K cd_47 "_law_tuple" = true)
    (k47 : PySem.W.keepIn K (.ref f_47) = true)
    (a48 : PySem.W.nsIn K mainGlobals "_law_list" = some (some (.ref f_48)))
    (l48 : K.lookup f_48 = some ⟨oc_48, od_48, .func (PySem.W.fnOf "_law_list" "_law_list" (defArgs s_law_list) (defBody s_law_list) (defScope s_law_list) .none kV_48 dc_48 pm_48 an_48 cd_48 ct_48), sl_48⟩)
    (c48 : PySem.W.codeIn K cd_48 "_law_list" = true)
    (k48 : PySem.W.keepIn K (.ref f_48) = true)
    (a49 : PySem.W.nsIn K mainGlobals "_law_dict" = some (some (.ref f_49)))
    (l49 : K.lookup f_49 = some ⟨oc_49, od_49, .func (PySem.W.fnOf "_law_dict" "_law_dict" (defArgs s_law_dict) (defBody s_law_dict) (defScope s_law_dict) .none kV_49 dc_49 pm_49 an_49 cd_49 ct_49), sl_49⟩)
    (c49 : PySem.W.codeIn K cd_49 "_law_dict" = true)
    (k49 : PySem.W.keepIn K (.ref f_49) = true)
    (a50 : PySem.W.nsIn K mainGlobals "_law_parts" = some (some (.ref f_50)))
    (l50 : K.lookup f_50 = some ⟨oc_50, od_50, .func (PySem.W.fnOf "_law_parts" "_law_parts" (defArgs s_law_parts) (defBody s_law_parts) (defScope s_law_parts) .none kV_50 dc_50 pm_50 an_50 cd_50 ct_50), sl_50⟩)
    (c50 : PySem.W.codeIn K cd_50 "_law_parts" = true)
    (k50 : PySem.W.keepIn K (.ref f_50) = true)
    (a51 : PySem.W.nsIn K mainGlobals "_law_laid" = some (some (.ref f_51)))
    (l51 : K.lookup f_51 = some ⟨oc_51, od_51, .func (PySem.W.fnOf "_law_laid" "_law_laid" (defArgs s_law_laid) (defBody s_law_laid) (defScope s_law_laid) .none kV_51 dc_51 pm_51 an_51 cd_51 ct_51), sl_51⟩)
    (c51 : PySem.W.codeIn K cd_51 "_law_laid" = true)
    (k51 : PySem.W.keepIn K (.ref f_51) = true)
    (a52 : PySem.W.nsIn K mainGlobals "_law_stretched" = some (some (.ref f_52)))
    (l52 : K.lookup f_52 = some ⟨oc_52, od_52, .func (PySem.W.fnOf "_law_stretched" "_law_stretched" (defArgs s_law_stretched) (defBody s_law_stretched) (defScope s_law_stretched) .none kV_52 dc_52 pm_52 an_52 cd_52 ct_52), sl_52⟩)
    (c52 : PySem.W.codeIn K cd_52 "_law_stretched" = true)
    (k52 : PySem.W.keepIn K (.ref f_52) = true)
    (a53 : PySem.W.nsIn K mainGlobals "_law_shift" = some (some (.ref f_53)))
    (l53 : K.lookup f_53 = some ⟨oc_53, od_53, .func (PySem.W.fnOf "_law_shift" "_law_shift" (defArgs s_law_shift) (defBody s_law_shift) (defScope s_law_shift) .none kV_53 dc_53 pm_53 an_53 cd_53 ct_53), sl_53⟩)
    (c53 : PySem.W.codeIn K cd_53 "_law_shift" = true)
    (k53 : PySem.W.keepIn K (.ref f_53) = true)
    (a54 : PySem.W.nsIn K mainGlobals "_law_set" = some (some (.ref f_54)))
    (l54 : K.lookup f_54 = some ⟨oc_54, od_54, .func (PySem.W.fnOf "_law_set" "_law_set" (defArgs s_law_set) (defBody s_law_set) (defScope s_law_set) .none kV_54 dc_54 pm_54 an_54 cd_54 ct_54), sl_54⟩)
    (c54 : PySem.W.codeIn K cd_54 "_law_set" = true)
    (k54 : PySem.W.keepIn K (.ref f_54) = true)
    (a55 : PySem.W.nsIn K mainGlobals "_law_draw" = some (some (.ref f_55)))
    (l55 : K.lookup f_55 = some ⟨oc_55, od_55, .func (PySem.W.fnOf "_law_draw" "_law_draw" (defArgs s_law_draw) (defBody s_law_draw) (defScope s_law_draw) .none kV_55 dc_55 pm_55 an_55 cd_55 ct_55), sl_55⟩)
    (c55 : PySem.W.codeIn K cd_55 "_law_draw" = true)
    (k55 : PySem.W.keepIn K (.ref f_55) = true)
    (a56 : PySem.W.nsIn K mainGlobals "_law_model" = some (some (.ref f_56)))
    (l56 : K.lookup f_56 = some ⟨oc_56, od_56, .func (PySem.W.fnOf "_law_model" "_law_model" (defArgs s_law_model) (defBody s_law_model) (defScope s_law_model) .none kV_56 dc_56 pm_56 an_56 cd_56 ct_56), sl_56⟩)
    (c56 : PySem.W.codeIn K cd_56 "_law_model" = true)
    (k56 : PySem.W.keepIn K (.ref f_56) = true)
    (a57 : PySem.W.nsIn K mainGlobals "_law_done" = some (some (.ref f_57)))
    (l57 : K.lookup f_57 = some ⟨oc_57, od_57, .func (PySem.W.fnOf "_law_done" "_law_done" (defArgs s_law_done) (defBody s_law_done) (defScope s_law_done) .none kV_57 dc_57 pm_57 an_57 cd_57 ct_57), sl_57⟩)
    (c57 : PySem.W.codeIn K cd_57 "_law_done" = true)
    (k57 : PySem.W.keepIn K (.ref f_57) = true)
    (a58 : PySem.W.nsIn K mainGlobals "_law_answer" = some (some (.ref f_58)))
    (l58 : K.lookup f_58 = some ⟨oc_58, od_58, .func (PySem.W.fnOf "_law_answer" "_law_answer" (defArgs s_law_answer) (defBody s_law_answer) (defScope s_law_answer) .none kV_58 dc_58 pm_58 an_58 cd_58 ct_58), sl_58⟩)
    (c58 : PySem.W.codeIn K cd_58 "_law_answer" = true)
    (k58 : PySem.W.keepIn K (.ref f_58) = true)
    (a59 : PySem.W.nsIn K mainGlobals "_law_is_at" = some (some (.ref f_59)))
    (l59 : K.lookup f_59 = some ⟨oc_59, od_59, .func (PySem.W.fnOf "_law_is_at" "_law_is_at" (defArgs s_law_is_at) (defBody s_law_is_at) (defScope s_law_is_at) .none kV_59 dc_59 pm_59 an_59 cd_59 ct_59), sl_59⟩)
    (c59 : PySem.W.codeIn K cd_59 "_law_is_at" = true)
    (k59 : PySem.W.keepIn K (.ref f_59) = true)
    (a60 : PySem.W.nsIn K mainGlobals "_law_told_as" = some (some (.ref f_60)))
    (l60 : K.lookup f_60 = some ⟨oc_60, od_60, .func (PySem.W.fnOf "_law_told_as" "_law_told_as" (defArgs s_law_told_as) (defBody s_law_told_as) (defScope s_law_told_as) .none kV_60 dc_60 pm_60 an_60 cd_60 ct_60), sl_60⟩)
    (c60 : PySem.W.codeIn K cd_60 "_law_told_as" = true)
    (k60 : PySem.W.keepIn K (.ref f_60) = true)
    (a61 : PySem.W.nsIn K mainGlobals "_law_same_deeds" = some (some (.ref f_61)))
    (l61 : K.lookup f_61 = some ⟨oc_61, od_61, .func (PySem.W.fnOf "_law_same_deeds" "_law_same_deeds" (defArgs s_law_same_deeds) (defBody s_law_same_deeds) (defScope s_law_same_deeds) .none kV_61 dc_61 pm_61 an_61 cd_61 ct_61), sl_61⟩)
    (c61 : PySem.W.codeIn K cd_61 "_law_same_deeds" = true)
    (k61 : PySem.W.keepIn K (.ref f_61) = true)
    (a62 : PySem.W.nsIn K mainGlobals "_law_start" = some (some (.ref f_62)))
    (l62 : K.lookup f_62 = some ⟨oc_62, od_62, .func (PySem.W.fnOf "_law_start" "_law_start" (defArgs s_law_start) (defBody s_law_start) (defScope s_law_start) .none kV_62 dc_62 pm_62 an_62 cd_62 ct_62), sl_62⟩)
    (c62 : PySem.W.codeIn K cd_62 "_law_start" = true)
    (k62 : PySem.W.keepIn K (.ref f_62) = true)
    (a63 : PySem.W.nsIn K mainGlobals "_law_run" = some (some (.ref f_63)))
    (l63 : K.lookup f_63 = some ⟨oc_63, od_63, .func (PySem.W.fnOf "_law_run" "_law_run" (defArgs s_law_run) (defBody s_law_run) (defScope s_law_run) .none kV_63 dc_63 pm_63 an_63 cd_63 ct_63), sl_63⟩)
    (c63 : PySem.W.codeIn K cd_63 "_law_run" = true)
    (k63 : PySem.W.keepIn K (.ref f_63) = true)
    (a64 : PySem.W.nsIn K mainGlobals "_law_wild" = some (some (.ref f_64)))
    (l64 : K.lookup f_64 = some ⟨oc_64, od_64, .func (PySem.W.fnOf "_law_wild" "_law_wild" (defArgs s_law_wild) (defBody s_law_wild) (defScope s_law_wild) .none kV_64 dc_64 pm_64 an_64 cd_64 ct_64), sl_64⟩)
    (c64 : PySem.W.codeIn K cd_64 "_law_wild" = true)
    (k64 : PySem.W.keepIn K (.ref f_64) = true)
    (a65 : PySem.W.nsIn K mainGlobals "law" = some (some (.ref f_65)))
    (l65 : K.lookup f_65 = some ⟨oc_65, od_65, .func (PySem.W.fnOf "law" "law" (defArgs s_law) (defBody s_law) (defScope s_law) .none kV_65 dc_65 pm_65 an_65 cd_65 ct_65), sl_65⟩)
    (c65 : PySem.W.codeIn K cd_65 "law" = true)
    (k65 : PySem.W.keepIn K (.ref f_65) = true)
    (a66 : PySem.W.findIn K (.ref C_Mead) "__init__" = some (some (.ref f_66)))
    (i66 : PySem.W.isFn K (.ref f_66) = true)
    (l66 : K.lookup f_66 = some ⟨oc_66, od_66, .func (PySem.W.fnOf "__init__" "Mead.__init__" (defArgs s_Mead___init__) (defBody s_Mead___init__) (defScope s_Mead___init__) .none kV_66 dc_66 pm_66 an_66 cd_66 ct_66), sl_66⟩)
    (c66 : PySem.W.codeIn K cd_66 "Mead.__init__" = true)
    (k66 : PySem.W.keepIn K (.ref f_66) = true)
    (a67 : PySem.W.findIn K (.ref C_Mead) "posts" = some (some (.ref f_67)))
    (i67 : PySem.W.isFn K (.ref f_67) = true)
    (l67 : K.lookup f_67 = some ⟨oc_67, od_67, .func (PySem.W.fnOf "posts" "Mead.posts" (defArgs s_Mead_posts) (defBody s_Mead_posts) (defScope s_Mead_posts) .none kV_67 dc_67 pm_67 an_67 cd_67 ct_67), sl_67⟩)
    (c67 : PySem.W.codeIn K cd_67 "Mead.posts" = true)
    (k67 : PySem.W.keepIn K (.ref f_67) = true)
    (a68 : PySem.W.findIn K (.ref C_Mead) "ropes" = some (some (.ref f_68)))
    (i68 : PySem.W.isFn K (.ref f_68) = true)
    (l68 : K.lookup f_68 = some ⟨oc_68, od_68, .func (PySem.W.fnOf "ropes" "Mead.ropes" (defArgs s_Mead_ropes) (defBody s_Mead_ropes) (defScope s_Mead_ropes) .none kV_68 dc_68 pm_68 an_68 cd_68 ct_68), sl_68⟩)
    (c68 : PySem.W.codeIn K cd_68 "Mead.ropes" = true)
    (k68 : PySem.W.keepIn K (.ref f_68) = true)
    (a69 : PySem.W.findIn K (.ref C_Mead) "lengths" = some (some (.ref f_69)))
    (i69 : PySem.W.isFn K (.ref f_69) = true)
    (l69 : K.lookup f_69 = some ⟨oc_69, od_69, .func (PySem.W.fnOf "lengths" "Mead.lengths" (defArgs s_Mead_lengths) (defBody s_Mead_lengths) (defScope s_Mead_lengths) .none kV_69 dc_69 pm_69 an_69 cd_69 ct_69), sl_69⟩)
    (c69 : PySem.W.codeIn K cd_69 "Mead.lengths" = true)
    (k69 : PySem.W.keepIn K (.ref f_69) = true)
    (a70 : PySem.W.findIn K (.ref C_Mead) "deeds" = some (some (.ref f_70)))
    (i70 : PySem.W.isFn K (.ref f_70) = true)
    (l70 : K.lookup f_70 = some ⟨oc_70, od_70, .func (PySem.W.fnOf "deeds" "Mead.deeds" (defArgs s_Mead_deeds) (defBody s_Mead_deeds) (defScope s_Mead_deeds) .none kV_70 dc_70 pm_70 an_70 cd_70 ct_70), sl_70⟩)
    (c70 : PySem.W.codeIn K cd_70 "Mead.deeds" = true)
    (k70 : PySem.W.keepIn K (.ref f_70) = true)
    (a71 : PySem.W.findIn K (.ref C_Mead) "length" = some (some (.ref f_71)))
    (i71 : PySem.W.isFn K (.ref f_71) = true)
    (l71 : K.lookup f_71 = some ⟨oc_71, od_71, .func (PySem.W.fnOf "length" "Mead.length" (defArgs s_Mead_length) (defBody s_Mead_length) (defScope s_Mead_length) .none kV_71 dc_71 pm_71 an_71 cd_71 ct_71), sl_71⟩)
    (c71 : PySem.W.codeIn K cd_71 "Mead.length" = true)
    (k71 : PySem.W.keepIn K (.ref f_71) = true)
    (a72 : PySem.W.findIn K (.ref C_Mead) "state" = some (some (.ref f_72)))
    (i72 : PySem.W.isFn K (.ref f_72) = true)
    (l72 : K.lookup f_72 = some ⟨oc_72, od_72, .func (PySem.W.fnOf "state" "Mead.state" (defArgs s_Mead_state) (defBody s_Mead_state) (defScope s_Mead_state) .none kV_72 dc_72 pm_72 an_72 cd_72 ct_72), sl_72⟩)
    (c72 : PySem.W.codeIn K cd_72 "Mead.state" = true)
    (k72 : PySem.W.keepIn K (.ref f_72) = true)
    (a73 : PySem.W.findIn K (.ref C_Mead) "stand_at" = some (some (.ref f_73)))
    (i73 : PySem.W.isFn K (.ref f_73) = true)
    (l73 : K.lookup f_73 = some ⟨oc_73, od_73, .func (PySem.W.fnOf "stand_at" "Mead.stand_at" (defArgs s_Mead_stand_at) (defBody s_Mead_stand_at) (defScope s_Mead_stand_at) .none kV_73 dc_73 pm_73 an_73 cd_73 ct_73), sl_73⟩)
    (c73 : PySem.W.codeIn K cd_73 "Mead.stand_at" = true)
    (k73 : PySem.W.keepIn K (.ref f_73) = true)
    (a74 : PySem.W.findIn K (.ref C_Mead) "done" = some (some (.ref f_74)))
    (i74 : PySem.W.isFn K (.ref f_74) = true)
    (l74 : K.lookup f_74 = some ⟨oc_74, od_74, .func (PySem.W.fnOf "done" "Mead.done" (defArgs s_Mead_done) (defBody s_Mead_done) (defScope s_Mead_done) .none kV_74 dc_74 pm_74 an_74 cd_74 ct_74), sl_74⟩)
    (c74 : PySem.W.codeIn K cd_74 "Mead.done" = true)
    (k74 : PySem.W.keepIn K (.ref f_74) = true)
    (a75 : PySem.W.findIn K (.ref C_Mead) "turn" = some (some (.ref f_75)))
    (i75 : PySem.W.isFn K (.ref f_75) = true)
    (l75 : K.lookup f_75 = some ⟨oc_75, od_75, .func (PySem.W.fnOf "turn" "Mead.turn" (defArgs s_Mead_turn) (defBody s_Mead_turn) (defScope s_Mead_turn) .none kV_75 dc_75 pm_75 an_75 cd_75 ct_75), sl_75⟩)
    (c75 : PySem.W.codeIn K cd_75 "Mead.turn" = true)
    (k75 : PySem.W.keepIn K (.ref f_75) = true)
    (a76 : PySem.W.findIn K (.ref C_Mead) "stretch" = some (some (.ref f_76)))
    (i76 : PySem.W.isFn K (.ref f_76) = true)
    (l76 : K.lookup f_76 = some ⟨oc_76, od_76, .func (PySem.W.fnOf "stretch" "Mead.stretch" (defArgs s_Mead_stretch) (defBody s_Mead_stretch) (defScope s_Mead_stretch) .none kV_76 dc_76 pm_76 an_76 cd_76 ct_76), sl_76⟩)
    (c76 : PySem.W.codeIn K cd_76 "Mead.stretch" = true)
    (k76 : PySem.W.keepIn K (.ref f_76) = true)
    (a77 : PySem.W.findIn K (.ref C_Mead) "set_out" = some (some (.ref f_77)))
    (i77 : PySem.W.isFn K (.ref f_77) = true)
    (l77 : K.lookup f_77 = some ⟨oc_77, od_77, .func (PySem.W.fnOf "set_out" "Mead.set_out" (defArgs s_Mead_set_out) (defBody s_Mead_set_out) (defScope s_Mead_set_out) .none kV_77 dc_77 pm_77 an_77 cd_77 ct_77), sl_77⟩)
    (c77 : PySem.W.codeIn K cd_77 "Mead.set_out" = true)
    (k77 : PySem.W.keepIn K (.ref f_77) = true)
    (a78 : PySem.W.findIn K (.ref C_Mead) "draw" = some (some (.ref f_78)))
    (i78 : PySem.W.isFn K (.ref f_78) = true)
    (l78 : K.lookup f_78 = some ⟨oc_78, od_78, .func (PySem.W.fnOf "draw" "Mead.draw" (defArgs s_Mead_draw) (defBody s_Mead_draw) (defScope s_Mead_draw) .none kV_78 dc_78 pm_78 an_78 cd_78 ct_78), sl_78⟩)
    (c78 : PySem.W.codeIn K cd_78 "Mead.draw" = true)
    (k78 : PySem.W.keepIn K (.ref f_78) = true)
    (a79 : PySem.W.findIn K (.ref C_Mead) "back" = some (some (.ref f_79)))
    (i79 : PySem.W.isFn K (.ref f_79) = true)
    (l79 : K.lookup f_79 = some ⟨oc_79, od_79, .func (PySem.W.fnOf "back" "Mead.back" (defArgs s_Mead_back) (defBody s_Mead_back) (defScope s_Mead_back) .none kV_79 dc_79 pm_79 an_79 cd_79 ct_79), sl_79⟩)
    (c79 : PySem.W.codeIn K cd_79 "Mead.back" = true)
    (k79 : PySem.W.keepIn K (.ref f_79) = true)
    (a80 : PySem.W.findIn K (.ref C_Mead) "again" = some (some (.ref f_80)))
    (i80 : PySem.W.isFn K (.ref f_80) = true)
    (l80 : K.lookup f_80 = some ⟨oc_80, od_80, .func (PySem.W.fnOf "again" "Mead.again" (defArgs s_Mead_again) (defBody s_Mead_again) (defScope s_Mead_again) .none kV_80 dc_80 pm_80 an_80 cd_80 ct_80), sl_80⟩)
    (c80 : PySem.W.codeIn K cd_80 "Mead.again" = true)
    (k80 : PySem.W.keepIn K (.ref f_80) = true)
    (z_min : PySem.W.nsIn K mainGlobals "min" = some none)
    (z_max : PySem.W.nsIn K mainGlobals "max" = some none)
    (z_sorted : PySem.W.nsIn K mainGlobals "sorted" = some none)
    (z_range : PySem.W.nsIn K mainGlobals "range" = some none)
    (z_len : PySem.W.nsIn K mainGlobals "len" = some none)
    (z_abs : PySem.W.nsIn K mainGlobals "abs" = some none)
    (z_isinstance : PySem.W.nsIn K mainGlobals "isinstance" = some none)
    (z_int : PySem.W.nsIn K mainGlobals "int" = some none)
    (z_bool : PySem.W.nsIn K mainGlobals "bool" = some none)
    (z_tuple : PySem.W.nsIn K mainGlobals "tuple" = some none)
    (z_list : PySem.W.nsIn K mainGlobals "list" = some none)
    (z_dict : PySem.W.nsIn K mainGlobals "dict" = some none)
    (pg_Mead : PySem.W.plainGet K C_Mead Str.empty = true)
    (hd_Mead : PySem.W.hasDictIn K C_Mead = true)
    (po_Mead : PySem.W.plainOver K C_Mead = true)
    (sa_Mead : PySem.W.findIn K (.ref C_Mead) "__setattr__" = some (some (.builtin "object.__setattr__")))
    (om_Mead : PySem.W.makesIn K C_Mead = true)
    (ok_Mead : PySem.W.keepIn K (.ref C_Mead) = true)
    (nf_Mead_cut : PySem.W.findIn K (.ref C_Mead) "cut" = some none)
    (nf_Mead_many : PySem.W.findIn K (.ref C_Mead) "many" = some none)
    (nf_Mead_sized : PySem.W.findIn K (.ref C_Mead) "sized" = some none)
    (nf_Mead_past : PySem.W.findIn K (.ref C_Mead) "past" = some none)
    (nf_Mead_ahead : PySem.W.findIn K (.ref C_Mead) "ahead" = some none)
    (ca_NoCutting : PySem.W.nsIn K mainGlobals "NoCutting" = some (some (.ref C_NoCutting)))
    (cx_NoCutting : PySem.W.excIn K C_NoCutting [.type "ValueError", .type "Exception", .type "BaseException", .type "object"] "ValueError.__new__" = true)
    (ck_NoCutting : PySem.W.keepIn K (.ref C_NoCutting) = true)
    (cb_NoCutting : PySem.W.subIn K (.ref C_NoCutting) (.type "BaseException") = some true)
    (ct_NoCutting : PySem.W.typeIn K (.ref C_NoCutting) = some (.type "type"))
    (ci_NoCutting : PySem.W.isClsIn K C_NoCutting = true)
    (cz_NoCutting : PySem.W.subIn K (.ref C_NoCutting) (.ref C_NoCutting) = some true)
    (ca_NoRope : PySem.W.nsIn K mainGlobals "NoRope" = some (some (.ref C_NoRope)))
    (cx_NoRope : PySem.W.excIn K C_NoRope [.type "ValueError", .type "Exception", .type "BaseException", .type "object"] "ValueError.__new__" = true)
    (ck_NoRope : PySem.W.keepIn K (.ref C_NoRope) = true)
    (cb_NoRope : PySem.W.subIn K (.ref C_NoRope) (.type "BaseException") = some true)
    (ct_NoRope : PySem.W.typeIn K (.ref C_NoRope) = some (.type "type"))
    (ci_NoRope : PySem.W.isClsIn K C_NoRope = true)
    (cz_NoRope : PySem.W.subIn K (.ref C_NoRope) (.ref C_NoRope) = some true)
    (ca_NoFraction : PySem.W.nsIn K mainGlobals "NoFraction" = some (some (.ref C_NoFraction)))
    (cx_NoFraction : PySem.W.excIn K C_NoFraction [.type "ValueError", .type "Exception", .type "BaseException", .type "object"] "ValueError.__new__" = true)
    (ck_NoFraction : PySem.W.keepIn K (.ref C_NoFraction) = true)
    (cb_NoFraction : PySem.W.subIn K (.ref C_NoFraction) (.type "BaseException") = some true)
    (ct_NoFraction : PySem.W.typeIn K (.ref C_NoFraction) = some (.type "type"))
    (ci_NoFraction : PySem.W.isClsIn K C_NoFraction = true)
    (cz_NoFraction : PySem.W.subIn K (.ref C_NoFraction) (.ref C_NoFraction) = some true)
    (ca_NoPost : PySem.W.nsIn K mainGlobals "NoPost" = some (some (.ref C_NoPost)))
    (cx_NoPost : PySem.W.excIn K C_NoPost [.type "ValueError", .type "Exception", .type "BaseException", .type "object"] "ValueError.__new__" = true)
    (ck_NoPost : PySem.W.keepIn K (.ref C_NoPost) = true)
    (cb_NoPost : PySem.W.subIn K (.ref C_NoPost) (.type "BaseException") = some true)
    (ct_NoPost : PySem.W.typeIn K (.ref C_NoPost) = some (.type "type"))
    (ci_NoPost : PySem.W.isClsIn K C_NoPost = true)
    (cz_NoPost : PySem.W.subIn K (.ref C_NoPost) (.ref C_NoPost) = some true)
    (ca_BadLength : PySem.W.nsIn K mainGlobals "BadLength" = some (some (.ref C_BadLength)))
    (cx_BadLength : PySem.W.excIn K C_BadLength [.type "ValueError", .type "Exception", .type "BaseException", .type "object"] "ValueError.__new__" = true)
    (ck_BadLength : PySem.W.keepIn K (.ref C_BadLength) = true)
    (cb_BadLength : PySem.W.subIn K (.ref C_BadLength) (.type "BaseException") = some true)
    (ct_BadLength : PySem.W.typeIn K (.ref C_BadLength) = some (.type "type"))
    (ci_BadLength : PySem.W.isClsIn K C_BadLength = true)
    (cz_BadLength : PySem.W.subIn K (.ref C_BadLength) (.ref C_BadLength) = some true)
    (ca_Full : PySem.W.nsIn K mainGlobals "Full" = some (some (.ref C_Full)))
    (cx_Full : PySem.W.excIn K C_Full [.type "ValueError", .type "Exception", .type "BaseException", .type "object"] "ValueError.__new__" = true)
    (ck_Full : PySem.W.keepIn K (.ref C_Full) = true)
    (cb_Full : PySem.W.subIn K (.ref C_Full) (.type "BaseException") = some true)
    (ct_Full : PySem.W.typeIn K (.ref C_Full) = some (.type "type"))
    (ci_Full : PySem.W.isClsIn K C_Full = true)
    (cz_Full : PySem.W.subIn K (.ref C_Full) (.ref C_Full) = some true)
    (ca_Few : PySem.W.nsIn K mainGlobals "Few" = some (some (.ref C_Few)))
    (cx_Few : PySem.W.excIn K C_Few [.type "ValueError", .type "Exception", .type "BaseException", .type "object"] "ValueError.__new__" = true)
    (ck_Few : PySem.W.keepIn K (.ref C_Few) = true)
    (cb_Few : PySem.W.subIn K (.ref C_Few) (.type "BaseException") = some true)
    (ct_Few : PySem.W.typeIn K (.ref C_Few) = some (.type "type"))
    (ci_Few : PySem.W.isClsIn K C_Few = true)
    (cz_Few : PySem.W.subIn K (.ref C_Few) (.ref C_Few) = some true)
    (ca_HasRopes : PySem.W.nsIn K mainGlobals "HasRopes" = some (some (.ref C_HasRopes)))
    (cx_HasRopes : PySem.W.excIn K C_HasRopes [.type "ValueError", .type "Exception", .type "BaseException", .type "object"] "ValueError.__new__" = true)
    (ck_HasRopes : PySem.W.keepIn K (.ref C_HasRopes) = true)
    (cb_HasRopes : PySem.W.subIn K (.ref C_HasRopes) (.type "BaseException") = some true)
    (ct_HasRopes : PySem.W.typeIn K (.ref C_HasRopes) = some (.type "type"))
    (ci_HasRopes : PySem.W.isClsIn K C_HasRopes = true)
    (cz_HasRopes : PySem.W.subIn K (.ref C_HasRopes) (.ref C_HasRopes) = some true)
    (ca_NoBack : PySem.W.nsIn K mainGlobals "NoBack" = some (some (.ref C_NoBack)))
    (cx_NoBack : PySem.W.excIn K C_NoBack [.type "ValueError", .type "Exception", .type "BaseException", .type "object"] "ValueError.__new__" = true)
    (ck_NoBack : PySem.W.keepIn K (.ref C_NoBack) = true)
    (cb_NoBack : PySem.W.subIn K (.ref C_NoBack) (.type "BaseException") = some true)
    (ct_NoBack : PySem.W.typeIn K (.ref C_NoBack) = some (.type "type"))
    (ci_NoBack : PySem.W.isClsIn K C_NoBack = true)
    (cz_NoBack : PySem.W.subIn K (.ref C_NoBack) (.ref C_NoBack) = some true)
    (ga_FEWEST : PySem.W.nsIn K mainGlobals "FEWEST" = some (some u_FEWEST))
    (gr_FEWEST : RelV (.int 3) u_FEWEST)
    (ga_MOST : PySem.W.nsIn K mainGlobals "MOST" = some (some u_MOST))
    (gr_MOST : RelV (.int 12) u_MOST)
    (ga_ONE : PySem.W.nsIn K mainGlobals "ONE" = some (some (.ref c_ONE)))
    (gl_ONE : K.lookup c_ONE = some o_ONE)
    (gf_ONE : o_ONE.cls = .type "tuple" ∧ o_ONE.data = .seq its_ONE nn_ONE ∧ its_ONE.size ≤ sizeLine ∧ Vals [.int 1, .int 1] its_ONE.toList)
    (ga_NOUGHT : PySem.W.nsIn K mainGlobals "NOUGHT" = some (some (.ref c_NOUGHT)))
    (gl_NOUGHT : K.lookup c_NOUGHT = some o_NOUGHT)
    (gf_NOUGHT : o_NOUGHT.cls = .type "tuple" ∧ o_NOUGHT.data = .seq its_NOUGHT nn_NOUGHT ∧ its_NOUGHT.size ≤ sizeLine ∧ Vals [.int 0, .int 1] its_NOUGHT.toList)
    (fx_exm_NoPost_NoPost : PySem.W.exmOne K (.ref C_NoPost) (.ref C_NoPost) = some true)
    (fx_exm_NoRope_NoPost : PySem.W.exmOne K (.ref C_NoRope) (.ref C_NoPost) = some false)
    (fx_exm_NoRope_NoRope : PySem.W.exmOne K (.ref C_NoRope) (.ref C_NoRope) = some true)
    (fx_exm_NoFraction_NoPost : PySem.W.exmOne K (.ref C_NoFraction) (.ref C_NoPost) = some false)
    (fx_exm_NoFraction_NoRope : PySem.W.exmOne K (.ref C_NoFraction) (.ref C_NoRope) = some false)
    (fx_exm_NoFraction_NoFraction : PySem.W.exmOne K (.ref C_NoFraction) (.ref C_NoFraction) = some true)
    (fx_exm_Full_NoPost : PySem.W.exmOne K (.ref C_Full) (.ref C_NoPost) = some false)
    (fx_exm_Full_NoRope : PySem.W.exmOne K (.ref C_Full) (.ref C_NoRope) = some false)
    (fx_exm_Full_NoFraction : PySem.W.exmOne K (.ref C_Full) (.ref C_NoFraction) = some false)
    (fx_exm_Full_Full : PySem.W.exmOne K (.ref C_Full) (.ref C_Full) = some true)
    (fx_exm_Few_NoPost : PySem.W.exmOne K (.ref C_Few) (.ref C_NoPost) = some false)
    (fx_exm_Few_NoRope : PySem.W.exmOne K (.ref C_Few) (.ref C_NoRope) = some false)
    (fx_exm_Few_NoFraction : PySem.W.exmOne K (.ref C_Few) (.ref C_NoFraction) = some false)
    (fx_exm_Few_Full : PySem.W.exmOne K (.ref C_Few) (.ref C_Full) = some false)
    (fx_exm_Few_Few : PySem.W.exmOne K (.ref C_Few) (.ref C_Few) = some true)
    (fx_exm_HasRopes_NoPost : PySem.W.exmOne K (.ref C_HasRopes) (.ref C_NoPost) = some false)
    (fx_exm_HasRopes_NoRope : PySem.W.exmOne K (.ref C_HasRopes) (.ref C_NoRope) = some false)
    (fx_exm_HasRopes_NoFraction : PySem.W.exmOne K (.ref C_HasRopes) (.ref C_NoFraction) = some false)
    (fx_exm_HasRopes_Full : PySem.W.exmOne K (.ref C_HasRopes) (.ref C_Full) = some false)
    (fx_exm_HasRopes_Few : PySem.W.exmOne K (.ref C_HasRopes) (.ref C_Few) = some false)
    (fx_exm_HasRopes_HasRopes : PySem.W.exmOne K (.ref C_HasRopes) (.ref C_HasRopes) = some true) : Tx K mg :=
  { d_wall := { a := f_0, fd := _, F := fun_mk (st := s_wall) l0 c0 k0, g := PySem.W.mg_of X G a0, b := (fun_mk (st := s_wall) l0 c0 k0).binds (ps := ["k"]) fun _ _ _ _ _ _ us hl => match us, hl with | [_], _ => rfl },
    d_tie_of := { a := f_1, fd := _, F := fun_mk (st := s_tie_of) l1 c1 k1, g := PySem.W.mg_of X G a1, b := (fun_mk (st := s_tie_of) l1 c1 k1).binds (ps := ["a", "b"]) fun _ _ _ _ _ _ us hl => match us, hl with | [_, _], _ => rfl },
    d_crosses := { a := f_2, fd := _, F := fun_mk (st := s_crosses) l2 c2 k2, g := PySem.W.mg_of X G a2, b := (fun_mk (st := s_crosses) l2 c2 k2).binds (ps := ["one", "other"]) fun _ _ _ _ _ _ us hl => match us, hl with | [_, _], _ => rfl },
    d_sides := { a := f_3, fd := _, F := fun_mk (st := s_sides) l3 c3 k3, g := PySem.W.mg_of X G a3, b := (fun_mk (st := s_sides) l3 c3 k3).binds (ps := ["n"]) fun _ _ _ _ _ _ us hl => match us, hl with | [_], _ => rfl },
    d_is_rope := { a := f_4, fd := _, F := fun_mk (st := s_is_rope) l4 c4 k4, g := PySem.W.mg_of X G a4, b := (fun_mk (st := s_is_rope) l4 c4 k4).binds (ps := ["n", "pair"]) fun _ _ _ _ _ _ us hl => match us, hl with | [_, _], _ => rfl },
    d_kept := { a := f_5, fd := _, F := fun_mk (st := s_kept) l5 c5 k5, g := PySem.W.mg_of X G a5, b := (fun_mk (st := s_kept) l5 c5 k5).binds (ps := ["n", "ropes"]) fun _ _ _ _ _ _ us hl => match us, hl with | [_, _], _ => rfl },
    d_ties := { a := f_6, fd := _, F := fun_mk (st := s_ties) l6 c6 k6, g := PySem.W.mg_of X G a6, b := (fun_mk (st := s_ties) l6 c6 k6).binds (ps := ["n", "cut"]) fun _ _ _ _ _ _ us hl => match us, hl with | [_, _], _ => rfl },
    d_plots := { a := f_7, fd := _, F := fun_mk (st := s_plots) l7 c7 k7, g := PySem.W.mg_of X G a7, b := (fun_mk (st := s_plots) l7 c7 k7).binds (ps := ["n", "cut"]) fun _ _ _ _ _ _ us hl => match us, hl with | [_, _], _ => rfl },
    d_beside := { a := f_8, fd := _, F := fun_mk (st := s_beside) l8 c8 k8, g := PySem.W.mg_of X G a8, b := (fun_mk (st := s_beside) l8 c8 k8).binds (ps := ["n", "cut", "a", "b"]) fun _ _ _ _ _ _ us hl => match us, hl with | [_, _, _, _], _ => rfl },
    d_turned := { a := f_9, fd := _, F := fun_mk (st := s_turned) l9 c9 k9, g := PySem.W.mg_of X G a9, b := (fun_mk (st := s_turned) l9 c9 k9).binds (ps := ["n", "cut", "a", "b"]) fun _ _ _ _ _ _ us hl => match us, hl with | [_, _, _, _], _ => rfl },
    d_measure := { a := f_10, fd := _, F := fun_mk (st := s_measure) l10 c10 k10, g := PySem.W.mg_of X G a10, b := (fun_mk (st := s_measure) l10 c10 k10).binds (ps := ["one", "other"]) fun _ _ _ _ _ _ us hl => match us, hl with | [_, _], _ => rfl },
    d_lowest := { a := f_11, fd := _, F := fun_mk (st := s_lowest) l11 c11 k11, g := PySem.W.mg_of X G a11, b := (fun_mk (st := s_lowest) l11 c11 k11).binds (ps := ["top", "bottom"]) fun _ _ _ _ _ _ us hl => match us, hl with | [_, _], _ => rfl },
    d_plus := { a := f_12, fd := _, F := fun_mk (st := s_plus) l12 c12 k12, g := PySem.W.mg_of X G a12, b := (fun_mk (st := s_plus) l12 c12 k12).binds (ps := ["one", "other"]) fun _ _ _ _ _ _ us hl => match us, hl with | [_, _], _ => rfl },
    d_less := { a := f_13, fd := _, F := fun_mk (st := s_less) l13 c13 k13, g := PySem.W.mg_of X G a13, b := (fun_mk (st := s_less) l13 c13 k13).binds (ps := ["one", "other"]) fun _ _ _ _ _ _ us hl => match us, hl with | [_, _], _ => rfl },
    d_times := { a := f_14, fd := _, F := fun_mk (st := s_times) l14 c14 k14, g := PySem.W.mg_of X G a14, b := (fun_mk (st := s_times) l14 c14 k14).binds (ps := ["one", "other"]) fun _ _ _ _ _ _ us hl => match us, hl with | [_, _], _ => rfl },
    d_over := { a := f_15, fd := _, F := fun_mk (st := s_over) l15 c15 k15, g := PySem.W.mg_of X G a15, b := (fun_mk (st := s_over) l15 c15 k15).binds (ps := ["one", "other"]) fun _ _ _ _ _ _ us hl => match us, hl with | [_, _], _ => rfl },
    d_is_part := { a := f_16, fd := _, F := fun_mk (st := s_is_part) l16 c16 k16, g := PySem.W.mg_of X G a16, b := (fun_mk (st := s_is_part) l16 c16 k16).binds (ps := ["pair"]) fun _ _ _ _ _ _ us hl => match us, hl with | [_], _ => rfl },
    d_is_length := { a := f_17, fd := _, F := fun_mk (st := s_is_length) l17 c17 k17, g := PySem.W.mg_of X G a17, b := (fun_mk (st := s_is_length) l17 c17 k17).binds (ps := ["pair"]) fun _ _ _ _ _ _ us hl => match us, hl with | [_], _ => rfl },
    d_two_posts := { a := f_18, fd := _, F := fun_mk (st := s_two_posts) l18 c18 k18, g := PySem.W.mg_of X G a18, b := (fun_mk (st := s_two_posts) l18 c18 k18).binds (ps := ["n", "a", "b"]) fun _ _ _ _ _ _ us hl => match us, hl with | [_, _, _], _ => rfl },
    d_between := { a := f_19, fd := _, F := fun_mk (st := s_between) l19 c19 k19, g := PySem.W.mg_of X G a19, b := (fun_mk (st := s_between) l19 c19 k19).binds (ps := ["lengths", "a", "b"]) fun _ _ _ _ _ _ us hl => match us, hl with | [_, _, _], _ => rfl },
    d_spread := { a := f_20, fd := _, F := fun_mk (st := s_spread) l20 c20 k20, g := PySem.W.mg_of X G a20, b := (fun_mk (st := s_spread) l20 c20 k20).binds (ps := ["one", "other"]) fun _ _ _ _ _ _ us hl => match us, hl with | [_, _], _ => rfl },
    d_pair_mixed := { a := f_21, fd := _, F := fun_mk (st := s_pair_mixed) l21 c21 k21, g := PySem.W.mg_of X G a21, b := (fun_mk (st := s_pair_mixed) l21 c21 k21).binds (ps := ["one", "part", "other", "share"]) fun _ _ _ _ _ _ us hl => match us, hl with | [_, _, _, _], _ => rfl },
    d_third := { a := f_22, fd := _, F := fun_mk (st := s_third) l22 c22 k22, g := PySem.W.mg_of X G a22, b := (fun_mk (st := s_third) l22 c22 k22).binds (ps := ["lengths", "stood", "a", "b", "c"]) fun _ _ _ _ _ _ us hl => match us, hl with | [_, _, _, _, _], _ => rfl },
    d_stands := { a := f_23, fd := _, F := fun_mk (st := s_stands) l23 c23 k23, g := PySem.W.mg_of X G a23, b := (fun_mk (st := s_stands) l23 c23 k23).binds (ps := ["n", "cut", "lengths"]) fun _ _ _ _ _ _ us hl => match us, hl with | [_, _, _], _ => rfl },
    d_measured := { a := f_24, fd := _, F := fun_mk (st := s_measured) l24 c24 k24, g := PySem.W.mg_of X G a24, b := (fun_mk (st := s_measured) l24 c24 k24).binds (ps := ["n", "cut", "lengths", "a", "b"]) fun _ _ _ _ _ _ us hl => match us, hl with | [_, _, _, _, _], _ => rfl },
    d_laid := { a := f_25, fd := _, F := fun_mk (st := s_laid) l25 c25 k25, g := PySem.W.mg_of X G a25, b := (fun_mk (st := s_laid) l25 c25 k25).binds (ps := ["n", "cut", "lengths", "a", "b"]) fun _ _ _ _ _ _ us hl => match us, hl with | [_, _, _, _, _], _ => rfl },
    d_stretched := { a := f_26, fd := _, F := fun_mk (st := s_stretched) l26 c26 k26, g := PySem.W.mg_of X G a26, b := (fun_mk (st := s_stretched) l26 c26 k26).binds (ps := ["n", "lengths", "post", "factor"]) fun _ _ _ _ _ _ us hl => match us, hl with | [_, _, _, _], _ => rfl },
    d_sized_by := { a := f_27, fd := _, F := fun_mk (st := s_sized_by) l27 c27 k27, g := PySem.W.mg_of X G a27, b := (fun_mk (st := s_sized_by) l27 c27 k27).binds (ps := ["n", "cut", "lengths"]) fun _ _ _ _ _ _ us hl => match us, hl with | [_, _, _], _ => rfl },
    d_moved_up := { a := f_28, fd := _, F := fun_mk (st := s_moved_up) l28 c28 k28, g := PySem.W.mg_of X G a28, b := (fun_mk (st := s_moved_up) l28 c28 k28).binds (ps := ["post", "k"]) fun _ _ _ _ _ _ us hl => match us, hl with | [_, _], _ => rfl },
    d_moved_down := { a := f_29, fd := _, F := fun_mk (st := s_moved_down) l29 c29 k29, g := PySem.W.mg_of X G a29, b := (fun_mk (st := s_moved_down) l29 c29 k29).binds (ps := ["post", "gone"]) fun _ _ _ _ _ _ us hl => match us, hl with | [_, _], _ => rfl },
    d_law_flow := { a := f_30, fd := _, F := fun_mk (st := s_law_flow) l30 c30 k30, g := PySem.W.mg_of X G a30, b := (fun_mk (st := s_law_flow) l30 c30 k30).binds (ps := ["_law_script", "_law_many_here"]) fun _ _ _ _ _ _ us hl => match us, hl with | [_, _], _ => rfl },
    d_law_whole := { a := f_31, fd := _, F := fun_mk (st := s_law_whole) l31 c31 k31, g := PySem.W.mg_of X G a31, b := (fun_mk (st := s_law_whole) l31 c31 k31).binds (ps := ["_law_found"]) fun _ _ _ _ _ _ us hl => match us, hl with | [_], _ => rfl },
    d_law_low := { a := f_32, fd := _, F := fun_mk (st := s_law_low) l32 c32 k32, g := PySem.W.mg_of X G a32, b := (fun_mk (st := s_law_low) l32 c32 k32).binds (ps := ["_law_top", "_law_bottom"]) fun _ _ _ _ _ _ us hl => match us, hl with | [_, _], _ => rfl },
    d_law_add := { a := f_33, fd := _, F := fun_mk (st := s_law_add) l33 c33 k33, g := PySem.W.mg_of X G a33, b := (fun_mk (st := s_law_add) l33 c33 k33).binds (ps := ["_law_one", "_law_other"]) fun _ _ _ _ _ _ us hl => match us, hl with | [_, _], _ => rfl },
    d_law_mul := { a := f_34, fd := _, F := fun_mk (st := s_law_mul) l34 c34 k34, g := PySem.W.mg_of X G a34, b := (fun_mk (st := s_law_mul) l34 c34 k34).binds (ps := ["_law_one", "_law_other"]) fun _ _ _ _ _ _ us hl => match us, hl with | [_, _], _ => rfl },
    d_law_div := { a := f_35, fd := _, F := fun_mk (st := s_law_div) l35 c35 k35, g := PySem.W.mg_of X G a35, b := (fun_mk (st := s_law_div) l35 c35 k35).binds (ps := ["_law_one", "_law_other"]) fun _ _ _ _ _ _ us hl => match us, hl with | [_, _], _ => rfl },
    d_law_part := { a := f_36, fd := _, F := fun_mk (st := s_law_part) l36 c36 k36, g := PySem.W.mg_of X G a36, b := (fun_mk (st := s_law_part) l36 c36 k36).binds (ps := ["_law_found"]) fun _ _ _ _ _ _ us hl => match us, hl with | [_], _ => rfl },
    d_law_size := { a := f_37, fd := _, F := fun_mk (st := s_law_size) l37 c37 k37, g := PySem.W.mg_of X G a37, b := (fun_mk (st := s_law_size) l37 c37 k37).binds (ps := ["_law_one"]) fun _ _ _ _ _ _ us hl => match us, hl with | [_], _ => rfl },
    d_law_many := { a := f_38, fd := _, F := fun_mk (st := s_law_many) l38 c38 k38, g := PySem.W.mg_of X G a38, b := (fun_mk (st := s_law_many) l38 c38 k38).binds (ps := ["_law_row"]) fun _ _ _ _ _ _ us hl => match us, hl with | [_], _ => rfl },
    d_law_pair := { a := f_39, fd := _, F := fun_mk (st := s_law_pair) l39 c39 k39, g := PySem.W.mg_of X G a39, b := (fun_mk (st := s_law_pair) l39 c39 k39).binds (ps := ["_law_a", "_law_b"]) fun _ _ _ _ _ _ us hl => match us, hl with | [_, _], _ => rfl },
    d_law_ears := { a := f_40, fd := _, F := fun_mk (st := s_law_ears) l40 c40 k40, g := PySem.W.mg_of X G a40, b := (fun_mk (st := s_law_ears) l40 c40 k40).binds (ps := ["_law_n", "_law_row"]) fun _ _ _ _ _ _ us hl => match us, hl with | [_, _], _ => rfl },
    d_law_ropes := { a := f_41, fd := _, F := fun_mk (st := s_law_ropes) l41 c41 k41, g := PySem.W.mg_of X G a41, b := (fun_mk (st := s_law_ropes) l41 c41 k41).binds (ps := ["_law_ears_here"]) fun _ _ _ _ _ _ us hl => match us, hl with | [_], _ => rfl },
    d_law_sides := { a := f_42, fd := _, F := fun_mk (st := s_law_sides) l42 c42 k42, g := PySem.W.mg_of X G a42, b := (fun_mk (st := s_law_sides) l42 c42 k42).binds (ps := ["_law_n"]) fun _ _ _ _ _ _ us hl => match us, hl with | [_], _ => rfl },
    d_law_ties := { a := f_43, fd := _, F := fun_mk (st := s_law_ties) l43 c43 k43, g := PySem.W.mg_of X G a43, b := (fun_mk (st := s_law_ties) l43 c43 k43).binds (ps := ["_law_n", "_law_cut"]) fun _ _ _ _ _ _ us hl => match us, hl with | [_, _], _ => rfl },
    d_law_sized := { a := f_44, fd := _, F := fun_mk (st := s_law_sized) l44 c44 k44, g := PySem.W.mg_of X G a44, b := (fun_mk (st := s_law_sized) l44 c44 k44).binds (ps := ["_law_all_ties", "_law_row"]) fun _ _ _ _ _ _ us hl => match us, hl with | [_, _], _ => rfl },
    d_law_beside := { a := f_45, fd := _, F := fun_mk (st := s_law_beside) l45 c45 k45, g := PySem.W.mg_of X G a45, b := (fun_mk (st := s_law_beside) l45 c45 k45).binds (ps := ["_law_n", "_law_all_ties", "_law_a", "_law_b"]) fun _ _ _ _ _ _ us hl => match us, hl with | [_, _, _, _], _ => rfl },
    d_law_turned := { a := f_46, fd := _, F := fun_mk (st := s_law_turned) l46 c46 k46, g := PySem.W.mg_of X G a46, b := (fun_mk (st := s_law_turned) l46 c46 k46).binds (ps := ["_law_n", "_law_cut", "_law_rope"]) fun _ _ _ _ _ _ us hl => match us, hl with | [_, _, _], _ => rfl },
    d_law_tuple := { a := f_47, fd := _, F := fun_mk (st := s_law_tuple) l47 c47 k47, g := PySem.W.mg_of X G a47, b := (fun_mk (st := s_law_tuple) l47 c47 k47).binds (ps := ["_law_found", "_law_many_here"]) fun _ _ _ _ _ _ us hl => match us, hl with | [_, _], _ => rfl },
    d_law_list := { a := f_48, fd := _, F := fun_mk (st := s_law_list) l48 c48 k48, g := PySem.W.mg_of X G a48, b := (fun_mk (st := s_law_list) l48 c48 k48).binds (ps := ["_law_found", "_law_many_here"]) fun _ _ _ _ _ _ us hl => match us, hl with | [_, _], _ => rfl },
    d_law_dict := { a := f_49, fd := _, F := fun_mk (st := s_law_dict) l49 c49 k49, g := PySem.W.mg_of X G a49, b := (fun_mk (st := s_law_dict) l49 c49 k49).binds (ps := ["_law_found", "_law_due"]) fun _ _ _ _ _ _ us hl => match us, hl with | [_, _], _ => rfl },
    d_law_parts := { a := f_50, fd := _, F := fun_mk (st := s_law_parts) l50 c50 k50, g := PySem.W.mg_of X G a50, b := (fun_mk (st := s_law_parts) l50 c50 k50).binds (ps := ["_law_found", "_law_due"]) fun _ _ _ _ _ _ us hl => match us, hl with | [_, _], _ => rfl },
    d_law_laid := { a := f_51, fd := _, F := fun_mk (st := s_law_laid) l51 c51 k51, g := PySem.W.mg_of X G a51, b := (fun_mk (st := s_law_laid) l51 c51 k51).binds (ps := ["_law_n", "_law_cut", "_law_sized_here", "_law_rope"]) fun _ _ _ _ _ _ us hl => match us, hl with | [_, _, _, _], _ => rfl },
    d_law_stretched := { a := f_52, fd := _, F := fun_mk (st := s_law_stretched) l52 c52 k52, g := PySem.W.mg_of X G a52, b := (fun_mk (st := s_law_stretched) l52 c52 k52).binds (ps := ["_law_sized_here", "_law_post", "_law_factor"]) fun _ _ _ _ _ _ us hl => match us, hl with | [_, _, _], _ => rfl },
    d_law_shift := { a := f_53, fd := _, F := fun_mk (st := s_law_shift) l53 c53 k53, g := PySem.W.mg_of X G a53, b := (fun_mk (st := s_law_shift) l53 c53 k53).binds (ps := ["_law_state", "_law_post", "_law_step"]) fun _ _ _ _ _ _ us hl => match us, hl with | [_, _, _], _ => rfl },
    d_law_set := { a := f_54, fd := _, F := fun_mk (st := s_law_set) l54 c54 k54, g := PySem.W.mg_of X G a54, b := (fun_mk (st := s_law_set) l54 c54 k54).binds (ps := ["_law_state", "_law_k", "_law_one", "_law_other"]) fun _ _ _ _ _ _ us hl => match us, hl with | [_, _, _, _], _ => rfl },
    d_law_draw := { a := f_55, fd := _, F := fun_mk (st := s_law_draw) l55 c55 k55, g := PySem.W.mg_of X G a55, b := (fun_mk (st := s_law_draw) l55 c55 k55).binds (ps := ["_law_state", "_law_post"]) fun _ _ _ _ _ _ us hl => match us, hl with | [_, _], _ => rfl },
    d_law_model := { a := f_56, fd := _, F := fun_mk (st := s_law_model) l56 c56 k56, g := PySem.W.mg_of X G a56, b := (fun_mk (st := s_law_model) l56 c56 k56).binds (ps := ["_law_state", "_law_deed"]) fun _ _ _ _ _ _ us hl => match us, hl with | [_, _], _ => rfl },
    d_law_done := { a := f_57, fd := _, F := fun_mk (st := s_law_done) l57 c57 k57, g := PySem.W.mg_of X G a57, b := (fun_mk (st := s_law_done) l57 c57 k57).binds (ps := ["_law_mead", "_law_deed"]) fun _ _ _ _ _ _ us hl => match us, hl with | [_, _], _ => rfl },
    d_law_answer := { a := f_58, fd := _, F := fun_mk (st := s_law_answer) l58 c58 k58, g := PySem.W.mg_of X G a58, b := (fun_mk (st := s_law_answer) l58 c58 k58).binds (ps := ["_law_found", "_law_due", "_law_deed"]) fun _ _ _ _ _ _ us hl => match us, hl with | [_, _, _], _ => rfl },
    d_law_is_at := { a := f_59, fd := _, F := fun_mk (st := s_law_is_at) l59 c59 k59, g := PySem.W.mg_of X G a59, b := (fun_mk (st := s_law_is_at) l59 c59 k59).binds (ps := ["_law_mead", "_law_state"]) fun _ _ _ _ _ _ us hl => match us, hl with | [_, _], _ => rfl },
    d_law_told_as := { a := f_60, fd := _, F := fun_mk (st := s_law_told_as) l60 c60 k60, g := PySem.W.mg_of X G a60, b := (fun_mk (st := s_law_told_as) l60 c60 k60).binds (ps := ["_law_deed"]) fun _ _ _ _ _ _ us hl => match us, hl with | [_], _ => rfl },
    d_law_same_deeds := { a := f_61, fd := _, F := fun_mk (st := s_law_same_deeds) l61 c61 k61, g := PySem.W.mg_of X G a61, b := (fun_mk (st := s_law_same_deeds) l61 c61 k61).binds (ps := ["_law_found", "_law_due"]) fun _ _ _ _ _ _ us hl => match us, hl with | [_, _], _ => rfl },
    d_law_start := { a := f_62, fd := _, F := fun_mk (st := s_law_start) l62 c62 k62, g := PySem.W.mg_of X G a62, b := (fun_mk (st := s_law_start) l62 c62 k62).binds (ps := ["_law_row"]) fun _ _ _ _ _ _ us hl => match us, hl with | [_], _ => rfl },
    d_law_run := { a := f_63, fd := _, F := fun_mk (st := s_law_run) l63 c63 k63, g := PySem.W.mg_of X G a63, b := (fun_mk (st := s_law_run) l63 c63 k63).binds (ps := ["_law_mead", "_law_state", "_law_wishes"]) fun _ _ _ _ _ _ us hl => match us, hl with | [_, _, _], _ => rfl },
    d_law_wild := { a := f_64, fd := _, F := fun_mk (st := s_law_wild) l64 c64 k64, g := PySem.W.mg_of X G a64, b := (fun_mk (st := s_law_wild) l64 c64 k64).binds (ps := ["_law_n", "_law_one"]) fun _ _ _ _ _ _ us hl => match us, hl with | [_, _], _ => rfl },
    d_law := { a := f_65, fd := _, F := fun_mk (st := s_law) l65 c65 k65, g := PySem.W.mg_of X G a65, b := (fun_mk (st := s_law) l65 c65 k65).binds (ps := ["_law_script"]) fun _ _ _ _ _ _ us hl => match us, hl with | [_], _ => rfl },
    d_Mead___init__ := { a := f_66, fd := _, F := fun_mk (st := s_Mead___init__) l66 c66 k66, M := ⟨a66, i66, k66⟩, b := (fun_mk (st := s_Mead___init__) l66 c66 k66).binds (ps := ["self", "n", "ropes", "lengths"]) fun _ _ _ _ _ _ us hl => match us, hl with | [_, _, _, _], _ => rfl },
    d_Mead_posts := { a := f_67, fd := _, F := fun_mk (st := s_Mead_posts) l67 c67 k67, M := ⟨a67, i67, k67⟩, b := (fun_mk (st := s_Mead_posts) l67 c67 k67).binds (ps := ["self"]) fun _ _ _ _ _ _ us hl => match us, hl with | [_], _ => rfl },
    d_Mead_ropes := { a := f_68, fd := _, F := fun_mk (st := s_Mead_ropes) l68 c68 k68, M := ⟨a68, i68, k68⟩, b := (fun_mk (st := s_Mead_ropes) l68 c68 k68).binds (ps := ["self"]) fun _ _ _ _ _ _ us hl => match us, hl with | [_], _ => rfl },
    d_Mead_lengths := { a := f_69, fd := _, F := fun_mk (st := s_Mead_lengths) l69 c69 k69, M := ⟨a69, i69, k69⟩, b := (fun_mk (st := s_Mead_lengths) l69 c69 k69).binds (ps := ["self"]) fun _ _ _ _ _ _ us hl => match us, hl with | [_], _ => rfl },
    d_Mead_deeds := { a := f_70, fd := _, F := fun_mk (st := s_Mead_deeds) l70 c70 k70, M := ⟨a70, i70, k70⟩, b := (fun_mk (st := s_Mead_deeds) l70 c70 k70).binds (ps := ["self"]) fun _ _ _ _ _ _ us hl => match us, hl with | [_], _ => rfl },
    d_Mead_length := { a := f_71, fd := _, F := fun_mk (st := s_Mead_length) l71 c71 k71, M := ⟨a71, i71, k71⟩, b := (fun_mk (st := s_Mead_length) l71 c71 k71).binds (ps := ["self", "a", "b"]) fun _ _ _ _ _ _ us hl => match us, hl with | [_, _, _], _ => rfl },
    d_Mead_state := { a := f_72, fd := _, F := fun_mk (st := s_Mead_state) l72 c72 k72, M := ⟨a72, i72, k72⟩, b := (fun_mk (st := s_Mead_state) l72 c72 k72).binds (ps := ["self"]) fun _ _ _ _ _ _ us hl => match us, hl with | [_], _ => rfl },
    d_Mead_stand_at := { a := f_73, fd := _, F := fun_mk (st := s_Mead_stand_at) l73 c73 k73, M := ⟨a73, i73, k73⟩, b := (fun_mk (st := s_Mead_stand_at) l73 c73 k73).binds (ps := ["self", "state"]) fun _ _ _ _ _ _ us hl => match us, hl with | [_, _], _ => rfl },
    d_Mead_done := { a := f_74, fd := _, F := fun_mk (st := s_Mead_done) l74 c74 k74, M := ⟨a74, i74, k74⟩, b := (fun_mk (st := s_Mead_done) l74 c74 k74).binds (ps := ["self", "deed", "state"]) fun _ _ _ _ _ _ us hl => match us, hl with | [_, _, _], _ => rfl },
    d_Mead_turn := { a := f_75, fd := _, F := fun_mk (st := s_Mead_turn) l75 c75 k75, M := ⟨a75, i75, k75⟩, b := (fun_mk (st := s_Mead_turn) l75 c75 k75).binds (ps := ["self", "a", "b"]) fun _ _ _ _ _ _ us hl => match us, hl with | [_, _, _], _ => rfl },
    d_Mead_stretch := { a := f_76, fd := _, F := fun_mk (st := s_Mead_stretch) l76 c76 k76, M := ⟨a76, i76, k76⟩, b := (fun_mk (st := s_Mead_stretch) l76 c76 k76).binds (ps := ["self", "post", "factor"]) fun _ _ _ _ _ _ us hl => match us, hl with | [_, _, _], _ => rfl },
    d_Mead_set_out := { a := f_77, fd := _, F := fun_mk (st := s_Mead_set_out) l77 c77 k77, M := ⟨a77, i77, k77⟩, b := (fun_mk (st := s_Mead_set_out) l77 c77 k77).binds (ps := ["self", "k", "one", "other"]) fun _ _ _ _ _ _ us hl => match us, hl with | [_, _, _, _], _ => rfl },
    d_Mead_draw := { a := f_78, fd := _, F := fun_mk (st := s_Mead_draw) l78 c78 k78, M := ⟨a78, i78, k78⟩, b := (fun_mk (st := s_Mead_draw) l78 c78 k78).binds (ps := ["self", "post"]) fun _ _ _ _ _ _ us hl => match us, hl with | [_, _], _ => rfl },
    d_Mead_back := { a := f_79, fd := _, F := fun_mk (st := s_Mead_back) l79 c79 k79, M := ⟨a79, i79, k79⟩, b := (fun_mk (st := s_Mead_back) l79 c79 k79).binds (ps := ["self"]) fun _ _ _ _ _ _ us hl => match us, hl with | [_], _ => rfl },
    d_Mead_again := { a := f_80, fd := _, F := fun_mk (st := s_Mead_again) l80 c80 k80, M := ⟨a80, i80, k80⟩, b := (fun_mk (st := s_Mead_again) l80 c80 k80).binds (ps := ["self"]) fun _ _ _ _ _ _ us hl => match us, hl with | [_], _ => rfl },
    m_min := PySem.W.mg_none_of X G z_min,
    m_max := PySem.W.mg_none_of X G z_max,
    m_sorted := PySem.W.mg_none_of X G z_sorted,
    m_range := PySem.W.mg_none_of X G z_range,
    m_len := PySem.W.mg_none_of X G z_len,
    m_abs := PySem.W.mg_none_of X G z_abs,
    m_isinstance := PySem.W.mg_none_of X G z_isinstance,
    m_int := PySem.W.mg_none_of X G z_int,
    m_bool := PySem.W.mg_none_of X G z_bool,
    m_tuple := PySem.W.mg_none_of X G z_tuple,
    m_list := PySem.W.mg_none_of X G z_list,
    m_dict := PySem.W.mg_none_of X G z_dict,
    c_Mead := C_Mead, g_Mead := PySem.W.mg_of X G oa_Mead, cl_Mead := ⟨pg_Mead, hd_Mead, po_Mead, sa_Mead⟩,
    mk_Mead := ⟨om_Mead, a66, i66, ok_Mead⟩,
    n_Mead_cut := nf_Mead_cut,
    n_Mead_many := nf_Mead_many,
    n_Mead_sized := nf_Mead_sized,
    n_Mead_past := nf_Mead_past,
    n_Mead_ahead := nf_Mead_ahead,
    e_NoCutting := { c := C_NoCutting, g := PySem.W.mg_of X G ca_NoCutting, x := cx_NoCutting, k := ck_NoCutting, b := cb_NoCutting, t := ct_NoCutting, i := ci_NoCutting, z := cz_NoCutting },
    e_NoRope := { c := C_NoRope, g := PySem.W.mg_of X G ca_NoRope, x := cx_NoRope, k := ck_NoRope, b := cb_NoRope, t := ct_NoRope, i := ci_NoRope, z := cz_NoRope },
    e_NoFraction := { c := C_NoFraction, g := PySem.W.mg_of X G ca_NoFraction, x := cx_NoFraction, k := ck_NoFraction, b := cb_NoFraction, t := ct_NoFraction, i := ci_NoFraction, z := cz_NoFraction },
    e_NoPost := { c := C_NoPost, g := PySem.W.mg_of X G ca_NoPost, x := cx_NoPost, k := ck_NoPost, b := cb_NoPost, t := ct_NoPost, i := ci_NoPost, z := cz_NoPost },
    e_BadLength := { c := C_BadLength, g := PySem.W.mg_of X G ca_BadLength, x := cx_BadLength, k := ck_BadLength, b := cb_BadLength, t := ct_BadLength, i := ci_BadLength, z := cz_BadLength },
    e_Full := { c := C_Full, g := PySem.W.mg_of X G ca_Full, x := cx_Full, k := ck_Full, b := cb_Full, t := ct_Full, i := ci_Full, z := cz_Full },
    e_Few := { c := C_Few, g := PySem.W.mg_of X G ca_Few, x := cx_Few, k := ck_Few, b := cb_Few, t := ct_Few, i := ci_Few, z := cz_Few },
    e_HasRopes := { c := C_HasRopes, g := PySem.W.mg_of X G ca_HasRopes, x := cx_HasRopes, k := ck_HasRopes, b := cb_HasRopes, t := ct_HasRopes, i := ci_HasRopes, z := cz_HasRopes },
    e_NoBack := { c := C_NoBack, g := PySem.W.mg_of X G ca_NoBack, x := cx_NoBack, k := ck_NoBack, b := cb_NoBack, t := ct_NoBack, i := ci_NoBack, z := cz_NoBack },
    u_FEWEST := u_FEWEST, g_FEWEST := PySem.W.mg_of X G ga_FEWEST, r_FEWEST := gr_FEWEST,
    u_MOST := u_MOST, g_MOST := PySem.W.mg_of X G ga_MOST, r_MOST := gr_MOST,
    c_ONE := c_ONE, g_ONE := PySem.W.mg_of X G ga_ONE, r_ONE := rfl, v_ONE := fun _ => .inr ⟨_, _, _, gl_ONE, gf_ONE⟩,
    c_NOUGHT := c_NOUGHT, g_NOUGHT := PySem.W.mg_of X G ga_NOUGHT, r_NOUGHT := rfl, v_NOUGHT := fun _ => .inr ⟨_, _, _, gl_NOUGHT, gf_NOUGHT⟩,
    exm_NoPost_NoPost := fx_exm_NoPost_NoPost,
    exm_NoRope_NoPost := fx_exm_NoRope_NoPost,
    exm_NoRope_NoRope := fx_exm_NoRope_NoRope,
    exm_NoFraction_NoPost := fx_exm_NoFraction_NoPost,
    exm_NoFraction_NoRope := fx_exm_NoFraction_NoRope,
    exm_NoFraction_NoFraction := fx_exm_NoFraction_NoFraction,
    exm_Full_NoPost := fx_exm_Full_NoPost,
    exm_Full_NoRope := fx_exm_Full_NoRope,
    exm_Full_NoFraction := fx_exm_Full_NoFraction,
    exm_Full_Full := fx_exm_Full_Full,
    exm_Few_NoPost := fx_exm_Few_NoPost,
    exm_Few_NoRope := fx_exm_Few_NoRope,
    exm_Few_NoFraction := fx_exm_Few_NoFraction,
    exm_Few_Full := fx_exm_Few_Full,
    exm_Few_Few := fx_exm_Few_Few,
    exm_HasRopes_NoPost := fx_exm_HasRopes_NoPost,
    exm_HasRopes_NoRope := fx_exm_HasRopes_NoRope,
    exm_HasRopes_NoFraction := fx_exm_HasRopes_NoFraction,
    exm_HasRopes_Full := fx_exm_HasRopes_Full,
    exm_HasRopes_Few := fx_exm_HasRopes_Few,
    exm_HasRopes_HasRopes := fx_exm_HasRopes_HasRopes }
theorem all_mk {l : PySem.W.OpenLaw} {w : World} {K : PySem.W.Frag} {mg : Str → Option Value} {fa : Addr} (hfa : mg "law" = some (.ref fa)) (T : Tx K mg) :
    ∃ fd : FuncData, (∀ (s : Shared) (v : Value), BindsTo s fd ⟨[v], []⟩ [("_law_script", v)]) ∧ ∀ base : Heap, K.In base → base.Ns mainGlobals mg → FnOk l.prog w K mg base CX0 12 fa fd ["_law_script"] (spLaw K) := by
  have e := hfa.symm.trans T.g_law
  cases e
  refine ⟨T.fd_law, fun s v => ?_, fun base _ _ => ok_law T⟩
  obtain ⟨oc, od, kV, doc, pm, an, cdv, ct, osl, e, lk, hcd⟩ := T.F_law.ex
  rw [e]
  exact .of_eq rfl
end Pm
open PySem PySem.W PyProof.Rows
set_option maxHeartbeats 0 in
theorem PySem.Challenge.cw_postmead_k39_posts_set_out_holds : PySem.Challenge.rw_postmead_k39_posts_set_out.Holds := by
  w_on; o_law; k_head; (case hw => w_witness2)
  k_fill
  refine L2.walk_of (l := PySem.Challenge.rw_postmead_k39_posts_set_out) (n := 63) (k := 12) (x := "_law_script") (CX := fun _ => L2.CX0) (sp := fun w => Pm.spLaw _) rfl (by decide) rfl ⟨rfl, by decide, by decide⟩ (fun w h Y => PySem.W.kIn_of Y) ?F (fun _ _ a ns hl _ hS => ⟨a, ns, rfl, hS, hl, fun _ => rfl⟩) (fun _ _ _ _ _ h => h)
  case F =>
    intro w mg fa h KX G hmg
    refine' Pm.all_mk hmg (Pm.tx_mk KX G ?oa_Mead ?a0 ?l0 ?c0 ?k0 ?a1 ?l1 ?c1 ?k1 ?a2 ?l2 ?c2 ?k2 ?a3 ?l3 ?c3 ?k3 ?a4 ?l4 ?c4 ?k4 ?a5 ?l5 ?c5 ?k5 ?a6 ?l6 ?c6 ?k6 ?a7 ?l7 ?c7 ?k7 ?a8 ?l8 ?c8 ?k8 ?a9 ?l9 ?c9 ?k9 ?a10 ?l10 ?c10 ?k10 ?a11 ?l11 ?c11 ?k11 ?a12 ?l12 ?c12 ?k12 ?a13 ?l13 ?c13 ?k13 ?a14 ?l14 ?c14 ?k14 ?a15 ?l15 ?c15 ?k15 ?a16 ?l16 ?c16 ?k16 ?a17 ?l17 ?c17 ?k17 ?a18 ?l18 ?c18 ?k18 ?a19 ?l19 ?c19 ?k19 ?a20 ?l20 ?c20 ?k20 ?a21 ?l21 ?c21 ?k21 ?a22 ?l22 ?c22 ?k22 ?a23 ?l23 ?c23 ?k23 ?a24 ?l24 ?c24 ?k24 ?a25 ?l25 ?c25 ?k25 ?a26 ?l26 ?c26 ?k26 ?a27 ?l27 ?c27 ?k27 ?a28 ?l28 ?c28 ?k28 ?a29 ?l29 ?c29 ?k29 ?a30 ?l30 ?c30 ?k30 ?a31 ?l31 ?c31 ?k31 ?a32 ?l32 ?c32 ?k32 ?a33 ?l33 ?c33 ?k33 ?a34 ?l34 ?c34 ?k34 ?a35 ?l35 ?c35 ?k35 ?a36 ?l36 ?c36 ?k36 ?a37 ?l37 ?c37 ?k37 ?a38 ?l38 ?c38 ?k38 ?a39 ?l39 ?c39 ?k39 ?a40 ?l40 ?c40 ?k40 ?a41 ?l41 ?c41 ?k41 ?a42 ?l42 ?c42 ?k42 ?a43 ?l43 ?c43 ?k43 ?a44 ?l44 ?c44 ?k44 ?a45 ?l45 ?c45 ?k45 ?a46 ?l46 ?c46 ?k46 ?a47 ?l47 ?c47 ?k47 ?a48 ?l48 ?c48 ?k48 ?a49 ?l49 ?c49 ?k49 ?a50 ?l50 ?c50 ?k50 ?a51 ?l51 ?c51 ?k51 ?a52 ?l52 ?c52 ?k52 ?a53 ?l53 ?c53 ?k53 ?a54 ?l54 ?c54 ?k54 ?a55 ?l55 ?c55 ?k55 ?a56 ?l56 ?c56 ?k56 ?a57 ?l57 ?c57 ?k57 ?a58 ?l58 ?c58 ?k58 ?a59 ?l59 ?c59 ?k59 ?a60 ?l60 ?c60 ?k60 ?a61 ?l61 ?c61 ?k61 ?a62 ?l62 ?c62 ?k62 ?a63 ?l63 ?c63 ?k63 ?a64 ?l64 ?c64 ?k64 ?a65 ?l65 ?c65 ?k65 ?a66 ?i66 ?l66 ?c66 ?k66 ?a67 ?i67 ?l67 ?c67 ?k67 ?a68 ?i68 ?l68 ?c68 ?k68 ?a69 ?i69 ?l69 ?c69 ?k69 ?a70 ?i70 ?l70 ?c70 ?k70 ?a71 ?i71 ?l71 ?c71 ?k71 ?a72 ?i72 ?l72 ?c72 ?k72 ?a73 ?i73 ?l73 ?c73 ?k73 ?a74 ?i74 ?l74 ?c74 ?k74 ?a75 ?i75 ?l75 ?c75 ?k75 ?a76 ?i76 ?l76 ?c76 ?k76 ?a77 ?i77 ?l77 ?c77 ?k77 ?a78 ?i78 ?l78 ?c78 ?k78 ?a79 ?i79 ?l79 ?c79 ?k79 ?a80 ?i80 ?l80 ?c80 ?k80 ?z_min ?z_max ?z_sorted ?z_range ?z_len ?z_abs ?z_isinstance ?z_int ?z_bool ?z_tuple ?z_list ?z_dict ?pg_Mead ?hd_Mead ?po_Mead ?sa_Mead ?om_Mead ?ok_Mead ?nf_Mead_cut ?nf_Mead_many ?nf_Mead_sized ?nf_Mead_past ?nf_Mead_ahead ?ca_NoCutting ?cx_NoCutting ?ck_NoCutting ?cb_NoCutting ?ct_NoCutting ?ci_NoCutting ?cz_NoCutting ?ca_NoRope ?cx_NoRope ?ck_NoRope ?cb_NoRope ?ct_NoRope ?ci_NoRope ?cz_NoRope ?ca_NoFraction ?cx_NoFraction ?ck_NoFraction ?cb_NoFraction ?ct_NoFraction ?ci_NoFraction ?cz_NoFraction ?ca_NoPost ?cx_NoPost ?ck_NoPost ?cb_NoPost ?ct_NoPost ?ci_NoPost ?cz_NoPost ?ca_BadLength ?cx_BadLength ?ck_BadLength ?cb_BadLength ?ct_BadLength ?ci_BadLength ?cz_BadLength ?ca_Full ?cx_Full ?ck_Full ?cb_Full ?ct_Full ?ci_Full ?cz_Full ?ca_Few ?cx_Few ?ck_Few ?cb_Few ?ct_Few ?ci_Few ?cz_Few ?ca_HasRopes ?cx_HasRopes ?ck_HasRopes ?cb_HasRopes ?ct_HasRopes ?ci_HasRopes ?cz_HasRopes ?ca_NoBack ?cx_NoBack ?ck_NoBack ?cb_NoBack ?ct_NoBack ?ci_NoBack ?cz_NoBack ?ga_FEWEST ?gr_FEWEST ?ga_MOST ?gr_MOST ?ga_ONE ?gl_ONE ?gf_ONE ?ga_NOUGHT ?gl_NOUGHT ?gf_NOUGHT ?fx_exm_NoPost_NoPost ?fx_exm_NoRope_NoPost ?fx_exm_NoRope_NoRope ?fx_exm_NoFraction_NoPost ?fx_exm_NoFraction_NoRope ?fx_exm_NoFraction_NoFraction ?fx_exm_Full_NoPost ?fx_exm_Full_NoRope ?fx_exm_Full_NoFraction ?fx_exm_Full_Full ?fx_exm_Few_NoPost ?fx_exm_Few_NoRope ?fx_exm_Few_NoFraction ?fx_exm_Few_Full ?fx_exm_Few_Few ?fx_exm_HasRopes_NoPost ?fx_exm_HasRopes_NoRope ?fx_exm_HasRopes_NoFraction ?fx_exm_HasRopes_Full ?fx_exm_HasRopes_Few ?fx_exm_HasRopes_HasRopes)
    (case oa_Mead => k_is)
    (case a0 => k_is)
    (case l0 => k_is)
    (case c0 => k_is)
    (case k0 => k_is)
    (case a1 => k_is)
    (case l1 => k_is)
    (case c1 => k_is)
    (case k1 => k_is)
    (case a2 => k_is)
    (case l2 => k_is)
    (case c2 => k_is)
    (case k2 => k_is)
    (case a3 => k_is)
    (case l3 => k_is)
    (case c3 => k_is)
    (case k3 => k_is)
    (case a4 => k_is)
    (case l4 => k_is)
    (case c4 => k_is)
    (case k4 => k_is)
    (case a5 => k_is)
    (case l5 => k_is)
    (case c5 => k_is)
    (case k5 => k_is)
    (case a6 => k_is)
    (case l6 => k_is)
    (case c6 => k_is)
    (case k6 => k_is)
    (case a7 => k_is)
    (case l7 => k_is)
    (case c7 => k_is)
    (case k7 => k_is)
    (case a8 => k_is)
    (case l8 => k_is)
    (case c8 => k_is)
    (case k8 => k_is)
    (case a9 => k_is)
    (case l9 => k_is)
    (case c9 => k_is)
    (case k9 => k_is)
    (case a10 => k_is)
    (case l10 => k_is)
    (case c10 => k_is)
    (case k10 => k_is)
    (case a11 => k_is)
    (case l11 => k_is)
    (case c11 => k_is)
    (case k11 => k_is)
    (case a12 => k_is)
    (case l12 => k_is)
    (case c12 => k_is)
    (case k12 => k_is)
    (case a13 => k_is)
    (case l13 => k_is)
    (case c13 => k_is)
    (case k13 => k_is)
    (case a14 => k_is)
    (case l14 => k_is)
    (case c14 => k_is)
    (case k14 => k_is)
    (case a15 => k_is)
    (case l15 => k_is)
    (case c15 => k_is)
    (case k15 => k_is)
    (case a16 => k_is)
    (case l16 => k_is)
    (case c16 => k_is)
    (case k16 => k_is)
    (case a17 => k_is)
    (case l17 => k_is)
    (case c17 => k_is)
    (case k17 => k_is)
    (case a18 => k_is)
    (case l18 => k_is)
    (case c18 => k_is)
    (case k18 => k_is)
    (case a19 => k_is)
    (case l19 => k_is)
    (case c19 => k_is)
    (case k19 => k_is)
    (case a20 => k_is)
    (case l20 => k_is)
    (case c20 => k_is)
    (case k20 => k_is)
    (case a21 => k_is)
    (case l21 => k_is)
    (case c21 => k_is)
    (case k21 => k_is)
    (case a22 => k_is)
    (case l22 => k_is)
    (case c22 => k_is)
    (case k22 => k_is)
    (case a23 => k_is)
    (case l23 => k_is)
    (case c23 => k_is)
    (case k23 => k_is)
    (case a24 => k_is)
    (case l24 => k_is)
    (case c24 => k_is)
    (case k24 => k_is)
    (case a25 => k_is)
    (case l25 => k_is)
    (case c25 => k_is)
    (case k25 => k_is)
    (case a26 => k_is)
    (case l26 => k_is)
    (case c26 => k_is)
    (case k26 => k_is)
    (case a27 => k_is)
    (case l27 => k_is)
    (case c27 => k_is)
    (case k27 => k_is)
    (case a28 => k_is)
    (case l28 => k_is)
    (case c28 => k_is)
    (case k28 => k_is)
    (case a29 => k_is)
    (case l29 => k_is)
    (case c29 => k_is)
    (case k29 => k_is)
    (case a30 => k_is)
    (case l30 => k_is)
    (case c30 => k_is)
    (case k30 => k_is)
    (case a31 => k_is)
    (case l31 => k_is)
    (case c31 => k_is)
    (case k31 => k_is)
    (case a32 => k_is)
    (case l32 => k_is)
    (case c32 => k_is)
    (case k32 => k_is)
    (case a33 => k_is)
    (case l33 => k_is)
    (case c33 => k_is)
    (case k33 => k_is)
    (case a34 => k_is)
    (case l34 => k_is)
    (case c34 => k_is)
    (case k34 => k_is)
    (case a35 => k_is)
    (case l35 => k_is)
    (case c35 => k_is)
    (case k35 => k_is)
    (case a36 => k_is)
    (case l36 => k_is)
    (case c36 => k_is)
    (case k36 => k_is)
    (case a37 => k_is)
    (case l37 => k_is)
    (case c37 => k_is)
    (case k37 => k_is)
    (case a38 => k_is)
    (case l38 => k_is)
    (case c38 => k_is)
    (case k38 => k_is)
    (case a39 => k_is)
    (case l39 => k_is)
    (case c39 => k_is)
    (case k39 => k_is)
    (case a40 => k_is)
    (case l40 => k_is)
    (case c40 => k_is)
    (case k40 => k_is)
    (case a41 => k_is)
    (case l41 => k_is)
    (case c41 => k_is)
    (case k41 => k_is)
    (case a42 => k_is)
    (case l42 => k_is)
    (case c42 => k_is)
    (case k42 => k_is)
    (case a43 => k_is)
    (case l43 => k_is)
    (case c43 => k_is)
    (case k43 => k_is)
    (case a44 => k_is)
    (case l44 => k_is)
    (case c44 => k_is)
    (case k44 => k_is)
    (case a45 => k_is)
    (case l45 => k_is)
    (case c45 => k_is)
    (case k45 => k_is)
    (case a46 => k_is)
    (case l46 => k_is)
    (case c46 => k_is)
    (case k46 => k_is)
    (case a47 => k_is)
    (case l47 => k_is)
    (case c47 => k_is)
    (case k47 => k_is)
    (case a48 => k_is)
    (case l48 => k_is)
    (case c48 => k_is)
    (case k48 => k_is)
    (case a49 => k_is)
    (case l49 => k_is)
    (case c49 => k_is)
    (case k49 => k_is)
    (case a50 => k_is)
    (case l50 => k_is)
    (case c50 => k_is)
    (case k50 => k_is)
    (case a51 => k_is)
    (case l51 => k_is)
    (case c51 => k_is)
    (case k51 => k_is)
    (case a52 => k_is)
    (case l52 => k_is)
    (case c52 => k_is)
    (case k52 => k_is)
    (case a53 => k_is)
    (case l53 => k_is)
    (case c53 => k_is)
    (case k53 => k_is)
    (case a54 => k_is)
    (case l54 => k_is)
    (case c54 => k_is)
    (case k54 => k_is)
    (case a55 => k_is)
    (case l55 => k_is)
    (case c55 => k_is)
    (case k55 => k_is)
    (case a56 => k_is)
    (case l56 => k_is)
    (case c56 => k_is)
    (case k56 => k_is)
    (case a57 => k_is)
    (case l57 => k_is)
    (case c57 => k_is)
    (case k57 => k_is)
    (case a58 => k_is)
    (case l58 => k_is)
    (case c58 => k_is)
    (case k58 => k_is)
    (case a59 => k_is)
    (case l59 => k_is)
    (case c59 => k_is)
    (case k59 => k_is)
    (case a60 => k_is)
    (case l60 => k_is)
    (case c60 => k_is)
    (case k60 => k_is)
    (case a61 => k_is)
    (case l61 => k_is)
    (case c61 => k_is)
    (case k61 => k_is)
    (case a62 => k_is)
    (case l62 => k_is)
    (case c62 => k_is)
    (case k62 => k_is)
    (case a63 => k_is)
    (case l63 => k_is)
    (case c63 => k_is)
    (case k63 => k_is)
    (case a64 => k_is)
    (case l64 => k_is)
    (case c64 => k_is)
    (case k64 => k_is)
    (case a65 => k_is)
    (case l65 => k_is)
    (case c65 => k_is)
    (case k65 => k_is)
    (case a66 => k_is)
    (case i66 => k_is)
    (case l66 => k_is)
    (case c66 => k_is)
    (case k66 => k_is)
    (case a67 => k_is)
    (case i67 => k_is)
    (case l67 => k_is)
    (case c67 => k_is)
    (case k67 => k_is)
    (case a68 => k_is)
    (case i68 => k_is)
    (case l68 => k_is)
    (case c68 => k_is)
    (case k68 => k_is)
    (case a69 => k_is)
    (case i69 => k_is)
    (case l69 => k_is)
    (case c69 => k_is)
    (case k69 => k_is)
    (case a70 => k_is)
    (case i70 => k_is)
    (case l70 => k_is)
    (case c70 => k_is)
    (case k70 => k_is)
    (case a71 => k_is)
    (case i71 => k_is)
    (case l71 => k_is)
    (case c71 => k_is)
    (case k71 => k_is)
    (case a72 => k_is)
    (case i72 => k_is)
    (case l72 => k_is)
    (case c72 => k_is)
    (case k72 => k_is)
    (case a73 => k_is)
    (case i73 => k_is)
    (case l73 => k_is)
    (case c73 => k_is)
    (case k73 => k_is)
    (case a74 => k_is)
    (case i74 => k_is)
    (case l74 => k_is)
    (case c74 => k_is)
    (case k74 => k_is)
    (case a75 => k_is)
    (case i75 => k_is)
    (case l75 => k_is)
    (case c75 => k_is)
    (case k75 => k_is)
    (case a76 => k_is)
    (case i76 => k_is)
    (case l76 => k_is)
    (case c76 => k_is)
    (case k76 => k_is)
    (case a77 => k_is)
    (case i77 => k_is)
    (case l77 => k_is)
    (case c77 => k_is)
    (case k77 => k_is)
    (case a78 => k_is)
    (case i78 => k_is)
    (case l78 => k_is)
    (case c78 => k_is)
    (case k78 => k_is)
    (case a79 => k_is)
    (case i79 => k_is)
    (case l79 => k_is)
    (case c79 => k_is)
    (case k79 => k_is)
    (case a80 => k_is)
    (case i80 => k_is)
    (case l80 => k_is)
    (case c80 => k_is)
    (case k80 => k_is)
    (case z_min => k_is)
    (case z_max => k_is)
    (case z_sorted => k_is)
    (case z_range => k_is)
    (case z_len => k_is)
    (case z_abs => k_is)
    (case z_isinstance => k_is)
    (case z_int => k_is)
    (case z_bool => k_is)
    (case z_tuple => k_is)
    (case z_list => k_is)
    (case z_dict => k_is)
    (case pg_Mead => k_is)
    (case hd_Mead => k_is)
    (case po_Mead => k_is)
    (case sa_Mead => k_is)
    (case om_Mead => k_is)
    (case ok_Mead => k_is)
    (case nf_Mead_cut => k_is)
    (case nf_Mead_many => k_is)
    (case nf_Mead_sized => k_is)
    (case nf_Mead_past => k_is)
    (case nf_Mead_ahead => k_is)
    (case ca_NoCutting => k_is)
    (case cx_NoCutting => first | k_exc | k_is)
    (case ck_NoCutting => k_is)
    (case cb_NoCutting => k_is)
    (case ct_NoCutting => k_is)
    (case ci_NoCutting => k_is)
    (case cz_NoCutting => first | rfl | k_is)
    (case ca_NoRope => k_is)
    (case cx_NoRope => first | k_exc | k_is)
    (case ck_NoRope => k_is)
    (case cb_NoRope => k_is)
    (case ct_NoRope => k_is)
    (case ci_NoRope => k_is)
    (case cz_NoRope => first | rfl | k_is)
    (case ca_NoFraction => k_is)
    (case cx_NoFraction => first | k_exc | k_is)
    (case ck_NoFraction => k_is)
    (case cb_NoFraction => k_is)
    (case ct_NoFraction => k_is)
    (case ci_NoFraction => k_is)
    (case cz_NoFraction => first | rfl | k_is)
    (case ca_NoPost => k_is)
    (case cx_NoPost => first | k_exc | k_is)
    (case ck_NoPost => k_is)
    (case cb_NoPost => k_is)
    (case ct_NoPost => k_is)
    (case ci_NoPost => k_is)
    (case cz_NoPost => first | rfl | k_is)
    (case ca_BadLength => k_is)
    (case cx_BadLength => first | k_exc | k_is)
    (case ck_BadLength => k_is)
    (case cb_BadLength => k_is)
    (case ct_BadLength => k_is)
    (case ci_BadLength => k_is)
    (case cz_BadLength => first | rfl | k_is)
    (case ca_Full => k_is)
    (case cx_Full => first | k_exc | k_is)
    (case ck_Full => k_is)
    (case cb_Full => k_is)
    (case ct_Full => k_is)
    (case ci_Full => k_is)
    (case cz_Full => first | rfl | k_is)
    (case ca_Few => k_is)
    (case cx_Few => first | k_exc | k_is)
    (case ck_Few => k_is)
    (case cb_Few => k_is)
    (case ct_Few => k_is)
    (case ci_Few => k_is)
    (case cz_Few => first | rfl | k_is)
    (case ca_HasRopes => k_is)
    (case cx_HasRopes => first | k_exc | k_is)
    (case ck_HasRopes => k_is)
    (case cb_HasRopes => k_is)
    (case ct_HasRopes => k_is)
    (case ci_HasRopes => k_is)
    (case cz_HasRopes => first | rfl | k_is)
    (case ca_NoBack => k_is)
    (case cx_NoBack => first | k_exc | k_is)
    (case ck_NoBack => k_is)
    (case cb_NoBack => k_is)
    (case ct_NoBack => k_is)
    (case ci_NoBack => k_is)
    (case cz_NoBack => first | rfl | k_is)
    (case ga_FEWEST => k_is)
    (case gr_FEWEST => exact ⟨_, rfl⟩)
    (case ga_MOST => k_is)
    (case gr_MOST => exact ⟨_, rfl⟩)
    (case ga_ONE => k_is)
    (case gl_ONE => k_is)
    (case gf_ONE => exact ⟨rfl, rfl, by decide +kernel, .cons ⟨_, rfl⟩ (.cons ⟨_, rfl⟩ (.nil))⟩)
    (case ga_NOUGHT => k_is)
    (case gl_NOUGHT => k_is)
    (case gf_NOUGHT => exact ⟨rfl, rfl, by decide +kernel, .cons ⟨_, rfl⟩ (.cons ⟨_, rfl⟩ (.nil))⟩)
    (case fx_exm_NoPost_NoPost => first | rfl | k_is)
    (case fx_exm_NoRope_NoPost => first | rfl | k_is)
    (case fx_exm_NoRope_NoRope => first | rfl | k_is)
    (case fx_exm_NoFraction_NoPost => first | rfl | k_is)
    (case fx_exm_NoFraction_NoRope => first | rfl | k_is)
    (case fx_exm_NoFraction_NoFraction => first | rfl | k_is)
    (case fx_exm_Full_NoPost => first | rfl | k_is)
    (case fx_exm_Full_NoRope => first | rfl | k_is)
    (case fx_exm_Full_NoFraction => first | rfl | k_is)
    (case fx_exm_Full_Full => first | rfl | k_is)
    (case fx_exm_Few_NoPost => first | rfl | k_is)
    (case fx_exm_Few_NoRope => first | rfl | k_is)
    (case fx_exm_Few_NoFraction => first | rfl | k_is)
    (case fx_exm_Few_Full => first | rfl | k_is)
    (case fx_exm_Few_Few => first | rfl | k_is)
    (case fx_exm_HasRopes_NoPost => first | rfl | k_is)
    (case fx_exm_HasRopes_NoRope => first | rfl | k_is)
    (case fx_exm_HasRopes_NoFraction => first | rfl | k_is)
    (case fx_exm_HasRopes_Full => first | rfl | k_is)
    (case fx_exm_HasRopes_Few => first | rfl | k_is)
    (case fx_exm_HasRopes_HasRopes => first | rfl | k_is)
#print axioms PySem.Challenge.cw_postmead_k39_posts_set_out_holds
