import PyProof.Rows.All
import HandS.Style
import Wide.All
import OpenK.AllK
import Wide.FinOn
import PySem.Challenge.RW_postmead_k17_whole_roads_lead
import HandS.ForMost
import HandS.ForExc
import HandS.IsInst
import HandS.Deep
import HandS.Codes
import HandS.SortRule
import HandS.Wide
import HandS.ExcIs
import HandS.TryOnly
import HandS.TupLe
set_option Elab.async false
set_option linter.all false
set_option maxRecDepth 100000
set_option maxHeartbeats 4000000
/-! ### readings, step by step: one lemma a construct, for the first row of a goal -/
namespace Pm
open PySem PySem.Spec PyProof.Rows L2
theorem size_ok {n : Nat} (h : n ≤ 16777216) : n ≤ sizeLine := by rw [sizeLine_eq]; exact h
theorem size_lt {n : Nat} (h : n < 16777216) : n < sizeLine := by rw [sizeLine_eq]; exact h
/-! the rules over the written part K, by its name -/
section
variable {X : Cx} {K : PySem.W.Frag}
theorem ix_listK (e : X.K = K := by rfl) : IxR X (rIxL K) := e ▸ ix_list
theorem ix_tupK (e : X.K = K := by rfl) : IxR X (rIxT K) := e ▸ ix_tup
theorem sl_listK (e : X.K = K := by rfl) : SlR X (rSlL K) := e ▸ sl_list
theorem op_eqDK (hu : X.A.units + 64 < cLine) (e : X.K = K := by rfl) : OpR X (compareOp .Eq) (rEqD K) := e ▸ op_eqD hu
theorem op_neDK (hu : X.A.units + 64 < cLine) (e : X.K = K := by rfl) : OpR X (compareOp .NotEq) (rNeD K) := e ▸ op_neD hu
theorem op_inDK (hu : X.A.units + 65 < cLine) (e : X.K = K := by rfl) : OpR X (compareOp .In) (rInD K) := e ▸ op_inD hu
theorem op_notInDK (hu : X.A.units + 65 < cLine) (e : X.K = K := by rfl) : OpR X (compareOp .NotIn) (rNotInD K) := e ▸ op_notInD hu
theorem op_in_seqK (e : X.K = K := by rfl) : OpR X (compareOp .In) (rIn K false) := e ▸ op_in_seq
theorem op_notIn_seqK (e : X.K = K := by rfl) : OpR X (compareOp .NotIn) (rIn K true) := e ▸ op_notIn_seq
theorem cr_sumK (hc : X.calm = true) (e : X.K = K := by rfl) : CallR X (.builtin "sum") (rSum K) := e ▸ cr_sum hc
theorem cr_sortK (e : X.K = K := by rfl) : CallR X (.builtin "sorted") (rSortedPO K) := e ▸ cr_sortedPO
theorem call_isK (e : X.K = K := by rfl) : CallR X (.builtin "isinstance") (rIsi K) := e ▸ call_isi
theorem k_bm {ex : Expr} {T : String} {r : V → List V → Hp → VK → Prop} {to : TE} {t : TA} (h : PE X ex (tBM X.K T r to t)) (e : X.K = K := by rfl) : PE X ex (tBM K T r to t) := e ▸ h
theorem k_bm0 {ex : Expr} {T : String} {r : V → List V → Hp → VK → Prop} {to : TE} (h : PE X ex (tBM0 X.K T r to)) (e : X.K = K := by rfl) : PE X ex (tBM0 K T r to) := e ▸ h
theorem k_il {tg ex : Expr} {te : TE} (h : PI X tg ex (iList X.K te)) (e : X.K = K := by rfl) : PI X tg ex (iList K te) := e ▸ h
theorem k_it {tg ex : Expr} {te : TE} (h : PI X tg ex (iTup X.K te)) (e : X.K = K := by rfl) : PI X tg ex (iTup K te) := e ▸ h
theorem k_gt {tg : Expr} {n : Nat} {t : TGs} (h : PG X tg (gTup X.K n t)) (e : X.K = K := by rfl) : PG X tg (gTup K n t) := e ▸ h
end
/-- a op1 b op2 c op3 d -/
def tChain3 (r r' r'' : R2) (ta tb tc td : TE) : TE := fun σ H Q => ta σ H fun x H1 => tb σ H1 fun y H2 => r x y H2 fun z H3 => ∃ k, z = .bl k ∧
  (if k = true then tc σ H3 fun w' H4 => r' y w' H4 fun z' H5 => ∃ k', z' = .bl k' ∧ (if k' = true then td σ H5 fun v' H6 => r'' w' v' H6 Q else Q (.bl false) H5) else Q (.bl false) H3)
section
variable {X : Cx} {a b c d : Expr} {ta tb tc td : TE} {pos : Pos}
theorem pt_chain3 {op op' op'' : CmpOp} {r r' r'' : R2} (ho : OpR X (compareOp op) r) (ho' : OpR X (compareOp op') r') (ho'' : OpR X (compareOp op'') r'') (ha : PE X a ta) (hb : PE X b tb) (hc : PE X c tc) (hd : PE X d td)
    (hm : lastMarks [op, op', op''] [b, c, d] = false := by with_unfolding_all rfl) : PT X (.Compare a [op, op', op''] [b, c, d] pos) (tTest (tChain3 r r' r'' ta tb tc td)) := by
  refine ⟨fun pins s σ H Q I h => ?_⟩
  refine isTrue_chain (thn (ha.run pins s σ H _ I h) fun v s1 ⟨x, H1, I1, r1, q1⟩ => test_link (thn (hb.run pins s1 σ H1 _ I1 q1) fun u s2 ⟨y, H2, I2, r2, q2⟩ =>
    thn (ho pins s2 σ H2 x y v u _ I2 r1 r2 q2) fun e s3 ⟨z, H3, I3, r3, k, e', q3⟩ => ?_)) hm
  subst e'
  cases r3
  refine wpAny_truthy_bool ?_
  cases k with
  | false =>
    obtain ⟨k', e', q'⟩ := q3
    cases e'
    exact ite_ff ⟨H3, I3, q'⟩
  | true =>
    refine ite_tt (test_link (thn (hc.run pins s3 σ H3 _ I3 q3) fun w' s4 ⟨z', H4, I4, r4, q4⟩ => thn (ho' pins s4 σ H4 y z' u w' _ I4 r2 r4 q4) fun d' s5 ⟨z2, H5, I5, r5, k2, e2, q5⟩ => ?_))
    subst e2
    cases r5
    refine wpAny_truthy_bool ?_
    cases k2 with
    | false =>
      obtain ⟨k', e', q'⟩ := q5
      cases e'
      exact ite_ff ⟨H5, I5, q'⟩
    | true =>
      refine ite_tt (test_last (thn (hd.run pins s5 σ H5 _ I5 q5) fun v' s6 ⟨z6, H6, I6, r6, q6⟩ => thn (ho'' pins s6 σ H6 z' z6 w' v' _ I6 r4 r6 q6) fun d7 s7 ⟨z7, H7, I7, r7, k7, e7, q7⟩ => ?_))
      subst e7
      cases r7
      exact wpAny_truthy_bool ⟨H7, I7, q7⟩
end
/-! the rules of some calls, by a name -/
def rAbs : List V → Hp → VK → Prop := fun xs H Q => ∃ i, xs = [.int i] ∧ Q (.int (if i < 0 then -i else i)) H
theorem c_abs {X : Cx} : CallR X (.builtin "abs") rAbs := call_abs
def rMax2 : List V → Hp → VK → Prop := fun xs H Q => ∃ i j, xs = [.int i, .int j] ∧ Q (.int (if j > i then j else i)) H
theorem c_max {X : Cx} (hc : X.calm = true) : CallR X (.builtin "max") rMax2 := call_max2 hc
def rMin2 : List V → Hp → VK → Prop := fun xs H Q => ∃ i j, xs = [.int i, .int j] ∧ Q (.int (if j < i then j else i)) H
theorem c_min {X : Cx} (hc : X.calm = true) : CallR X (.builtin "min") rMin2 := call_min2 hc
def rLen (K : PySem.W.Frag) : List V → Hp → VK → Prop := fun xs H Q => ∃ p ys, xs = [.ref p] ∧ (SqL K H p ys ∨ SqT K H p ys) ∧ Q (.int ys.length) H
theorem c_len {X : Cx} {K : PySem.W.Frag} (e : X.K = K := by rfl) : CallR X (.builtin "len") (rLen K) := e ▸ call_len_seq
def rLenS : List V → Hp → VK → Prop := fun xs H Q => ∃ z : Str, xs = [.str z] ∧ z.length ≤ sizeLine ∧ Q (.int z.length) H
theorem c_lenS {X : Cx} : CallR X (.builtin "len") rLenS := call_len_str
def rInt1 : List V → Hp → VK → Prop := fun xs H Q => (∃ i, xs = [.int i] ∧ Q (.int i) H) ∨ ∃ k, xs = [.bl k] ∧ Q (.int (if k then 1 else 0)) H
theorem c_int1 {X : Cx} : CallR X (.type "int") rInt1 := call_int1
def rListOf (K : PySem.W.Frag) : List V → Hp → VK → Prop := fun xs H Q => ∃ p ys, xs = [.ref p] ∧ (SqL K H p ys ∨ SqT K H p ys) ∧ ∀ l, H l = none → Q (.ref l) (upd H l (.lst ys))
theorem c_listOf {X : Cx} {K : PySem.W.Frag} (e : X.K = K := by rfl) : CallR X (.type "list") (rListOf K) := e ▸ call_list_of
def rTupOf (K : PySem.W.Frag) : List V → Hp → VK → Prop := fun xs H Q => ∃ p ys, xs = [.ref p] ∧ ((SqL K H p ys ∧ ∀ l, H l = none → Q (.ref l) (upd H l (.tup ys))) ∨ (SqT K H p ys ∧ Q (.ref p) H))
theorem c_tupOf {X : Cx} {K : PySem.W.Frag} (e : X.K = K := by rfl) : CallR X (.type "tuple") (rTupOf K) := e ▸ call_tuple_of
def rCatS : R2 := fun x y H Q => ∃ i j, x = .str i ∧ y = .str j ∧ i.length + j.length ≤ sizeLine ∧ Q (.str (i ++ j)) H
theorem o_catS {X : Cx} : OpR X (binaryOp .Add) rCatS := op_add_str
def TupK (Q : VK) : List V → Hp → Prop := fun xs H1 => xs.length ≤ sizeLine ∧ ∀ p, H1 p = none → Q (.ref p) (upd H1 p (.tup xs))
def LstK (Q : VK) : List V → Hp → Prop := fun xs H1 => xs.length ≤ sizeLine ∧ ∀ p, H1 p = none → Q (.ref p) (upd H1 p (.lst xs))
/-- isinstance(e, c) of the exception at a that an except suite holds (its class cls, its dict d) -/
def rIsX (K : PySem.W.Frag) (cls : Value) (d : Option Addr) (a : Addr) : List V → Hp → VK → Prop := fun xs H Q => ∃ (D : Addr) (c : V) (cv : Value) (b : Bool), cls = .ref D ∧ d = none ∧ ExcC K D ∧ xs = [.ref a, c] ∧ (∀ u, RelV c u → u = cv) ∧ PySem.W.kitOne K (.ref D) cv = some b ∧ Q (.bl b) H
theorem c_isX {X : Cx} {K : PySem.W.Frag} {a : Addr} {oe : Obj} {cls : Value} {d : Option Addr} {pn : List (Addr × Obj)} (hz : Zc cls d oe) (hf : ∃ vs, oe.data = .fields vs) (e : X.K = K := by rfl) : CallR (X.suite a ((a, oe) :: pn)) (.builtin "isinstance") (rIsX K cls d a) := by
  subst e
  intro pins s σ H xs us Q I r h
  obtain ⟨D, c, cv, b, rfl, rfl, C, ex, hc, k, q⟩ := h
  exact call_isE C hz hf pins s σ H xs us Q I r ⟨c, cv, b, ex, hc, k, q⟩
/-- what is asked of a for's body, once what is walked is there -/
def ForB (g : TG) (t : TS) (nx : L2.St → Hp → Prop) (rt : VK) (σ : L2.St) : It → Hp → Prop := fun J H1 => ∃ W : Nat → Nat → L2.St → Hp → Prop, (∃ m, W 0 m σ H1) ∧ ∀ i m σ H, W i m σ H →
  (J.stop i H ∧ nx σ H) ∨ (J.go i H ∧ ∃ N : L2.St → Hp → Prop, (∀ σ' H', N σ' H' → ∃ m', m' < m ∧ W (i + 1) m' σ' H') ∧ ∀ x H', J.yld i H x H' → g x σ H' fun σ2 H2 => t ⟨N, rt, nx, N⟩ σ2 H2)
def WhB (t : TS) (nx : L2.St → Hp → Prop) (rt : VK) (Pv : Nat → L2.St → Hp → Prop) (m : Nat) (σ : L2.St) : Bool → Hp → Prop := fun b H1 => if b = true then ∃ N : L2.St → Hp → Prop, (∀ σ' H', N σ' H' → ∃ m', m' < m ∧ Pv m' σ' H') ∧ t ⟨N, rt, nx, N⟩ σ H1 else nx σ H1
def ParK (i j : Nat) (nx : L2.St → Hp → Prop) (σ : L2.St) : List V → Hp → Prop := fun vs H1 => ∃ v w, vs = [v, w] ∧ nx ((σ.set i (some v)).set j (some w)) H1
def PartK (O : Option Int → Hp → Prop) : VK := fun x H1 => ∃ i, x = .int i ∧ O (some i) H1
/-! dicts with keys that are tuples -/
def DPK (nx : L2.St → Hp → Prop) (σ : L2.St) (v x : V) : VK := fun y H3 => ∃ a H4, x = .ref a ∧ DPut H3 a y v H4 ∧ nx σ H4
def DInK (y : V) (Q : VK) : VK := fun x H2 => ∃ a o, x = .ref a ∧ DGet H2 a y o ∧ Q (.bl o.isSome) H2
def DNotInK (y : V) (Q : VK) : VK := fun x H2 => ∃ a o, x = .ref a ∧ DGet H2 a y o ∧ Q (.bl (!o.isSome)) H2
def DGK (x : V) (Q : VK) : VK := fun y H2 => ∃ a v, x = .ref a ∧ DGet H2 a y (some v) ∧ Q v H2
def RdL (K : PySem.W.Frag) (R : It → Hp → Prop) : VK := fun x H1 => ∃ a, x = .ref a ∧ (∃ xs, SqL K H1 a xs) ∧ R (Itl K a) H1
def RdT (K : PySem.W.Frag) (R : It → Hp → Prop) : VK := fun x H1 => ∃ a, x = .ref a ∧ (∃ xs, SqT K H1 a xs) ∧ R (Itt K a) H1
def Rg1 (R : It → Hp → Prop) : List V → Hp → Prop := fun vs H1 => ∃ j : Int, vs = [.int j] ∧ -(2 ^ 62) ≤ j ∧ j < 2 ^ 62 ∧ R (Itr 0 j.toNat) H1
def Rg2 (R : It → Hp → Prop) : List V → Hp → Prop := fun vs H1 => ∃ i j : Int, vs = [.int i, .int j] ∧ (-(2 ^ 62) ≤ i ∧ i < 2 ^ 62 ∧ -(2 ^ 62) ≤ j ∧ j < 2 ^ 62) ∧ R (Itr i (j - i).toNat) H1
/-- what is asked of a list comprehension, once what is walked is there -/
def LcB (g : TG) (tt : TT) (te : TE) (vs : List Nat) (σ : L2.St) (Q : VK) : It → Hp → Prop := fun J H1 => ∀ D, H1 D = none → ∃ W : Nat → Nat → Hp → Prop, (∃ m, W 0 m (upd H1 D (.lst []))) ∧ ∀ i m H, W i m H →
  (J.stop i H ∧ Q (.ref D) H) ∨ (J.go i H ∧ ∃ Nx : Hp → Prop, (∀ H', Nx H' → ∃ m', m' < m ∧ W (i + 1) m' H') ∧ ∀ x H', J.yld i H x H' → g x (wipe σ vs) H' fun σ2 H2 => wipe σ2 vs = wipe σ vs ∧ tt σ2 H2 fun b H3 =>
    if b = true then te σ2 H3 fun y H4 => ∃ acc, H4 D = some (.lst acc) ∧ acc.length < sizeLine ∧ Nx (upd H4 D (.lst (acc ++ [y]))) else Nx H3)
/-- a turn of a comprehension: the item put behind the list at D -/
def LcPut (D : Addr) (Nx : Hp → Prop) : VK := fun y H4 => ∃ acc, H4 D = some (.lst acc) ∧ acc.length < sizeLine ∧ Nx (upd H4 D (.lst (acc ++ [y])))
def LcTurn (tt : TT) (te : TE) (vs : List Nat) (σ : L2.St) (D : Addr) (Nx : Hp → Prop) : L2.St → Hp → Prop := fun σ2 H2 => wipe σ2 vs = wipe σ vs ∧ tt σ2 H2 fun b H3 => if b = true then te σ2 H3 (LcPut D Nx) else Nx H3
section
variable {nx bk ct : L2.St → Hp → Prop} {rt : VK} {σ : L2.St} {H : Hp} {t u : TS} {te ta tb tc : TE} {g : TG} {Q : VK} {B : Bool → Hp → Prop} {c c' : TT} {L : List V → Hp → Prop}
theorem w_seq (h : t ⟨u ⟨nx, rt, bk, ct⟩, rt, bk, ct⟩ σ H) : tSeq t u ⟨nx, rt, bk, ct⟩ σ H := h
theorem w_cut (Mid : L2.St → Hp → Prop) (h : t ⟨Mid, rt, bk, ct⟩ σ H) (h2 : ∀ σ' H', Mid σ' H' → u ⟨nx, rt, bk, ct⟩ σ' H') : C8.tCut t u ⟨nx, rt, bk, ct⟩ σ H := ⟨Mid, h, h2⟩
theorem w_asg (h : te σ H fun x H1 => g x σ H1 nx) : tAsg te g ⟨nx, rt, bk, ct⟩ σ H := h
theorem w_drop (h : te σ H fun _ H1 => nx σ H1) : tDrop te ⟨nx, rt, bk, ct⟩ σ H := h
theorem w_ret (h : te σ H rt) : tRet te ⟨nx, rt, bk, ct⟩ σ H := h
theorem w_retN (h : rt .non H) : tRetN ⟨nx, rt, bk, ct⟩ σ H := h
theorem w_next (h : nx σ H) : tNext ⟨nx, rt, bk, ct⟩ σ H := h
theorem w_brk (h : bk σ H) : tBreak ⟨nx, rt, bk, ct⟩ σ H := h
theorem w_cont (h : ct σ H) : tCont ⟨nx, rt, bk, ct⟩ σ H := h
theorem w_if (h : c σ H fun b H1 => if b = true then t ⟨nx, rt, bk, ct⟩ σ H1 else u ⟨nx, rt, bk, ct⟩ σ H1) : tIfS c t u ⟨nx, rt, bk, ct⟩ σ H := h
theorem w_par {i j : Nat} {t : TA} (h : t σ H (ParK i j nx σ)) : tPar i j t ⟨nx, rt, bk, ct⟩ σ H := h
theorem w_par2 {v w : V} {i j : Nat} (h : nx ((σ.set i (some v)).set j (some w)) H) : ParK i j nx σ [v, w] H := ⟨v, w, rfl, h⟩
theorem w_gname {v : V} {i : Nat} {R : L2.St → Hp → Prop} (h : R (σ.set i (some v)) H) : gName i v σ H R := h
theorem w_gtup {K : PySem.W.Frag} {n : Nat} {t : TGs} {a : Addr} {xs : List V} {R : L2.St → Hp → Prop} (hl : SqT K H a xs) (e : xs.length = n) (h : t xs σ H R) : gTup K n t (.ref a) σ H R := ⟨a, xs, rfl, hl, e, h⟩
theorem w_gcons {t : TG} {u : TGs} {v : V} {r : List V} {R : L2.St → Hp → Prop} (h : t v σ H fun σ' H' => u r σ' H' R) : gCons t u (v :: r) σ H R := ⟨v, r, rfl, h⟩
theorem w_gnil {R : L2.St → Hp → Prop} (h : R σ H) : gNil [] σ H R := ⟨rfl, h⟩
theorem w_gsub {to ti : TE} {t : TSet} {v : V} {R : L2.St → Hp → Prop} (h : to σ H fun o H1 => ti σ H1 fun i H2 => t o i v H2 fun H3 => R σ H3) : gSub to ti t v σ H R := h
theorem w_setL {p : Addr} {xs : List V} {k : Int} {v : V} {R : Hp → Prop} (hl : H p = some (.lst xs)) (h0 : 0 ≤ k) (h1 : k < (xs.length : Int)) (h : R (upd H p (.lst (xs.set k.toNat v)))) : rSetL (.ref p) (.int k) v H R := ⟨p, xs, k, k.toNat, rfl, rfl, hl, by unfold ixN; rw [if_pos h0, if_pos h1], h⟩
theorem w_var {i : Nat} {v : V} (e : σ[i]? = some (some v)) (h : Q v H) : tVar i σ H Q := ⟨v, e, h⟩
theorem w_c {v : V} (h : Q v H) : tC v σ H Q := h
theorem w_op {r : R2} (h : ta σ H fun x H1 => tb σ H1 fun y H2 => r x y H2 Q) : tOp r ta tb σ H Q := h
theorem w_un {r : V → Hp → VK → Prop} (h : ta σ H fun x H1 => r x H1 Q) : tUn r ta σ H Q := h
theorem w_i0 {k : Int → Int → V} {i j : Int} (h : Q (k i j) H) : rI0 k (.int i) (.int j) H Q := ⟨i, j, rfl, rfl, h⟩
theorem w_i {C : Int → Int → Prop} {k : Int → Int → V} {i j : Int} (hc : C i j) (h : Q (k i j) H) : rI C k (.int i) (.int j) H Q := ⟨i, j, rfl, rfl, hc, h⟩
theorem w_u {k : Int → V} {i : Int} (h : Q (k i) H) : rU k (.int i) H Q := ⟨i, rfl, h⟩
theorem w_eqi {i j : Int} (h : Q (.bl (decide (i = j))) H) : rEq (.int i) (.int j) H Q := by
  refine ⟨rfl, ?_⟩
  have e : decide (V.int i = V.int j) = decide (i = j) := by simp
  rw [e]; exact h
theorem w_nei {i j : Int} (h : Q (.bl (!decide (i = j))) H) : rNe (.int i) (.int j) H Q := by
  refine ⟨rfl, ?_⟩
  have e : decide (V.int i = V.int j) = decide (i = j) := by simp
  rw [e]; exact h
theorem w_eqb {i j : Bool} (h : Q (.bl (i == j)) H) : rEq (.bl i) (.bl j) H Q := by
  refine ⟨rfl, ?_⟩
  have e : decide (V.bl i = V.bl j) = (i == j) := by cases i <;> cases j <;> rfl
  rw [e]; exact h
theorem w_neb {i j : Bool} (h : Q (.bl (!(i == j))) H) : rNe (.bl i) (.bl j) H Q := by
  refine ⟨rfl, ?_⟩
  have e : decide (V.bl i = V.bl j) = (i == j) := by cases i <;> cases j <;> rfl
  rw [e]; exact h
theorem w_eqs {i j : Str} (h : Q (.bl (decide (i = j))) H) : rEq (.str i) (.str j) H Q := by
  refine ⟨rfl, ?_⟩
  have e : decide (V.str i = V.str j) = decide (i = j) := by simp
  rw [e]; exact h
theorem w_cb {r : List V → Hp → VK → Prop} {t : TA} (h : t σ H fun vs H1 => r vs H1 Q) : tCB r t σ H Q := h
theorem w_nil (h : L [] H) : tNil σ H L := h
theorem w_cons {t : TA} (h : ta σ H fun x H1 => t σ H1 fun xs H2 => L (x :: xs) H2) : tCons ta t σ H L := h
theorem w_call {sp : Sp} {E : XK} {t : TA} (h : t σ H fun vs H1 => sp (vs ++ []) H1 Q E) : tCall sp [] E t σ H Q := h
theorem w_tup {t : TA} (h : t σ H (TupK Q)) : tTup t σ H Q := h
theorem w_lst {t : TA} (h : t σ H (LstK Q)) : tLst t σ H Q := h
theorem w_newT {xs : List V} (h : ∀ p, H p = none → Q (.ref p) (upd H p (.tup xs))) (hz : xs.length ≤ sizeLine := by exact Pm.size_ok (Nat.le_of_ble_eq_true rfl)) : TupK Q xs H := ⟨hz, h⟩
theorem w_newL {xs : List V} (h : ∀ p, H p = none → Q (.ref p) (upd H p (.lst xs))) (hz : xs.length ≤ sizeLine := by exact Pm.size_ok (Nat.le_of_ble_eq_true rfl)) : LstK Q xs H := ⟨hz, h⟩
theorem w_test (h : te σ H fun x H' => ∃ k, x = .bl k ∧ B k H') : tTest te σ H B := h
theorem w_b (h : te σ H fun x H' => ∃ k, x = .bl k ∧ B k H') : tB te σ H B := h
theorem w_bl {k : Bool} (h : B k H) : ∃ k', V.bl k = .bl k' ∧ B k' H := ⟨k, rfl, h⟩
theorem w_and (h : c σ H fun b H1 => if b = true then c' σ H1 B else B false H1) : tAnd c c' σ H B := h
theorem w_or (h : c σ H fun b H1 => if b = true then B true H1 else c' σ H1 B) : tOr c c' σ H B := h
theorem w_not (h : c σ H fun b H1 => B (!b) H1) : tNot c σ H B := h
theorem w_andV (h : ta σ H fun x H1 => ∃ k, x = .bl k ∧ if k = true then tb σ H1 Q else Q (.bl false) H1) : tAndV ta tb σ H Q := h
theorem w_orV (h : ta σ H fun x H1 => ∃ k, x = .bl k ∧ if k = true then Q (.bl true) H1 else tb σ H1 Q) : tOrV ta tb σ H Q := h
theorem w_notV (h : ta σ H fun x H1 => ∃ k, x = .bl k ∧ Q (.bl (!k)) H1) : tNotV ta σ H Q := h
theorem w_ifE (h : c σ H fun b H1 => if b = true then ta σ H1 Q else tb σ H1 Q) : tIf c ta tb σ H Q := h
theorem w_chain {r r' : R2} (h : ta σ H fun x H1 => tb σ H1 fun y H2 => r x y H2 fun z H3 => ∃ k, z = .bl k ∧ (if k = true then tc σ H3 fun w H4 => r' y w H4 Q else Q (.bl false) H3)) : tChain r r' ta tb tc σ H Q := h
theorem w_chain3 {r r' r'' : R2} {td : TE} (h : ta σ H fun x H1 => tb σ H1 fun y H2 => r x y H2 fun z H3 => ∃ k, z = .bl k ∧
  (if k = true then tc σ H3 fun w' H4 => r' y w' H4 fun z' H5 => ∃ k', z' = .bl k' ∧ (if k' = true then td σ H5 fun v' H6 => r'' w' v' H6 Q else Q (.bl false) H5) else Q (.bl false) H3)) : tChain3 r r' r'' ta tb tc td σ H Q := h
theorem w_blx {k : Bool} {R : Bool → Prop} (h : R k) : ∃ k', V.bl k = .bl k' ∧ R k' := ⟨k, rfl, h⟩
theorem w_iteT {A C : Prop} (h : A) : if true = true then A else C := by rw [if_pos rfl]; exact h
theorem w_iteF {A C : Prop} (h : C) : if false = true then A else C := by rw [if_neg Bool.false_ne_true]; exact h
theorem w_iteN1 {A C : Prop} (h : C) : if (!true) = true then A else C := w_iteF h
theorem w_iteN0 {A C : Prop} (h : A) : if (!false) = true then A else C := w_iteT h
theorem w_ite {p A C : Prop} [Decidable p] (h1 : p → A) (h2 : ¬ p → C) : if decide p = true then A else C := by
  by_cases h : p
  · rw [decide_eq_true h, if_pos rfl]; exact h1 h
  · rw [decide_eq_false h, if_neg Bool.false_ne_true]; exact h2 h
theorem w_iteN {p A C : Prop} [Decidable p] (h1 : ¬ p → A) (h2 : p → C) : if (!decide p) = true then A else C := by
  by_cases h : p
  · rw [decide_eq_true h]; exact w_iteF (h2 h)
  · rw [decide_eq_false h]; exact w_iteT (h1 h)
theorem w_abs {i : Int} (h : Q (.int (if i < 0 then -i else i)) H) : rAbs [.int i] H Q := ⟨i, rfl, h⟩
theorem w_max {i j : Int} (h : Q (.int (max i j)) H) : rMax2 [V.int i, V.int j] H Q := by
  refine ⟨i, j, rfl, ?_⟩
  have e : (if j > i then j else i) = max i j := by rw [Int.max_def]; split <;> split <;> omega
  rw [e]; exact h
theorem w_min {i j : Int} (h : Q (.int (min i j)) H) : rMin2 [V.int i, V.int j] H Q := by
  refine ⟨i, j, rfl, ?_⟩
  have e : (if j < i then j else i) = min i j := by rw [Int.min_def]; split <;> split <;> omega
  rw [e]; exact h
theorem w_mul1 {i j : Int} (h : -(2 ^ 64) < i ∧ i < 2 ^ 64) : CMul i j := .inl h
theorem w_mul2 {i j : Int} (h : -(2 ^ 64) < j ∧ j < 2 ^ 64) : CMul i j := .inr h
theorem w_ixL {K : PySem.W.Frag} {p : Addr} {xs : List V} {i : Int} {v : V} (hl : SqL K H p xs) (e : atI xs i = some v) (h : Q v H) : rIxL K (.ref p) (.int i) H Q := ⟨p, xs, i, v, rfl, rfl, hl, e, h⟩
theorem w_ixT {K : PySem.W.Frag} {p : Addr} {xs : List V} {i : Int} {v : V} (hl : SqT K H p xs) (e : atI xs i = some v) (h : Q v H) : rIxT K (.ref p) (.int i) H Q := ⟨p, xs, i, v, rfl, rfl, hl, e, h⟩
theorem w_bm {K : PySem.W.Frag} {T : String} {r : V → List V → Hp → VK → Prop} {t : TA} (h : ta σ H fun x H1 => tyV K T x H1 ∧ t σ H1 fun xs H2 => r x xs H2 Q) : tBM K T r ta t σ H Q := h
theorem w_bm0 {K : PySem.W.Frag} {T : String} {r : V → List V → Hp → VK → Prop} (h : ta σ H fun x H1 => tyV K T x H1 ∧ r x [] H1 Q) : tBM0 K T r ta σ H Q := h
theorem w_append {l : Addr} {xs : List V} {y : V} (hl : H l = some (.lst xs)) (hz : xs.length < sizeLine) (h : Q .non (upd H l (.lst (xs ++ [y])))) : rAppend (.ref l) [y] H Q := ⟨l, xs, y, rfl, rfl, hl, hz, h⟩
theorem w_len {K : PySem.W.Frag} {p : Addr} {ys : List V} (hl : SqL K H p ys ∨ SqT K H p ys) (h : Q (.int ys.length) H) : rLen K [V.ref p] H Q := ⟨p, ys, rfl, hl, h⟩
theorem w_lenL {K : PySem.W.Frag} {p : Addr} {ys : List V} (hl : SqL K H p ys) (h : Q (.int ys.length) H) : rLen K [V.ref p] H Q := ⟨p, ys, rfl, .inl hl, h⟩
theorem w_lenT {K : PySem.W.Frag} {p : Addr} {ys : List V} (hl : SqT K H p ys) (h : Q (.int ys.length) H) : rLen K [V.ref p] H Q := ⟨p, ys, rfl, .inr hl, h⟩
theorem w_lenS {z : Str} (hl : z.length ≤ sizeLine) (h : Q (.int z.length) H) : rLenS [V.str z] H Q := ⟨z, rfl, hl, h⟩
theorem w_int1 {b : Bool} (h : Q (.int (if b then 1 else 0)) H) : rInt1 [.bl b] H Q := .inr ⟨b, rfl, h⟩
theorem w_listOf {K : PySem.W.Frag} {p : Addr} {ys : List V} (hl : SqL K H p ys) (h : ∀ l, H l = none → Q (.ref l) (upd H l (.lst ys))) : rListOf K [.ref p] H Q := ⟨p, ys, rfl, .inl hl, h⟩
theorem w_tupOf {K : PySem.W.Frag} {p : Addr} {ys : List V} (hl : SqL K H p ys) (h : ∀ l, H l = none → Q (.ref l) (upd H l (.tup ys))) : rTupOf K [.ref p] H Q := ⟨p, ys, rfl, .inl ⟨hl, h⟩⟩
theorem w_sl {r : V → Option Int → Option Int → Hp → VK → Prop} {tl th : TO} (h : te σ H fun x H1 => tl σ H1 fun l H2 => th σ H2 fun u H3 => r x l u H3 Q) : tSl r te tl th σ H Q := h
theorem w_noPart {O : Option Int → Hp → Prop} (h : O none H) : tNoPart σ H O := h
theorem w_part {O : Option Int → Hp → Prop} (h : te σ H (PartK O)) : tPart te σ H O := h
theorem w_partK {O : Option Int → Hp → Prop} {i : Int} (h : O (some i) H) : PartK O (.int i) H := ⟨i, rfl, h⟩
theorem w_slL {K : PySem.W.Frag} {a : Addr} {xs : List V} {lo hi : Option Int} (hl : SqL K H a xs) (h : ∀ p, H p = none → Q (.ref p) (upd H p (.lst (cutV xs lo hi)))) : rSlL K (.ref a) lo hi H Q := ⟨a, xs, rfl, hl, h⟩
theorem w_cat {l b : Addr} {xs zs : List V} (h1 : H l = some (.lst xs)) (h2 : H b = some (.lst zs)) (hz : xs.length + zs.length ≤ sizeLine) (h : ∀ p, H p = none → Q (.ref p) (upd H p (.lst (xs ++ zs)))) : rCat (.ref l) (.ref b) H Q := ⟨l, b, xs, zs, rfl, rfl, h1, h2, hz, h⟩
theorem w_dput {td ty tv : TE} (h : tv σ H fun v H1 => td σ H1 fun x H2 => ty σ H2 (DPK nx σ v x)) : sDPut td ty tv ⟨nx, rt, bk, ct⟩ σ H := h
theorem w_dpT {a b : Addr} {kvs : List (List L2.Key × V)} {k : List L2.Key} {v : V} (h1 : H a = some (.dT kvs)) (h2 : H b = some (.tup (k.map kV))) (hl : kvs.length < sizeLine) (h : nx σ (upd H a (.dT (putK kvs k v)))) : DPK nx σ v (.ref a) (.ref b) H := ⟨a, _, rfl, DPut.t h1 h2 hl, h⟩
theorem w_dpK {a : Addr} {kvs : List (L2.Key × V)} {k : L2.Key} {v : V} (h1 : H a = some (.dK kvs)) (hl : kvs.length < sizeLine) (h : nx σ (upd H a (.dK (putK kvs k v)))) : DPK nx σ v (.ref a) (kV k) H := ⟨a, _, rfl, DPut.k h1 hl, h⟩
theorem w_din {ty td : TE} (h : ty σ H fun y H1 => td σ H1 (DInK y Q)) : tDIn ty td σ H Q := h
theorem w_dnotin {ty td : TE} (h : ty σ H fun y H1 => td σ H1 (DNotInK y Q)) : tDNotIn ty td σ H Q := h
theorem w_diT {a b : Addr} {kvs : List (List L2.Key × V)} {k : List L2.Key} (h1 : H a = some (.dT kvs)) (h2 : H b = some (.tup (k.map kV))) (h : Q (.bl (valV kvs k).isSome) H) : DInK (.ref b) Q (.ref a) H := ⟨a, _, rfl, DGet.t h1 h2, h⟩
theorem w_dniT {a b : Addr} {kvs : List (List L2.Key × V)} {k : List L2.Key} (h1 : H a = some (.dT kvs)) (h2 : H b = some (.tup (k.map kV))) (h : Q (.bl (!(valV kvs k).isSome)) H) : DNotInK (.ref b) Q (.ref a) H := ⟨a, _, rfl, DGet.t h1 h2, h⟩
theorem w_diK {a : Addr} {kvs : List (L2.Key × V)} {k : L2.Key} (h1 : H a = some (.dK kvs)) (h : Q (.bl (valV kvs k).isSome) H) : DInK (kV k) Q (.ref a) H := ⟨a, _, rfl, DGet.k h1, h⟩
theorem w_dniK {a : Addr} {kvs : List (L2.Key × V)} {k : L2.Key} (h1 : H a = some (.dK kvs)) (h : Q (.bl (!(valV kvs k).isSome)) H) : DNotInK (kV k) Q (.ref a) H := ⟨a, _, rfl, DGet.k h1, h⟩
theorem w_dget {td ty : TE} (h : td σ H fun x H1 => ty σ H1 (DGK x Q)) : tDGet td ty σ H Q := h
theorem w_dgT {a b : Addr} {kvs : List (List L2.Key × V)} {k : List L2.Key} {v : V} (h1 : H a = some (.dT kvs)) (h2 : H b = some (.tup (k.map kV))) (e : valV kvs k = some v) (h : Q v H) : DGK (.ref a) Q (.ref b) H := ⟨a, v, rfl, by rw [← e]; exact DGet.t h1 h2, h⟩
theorem w_dgK {a : Addr} {kvs : List (L2.Key × V)} {k : L2.Key} {v : V} (h1 : H a = some (.dK kvs)) (e : valV kvs k = some v) (h : Q v H) : DGK (.ref a) Q (kV k) H := ⟨a, v, rfl, by rw [← e]; exact DGet.k h1, h⟩
theorem w_dnewT (h : ∀ p, H p = none → Q (.ref p) (upd H p (.dT []))) : tDNewT σ H Q := h
theorem w_dnewK (h : ∀ p, H p = none → Q (.ref p) (upd H p (.dK []))) : tDNewK σ H Q := h
theorem w_for {wi : TI} (h : wi σ H (ForB g t nx rt σ)) : tFor wi g t ⟨nx, rt, bk, ct⟩ σ H := h
theorem w_iList {K : PySem.W.Frag} {R : It → Hp → Prop} (h : te σ H (RdL K R)) : iList K te σ H R := h
theorem w_iTup {K : PySem.W.Frag} {R : It → Hp → Prop} (h : te σ H (RdT K R)) : iTup K te σ H R := h
theorem w_rdL {K : PySem.W.Frag} {R : It → Hp → Prop} {a : Addr} {xs : List V} (hl : SqL K H a xs) (h : R (Itl K a) H) : RdL K R (.ref a) H := ⟨a, rfl, ⟨xs, hl⟩, h⟩
theorem w_rdT {K : PySem.W.Frag} {R : It → Hp → Prop} {a : Addr} {xs : List V} (hl : SqT K H a xs) (h : R (Itt K a) H) : RdT K R (.ref a) H := ⟨a, rfl, ⟨xs, hl⟩, h⟩
theorem w_iRng1 {t : TA} {R : It → Hp → Prop} (h : t σ H (Rg1 R)) : iRng1 t σ H R := h
theorem w_iRng2 {t : TA} {R : It → Hp → Prop} (h : t σ H (Rg2 R)) : iRng2 t σ H R := h
theorem w_rg1 {j : Int} {R : It → Hp → Prop} (h1 : -(2 ^ 62) ≤ j ∧ j < 2 ^ 62) (h : R (Itr 0 j.toNat) H) : Rg1 R [.int j] H := ⟨j, rfl, h1.1, h1.2, h⟩
theorem w_rg2 {i j : Int} {R : It → Hp → Prop} (h1 : (-(2 ^ 62) ≤ i ∧ i < 2 ^ 62) ∧ (-(2 ^ 62) ≤ j ∧ j < 2 ^ 62)) (h : R (Itr i (j - i).toNat) H) : Rg2 R [.int i, .int j] H := ⟨i, j, rfl, ⟨h1.1.1, h1.1.2, h1.2.1, h1.2.2⟩, h⟩
/-- for over a range, by what holds ahead of turn i -/
theorem w_forR {lo : Int} {n : Nat} (Pv : Nat → L2.St → Hp → Prop) (h0 : Pv 0 σ H) (hs : ∀ i σ H, i < n → Pv i σ H → g (.int (lo + i)) σ H fun σ2 H2 => t ⟨Pv (i + 1), rt, nx, Pv (i + 1)⟩ σ2 H2) (hd : ∀ σ H, Pv n σ H → nx σ H) : ForB g t nx rt σ (Itr lo n) H :=
  for_range (D := ⟨nx, rt, fun _ _ => False, fun _ _ => False⟩) Pv h0 hs hd
theorem w_forL {K : PySem.W.Frag} {a : Addr} {xs : List V} (Pv : Nat → L2.St → Hp → Prop) (h0 : Pv 0 σ H) (hl : ∀ i σ H, i ≤ xs.length → Pv i σ H → SqL K H a xs) (hs : ∀ i x σ H, xs[i]? = some x → Pv i σ H → g x σ H fun σ2 H2 => t ⟨Pv (i + 1), rt, nx, Pv (i + 1)⟩ σ2 H2) (hd : ∀ σ H, Pv xs.length σ H → nx σ H) : ForB g t nx rt σ (Itl K a) H :=
  for_list (D := ⟨nx, rt, fun _ _ => False, fun _ _ => False⟩) Pv h0 hl hs hd
theorem w_forT {K : PySem.W.Frag} {a : Addr} {xs : List V} (Pv : Nat → L2.St → Hp → Prop) (h0 : Pv 0 σ H) (hl : ∀ i σ H, i ≤ xs.length → Pv i σ H → SqT K H a xs) (hs : ∀ i x σ H, xs[i]? = some x → Pv i σ H → g x σ H fun σ2 H2 => t ⟨Pv (i + 1), rt, nx, Pv (i + 1)⟩ σ2 H2) (hd : ∀ σ H, Pv xs.length σ H → nx σ H) : ForB g t nx rt σ (Itt K a) H :=
  for_tup (D := ⟨nx, rt, fun _ _ => False, fun _ _ => False⟩) Pv h0 hl hs hd
/-- while, by an invariant with a measure -/
theorem w_while {c : TT} (Pv : Nat → L2.St → Hp → Prop) (m : Nat) (h0 : Pv m σ H) (hs : ∀ m σ H, Pv m σ H → c σ H (WhB t nx rt Pv m σ)) : tWhile c t ⟨nx, rt, bk, ct⟩ σ H := ⟨Pv, ⟨m, h0⟩, hs⟩
theorem w_whT {Pv : Nat → L2.St → Hp → Prop} {m : Nat} (h : t ⟨fun σ' H' => ∃ m', m' < m ∧ Pv m' σ' H', rt, nx, fun σ' H' => ∃ m', m' < m ∧ Pv m' σ' H'⟩ σ H) : WhB t nx rt Pv m σ true H := w_iteT ⟨_, fun _ _ h => h, h⟩
theorem w_whF {Pv : Nat → L2.St → Hp → Prop} {m : Nat} (h : nx σ H) : WhB t nx rt Pv m σ false H := w_iteF h
theorem w_wh {Pv : Nat → L2.St → Hp → Prop} {m : Nat} {p : Prop} [Decidable p] (h1 : p → t ⟨fun σ' H' => ∃ m', m' < m ∧ Pv m' σ' H', rt, nx, fun σ' H' => ∃ m', m' < m ∧ Pv m' σ' H'⟩ σ H) (h2 : ¬ p → nx σ H) : WhB t nx rt Pv m σ (decide p) H := by
  by_cases h : p
  · rw [decide_eq_true h]; exact w_whT (h1 h)
  · rw [decide_eq_false h]; exact w_whF (h2 h)
theorem w_lc {wi : TI} {tt : TT} {vs : List Nat} (h : wi σ H (LcB g tt te vs σ Q)) : tLc wi g tt te vs σ H Q := h
theorem w_yes (h : B true H) : tYes σ H B := h
theorem w_lcR {lo : Int} {n : Nat} {tt : TT} {vs : List Nat} (h : ∀ D, H D = none → ∃ Pv : Nat → Hp → Prop, Pv 0 (upd H D (.lst [])) ∧
    (∀ i H1, i < n → Pv i H1 → g (.int (lo + i)) (wipe σ vs) H1 (LcTurn tt te vs σ D (Pv (i + 1)))) ∧ ∀ H1, Pv n H1 → Q (.ref D) H1) : LcB g tt te vs σ Q (Itr lo n) H := fun D hD => by
  obtain ⟨Pv, h0, hs, hd⟩ := h D hD
  exact lc_range (Qd := Q (.ref D)) Pv h0 hs hd
theorem w_lcL {K : PySem.W.Frag} {a : Addr} {xs : List V} {tt : TT} {vs : List Nat} (h : ∀ D, H D = none → ∃ Pv : Nat → Hp → Prop, Pv 0 (upd H D (.lst [])) ∧ (∀ i H1, i ≤ xs.length → Pv i H1 → SqL K H1 a xs) ∧
    (∀ i x H1, xs[i]? = some x → Pv i H1 → g x (wipe σ vs) H1 (LcTurn tt te vs σ D (Pv (i + 1)))) ∧ ∀ H1, Pv xs.length H1 → Q (.ref D) H1) : LcB g tt te vs σ Q (Itl K a) H := fun D hD => by
  obtain ⟨Pv, h0, hl, hs, hd⟩ := h D hD
  exact lc_list (Qd := Q (.ref D)) Pv h0 hl hs hd
theorem w_turn {tt : TT} {vs : List Nat} {σ2 : L2.St} {D : Addr} {Nx : Hp → Prop} (e : wipe σ2 vs = wipe σ vs) (h : tt σ2 H fun b H3 => if b = true then te σ2 H3 (LcPut D Nx) else Nx H3) : LcTurn tt te vs σ D Nx σ2 H := ⟨e, h⟩
theorem w_put {D : Addr} {Nx : Hp → Prop} {acc : List V} {y : V} (hl : H D = some (.lst acc)) (hz : acc.length < sizeLine) (h : Nx (upd H D (.lst (acc ++ [y])))) : LcPut D Nx y H := ⟨acc, hl, hz, h⟩
theorem w_isiInt {K : PySem.W.Frag} {i : Int} {n : String} {b : Bool} (e : kitB "int" n = some b) (h : Q (.bl b) H) : rIsi K [.int i, .ty n] H Q := ⟨_, _, _, _, b, rfl, .ty n, .base (.int i), kit_ty e, h⟩
theorem w_isiBl {K : PySem.W.Frag} {i : Bool} {n : String} {b : Bool} (e : kitB "bool" n = some b) (h : Q (.bl b) H) : rIsi K [.bl i, .ty n] H Q := ⟨_, _, _, _, b, rfl, .ty n, .base (.bl i), kit_ty e, h⟩
theorem w_isiTup {K : PySem.W.Frag} {a : Addr} {xs : List V} {n : String} {b : Bool} (hl : SqT K H a xs) (e : kitB "tuple" n = some b) (h : Q (.bl b) H) : rIsi K [.ref a, .ty n] H Q := by
  rcases hl with (h1 | ⟨o, h1⟩) | ⟨o, its, m, h1, h2, h3⟩
  · exact ⟨_, _, _, _, b, rfl, .ty n, .base (.tup h1), kit_ty e, h⟩
  · exact ⟨_, _, _, _, b, rfl, .ty n, .fTuple h1, kit_ty e, h⟩
  · exact ⟨_, _, _, _, b, rfl, .ty n, .kTuple h1 h2, kit_ty e, h⟩
theorem w_isiLst {K : PySem.W.Frag} {a : Addr} {xs : List V} {n : String} {b : Bool} (hl : SqL K H a xs) (e : kitB "list" n = some b) (h : Q (.bl b) H) : rIsi K [.ref a, .ty n] H Q := by
  rcases hl with (h1 | ⟨o, h1⟩) | ⟨o, its, m, h1, h2, h3⟩
  · exact ⟨_, _, _, _, b, rfl, .ty n, .base (.lst h1), kit_ty e, h⟩
  · exact ⟨_, _, _, _, b, rfl, .ty n, .base (.frz h1), kit_ty e, h⟩
  · exact ⟨_, _, _, _, b, rfl, .ty n, .kList h1 h2, kit_ty e, h⟩
theorem inV_ints (i : Int) : ∀ ns : List Int, inV (.int i) (ns.map V.int) = decide (i ∈ ns)
  | [] => rfl
  | x :: r => by
    have ih := inV_ints i r
    show (eqV (.int x) (.int i) || inV (.int i) (r.map V.int)) = _
    rw [ih]
    show ((x == i) || decide (i ∈ r)) = _
    by_cases h : x = i
    · subst h; simp
    · have h2 : ¬ i = x := fun e => h e.symm
      simp [h, h2]
theorem w_inInts {K : PySem.W.Frag} {a : Addr} {i : Int} {ns : List Int} (hl : SqL K H a (ns.map V.int) ∨ SqT K H a (ns.map V.int)) (h : Q (.bl (decide (i ∈ ns))) H) : rIn K false (.int i) (.ref a) H Q := by
  refine ⟨a, _, rfl, hl, rfl, ?_, ?_⟩
  · rw [List.all_map]; exact List.all_eq_true.mpr fun _ _ => rfl
  · rw [if_neg Bool.false_ne_true, inV_ints]
    exact h
theorem w_ninInts {K : PySem.W.Frag} {a : Addr} {i : Int} {ns : List Int} (hl : SqL K H a (ns.map V.int) ∨ SqT K H a (ns.map V.int)) (h : Q (.bl (!decide (i ∈ ns))) H) : rIn K true (.int i) (.ref a) H Q := by
  refine ⟨a, _, rfl, hl, rfl, ?_, ?_⟩
  · rw [List.all_map]; exact List.all_eq_true.mpr fun _ _ => rfl
  · rw [if_pos rfl, inV_ints]
    exact h
theorem w_isX {K : PySem.W.Frag} {D a : Addr} {c : V} {cv : Value} {b : Bool} (C : ExcC K D) (hc : ∀ u, RelV c u → u = cv) (k : PySem.W.kitOne K (.ref D) cv = some b) (h : Q (.bl b) H) : rIsX K (.ref D) none a [.ref a, c] H Q := ⟨D, c, cv, b, rfl, rfl, C, rfl, hc, k, h⟩
theorem w_callS {sp : Sp} {E : L2.St → XK} {t : TA} (h : t σ H fun vs H1 => sp vs H1 Q (E σ)) : tCallS sp E t σ H Q := h
theorem eqv_ints2 (a b c d : Int) : PyData.eqv (.tuple [.int a, .int b]) (.tuple [.int c, .int d]) = decide (a = c ∧ b = d) := by
  simp only [PyData.eqv, PyData.eqvAll, Bool.and_true]
  by_cases h : a = c <;> by_cases h2 : b = d <;> simp [h, h2]
theorem dp_ints2 {K : PySem.W.Frag} {t : Addr} {a b : Int} (h : SqT K H t [.int a, .int b]) : Dp K H (.ref t) (.tuple [.int a, .int b]) := .tup h (.cons (.int a) (.cons (.int b) .nil))
theorem w_eqPair {K : PySem.W.Frag} {t u : Addr} {a b c d : Int} (h1 : SqT K H t [.int a, .int b]) (h2 : SqT K H u [.int c, .int d]) (h : Q (.bl (decide (a = c ∧ b = d))) H) : rEqD K (.ref t) (.ref u) H Q :=
  ⟨_, _, dp_ints2 h1, dp_ints2 h2, rfl, rfl, by rw [eqv_ints2]; exact h⟩
theorem w_nePair {K : PySem.W.Frag} {t u : Addr} {a b c d : Int} (h1 : SqT K H t [.int a, .int b]) (h2 : SqT K H u [.int c, .int d]) (h : Q (.bl (!decide (a = c ∧ b = d))) H) : rNeD K (.ref t) (.ref u) H Q :=
  ⟨_, _, dp_ints2 h1, dp_ints2 h2, rfl, rfl, by rw [eqv_ints2]; exact h⟩
theorem Same.tup {K : PySem.W.Frag} {H H' : Hp} {a : Addr} {xs : List V} (e : Same H H') (h : SqT K H a xs) : SqT K H' a xs := by
  rcases h with (h | ⟨o, h⟩) | h
  · exact .inl (.inl (e _ _ h))
  · exact .inl (.inr ⟨o, e _ _ h⟩)
  · exact .inr h
theorem w_sum {K : PySem.W.Frag} {a : Addr} {ns : List Int} (hl : SqL K H a (ns.map V.int)) (h : Q (.int ns.sum) H) : rSum K [V.ref a] H Q := ⟨a, ns, rfl, hl, h⟩
theorem w_isi {K : PySem.W.Frag} {x c : V} {t u : Value} {b : Bool} (k : ClsV c u) (ty : TyX K H x t) (e : PySem.W.kitOne K t u = some b) (h : Q (.bl b) H) : rIsi K [x, c] H Q := ⟨x, c, t, u, b, rfl, k, ty, e, h⟩
end
theorem same_new {H : Hp} {p : Addr} (h : H p = none) (o : HO) : Same H (upd H p o) := fun b u q => by rw [upd_ne (ne_of_none q h)]; exact q
theorem cut_take {xs : List V} {k : Int} (h0 : 0 ≤ k) (h : k ≤ (xs.length : Int)) : cutV xs none (some k) = xs.take k.toNat := by
  unfold cutV HT.sIx
  simp only
  rw [if_neg (by omega), List.drop_zero, Nat.sub_zero, Nat.min_eq_left (by omega)]
theorem cut_drop {xs : List V} {k : Int} (h0 : 0 ≤ k) (h : k ≤ (xs.length : Int)) : cutV xs (some k) none = xs.drop k.toNat := by
  unfold cutV HT.sIx
  simp only
  rw [if_neg (by omega), Nat.min_eq_left (by omega)]
  exact List.take_of_length_le (by rw [List.length_drop]; omega)
theorem cut_mid {xs : List V} {i k : Int} (h0 : 0 ≤ i) (h1 : 0 ≤ k) : cutV xs (some i) (some k) = (xs.drop i.toNat).take (k.toNat - i.toNat) := by
  unfold cutV HT.sIx
  simp only
  rw [if_neg (by omega), if_neg (by omega)]
  by_cases h : i.toNat ≤ xs.length
  · rw [Nat.min_eq_left h]
    by_cases h2 : k.toNat ≤ xs.length
    · rw [Nat.min_eq_left h2]
    · rw [Nat.min_eq_right (by omega), List.take_of_length_le (i := k.toNat - i.toNat) (by rw [List.length_drop]; omega)]
      exact List.take_of_length_le (by rw [List.length_drop]; omega)
  · rw [List.drop_of_length_le (i := min i.toNat xs.length) (by omega), List.drop_of_length_le (i := i.toNat) (by omega), List.take_nil, List.take_nil]
theorem putK_len {κ : Type} [DecidableEq κ] (kvs : List (κ × V)) (k : κ) (v : V) : (putK kvs k v).length ≤ kvs.length + 1 := by
  unfold putK
  split
  · rw [List.length_map]; omega
  · rw [List.length_append, List.length_singleton]; exact Nat.le_refl _
theorem _root_.L2.Room.u65 {A : Around} {k : Nat} (hr : Room k A) : A.units + 65 < cLine := by have := hr.un; omega
theorem hu65 {A : Around} {k : Nat} (hr : Room k A) : A.units + 65 < cLine := by have := hr.un; omega
theorem atI2 (a b : V) : atI [a, b] 0 = some a ∧ atI [a, b] 1 = some b := ⟨rfl, rfl⟩
theorem atI_int {ns : List Int} {i : Int} (h0 : 0 ≤ i) (h : i < (ns.length : Int)) : atI (ns.map V.int) i = some (.int (ns.getD i.toNat 0)) := by
  have hk : i.toNat < ns.length := by omega
  have ek : i = ((i.toNat : Nat) : Int) := by omega
  have q : atI (ns.map V.int) ((i.toNat : Nat) : Int) = some (.int ns[i.toNat]) := atI_nat (by rw [List.getElem?_map, List.getElem?_eq_getElem hk] <;> rfl)
  rw [← ek] at q
  rw [q, List.getD_eq_getElem?_getD, List.getElem?_eq_getElem hk] <;> rfl
theorem atI_getD {ns : List Int} {i : Nat} (h : i < ns.length) : atI (ns.map V.int) (i : Int) = some (.int (ns.getD i 0)) := by
  have := atI_int (ns := ns) (i := (i : Int)) (by omega) (by omega)
  rw [Int.toNat_natCast] at this
  exact this
end Pm
/-! ### lists of pairs of numbers -/
namespace Pm
open PySem PySem.Spec PyProof.Rows L2
/-- item by item -/
def All2 {α β : Type} (R : α → β → Prop) : List α → List β → Prop
  | [], [] => True
  | x :: xs, y :: ys => R x y ∧ All2 R xs ys
  | _, _ => False
section
variable {α β : Type} {R S : α → β → Prop}
theorem All2.nil : All2 R [] [] := trivial
theorem All2.cons {x : α} {y : β} {xs : List α} {ys : List β} (h : R x y) (t : All2 R xs ys) : All2 R (x :: xs) (y :: ys) := ⟨h, t⟩
theorem All2.length : ∀ {xs : List α} {ys : List β}, All2 R xs ys → xs.length = ys.length
  | [], [], _ => rfl
  | _ :: _, _ :: _, h => by rw [List.length_cons, List.length_cons, h.2.length]
theorem All2.mono (f : ∀ x y, R x y → S x y) : ∀ {xs : List α} {ys : List β}, All2 R xs ys → All2 S xs ys
  | [], [], _ => trivial
  | _ :: _, _ :: _, h => ⟨f _ _ h.1, h.2.mono f⟩
theorem All2.get : ∀ {xs : List α} {ys : List β} {i : Nat} {x : α}, All2 R xs ys → xs[i]? = some x → ∃ y, ys[i]? = some y ∧ R x y
  | [], [], _, _, _, e => by simp at e
  | _ :: _, _ :: _, 0, _, h, e => by simp at e; subst e; exact ⟨_, rfl, h.1⟩
  | _ :: _, _ :: _, i + 1, x, h, e => by
    obtain ⟨y, e1, r⟩ := All2.get (i := i) (x := x) h.2 (by simpa using e)
    exact ⟨y, by simpa using e1, r⟩
theorem All2.get' : ∀ {xs : List α} {ys : List β} {i : Nat} {y : β}, All2 R xs ys → ys[i]? = some y → ∃ x, xs[i]? = some x ∧ R x y
  | [], [], _, _, _, e => by simp at e
  | _ :: _, _ :: _, 0, _, h, e => by simp at e; subst e; exact ⟨_, rfl, h.1⟩
  | _ :: _, _ :: _, i + 1, y, h, e => by
    obtain ⟨x, e1, r⟩ := All2.get' (i := i) (y := y) h.2 (by simpa using e)
    exact ⟨x, by simpa using e1, r⟩
theorem All2.append : ∀ {xs : List α} {ys : List β} {xs' : List α} {ys' : List β}, All2 R xs ys → All2 R xs' ys' → All2 R (xs ++ xs') (ys ++ ys')
  | [], [], _, _, _, h => h
  | _ :: _, _ :: _, _, _, h, h' => ⟨h.1, h.2.append h'⟩
theorem All2.snoc {xs : List α} {ys : List β} {x : α} {y : β} (h : All2 R xs ys) (r : R x y) : All2 R (xs ++ [x]) (ys ++ [y]) := h.append ⟨r, trivial⟩
theorem All2.take : ∀ {xs : List α} {ys : List β} (n : Nat), All2 R xs ys → All2 R (xs.take n) (ys.take n)
  | [], [], n, _ => by rw [List.take_nil, List.take_nil]; trivial
  | _ :: _, _ :: _, 0, _ => trivial
  | _ :: _, _ :: _, n + 1, h => ⟨h.1, h.2.take n⟩
theorem All2.drop : ∀ {xs : List α} {ys : List β} (n : Nat), All2 R xs ys → All2 R (xs.drop n) (ys.drop n)
  | [], [], n, _ => by rw [List.drop_nil, List.drop_nil]; trivial
  | _ :: _, _ :: _, 0, h => h
  | _ :: _, _ :: _, n + 1, h => h.2.drop n
theorem All2.set : ∀ {xs : List α} {ys : List β} (i : Nat) {x : α} {y : β}, All2 R xs ys → R x y → All2 R (xs.set i x) (ys.set i y)
  | [], [], _, _, _, _, _ => trivial
  | _ :: _, _ :: _, 0, _, _, h, r => ⟨r, h.2⟩
  | _ :: _, _ :: _, i + 1, _, _, h, r => ⟨h.1, h.2.set i r⟩
theorem All2.mem : ∀ {xs : List α} {ys : List β} {x : α}, All2 R xs ys → x ∈ xs → ∃ y, y ∈ ys ∧ R x y
  | [], [], _, _, e => by simp at e
  | a :: _, b :: _, x, h, e => by
    rcases List.mem_cons.mp e with e | e
    · subst e; exact ⟨b, List.mem_cons_self, h.1⟩
    · obtain ⟨y, e1, r⟩ := h.2.mem e
      exact ⟨y, List.mem_cons_of_mem _ e1, r⟩
theorem All2.map_eq {f : α → β} : ∀ {xs : List α} {ys : List β}, All2 R xs ys → (∀ x y, R x y → f x = y) → xs.map f = ys
  | [], [], _, _ => rfl
  | _ :: _, _ :: _, h, q => by rw [List.map_cons, q _ _ h.1, h.2.map_eq q]
theorem All2.of_map {f : α → β} : ∀ {xs : List α}, (∀ x ∈ xs, R x (f x)) → All2 R xs (xs.map f)
  | [], _ => trivial
  | _ :: _, h => ⟨h _ List.mem_cons_self, All2.of_map fun x hx => h x (List.mem_cons_of_mem _ hx)⟩
end
/-- tuples stay -/
def Keeps (H H' : Hp) : Prop := ∀ t xs, H t = some (.tup xs) → H' t = some (.tup xs)
theorem Keeps.refl (H : Hp) : Keeps H H := fun _ _ h => h
theorem Keeps.trans {H H1 H2 : Hp} (a : Keeps H H1) (b : Keeps H1 H2) : Keeps H H2 := fun t xs h => b t xs (a t xs h)
theorem keeps {H H' : Hp} (s : Same H H') : Keeps H H' := fun _ _ h => s _ _ h
theorem keeps_lst {H : Hp} {a : Addr} {xs ys : List V} (h : H a = some (.lst xs)) : Keeps H (upd H a (.lst ys)) := fun t zs e => by
  rw [upd_ne (fun z => by subst z; rw [e] at h; cases h)]
  exact e
theorem keeps_dT {H : Hp} {a : Addr} {xs ys : List (List L2.Key × V)} (h : H a = some (.dT xs)) : Keeps H (upd H a (.dT ys)) := fun t zs e => by
  rw [upd_ne (fun z => by subst z; rw [e] at h; cases h)]
  exact e
theorem keeps_dK {H : Hp} {a : Addr} {xs ys : List (L2.Key × V)} (h : H a = some (.dK xs)) : Keeps H (upd H a (.dK ys)) := fun t zs e => by
  rw [upd_ne (fun z => by subst z; rw [e] at h; cases h)]
  exact e
/-- all but the object at a stays -/
theorem same_but {H H' : Hp} {a : Addr} {o : HO} (h0 : H a = none) (s : Same H H') : Same H (upd H' a o) := fun b u e => by
  rw [upd_ne (fun z => by subst z; rw [h0] at e; cases e)]
  exact s b u e
/-! #### pairs -/
abbrev IP := Int × Int
def Pr (H : Hp) (v : V) (p : IP) : Prop := ∃ t, v = .ref t ∧ H t = some (.tup [.int p.1, .int p.2])
abbrev Prs (H : Hp) : List V → List IP → Prop := All2 (Pr H)
theorem Pr.keep {H H' : Hp} (k : Keeps H H') {v : V} {p : IP} (h : Pr H v p) : Pr H' v p := by
  obtain ⟨t, e, ht⟩ := h
  exact ⟨t, e, k _ _ ht⟩
theorem prs_keep {H H' : Hp} (k : Keeps H H') {vs : List V} {ps : List IP} (h : Prs H vs ps) : Prs H' vs ps := h.mono fun _ _ r => r.keep k
theorem Pr.inj {H : Hp} {v : V} {p q : IP} (h : Pr H v p) (k : Pr H v q) : p = q := by
  obtain ⟨t, rfl, ht⟩ := h
  obtain ⟨u, e, hu⟩ := k
  cases e
  rw [ht] at hu
  have e := HO.tup.inj (Option.some.inj hu)
  injection e with e1 e2
  injection e2 with e2 _
  obtain ⟨a, b⟩ := p
  obtain ⟨c, d⟩ := q
  rw [show a = c from V.int.inj e1, show b = d from V.int.inj e2]
/-- the pair at a value -/
def kOf (H : Hp) : V → IP
  | .ref t => match H t with
    | some (.tup [.int a, .int b]) => (a, b)
    | _ => (0, 0)
  | _ => (0, 0)
theorem Pr.k {H : Hp} {v : V} {p : IP} (h : Pr H v p) : kOf H v = p := by
  obtain ⟨t, rfl, ht⟩ := h
  show (match H t with | some (.tup [.int a, .int b]) => (a, b) | _ => (0, 0)) = p
  rw [ht]
theorem Pr.tup {K : PySem.W.Frag} {H : Hp} {t : Addr} {p : IP} (h : Pr H (.ref t) p) : SqT K H t [.int p.1, .int p.2] := by
  obtain ⟨u, e, hu⟩ := h
  cases e
  exact SqT.of hu
theorem pr_new {H : Hp} {t : Addr} {a b : Int} (h : H t = some (.tup [.int a, .int b])) : Pr H (.ref t) (a, b) := ⟨t, rfl, h⟩
def pD (p : IP) : PyData := .tuple [.int p.1, .int p.2]
theorem dp_pr {K : PySem.W.Frag} {H : Hp} {v : V} {p : IP} (h : Pr H v p) : Dp K H v (pD p) := by
  obtain ⟨t, rfl, ht⟩ := h
  exact dp_ints2 (SqT.of ht)
theorem dp_prs {K : PySem.W.Frag} {H : Hp} : ∀ {vs : List V} {ps : List IP}, Prs H vs ps → DpAll K H vs (ps.map pD)
  | [], [], _ => .nil
  | _ :: _, _ :: _, h => .cons (dp_pr h.1) (dp_prs h.2)
theorem eqv_pD (p q : IP) : PyData.eqv (pD p) (pD q) = decide (p = q) := by
  obtain ⟨a, b⟩ := p
  obtain ⟨c, d⟩ := q
  rw [show PyData.eqv (pD (a, b)) (pD (c, d)) = decide (a = c ∧ b = d) from eqv_ints2 a b c d]
  exact decide_eq_decide.mpr ⟨fun h => by rw [h.1, h.2], fun h => ⟨congrArg Prod.fst h, congrArg Prod.snd h⟩⟩
theorem eqvAll_pD : ∀ ps qs : List IP, PyData.eqvAll (ps.map pD) (qs.map pD) = decide (ps = qs)
  | [], [] => by simp [PyData.eqvAll]
  | [], q :: qs => by simp [PyData.eqvAll]
  | p :: ps, [] => by simp [PyData.eqvAll]
  | p :: ps, q :: qs => by
    rw [List.map_cons, List.map_cons, PyData.eqvAll, eqv_pD, eqvAll_pD ps qs]
    by_cases h : p = q <;> by_cases h2 : ps = qs <;> simp [h, h2]
theorem eqv_list (ps qs : List IP) : PyData.eqv (.list (ps.map pD)) (.list (qs.map pD)) = decide (ps = qs) := by
  rw [PyData.eqv, eqvAll_pD]
theorem any_pD (q : IP) : ∀ ps : List IP, ((ps.map pD).any fun z => PyData.eqv z (pD q)) = decide (q ∈ ps)
  | [] => by simp
  | p :: ps => by
    rw [List.map_cons, List.any_cons, eqv_pD, any_pD q ps]
    by_cases h : p = q
    · subst h; simp
    · have h2 : ¬ q = p := fun e => h e.symm
      simp [h, h2]
theorem lay_pD (p : IP) : (pD p).canLay0 = true := by simp [pD, PyData.canLay0, PyData.canLayAll0]
theorem lays_pD : ∀ ps : List IP, PyData.canLayAll0 (ps.map pD) = true
  | [] => by simp [PyData.canLayAll0]
  | p :: ps => by simp [PyData.canLayAll0, lay_pD p, lays_pD ps]
theorem depth_pD (p : IP) : (pD p).depth = 1 := by simp [pD, PyData.depth, PyData.depthAll]
theorem depths_pD : ∀ ps : List IP, PyData.depthAll (ps.map pD) ≤ 1
  | [] => by simp [PyData.depthAll]
  | p :: ps => by
    have h1 := depths_pD ps
    have h2 := depth_pD p
    simp only [List.map_cons, PyData.depthAll]
    omega
theorem shaped_pD (p : IP) : SeqAt.shaped (pD p) = true := by
  show ((pD p).canLay0 && decide ((pD p).depth ≤ 64)) = true
  rw [lay_pD, depth_pD]
  rfl
theorem shaped_pDs (ps : List IP) : SeqAt.shaped (.list (ps.map pD)) = true := by
  have h1 := depths_pD ps
  have h2 : PyData.depth (.list (ps.map pD)) ≤ 64 := by
    simp only [PyData.depth]
    omega
  show (PyData.canLay0 (.list (ps.map pD)) && decide (PyData.depth (.list (ps.map pD)) ≤ 64)) = true
  rw [Bool.and_eq_true]
  exact ⟨by simp only [PyData.canLay0]; exact lays_pD ps, decide_eq_true h2⟩
section
variable {K : PySem.W.Frag} {H : Hp} {Q : VK} {a b t u : Addr} {v : V} {vs ws : List V} {p q : IP} {ps qs : List IP}
theorem w_eqPL (h1 : SqL K H a vs) (p1 : Prs H vs ps) (h2 : SqL K H b ws) (p2 : Prs H ws qs) (h : Q (.bl (decide (ps = qs))) H) : rEqD K (.ref a) (.ref b) H Q :=
  ⟨_, _, .lst h1 (dp_prs p1), .lst h2 (dp_prs p2), shaped_pDs _, shaped_pDs _, by rw [eqv_list]; exact h⟩
theorem w_nePL (h1 : SqL K H a vs) (p1 : Prs H vs ps) (h2 : SqL K H b ws) (p2 : Prs H ws qs) (h : Q (.bl (!decide (ps = qs))) H) : rNeD K (.ref a) (.ref b) H Q :=
  ⟨_, _, .lst h1 (dp_prs p1), .lst h2 (dp_prs p2), shaped_pDs _, shaped_pDs _, by rw [eqv_list]; exact h⟩
theorem w_eqP (h1 : Pr H (.ref t) p) (h2 : Pr H (.ref u) q) (h : Q (.bl (decide (p = q))) H) : rEqD K (.ref t) (.ref u) H Q :=
  ⟨_, _, dp_pr h1, dp_pr h2, shaped_pD _, shaped_pD _, by rw [eqv_pD]; exact h⟩
theorem w_neP (h1 : Pr H (.ref t) p) (h2 : Pr H (.ref u) q) (h : Q (.bl (!decide (p = q))) H) : rNeD K (.ref t) (.ref u) H Q :=
  ⟨_, _, dp_pr h1, dp_pr h2, shaped_pD _, shaped_pD _, by rw [eqv_pD]; exact h⟩
theorem w_inPL (h1 : Pr H v p) (h2 : SqL K H a vs) (p2 : Prs H vs ps) (h : Q (.bl (decide (p ∈ ps))) H) : rInD K v (.ref a) H Q :=
  ⟨_, _, dp_pr h1, .lst h2 (dp_prs p2), shaped_pD _, shaped_pDs _, by rw [any_pD]; exact h⟩
theorem w_ninPL (h1 : Pr H v p) (h2 : SqL K H a vs) (p2 : Prs H vs ps) (h : Q (.bl (!decide (p ∈ ps))) H) : rNotInD K v (.ref a) H Q :=
  ⟨_, _, dp_pr h1, .lst h2 (dp_prs p2), shaped_pD _, shaped_pDs _, by rw [any_pD]; exact h⟩
end
/-! #### lists of numbers -/
theorem dp_ints {K : PySem.W.Frag} {H : Hp} : ∀ ns : List Int, DpAll K H (ns.map V.int) (ns.map PyData.int)
  | [] => .nil
  | i :: r => .cons (.int i) (dp_ints r)
theorem eqvAll_ints : ∀ ns ms : List Int, PyData.eqvAll (ns.map PyData.int) (ms.map PyData.int) = decide (ns = ms)
  | [], [] => by simp [PyData.eqvAll]
  | [], q :: qs => by simp [PyData.eqvAll]
  | p :: ps, [] => by simp [PyData.eqvAll]
  | p :: ps, q :: qs => by
    rw [List.map_cons, List.map_cons, PyData.eqvAll, eqvAll_ints ps qs, PyData.eqv]
    by_cases h : p = q <;> by_cases h2 : ps = qs <;> simp [h, h2]
theorem lays_ints : ∀ ns : List Int, PyData.canLayAll0 (ns.map PyData.int) = true
  | [] => by simp [PyData.canLayAll0]
  | p :: ps => by simp [PyData.canLayAll0, PyData.canLay0, lays_ints ps]
theorem depths_ints : ∀ ns : List Int, PyData.depthAll (ns.map PyData.int) = 0
  | [] => by simp [PyData.depthAll]
  | p :: ps => by simp [PyData.depthAll, PyData.depth, depths_ints ps]
theorem shaped_ints (ns : List Int) : SeqAt.shaped (.list (ns.map PyData.int)) = true := by
  show (PyData.canLay0 (.list (ns.map PyData.int)) && decide (PyData.depth (.list (ns.map PyData.int)) ≤ 64)) = true
  rw [Bool.and_eq_true]
  exact ⟨by simp only [PyData.canLay0]; exact lays_ints ns, decide_eq_true (by simp only [PyData.depth]; rw [depths_ints]; decide)⟩
theorem w_eqIL {K : PySem.W.Frag} {H : Hp} {Q : VK} {a b : Addr} {ns ms : List Int} (h1 : SqL K H a (ns.map V.int)) (h2 : SqL K H b (ms.map V.int)) (h : Q (.bl (decide (ns = ms))) H) : rEqD K (.ref a) (.ref b) H Q :=
  ⟨_, _, .lst h1 (dp_ints ns), .lst h2 (dp_ints ms), shaped_ints _, shaped_ints _, by rw [PyData.eqv, eqvAll_ints]; exact h⟩
theorem w_neIL {K : PySem.W.Frag} {H : Hp} {Q : VK} {a b : Addr} {ns ms : List Int} (h1 : SqL K H a (ns.map V.int)) (h2 : SqL K H b (ms.map V.int)) (h : Q (.bl (!decide (ns = ms))) H) : rNeD K (.ref a) (.ref b) H Q :=
  ⟨_, _, .lst h1 (dp_ints ns), .lst h2 (dp_ints ms), shaped_ints _, shaped_ints _, by rw [PyData.eqv, eqvAll_ints]; exact h⟩
/-! #### in order -/
def lexLe (p q : IP) : Bool := decide (p.1 < q.1 ∨ (p.1 = q.1 ∧ p.2 ≤ q.2))
theorem lexLe_iff {p q : IP} : lexLe p q = true ↔ (p.1 < q.1 ∨ (p.1 = q.1 ∧ p.2 ≤ q.2)) := decide_eq_true_iff
theorem lexLe_trans (p q r : IP) (h : lexLe p q = true) (k : lexLe q r = true) : lexLe p r = true := by
  have h := lexLe_iff.mp h
  have k := lexLe_iff.mp k
  exact lexLe_iff.mpr (by omega)
theorem lexLe_total (p q : IP) : (lexLe p q || lexLe q p) = true := by
  rw [Bool.or_eq_true, lexLe_iff, lexLe_iff]
  omega
theorem lexLe_anti {p q : IP} (h : lexLe p q = true) (k : lexLe q p = true) : p = q := by
  have h := lexLe_iff.mp h
  have k := lexLe_iff.mp k
  obtain ⟨a, b⟩ := p
  obtain ⟨c, d⟩ := q
  simp only at h k
  have e1 : a = c := by omega
  have e2 : b = d := by omega
  rw [e1, e2]
abbrev Rising (ps : List IP) : Prop := ps.Pairwise fun p q => lexLe p q = true
def sortP (ps : List IP) : List IP := ps.mergeSort lexLe
theorem sortP_perm (ps : List IP) : (sortP ps).Perm ps := List.mergeSort_perm ps lexLe
theorem sortP_rising (ps : List IP) : Rising (sortP ps) := List.pairwise_mergeSort lexLe_trans lexLe_total ps
theorem rising_eq {ps qs : List IP} (h : Rising ps) (k : Rising qs) (e : ps.Perm qs) : ps = qs := List.Perm.eq_of_pairwise (fun _ _ _ _ a b => lexLe_anti a b) h k e
theorem sortP_eq {ps qs : List IP} (h : Rising ps) (e : ps.Perm qs) : sortP qs = ps := rising_eq (sortP_rising qs) h ((sortP_perm qs).trans e.symm)
theorem sortP_self {ps : List IP} (h : Rising ps) : sortP ps = ps := sortP_eq h (List.Perm.refl _)
theorem sortP_congr {ps qs : List IP} (e : ps.Perm qs) : sortP ps = sortP qs := sortP_eq (sortP_rising qs) ((sortP_perm qs).trans e.symm)
theorem sortP_len (ps : List IP) : (sortP ps).length = ps.length := (sortP_perm ps).length_eq
theorem mem_sortP {p : IP} {ps : List IP} : p ∈ sortP ps ↔ p ∈ ps := (sortP_perm ps).mem_iff
theorem lexB_le {p q : IP} (h : SrtO.lexB q p = false) : lexLe p q = true := by
  have h := SrtO.lexB_no.mp h
  exact lexLe_iff.mpr (by omega)
theorem w_sortP {K : PySem.W.Frag} {H : Hp} {Q : VK} {a : Addr} {vs : List V} {ps : List IP} (h1 : SqL K H a vs) (p1 : Prs H vs ps) (h : ∀ ys p, H p = none → Prs H ys (sortP ps) → Q (.ref p) (upd H p (.lst ys))) : rSortedPO K [.ref a] H Q := by
  refine ⟨a, vs, kOf H, rfl, h1, fun x hx => ?_, fun ys p hs hb hp => h ys p hp ?_⟩
  · obtain ⟨q, _, r⟩ := p1.mem hx
    rw [r.k]
    obtain ⟨t, rfl, ht⟩ := r
    exact ⟨t, rfl, ht⟩
  · have e1 : vs.map (kOf H) = ps := p1.map_eq fun _ _ r => r.k
    have pm : (ys.map (kOf H)).Perm ps := by rw [← e1]; exact hb.perm.map _
    have rs : Rising (ys.map (kOf H)) := List.pairwise_map.mpr (hs.imp fun {x y} q => lexB_le q)
    rw [sortP_eq rs pm]
    refine All2.of_map fun y hy => ?_
    obtain ⟨q, _, r⟩ := p1.mem (hb.perm.mem_iff.mp hy)
    rw [r.k]
    exact r
/-- a new list of pairs -/
def PLNew (H : Hp) (ps : List IP) (Q : VK) : Prop := ∀ (p : Addr) (H' : Hp) (ws : List V), Same H H' → H p = none → H' p = some (.lst ws) → Prs H' ws ps → Q (.ref p) H'
/-- a list of pairs that is handed in -/
def PL (K : PySem.W.Frag) (H : Hp) (a : Addr) (ps : List IP) : Prop := ∃ vs, SqL K H a vs ∧ Prs H vs ps
theorem PL.same {K : PySem.W.Frag} {H H' : Hp} {a : Addr} {ps : List IP} (h : PL K H a ps) (s : Same H H') : PL K H' a ps := by
  obtain ⟨vs, h1, h2⟩ := h
  exact ⟨vs, s.seq h1, prs_keep (keeps s) h2⟩
/-! #### comprehensions, item by item -/
section
variable {H : Hp} {Q : VK} {σ : L2.St} {g : TG} {tt : TT} {te : TE} {vs : List Nat} {β : Type} {R : Hp → V → β → Prop}
theorem put_next (mono : ∀ H H' v b, Keeps H H' → R H v b → R H' v b) {H0 H1 H4 : Hp} {D : Addr} {acc : List V} {bs : List β} {y : V} {b : β} {Pv : Hp → Prop} (hD : H0 D = none) (s1 : Same H0 H1) (hd : H1 D = some (.lst acc)) (ha : All2 (R H1) acc bs) (hz : bs.length < 1000000)
    (s4 : Same H1 H4) (hy : R H4 y b) (hp : ∀ H5 acc', Same H0 H5 → H5 D = some (.lst acc') → All2 (R H5) acc' (bs ++ [b]) → Pv H5) : LcPut D Pv y H4 := by
  refine w_put (s4 _ _ hd) (size_lt (by rw [ha.length]; omega)) (hp _ _ (same_but hD (s1.trans s4)) upd_same ?_)
  have k := keeps_lst (ys := acc ++ [y]) (s4 _ _ hd)
  exact (ha.mono fun _ _ r => mono _ _ _ _ k (mono _ _ _ _ (keeps s4) r)).snoc (mono _ _ _ _ k hy)
/-- [f(k) for k in range(n)] -/
theorem w_lcRm (mono : ∀ H H' v b, Keeps H H' → R H v b → R H' v b) {lo : Int} {n : Nat} (f : Nat → β) (hn : n < 1000000)
    (body : ∀ D i H1 (Nx : Hp → Prop), H D = none → i < n → Same H H1 → (∀ y H4, Same H1 H4 → R H4 y (f i) → LcPut D Nx y H4) → g (.int (lo + i)) (wipe σ vs) H1 (LcTurn tt te vs σ D Nx))
    (done : ∀ D H1 ws, H D = none → Same H H1 → H1 D = some (.lst ws) → All2 (R H1) ws ((List.range n).map f) → Q (.ref D) H1) : LcB g tt te vs σ Q (Itr lo n) H := by
  refine w_lcR fun D hD => ⟨fun i H1 => Same H H1 ∧ ∃ acc, H1 D = some (.lst acc) ∧ All2 (R H1) acc ((List.range i).map f), ⟨same_new hD _, [], upd_same, trivial⟩, ?_, ?_⟩
  · rintro i H1 hi ⟨s1, acc, hd, ha⟩
    refine body D i H1 _ hD hi s1 fun y H4 s4 hy => ?_
    refine put_next mono hD s1 hd ha (by rw [List.length_map, List.length_range]; omega) s4 hy fun H5 acc' s5 h5 a5 => ⟨s5, acc', h5, ?_⟩
    rw [List.range_succ, List.map_append]
    exact a5
  · rintro H1 ⟨s1, acc, hd, ha⟩
    exact done D H1 acc hD s1 hd ha
/-- [f(x) for x in xs if p(x)]: the items taken by a relation of their own -/
theorem w_lcLf (mono : ∀ H H' v b, Keeps H H' → R H v b → R H' v b) {K : PySem.W.Frag} {a : Addr} {xs : List V} {γ : Type} {S : Hp → V → γ → Prop} (monoS : ∀ H H' v b, Keeps H H' → S H v b → S H' v b) {cs : List γ} (hl : SqL K H a xs) (hx : All2 (S H) xs cs) (f : γ → β) (pr : γ → Bool) (hn : cs.length < 1000000)
    (body : ∀ D (x : V) (c : γ) H1 (Nx : Hp → Prop), H D = none → c ∈ cs → S H1 x c → Same H H1 → (∀ y H4, pr c = true → Same H1 H4 → R H4 y (f c) → LcPut D Nx y H4) → (∀ H4, pr c = false → Same H1 H4 → Nx H4) → g x (wipe σ vs) H1 (LcTurn tt te vs σ D Nx))
    (done : ∀ D H1 ws, H D = none → Same H H1 → H1 D = some (.lst ws) → All2 (R H1) ws ((cs.filter pr).map f) → Q (.ref D) H1) : LcB g tt te vs σ Q (Itl K a) H := by
  have hlen := hx.length
  refine w_lcL (xs := xs) fun D hD => ⟨fun i H1 => Same H H1 ∧ ∃ acc, H1 D = some (.lst acc) ∧ All2 (R H1) acc (((cs.take i).filter pr).map f), ⟨same_new hD _, [], upd_same, trivial⟩, ?_, ?_, ?_⟩
  · rintro i H1 _ ⟨s1, _⟩
    exact s1.seq hl
  · rintro i x H1 hi ⟨s1, acc, hd, ha⟩
    obtain ⟨c, hc, hs⟩ := hx.get hi
    have hlt : i < cs.length := (List.getElem?_eq_some_iff.mp hc).1
    have hle : (((cs.take i).filter pr).map f).length < 1000000 := by
      rw [List.length_map]
      have := List.length_filter_le pr (cs.take i)
      rw [List.length_take] at this
      omega
    have et : cs.take (i + 1) = cs.take i ++ [c] := by rw [List.take_add_one, hc] <;> rfl
    refine body D x c H1 _ hD (List.mem_of_getElem? hc) (monoS _ _ _ _ (keeps s1) hs) s1 (fun y H4 hp s4 hy => ?_) (fun H4 hp s4 => ?_)
    · refine put_next mono hD s1 hd ha hle s4 hy fun H5 acc' s5 h5 a5 => ⟨s5, acc', h5, ?_⟩
      rw [et, List.filter_append, List.map_append]
      have e1 : List.filter pr [c] = [c] := by simp [hp]
      rw [e1]
      exact a5
    · refine ⟨s1.trans s4, acc, s4 _ _ hd, ?_⟩
      have e1 : List.filter pr [c] = [] := by simp [hp]
      rw [et, List.filter_append, e1, List.append_nil]
      exact ha.mono fun _ _ r => mono _ _ _ _ (keeps s4) r
  · rintro H1 ⟨s1, acc, hd, ha⟩
    rw [hlen, List.take_length] at ha
    exact done D H1 acc hD s1 hd ha
end
theorem pr_mono (H H' : Hp) (v : V) (b : IP) (k : Keeps H H') (h : Pr H v b) : Pr H' v b := h.keep k
/-- an int as an item -/
def In (_ : Hp) (v : V) (i : Int) : Prop := v = .int i
theorem in_mono (H H' : Hp) (v : V) (b : Int) (_ : Keeps H H') (h : In H v b) : In H' v b := h
theorem ins_map {H : Hp} : ∀ {vs : List V} {ns : List Int}, All2 (In H) vs ns → vs = ns.map V.int
  | [], [], _ => rfl
  | _ :: _, _ :: _, h => by rw [List.map_cons, ← ins_map h.2, h.1]
theorem ins_of {H : Hp} : ∀ ns : List Int, All2 (In H) (ns.map V.int) ns
  | [] => trivial
  | _ :: r => ⟨rfl, ins_of r⟩
end Pm
/-! ### cuttings as trees: a leaf is a tie of two neighbours, a node a tie with the post beside it -/
namespace Pm
inductive Tr where
  | leaf
  | node (l r : Tr)
namespace Tr
def w : Tr → Nat
  | leaf => 1
  | node l r => l.w + r.w
theorem w_pos : ∀ t : Tr, 1 ≤ t.w
  | leaf => Nat.le_refl _
  | node l r => by have := l.w_pos; show 1 ≤ l.w + r.w; omega
/-- all ties -/
def all : Nat → Tr → List (Nat × Nat)
  | lo, leaf => [(lo, lo + 1)]
  | lo, node l r => (lo, lo + (l.w + r.w)) :: (l.all lo ++ r.all (lo + l.w))
/-- the ties of nodes -/
def inn : Nat → Tr → List (Nat × Nat)
  | _, leaf => []
  | lo, node l r => (lo, lo + (l.w + r.w)) :: (l.inn lo ++ r.inn (lo + l.w))
/-- the ropes of the whole -/
def ropes : Nat → Tr → List (Nat × Nat)
  | _, leaf => []
  | lo, node l r => l.inn lo ++ r.inn (lo + l.w)
theorem inn_node {lo : Nat} {t : Tr} (h : 2 ≤ t.w) : t.inn lo = (lo, lo + t.w) :: t.ropes lo := by
  cases t with
  | leaf => exact absurd h (by show ¬ 2 ≤ 1; omega)
  | node l r => rfl
theorem bd : ∀ {t : Tr} {lo : Nat} {p : Nat × Nat}, p ∈ t.all lo → lo ≤ p.1 ∧ p.1 < p.2 ∧ p.2 ≤ lo + t.w
  | leaf, lo, p, h => by
    rw [List.mem_singleton.mp h]
    exact ⟨Nat.le_refl _, Nat.lt_succ_self _, Nat.le_refl _⟩
  | node l r, lo, p, h => by
    have wl := l.w_pos
    have wr := r.w_pos
    show lo ≤ p.1 ∧ p.1 < p.2 ∧ p.2 ≤ lo + (l.w + r.w)
    rcases List.mem_cons.mp h with h | h
    · rw [h]; simp only; omega
    · rcases List.mem_append.mp h with h | h
      · have := bd h; omega
      · have := bd h; omega
theorem mem_node {l r : Tr} {lo : Nat} {p : Nat × Nat} : p ∈ (node l r).all lo ↔ p = (lo, lo + (l.w + r.w)) ∨ p ∈ l.all lo ∨ p ∈ r.all (lo + l.w) := by
  show p ∈ _ :: (_ ++ _) ↔ _
  rw [List.mem_cons, List.mem_append]
theorem root_mem {t : Tr} {lo : Nat} : (lo, lo + t.w) ∈ t.all lo := by
  cases t with
  | leaf => exact List.mem_singleton.mpr rfl
  | node l r => exact List.mem_cons_self
theorem inn_all : ∀ {t : Tr} {lo : Nat} {p : Nat × Nat}, p ∈ t.inn lo → p ∈ t.all lo
  | leaf, _, _, h => by cases h
  | node l r, lo, p, h => by
    rw [mem_node]
    rcases List.mem_cons.mp h with h | h
    · exact .inl h
    · rcases List.mem_append.mp h with h | h
      · exact .inr (.inl (inn_all h))
      · exact .inr (.inr (inn_all h))
theorem inn_wide : ∀ {t : Tr} {lo : Nat} {p : Nat × Nat}, p ∈ t.inn lo → p.1 + 2 ≤ p.2
  | leaf, _, _, h => by cases h
  | node l r, lo, p, h => by
    have wl := l.w_pos
    have wr := r.w_pos
    rcases List.mem_cons.mp h with h | h
    · rw [h]; simp only; omega
    · rcases List.mem_append.mp h with h | h
      · exact inn_wide h
      · exact inn_wide h
/-- a tie is one of a node, or of two neighbours -/
theorem all_iff : ∀ {t : Tr} {lo : Nat} {p : Nat × Nat}, p ∈ t.all lo ↔ p ∈ t.inn lo ∨ (lo ≤ p.1 ∧ p.2 = p.1 + 1 ∧ p.2 ≤ lo + t.w)
  | leaf, lo, p => by
    show p ∈ [(lo, lo + 1)] ↔ p ∈ [] ∨ (lo ≤ p.1 ∧ p.2 = p.1 + 1 ∧ p.2 ≤ lo + 1)
    obtain ⟨a, b⟩ := p
    simp only [List.mem_singleton, Prod.mk.injEq, List.not_mem_nil, false_or]
    omega
  | node l r, lo, p => by
    have wl := l.w_pos
    have wr := r.w_pos
    rw [mem_node, all_iff (t := l), all_iff (t := r)]
    show _ ↔ p ∈ _ :: (_ ++ _) ∨ (lo ≤ p.1 ∧ p.2 = p.1 + 1 ∧ p.2 ≤ lo + (l.w + r.w))
    rw [List.mem_cons, List.mem_append]
    constructor
    · rintro (h | (h | h) | (h | h))
      · exact .inl (.inl h)
      · exact .inl (.inr (.inl h))
      · exact .inr (by omega)
      · exact .inl (.inr (.inr h))
      · exact .inr (by omega)
    · rintro ((h | h | h) | h)
      · exact .inl h
      · exact .inr (.inl (.inl h))
      · exact .inr (.inr (.inl h))
      · by_cases c : p.2 ≤ lo + l.w
        · exact .inr (.inl (.inr (by omega)))
        · exact .inr (.inr (.inr (by omega)))
/-- the one post between the ends of a node's tie -/
theorem apex_in : ∀ {t : Tr} {lo a b : Nat}, (a, b) ∈ t.inn lo → ∃ m, (a < m ∧ m < b) ∧ (a, m) ∈ t.all lo ∧ (m, b) ∈ t.all lo ∧ ∀ m', a < m' → m' < b → (a, m') ∈ t.all lo → (m', b) ∈ t.all lo → m' = m
  | leaf, _, _, _, h => by cases h
  | node l r, lo, a, b, h => by
    have wl := l.w_pos
    have wr := r.w_pos
    rcases List.mem_cons.mp h with h | h
    · obtain ⟨rfl, rfl⟩ := Prod.mk.inj h
      refine ⟨a + l.w, ⟨by omega, by omega⟩, mem_node.mpr (.inr (.inl root_mem)), mem_node.mpr (.inr (.inr (by rw [← Nat.add_assoc]; exact root_mem))), fun m' h1 h2 h3 h4 => ?_⟩
      rcases mem_node.mp h3 with e | e | e
      · have := (Prod.mk.inj e).2; omega
      · have q := (bd e).2.2
        simp only at q
        rcases mem_node.mp h4 with e | e | e
        · have := (Prod.mk.inj e).1; omega
        · have := (bd e).2.2; simp only at this; omega
        · have := (bd e).1; simp only at this; omega
      · have := (bd e).1; simp only at this; omega
    · rcases List.mem_append.mp h with h | h
      · have q := bd (inn_all h)
        simp only at q
        obtain ⟨m, hm, h1, h2, u⟩ := apex_in h
        refine ⟨m, hm, mem_node.mpr (.inr (.inl h1)), mem_node.mpr (.inr (.inl h2)), fun m' g1 g2 g3 g4 => u m' g1 g2 ?_ ?_⟩
        · rcases mem_node.mp g3 with e | e | e
          · have := (Prod.mk.inj e).2; omega
          · exact e
          · have := (bd e).1; simp only at this; omega
        · rcases mem_node.mp g4 with e | e | e
          · have := (Prod.mk.inj e).1; omega
          · exact e
          · have := (bd e).1; simp only at this; omega
      · have q := bd (inn_all h)
        simp only at q
        obtain ⟨m, hm, h1, h2, u⟩ := apex_in h
        refine ⟨m, hm, mem_node.mpr (.inr (.inr h1)), mem_node.mpr (.inr (.inr h2)), fun m' g1 g2 g3 g4 => u m' g1 g2 ?_ ?_⟩
        · rcases mem_node.mp g3 with e | e | e
          · have := (Prod.mk.inj e).1; omega
          · have := (bd e).2.2; simp only at this; omega
          · exact e
        · rcases mem_node.mp g4 with e | e | e
          · have := (Prod.mk.inj e).1; omega
          · have := (bd e).2.2; simp only at this; omega
          · exact e
/-- m makes a plot with (a, b) from outside -/
def Out (t : Tr) (lo a b m : Nat) : Prop := (m < a ∧ (m, a) ∈ t.all lo ∧ (m, b) ∈ t.all lo) ∨ (b < m ∧ (a, m) ∈ t.all lo ∧ (b, m) ∈ t.all lo)
theorem Out.up_l {l r : Tr} {lo a b m : Nat} (h : Out l lo a b m) : Out (node l r) lo a b m := by
  rcases h with ⟨h, h1, h2⟩ | ⟨h, h1, h2⟩
  · exact .inl ⟨h, mem_node.mpr (.inr (.inl h1)), mem_node.mpr (.inr (.inl h2))⟩
  · exact .inr ⟨h, mem_node.mpr (.inr (.inl h1)), mem_node.mpr (.inr (.inl h2))⟩
theorem Out.up_r {l r : Tr} {lo a b m : Nat} (h : Out r (lo + l.w) a b m) : Out (node l r) lo a b m := by
  rcases h with ⟨h, h1, h2⟩ | ⟨h, h1, h2⟩
  · exact .inl ⟨h, mem_node.mpr (.inr (.inr h1)), mem_node.mpr (.inr (.inr h2))⟩
  · exact .inr ⟨h, mem_node.mpr (.inr (.inr h1)), mem_node.mpr (.inr (.inr h2))⟩
theorem Out.down_l {l r : Tr} {lo a b m : Nat} (q : lo ≤ a ∧ a < b ∧ b ≤ lo + l.w) (n : ¬ (a = lo ∧ b = lo + l.w)) (h : Out (node l r) lo a b m) : Out l lo a b m := by
  have wr := r.w_pos
  rcases h with ⟨h, h1, h2⟩ | ⟨h, h1, h2⟩
  · refine .inl ⟨h, ?_, ?_⟩
    · rcases mem_node.mp h1 with e | e | e
      · have := (Prod.mk.inj e).2; omega
      · exact e
      · have := (bd e).1; simp only at this; omega
    · rcases mem_node.mp h2 with e | e | e
      · have := (Prod.mk.inj e).2; omega
      · exact e
      · have := (bd e).1; simp only at this; omega
  · have hb : (b, m) ∈ l.all lo ∨ b = lo + l.w := by
      rcases mem_node.mp h2 with e | e | e
      · have := (Prod.mk.inj e).1; omega
      · exact .inl e
      · have := (bd e).1; simp only at this; exact .inr (by omega)
    rcases hb with hb | hb
    · have z := (bd hb).2.2
      simp only at z
      refine .inr ⟨h, ?_, hb⟩
      rcases mem_node.mp h1 with e | e | e
      · have := (Prod.mk.inj e).2; omega
      · exact e
      · have := (bd e).1; simp only at this; omega
    · exfalso
      rcases mem_node.mp h1 with e | e | e
      · have := (Prod.mk.inj e).1; omega
      · have := (bd e).2.2; simp only at this; omega
      · have := (bd e).1; simp only at this; omega
theorem Out.down_r {l r : Tr} {lo a b m : Nat} (q : lo + l.w ≤ a ∧ a < b ∧ b ≤ lo + l.w + r.w) (n : ¬ (a = lo + l.w ∧ b = lo + l.w + r.w)) (h : Out (node l r) lo a b m) : Out r (lo + l.w) a b m := by
  have wl := l.w_pos
  rcases h with ⟨h, h1, h2⟩ | ⟨h, h1, h2⟩
  · have ha : (m, a) ∈ r.all (lo + l.w) ∨ a = lo + l.w := by
      rcases mem_node.mp h1 with e | e | e
      · have := (Prod.mk.inj e).2; omega
      · have := (bd e).2.2; simp only at this; exact .inr (by omega)
      · exact .inl e
    rcases ha with ha | ha
    · have z := (bd ha).1
      simp only at z
      refine .inl ⟨h, ha, ?_⟩
      rcases mem_node.mp h2 with e | e | e
      · have := (Prod.mk.inj e).1; omega
      · have := (bd e).2.2; simp only at this; omega
      · exact e
    · exfalso
      rcases mem_node.mp h2 with e | e | e
      · have := (Prod.mk.inj e).2; omega
      · have := (bd e).2.2; simp only at this; omega
      · have := (bd e).1; simp only at this; omega
  · refine .inr ⟨h, ?_, ?_⟩
    · rcases mem_node.mp h1 with e | e | e
      · have := (Prod.mk.inj e).1; omega
      · have := (bd e).2.2; simp only at this; omega
      · exact e
    · rcases mem_node.mp h2 with e | e | e
      · have := (Prod.mk.inj e).1; omega
      · have := (bd e).2.2; simp only at this; omega
      · exact e
theorem Out.bd {t : Tr} {lo a b m : Nat} (h : Out t lo a b m) : lo ≤ m ∧ m ≤ lo + t.w := by
  rcases h with ⟨h, h1, h2⟩ | ⟨h, h1, h2⟩
  · have := Tr.bd h1; simp only at this; omega
  · have := Tr.bd h1; simp only at this; omega
/-- the one post outside a tie that is not the whole's -/
theorem apex_out : ∀ {t : Tr} {lo a b : Nat}, (a, b) ∈ t.all lo → ¬ (a = lo ∧ b = lo + t.w) → ∃ m, Out t lo a b m ∧ ∀ m', Out t lo a b m' → m' = m
  | leaf, lo, a, b, h, n => by
    exfalso
    obtain ⟨e1, e2⟩ := Prod.mk.inj (List.mem_singleton.mp h)
    exact n ⟨e1, e2⟩
  | node l r, lo, a, b, h, n => by
    have wl := l.w_pos
    have wr := r.w_pos
    rcases mem_node.mp h with h | h | h
    · exact absurd (Prod.mk.inj h) n
    · have q := Tr.bd h
      simp only at q
      by_cases c : a = lo ∧ b = lo + l.w
      · obtain ⟨rfl, rfl⟩ := c
        refine ⟨a + (l.w + r.w), .inr ⟨by omega, mem_node.mpr (.inl rfl), mem_node.mpr (.inr (.inr (by rw [← Nat.add_assoc]; exact root_mem)))⟩, fun m' o => ?_⟩
        rcases o with ⟨h, h1, h2⟩ | ⟨h, h1, h2⟩
        · have := (Tr.bd h1).1; simp only at this; omega
        · rcases mem_node.mp h1 with e | e | e
          · exact (Prod.mk.inj e).2
          · have := (Tr.bd e).2.2; simp only at this; omega
          · have := (Tr.bd e).1; simp only at this; omega
      · obtain ⟨m, o, u⟩ := apex_out h c
        exact ⟨m, o.up_l, fun m' o' => u m' (o'.down_l q c)⟩
    · have q := Tr.bd h
      simp only at q
      by_cases c : a = lo + l.w ∧ b = lo + l.w + r.w
      · obtain ⟨rfl, rfl⟩ := c
        refine ⟨lo, .inl ⟨by omega, mem_node.mpr (.inr (.inl root_mem)), mem_node.mpr (.inl (by rw [Nat.add_assoc]))⟩, fun m' o => ?_⟩
        rcases o with ⟨h, h1, h2⟩ | ⟨h, h1, h2⟩
        · rcases mem_node.mp h2 with e | e | e
          · exact (Prod.mk.inj e).1
          · have := (Tr.bd e).2.2; simp only at this; omega
          · have := (Tr.bd e).1; simp only at this; omega
        · have := (Tr.bd h1).2.2; simp only at this; change m' ≤ lo + (l.w + r.w) at this; omega
      · obtain ⟨m, o, u⟩ := apex_out h c
        exact ⟨m, o.up_r, fun m' o' => u m' (o'.down_r q c)⟩
end Tr
end Pm
/-! ### a cutting drawn ear by ear is a tree -/
namespace Pm
namespace Tr
def graft : Tr → Nat → Tr
  | leaf, _ => node leaf leaf
  | node l r, j => if j < l.w then node (l.graft j) r else node l (r.graft (j - l.w))
theorem w_graft : ∀ {t : Tr} {j : Nat}, j < t.w → (t.graft j).w = t.w + 1
  | leaf, _, _ => rfl
  | node l r, j, h => by
    unfold graft
    split
    · rename_i c
      show (l.graft j).w + r.w = l.w + r.w + 1
      rw [w_graft c]; omega
    · rename_i c
      show l.w + (r.graft (j - l.w)).w = l.w + r.w + 1
      have : j < l.w + r.w := h
      rw [w_graft (by omega)]; omega
def sk (c i : Nat) : Nat := if i < c then i else i + 1
def skp (c : Nat) (p : Nat × Nat) : Nat × Nat := (sk c p.1, sk c p.2)
theorem inn_shift : ∀ (t : Tr) (lo : Nat), t.inn (lo + 1) = (t.inn lo).map fun p => (p.1 + 1, p.2 + 1)
  | leaf, _ => rfl
  | node l r, lo => by
    show (lo + 1, lo + 1 + (l.w + r.w)) :: (l.inn (lo + 1) ++ r.inn (lo + 1 + l.w)) = ((lo, lo + (l.w + r.w)) :: (l.inn lo ++ r.inn (lo + l.w))).map _
    rw [List.map_cons, List.map_append, inn_shift l lo, show lo + 1 + l.w = lo + l.w + 1 by omega, inn_shift r (lo + l.w)]
    congr 2
    omega
theorem ropes_shift (t : Tr) (lo : Nat) : t.ropes (lo + 1) = (t.ropes lo).map fun p => (p.1 + 1, p.2 + 1) := by
  cases t with
  | leaf => rfl
  | node l r =>
    show l.inn (lo + 1) ++ r.inn (lo + 1 + l.w) = (l.inn lo ++ r.inn (lo + l.w)).map _
    rw [List.map_append, inn_shift l lo, show lo + 1 + l.w = lo + l.w + 1 by omega, inn_shift r (lo + l.w)]
theorem skp_up {t : Tr} {lo c : Nat} (h : c ≤ lo) : (t.inn lo).map (skp c) = t.inn (lo + 1) := by
  rw [inn_shift]
  refine List.map_congr_left fun p hp => ?_
  have q := bd (inn_all hp)
  unfold skp sk
  rw [if_neg (by omega), if_neg (by omega)]
theorem skp_down {t : Tr} {lo c : Nat} (h : lo + t.w < c) : (t.inn lo).map (skp c) = t.inn lo := by
  conv => rhs; rw [← List.map_id (t.inn lo)]
  refine List.map_congr_left fun p hp => ?_
  have q := bd (inn_all hp)
  unfold skp sk
  rw [if_pos (by omega), if_pos (by omega)]
  rfl
theorem inn_graft : ∀ {t : Tr} {lo j : Nat}, j < t.w → ((t.graft j).inn lo).Perm ((lo + j, lo + j + 2) :: (t.inn lo).map (skp (lo + j + 1)))
  | leaf, lo, j, h => by
    have : j = 0 := by have h : j < 1 := h; omega
    subst this
    exact List.Perm.refl _
  | node l r, lo, j, h => by
    have h : j < l.w + r.w := h
    have wr := r.w_pos
    have wl := l.w_pos
    show ((graft (node l r) j).inn lo).Perm ((lo + j, lo + j + 2) :: ((lo, lo + (l.w + r.w)) :: (l.inn lo ++ r.inn (lo + l.w))).map _)
    rw [List.map_cons, List.map_append]
    have e0 : skp (lo + j + 1) (lo, lo + (l.w + r.w)) = (lo, lo + (l.w + r.w) + 1) := by
      unfold skp sk
      rw [if_pos (by omega), if_neg (by omega)]
    rw [e0]
    unfold graft
    split
    · rename_i c
      show ((lo, lo + ((l.graft j).w + r.w)) :: ((l.graft j).inn lo ++ r.inn (lo + (l.graft j).w))).Perm _
      rw [w_graft c, skp_up (t := r) (show lo + j + 1 ≤ lo + l.w by omega), show lo + (l.w + 1 + r.w) = lo + (l.w + r.w) + 1 by omega, show lo + (l.w + 1) = lo + l.w + 1 by omega]
      exact ((inn_graft c).append_right _).cons _ |>.trans (List.Perm.swap _ _ _)
    · rename_i c
      have c' : j - l.w < r.w := by omega
      show ((lo, lo + (l.w + (r.graft (j - l.w)).w)) :: (l.inn lo ++ (r.graft (j - l.w)).inn (lo + l.w))).Perm _
      have ih := inn_graft (t := r) (lo := lo + l.w) c'
      rw [show lo + l.w + (j - l.w) = lo + j by omega] at ih
      rw [w_graft c', skp_down (t := l) (show lo + l.w < lo + j + 1 by omega), show lo + (l.w + (r.w + 1)) = lo + (l.w + r.w) + 1 by omega]
      refine ((ih.append_left _).cons _).trans ?_
      refine (List.Perm.cons _ List.perm_middle).trans (List.Perm.swap _ _ _)
theorem ropes_graft {t : Tr} {j : Nat} (h : j < t.w) (h2 : 2 ≤ t.w) : ((t.graft j).ropes 0).Perm ((j, j + 2) :: (t.ropes 0).map (skp (j + 1))) := by
  have q := inn_graft (lo := 0) h
  rw [inn_node (t := t) h2, inn_node (t := t.graft j) (by rw [w_graft h]; omega), w_graft h, List.map_cons] at q
  have e0 : skp (0 + j + 1) (0, 0 + t.w) = (0, 0 + (t.w + 1)) := by
    unfold skp sk
    rw [if_pos (by omega), if_neg (by omega)]
    congr 1
  rw [e0] at q
  have q2 := q.trans (List.Perm.swap _ _ _)
  have q3 := q2.cons_inv
  rw [Nat.zero_add] at q3
  exact q3
end Tr
abbrev Ear := Int × Int × Int
/-- all ears of a ring, cut off one by one -/
inductive Ears : List Int → List Ear → Prop
  | done {L : List Int} (h : L.length ≤ 3) : Ears L []
  | step {L : List Int} {es : List Ear} (k : Nat) (h3 : 3 < L.length) (hk : k < L.length) (t : Ears (L.eraseIdx k) es) :
      Ears L ((L.getD k 0, L.getD ((k + L.length - 1) % L.length) 0, L.getD ((k + 1) % L.length) 0) :: es)
def tieOf (a b : Int) : IP := (min a b, max a b)
def ropeOf (e : Ear) : IP := tieOf e.2.1 e.2.2
theorem getD_erase (L : List Int) (k i : Nat) : (L.eraseIdx k).getD i 0 = L.getD (Tr.sk k i) 0 := by
  rw [List.getD_eq_getElem?_getD, List.getD_eq_getElem?_getD, List.getElem?_eraseIdx]
  unfold Tr.sk
  split <;> rfl
theorem rise_get {L : List Int} (h : L.Pairwise (· < ·)) {i j : Nat} (hij : i < j) (hj : j < L.length) : L.getD i 0 < L.getD j 0 := by
  have q := List.pairwise_iff_getElem.mp h i j (by omega) hj hij
  rw [List.getD_eq_getElem?_getD, List.getD_eq_getElem?_getD, List.getElem?_eq_getElem (by omega), List.getElem?_eq_getElem hj]
  exact q
def atP (L : List Int) (p : Nat × Nat) : IP := (L.getD p.1 0, L.getD p.2 0)
theorem atP_erase (L : List Int) (k : Nat) (p : Nat × Nat) : atP (L.eraseIdx k) p = atP L (Tr.skp k p) := by
  unfold atP Tr.skp
  rw [getD_erase, getD_erase]
theorem tie_lt {a b : Int} (h : a < b) : tieOf a b = (a, b) := by unfold tieOf; rw [Int.min_eq_left (by omega), Int.max_eq_right (by omega)]
theorem tie_gt {a b : Int} (h : a < b) : tieOf b a = (a, b) := by unfold tieOf; rw [Int.min_eq_right (by omega), Int.max_eq_left (by omega)]
theorem drawn_tree {L : List Int} {es : List Ear} (h : Ears L es) : L.Pairwise (· < ·) → 3 ≤ L.length → ∃ t : Tr, t.w + 1 = L.length ∧ (es.map ropeOf).Perm ((t.ropes 0).map (atP L)) := by
  induction h with
  | done h =>
    intro _ h3
    exact ⟨.node .leaf .leaf, by show 2 + 1 = _; omega, List.Perm.refl _⟩
  | @step L es k h3 hk _ ih =>
    intro rise _
    have le : (L.eraseIdx k).length = L.length - 1 := List.length_eraseIdx_of_lt hk
    obtain ⟨t, hw, hp⟩ := ih (rise.sublist (List.eraseIdx_sublist L k)) (by omega)
    have w2 : 2 ≤ t.w := by omega
    have hp : (es.map ropeOf).Perm ((t.ropes 0).map fun p => atP L (Tr.skp k p)) := by
      rw [show (fun p => atP L (Tr.skp k p)) = atP (L.eraseIdx k) from funext fun p => (atP_erase L k p).symm]
      exact hp
    by_cases k0 : k = 0
    · subst k0
      refine ⟨.node .leaf t, by show 1 + t.w + 1 = _; omega, ?_⟩
      have e1 : (Tr.node .leaf t).ropes 0 = (1, 1 + t.w) :: (t.ropes 0).map (Tr.skp 0) := by
        show [] ++ t.inn (0 + 1) = _
        rw [List.nil_append, Tr.inn_node w2, Tr.ropes_shift]
        rfl
      have e2 : (0 + L.length - 1) % L.length = L.length - 1 := by rw [Nat.zero_add]; exact Nat.mod_eq_of_lt (by omega)
      have e3 : (0 + 1) % L.length = 1 := Nat.mod_eq_of_lt (by omega)
      rw [List.map_cons, e1, List.map_cons, List.map_map]
      have e4 : ropeOf (L.getD 0 0, L.getD ((0 + L.length - 1) % L.length) 0, L.getD ((0 + 1) % L.length) 0) = atP L (1, 1 + t.w) := by
        unfold ropeOf atP
        rw [e2, e3]
        simp only
        rw [show 1 + t.w = L.length - 1 by omega]
        exact tie_gt (rise_get rise (by omega) (by omega))
      rw [e4]
      exact hp.cons _
    · by_cases km : k = L.length - 1
      · refine ⟨.node t .leaf, by show t.w + 1 + 1 = _; omega, ?_⟩
        have e1 : (Tr.node t .leaf).ropes 0 = (0, t.w) :: t.ropes 0 := by
          show t.inn 0 ++ [] = _
          rw [List.append_nil, Tr.inn_node w2, Nat.zero_add]
        have e2 : (k + L.length - 1) % L.length = k - 1 := by
          rw [show k + L.length - 1 = (k - 1) + L.length by omega, Nat.add_mod_right]
          exact Nat.mod_eq_of_lt (by omega)
        have e3 : (k + 1) % L.length = 0 := by
          rw [show k + 1 = L.length by omega]
          exact Nat.mod_self _
        have e5 : (t.ropes 0).map (fun p => atP L (Tr.skp k p)) = (t.ropes 0).map (atP L) := by
          refine List.map_congr_left fun p hp => ?_
          have hin : p ∈ t.inn 0 := by rw [Tr.inn_node w2]; exact List.mem_cons_of_mem _ hp
          have q := Tr.bd (Tr.inn_all hin)
          unfold Tr.skp Tr.sk
          rw [if_pos (by omega), if_pos (by omega)]
        rw [e5] at hp
        rw [List.map_cons, e1, List.map_cons]
        have e4 : ropeOf (L.getD k 0, L.getD ((k + L.length - 1) % L.length) 0, L.getD ((k + 1) % L.length) 0) = atP L (0, t.w) := by
          unfold ropeOf atP
          rw [e2, e3]
          simp only
          rw [show t.w = k - 1 by omega]
          exact tie_gt (rise_get rise (by omega) (by omega))
        rw [e4]
        exact hp.cons _
      · refine ⟨t.graft (k - 1), by rw [Tr.w_graft (by omega)]; omega, ?_⟩
        have e1 := Tr.ropes_graft (t := t) (j := k - 1) (by omega) w2
        rw [show k - 1 + 1 = k by omega, show k - 1 + 2 = k + 1 by omega] at e1
        have e2 : (k + L.length - 1) % L.length = k - 1 := by
          rw [show k + L.length - 1 = (k - 1) + L.length by omega, Nat.add_mod_right]
          exact Nat.mod_eq_of_lt (by omega)
        have e3 : (k + 1) % L.length = k + 1 := Nat.mod_eq_of_lt (by omega)
        have e4 : ropeOf (L.getD k 0, L.getD ((k + L.length - 1) % L.length) 0, L.getD ((k + 1) % L.length) 0) = atP L (k - 1, k + 1) := by
          unfold ropeOf atP
          rw [e2, e3]
          exact tie_lt (rise_get rise (by omega) (by omega))
        rw [List.map_cons, e4]
        refine (hp.cons _).trans ?_
        have q := (e1.map (atP L)).symm
        rw [List.map_cons, List.map_map] at q
        exact q
def castP (p : Nat × Nat) : IP := ((p.1 : Int), (p.2 : Int))
/-- the posts of a ring -/
def posts (n : Nat) : List Int := (List.range n).map fun i : Nat => (i : Int)
theorem posts_len (n : Nat) : (posts n).length = n := by rw [posts, List.length_map, List.length_range]
theorem posts_rise (n : Nat) : (posts n).Pairwise (· < ·) := by
  rw [posts, List.pairwise_map]
  exact List.pairwise_lt_range.imp fun h => by omega
theorem posts_get {n i : Nat} (h : i < n) : (posts n).getD i 0 = (i : Int) := by
  rw [posts, List.getD_eq_getElem?_getD, List.getElem?_map, List.getElem?_range h] <;> rfl
theorem ropes_bd {t : Tr} {p : Nat × Nat} (hp : p ∈ t.ropes 0) : p ∈ t.inn 0 ∧ ¬ (p.1 = 0 ∧ p.2 = t.w) := by
  cases t with
  | leaf => cases hp
  | node l r =>
    have wl := l.w_pos
    have wr := r.w_pos
    refine ⟨List.mem_cons_of_mem _ hp, ?_⟩
    show ¬ (p.1 = 0 ∧ p.2 = l.w + r.w)
    rcases List.mem_append.mp hp with h | h
    · have := Tr.bd (Tr.inn_all h); omega
    · have := Tr.bd (Tr.inn_all h); omega
theorem drawn_posts {n : Nat} {es : List Ear} (h : Ears (posts n) es) (hn : 3 ≤ n) : ∃ t : Tr, t.w + 1 = n ∧ (es.map ropeOf).Perm ((t.ropes 0).map castP) := by
  obtain ⟨t, hw, hp⟩ := drawn_tree h (posts_rise n) (by rw [posts_len]; exact hn)
  rw [posts_len] at hw
  refine ⟨t, hw, ?_⟩
  have e : (t.ropes 0).map (atP (posts n)) = (t.ropes 0).map castP := by
    refine List.map_congr_left fun p hp => ?_
    have q := Tr.bd (Tr.inn_all (ropes_bd hp).1)
    unfold atP castP
    rw [posts_get (by omega), posts_get (by omega)]
  rw [e] at hp
  exact hp
end Pm
namespace Pm
open PySem PySem.Spec PyProof.Rows L2
/-! ### sides, ties, the posts beside -/
def sides0 (n : Nat) : List IP := ((List.range (n - 1)).map fun k : Nat => ((k : Int), (k : Int) + 1)) ++ [(0, (n : Int) - 1)]
def sidesL (n : Nat) : List IP := sortP (sides0 n)
def tiesL (n : Nat) (cut : List IP) : List IP := sortP (sides0 n ++ cut)
theorem sides0_len {n : Nat} (h : 1 ≤ n) : (sides0 n).length = n := by
  rw [sides0, List.length_append, List.length_map, List.length_range, List.length_singleton]; omega
theorem tiesL_eq (n : Nat) (cut : List IP) : sortP (sidesL n ++ cut) = tiesL n cut := sortP_congr ((sortP_perm _).append_right _)
theorem mem_ties {n : Nat} {cut : List IP} {p : IP} : p ∈ tiesL n cut ↔ p ∈ sides0 n ∨ p ∈ cut := by rw [tiesL, mem_sortP, List.mem_append]
def isBeside (T : List IP) (a b : Int) (c : Nat) : Bool := decide (tieOf a c ∈ T) && decide (tieOf b c ∈ T)
def besideL (n : Nat) (T : List IP) (a b : Int) : List Int := ((List.range n).filter (isBeside T a b)).map fun c : Nat => (c : Int)
/-- a tracked list of pairs -/
def PLt (H : Hp) (a : Addr) (ps : List IP) : Prop := ∃ vs, H a = some (.lst vs) ∧ Prs H vs ps
theorem PLt.same {H H' : Hp} {a : Addr} {ps : List IP} (h : PLt H a ps) (s : Same H H') : PLt H' a ps := by
  obtain ⟨vs, h1, h2⟩ := h
  exact ⟨vs, s _ _ h1, prs_keep (keeps s) h2⟩
theorem PLt.upd {H : Hp} {a b : Addr} {ps : List IP} {xs ys : List V} (h : PLt H a ps) (n : a ≠ b) (hb : H b = some (.lst xs)) : PLt (upd H b (.lst ys)) a ps := by
  obtain ⟨vs, h1, h2⟩ := h
  exact ⟨vs, by rw [upd_ne n]; exact h1, prs_keep (keeps_lst hb) h2⟩
/-- an ear as a tuple -/
def Er (H : Hp) (v : V) (e : Ear) : Prop := ∃ t, v = .ref t ∧ H t = some (.tup [.int e.1, .int e.2.1, .int e.2.2])
theorem er_mono (H H' : Hp) (v : V) (e : Ear) (k : Keeps H H') (h : Er H v e) : Er H' v e := by
  obtain ⟨t, rfl, ht⟩ := h
  exact ⟨t, rfl, k _ _ ht⟩
theorem er_new {H : Hp} {t : Addr} {a b c : Int} (h : H t = some (.tup [.int a, .int b, .int c])) : Er H (.ref t) (a, b, c) := ⟨t, rfl, h⟩
end Pm
/-! ### cuttings and their ties -/
namespace Pm
open PySem PySem.Spec PyProof.Rows L2
/-- cut is the cutting of the tree t -/
structure Cutting (n : Nat) (cut : List IP) (t : Tr) : Prop where
  w : t.w + 1 = n
  n3 : 3 ≤ n
  perm : cut.Perm ((t.ropes 0).map castP)
  rise : Rising cut
theorem drawn_cutting {n : Nat} {es : List Ear} (h : Ears (posts n) es) (hn : 3 ≤ n) : ∃ t, Cutting n (sortP (es.map ropeOf)) t := by
  obtain ⟨t, hw, hp⟩ := drawn_posts h hn
  exact ⟨t, hw, hn, (sortP_perm _).trans hp, sortP_rising _⟩
theorem castP_inj {p q : Nat × Nat} (h : castP p = castP q) : p = q := by
  obtain ⟨a, b⟩ := p
  obtain ⟨c, d⟩ := q
  have e1 := congrArg Prod.fst h
  have e2 := congrArg Prod.snd h
  simp only [castP] at e1 e2
  rw [show a = c by omega, show b = d by omega]
theorem mem_sides0 {n : Nat} {p : IP} (hn : 2 ≤ n) : p ∈ sides0 n ↔ (∃ k : Nat, k + 1 < n ∧ p = castP (k, k + 1)) ∨ p = castP (0, n - 1) := by
  unfold sides0
  rw [List.mem_append, List.mem_map, List.mem_singleton]
  constructor
  · rintro (⟨k, hk, rfl⟩ | rfl)
    · exact .inl ⟨k, by have := List.mem_range.mp hk; omega, by simp [castP]⟩
    · exact .inr (by simp only [castP]; congr 1; omega)
  · rintro (⟨k, hk, rfl⟩ | rfl)
    · exact .inl ⟨k, List.mem_range.mpr (by omega), by simp [castP]⟩
    · exact .inr (by simp only [castP]; congr 1; omega)
section
variable {n : Nat} {cut : List IP} {t : Tr}
theorem Cutting.mem (C : Cutting n cut t) {p : IP} : p ∈ cut ↔ ∃ q, q ∈ t.ropes 0 ∧ p = castP q := by
  rw [C.perm.mem_iff, List.mem_map]
  exact ⟨fun ⟨q, h, e⟩ => ⟨q, h, e.symm⟩, fun ⟨q, h, e⟩ => ⟨q, h, e.symm⟩⟩
theorem Cutting.w2 (C : Cutting n cut t) : 2 ≤ t.w := by have := C.w; have := C.n3; omega
theorem inn_iff {q : Nat × Nat} (h : 2 ≤ t.w) : q ∈ t.inn 0 ↔ q = (0, t.w) ∨ q ∈ t.ropes 0 := by
  rw [Tr.inn_node h, List.mem_cons, Nat.zero_add]
theorem ropes_iff {q : Nat × Nat} (h : 2 ≤ t.w) : q ∈ t.ropes 0 ↔ q ∈ t.inn 0 ∧ q ≠ (0, t.w) := by
  constructor
  · intro hq
    have z := ropes_bd hq
    exact ⟨z.1, fun e => z.2 (by rw [e]; exact ⟨rfl, rfl⟩)⟩
  · rintro ⟨h1, h2⟩
    exact ((inn_iff h).mp h1).resolve_left h2
theorem Cutting.ties (C : Cutting n cut t) {p : IP} : p ∈ tiesL n cut ↔ ∃ q, q ∈ t.all 0 ∧ p = castP q := by
  have h2 := C.w2
  have hw := C.w
  rw [mem_ties, mem_sides0 (by omega), C.mem]
  constructor
  · rintro ((⟨k, hk, rfl⟩ | rfl) | ⟨q, hq, rfl⟩)
    · exact ⟨_, Tr.all_iff.mpr (.inr ⟨Nat.zero_le _, rfl, by simp only; omega⟩), rfl⟩
    · refine ⟨_, Tr.inn_all ((inn_iff h2).mpr (.inl rfl)), ?_⟩
      rw [← hw] <;> rfl
    · exact ⟨q, Tr.inn_all ((inn_iff h2).mpr (.inr hq)), rfl⟩
  · rintro ⟨q, hq, rfl⟩
    rcases Tr.all_iff.mp hq with h | ⟨_, h, h'⟩
    · rcases (inn_iff h2).mp h with rfl | h
      · refine .inl (.inr ?_)
        rw [← hw] <;> rfl
      · exact .inr ⟨q, h, rfl⟩
    · refine .inl (.inl ⟨q.1, by omega, ?_⟩)
      obtain ⟨a, b⟩ := q
      simp only at h
      rw [h]
theorem Cutting.tied (C : Cutting n cut t) {a b : Nat} : castP (a, b) ∈ tiesL n cut ↔ (a, b) ∈ t.all 0 := by
  rw [C.ties]
  exact ⟨fun ⟨q, h, e⟩ => by rw [castP_inj e]; exact h, fun h => ⟨_, h, rfl⟩⟩
theorem tie_cast (a c : Nat) : tieOf (a : Int) (c : Int) = castP (min a c, max a c) := by
  unfold tieOf castP
  simp only
  congr 1 <;> omega
theorem tie_comm (a b : Int) : tieOf a b = tieOf b a := by unfold tieOf; rw [Int.min_comm, Int.max_comm]
theorem beside_comm (T : List IP) (a b : Int) : besideL n T a b = besideL n T b a := by
  unfold besideL
  congr 2
  funext c
  unfold isBeside
  rw [Bool.and_comm]
/-- beside: between, or outside -/
theorem Cutting.beside_iff (C : Cutting n cut t) {a b c : Nat} (hab : a < b) : isBeside (tiesL n cut) a b c = true ↔ ((a < c ∧ c < b) ∧ (a, c) ∈ t.all 0 ∧ (c, b) ∈ t.all 0) ∨ Tr.Out t 0 a b c := by
  unfold isBeside
  rw [Bool.and_eq_true, decide_eq_true_iff, decide_eq_true_iff, tie_cast, tie_cast, C.tied, C.tied]
  rcases Nat.lt_trichotomy c a with h | h | h
  · rw [Nat.min_eq_right (by omega), Nat.max_eq_left (by omega), Nat.min_eq_right (by omega), Nat.max_eq_left (by omega)]
    unfold Tr.Out
    constructor
    · exact fun q => .inr (.inl ⟨h, q⟩)
    · rintro (⟨q, _⟩ | ⟨_, q⟩ | ⟨q, _⟩)
      · omega
      · exact q
      · omega
  · subst h
    rw [Nat.min_self, Nat.max_self]
    constructor
    · rintro ⟨q, _⟩
      have := (Tr.bd q).2.1
      simp only at this
      omega
    · unfold Tr.Out
      rintro (⟨q, _⟩ | ⟨q, _⟩ | ⟨q, _⟩) <;> omega
  · rw [Nat.min_eq_left (by omega), Nat.max_eq_right (by omega)]
    rcases Nat.lt_trichotomy c b with h' | h' | h'
    · rw [Nat.min_eq_right (by omega), Nat.max_eq_left (by omega)]
      unfold Tr.Out
      constructor
      · exact fun q => .inl ⟨⟨h, h'⟩, q⟩
      · rintro (⟨_, q⟩ | ⟨q, _⟩ | ⟨q, _⟩)
        · exact q
        · omega
        · omega
    · subst h'
      rw [Nat.min_self, Nat.max_self]
      constructor
      · rintro ⟨_, q⟩
        have := (Tr.bd q).2.1
        simp only at this
        omega
      · unfold Tr.Out
        rintro (⟨q, _⟩ | ⟨q, _⟩ | ⟨q, _⟩) <;> omega
    · rw [Nat.min_eq_left (by omega), Nat.max_eq_right (by omega)]
      unfold Tr.Out
      constructor
      · exact fun q => .inr (.inr ⟨h', q⟩)
      · rintro (⟨q, _⟩ | ⟨q, _⟩ | ⟨_, q⟩)
        · omega
        · omega
        · exact q
end
theorem filter_range_eq {n : Nat} {p : Nat → Bool} {l : List Nat} (hl : l.Pairwise (· < ·)) (h : ∀ c, c ∈ l ↔ c < n ∧ p c = true) : (List.range n).filter p = l := by
  have h1 : ((List.range n).filter p).Pairwise (· < ·) := List.pairwise_lt_range.sublist List.filter_sublist
  have nd : ∀ {l : List Nat}, l.Pairwise (· < ·) → l.Nodup := fun q => q.imp fun z => by omega
  refine List.Perm.eq_of_pairwise (le := (· < ·)) (fun a b _ _ h1 h2 => absurd h1 (by omega)) h1 hl ((List.perm_ext_iff_of_nodup (nd h1) (nd hl)).mpr fun c => ?_)
  rw [List.mem_filter, List.mem_range, h]
section
variable {n : Nat} {cut : List IP} {t : Tr}
/-- the posts beside a rope: the one between, the one outside -/
theorem Cutting.beside_rope (C : Cutting n cut t) {a b : Nat} (h : (a, b) ∈ t.ropes 0) : ∃ m o : Nat, (a < m ∧ m < b) ∧ (a, m) ∈ t.all 0 ∧ (m, b) ∈ t.all 0 ∧ Tr.Out t 0 a b o ∧ (o < a ∨ b < o) ∧ o < n ∧
    besideL n (tiesL n cut) a b = [((min m o : Nat) : Int), ((max m o : Nat) : Int)] := by
  have hw := C.w
  have hi := (ropes_bd h)
  have hb := Tr.bd (Tr.inn_all hi.1)
  simp only at hb
  obtain ⟨m, hm, h1, h2, u⟩ := Tr.apex_in hi.1
  obtain ⟨o, ho, uo⟩ := Tr.apex_out (Tr.inn_all hi.1) (by rw [Nat.zero_add]; exact hi.2)
  have bo := ho.bd
  have oo : o < a ∨ b < o := by
    rcases ho with ⟨q, _⟩ | ⟨q, _⟩
    · exact .inl q
    · exact .inr q
  refine ⟨m, o, hm, h1, h2, ho, oo, by omega, ?_⟩
  have e : (List.range n).filter (isBeside (tiesL n cut) a b) = [min m o, max m o] := by
    refine filter_range_eq ?_ fun c => ?_
    · refine List.pairwise_cons.mpr ⟨fun c hc => ?_, List.pairwise_singleton _ _⟩
      rw [List.mem_singleton.mp hc]
      omega
    · rw [C.beside_iff hb.2.1, List.mem_cons, List.mem_singleton]
      constructor
      · intro hc
        have : c = m ∨ c = o := by omega
        rcases this with rfl | rfl
        · exact ⟨by omega, .inl ⟨hm, h1, h2⟩⟩
        · exact ⟨by omega, .inr ho⟩
      · rintro ⟨_, ⟨hc, q1, q2⟩ | hc⟩
        · have := u c hc.1 hc.2 q1 q2; omega
        · have := uo c hc; omega
  unfold besideL
  rw [e]
  rfl
/-- one post beside a side -/
theorem Cutting.beside_side (C : Cutting n cut t) {a b : Nat} (h : (a, b) ∈ t.all 0) (h' : (a, b) ∉ t.ropes 0) : ∃ m : Nat, m < n ∧ besideL n (tiesL n cut) a b = [(m : Int)] := by
  have hw := C.w
  have w2 := C.w2
  have hb := Tr.bd h
  simp only at hb
  suffices hs : ∃ m : Nat, m < n ∧ ∀ c, (((a < c ∧ c < b) ∧ (a, c) ∈ t.all 0 ∧ (c, b) ∈ t.all 0) ∨ Tr.Out t 0 a b c) ↔ c = m by
    obtain ⟨m, hm, hc⟩ := hs
    refine ⟨m, hm, ?_⟩
    have e : (List.range n).filter (isBeside (tiesL n cut) a b) = [m] := by
      refine filter_range_eq (List.pairwise_singleton _ _) fun c => ?_
      rw [C.beside_iff hb.2.1, hc, List.mem_singleton]
      exact ⟨fun e => ⟨by omega, e⟩, fun e => e.2⟩
    unfold besideL
    rw [e]
    rfl
  rcases Tr.all_iff.mp h with hi | hi
  · have er : (a, b) = (0, t.w) := by
      rcases (inn_iff w2).mp hi with e | e
      · exact e
      · exact absurd e h'
    obtain ⟨rfl, rfl⟩ := Prod.mk.inj er
    obtain ⟨m, hm, h1, h2, u⟩ := Tr.apex_in hi
    refine ⟨m, by omega, fun c => ⟨?_, fun e => .inl (by rw [e]; exact ⟨hm, h1, h2⟩)⟩⟩
    rintro (⟨q, q1, q2⟩ | q)
    · exact u c q.1 q.2 q1 q2
    · have := q.bd
      rcases q with ⟨q, _⟩ | ⟨q, _⟩ <;> omega
  · simp only at hi
    have nr : ¬ (a = 0 ∧ b = 0 + t.w) := by omega
    obtain ⟨o, ho, uo⟩ := Tr.apex_out h nr
    have := ho.bd
    refine ⟨o, by omega, fun c => ⟨?_, fun e => .inr (by rw [e]; exact ho)⟩⟩
    rintro (⟨q, _⟩ | q)
    · omega
    · exact uo c q
/-- how many posts are beside a tie -/
theorem Cutting.beside_len (C : Cutting n cut t) {a b : Int} (h : tieOf a b ∈ tiesL n cut) : (besideL n (tiesL n cut) a b).length = 1 + (if tieOf a b ∈ cut then 1 else 0) := by
  obtain ⟨⟨x, y⟩, hq, e⟩ := C.ties.mp h
  have hb := Tr.bd hq
  simp only at hb
  have main : (besideL n (tiesL n cut) (x : Int) (y : Int)).length = 1 + (if castP (x, y) ∈ cut then 1 else 0) := by
    by_cases hr : (x, y) ∈ t.ropes 0
    · obtain ⟨m, o, _, _, _, _, _, _, z⟩ := C.beside_rope hr
      rw [z, if_pos (C.mem.mpr ⟨_, hr, rfl⟩)]
      rfl
    · obtain ⟨m, _, z⟩ := C.beside_side hq hr
      rw [z, if_neg (fun hc => by
        obtain ⟨q, h1, h2⟩ := C.mem.mp hc
        rw [← castP_inj h2] at h1
        exact hr h1)]
      rfl
  rw [e]
  have e1 := congrArg Prod.fst e
  have e2 := congrArg Prod.snd e
  simp only [tieOf, castP] at e1 e2
  by_cases hab : a ≤ b
  · rw [Int.min_eq_left hab] at e1
    rw [Int.max_eq_right hab] at e2
    rw [e1, e2]
    exact main
  · rw [Int.min_eq_right (by omega)] at e1
    rw [Int.max_eq_left (by omega)] at e2
    rw [beside_comm, e1, e2]
    exact main
end
end Pm
/-! ### a rope turned: the tree rotated -/
namespace Pm
namespace Tr
theorem noncross : ∀ {t : Tr} {lo : Nat} {p q : Nat × Nat}, p ∈ t.all lo → q ∈ t.all lo → ¬ (p.1 < q.1 ∧ q.1 < p.2 ∧ p.2 < q.2)
  | leaf, lo, p, q, hp, hq => by
    rw [List.mem_singleton.mp hp, List.mem_singleton.mp hq]
    simp only
    omega
  | node l r, lo, p, q, hp, hq => by
    have bp := bd hp
    have bq := bd hq
    have e : (node l r).w = l.w + r.w := rfl
    rw [e] at bp bq
    rcases mem_node.mp hp with h | h | h <;> rcases mem_node.mp hq with k | k | k
    · rw [h, k]; simp only; omega
    · rw [h]; simp only; omega
    · rw [h]; simp only; omega
    · rw [k]; simp only; omega
    · exact noncross h k
    · have := bd h; have := bd k; omega
    · rw [k]; simp only; omega
    · have := bd h; have := bd k; omega
    · exact noncross h k
theorem inn_nodup : ∀ (t : Tr) (lo : Nat), (t.inn lo).Nodup
  | leaf, _ => List.nodup_nil
  | node l r, lo => by
    have wl := l.w_pos
    have wr := r.w_pos
    show ((lo, lo + (l.w + r.w)) :: (l.inn lo ++ r.inn (lo + l.w))).Nodup
    refine List.nodup_cons.mpr ⟨fun h => ?_, List.nodup_append.mpr ⟨inn_nodup l lo, inn_nodup r _, fun a ha b hb e => ?_⟩⟩
    · rcases List.mem_append.mp h with h | h
      · have := bd (inn_all h); simp only at this; omega
      · have := bd (inn_all h); simp only at this; omega
    · subst e
      have := bd (inn_all ha)
      have := bd (inn_all hb)
      omega
theorem ropes_nodup (t : Tr) (lo : Nat) : (t.ropes lo).Nodup := by
  cases t with
  | leaf => exact List.nodup_nil
  | node l r => exact (List.nodup_cons.mp (inn_nodup (node l r) lo)).2
/-- the tree turned at the rope (x, y), its ropes by a common rest R; m between, o outside -/
structure Flip (t t' : Tr) (lo x y m o : Nat) (R : List (Nat × Nat)) : Prop where
  w : t'.w = t.w
  old : (t.ropes lo).Perm ((x, y) :: R)
  new : (t'.ropes lo).Perm ((min m o, max m o) :: R)
  btw : x < m ∧ m < y
  out : Out t lo x y o
  am : (x, m) ∈ t.all lo
  mb : (m, y) ∈ t.all lo
theorem flip_up_l {l l' r : Tr} {lo x y m o : Nat} {R : List (Nat × Nat)} (hl : 2 ≤ l.w) (F : Flip l l' lo x y m o R) : Flip (node l r) (node l' r) lo x y m o ((lo, lo + l.w) :: (R ++ r.inn (lo + l.w))) := by
  refine ⟨?_, ?_, ?_, F.btw, F.out.up_l, mem_node.mpr (.inr (.inl F.am)), mem_node.mpr (.inr (.inl F.mb))⟩
  · show l'.w + r.w = l.w + r.w
    rw [F.w]
  · show (l.inn lo ++ r.inn (lo + l.w)).Perm _
    rw [inn_node hl]
    exact ((F.old.append_right _).cons _).trans (List.Perm.swap _ _ _)
  · show (l'.inn lo ++ r.inn (lo + l'.w)).Perm _
    rw [inn_node (show 2 ≤ l'.w by rw [F.w]; exact hl), F.w]
    exact ((F.new.append_right _).cons _).trans (List.Perm.swap _ _ _)
theorem flip_up_r {l r r' : Tr} {lo x y m o : Nat} {R : List (Nat × Nat)} (hr : 2 ≤ r.w) (F : Flip r r' (lo + l.w) x y m o R) : Flip (node l r) (node l r') lo x y m o ((lo + l.w, lo + l.w + r.w) :: (R ++ l.inn lo)) := by
  refine ⟨?_, ?_, ?_, F.btw, F.out.up_r, mem_node.mpr (.inr (.inr F.am)), mem_node.mpr (.inr (.inr F.mb))⟩
  · show l.w + r'.w = l.w + r.w
    rw [F.w]
  · show (l.inn lo ++ r.inn (lo + l.w)).Perm _
    rw [inn_node hr]
    refine List.perm_append_comm.trans ?_
    exact ((F.old.append_right _).cons _).trans (List.Perm.swap _ _ _)
  · show (l.inn lo ++ r'.inn (lo + l.w)).Perm _
    rw [inn_node (show 2 ≤ r'.w by rw [F.w]; exact hr), F.w]
    refine List.perm_append_comm.trans ?_
    exact ((F.new.append_right _).cons _).trans (List.Perm.swap _ _ _)
theorem flip : ∀ {t : Tr} {lo x y : Nat}, (x, y) ∈ t.ropes lo → ∃ t' m o R, Flip t t' lo x y m o R
  | leaf, _, _, _, h => by cases h
  | node l r, lo, x, y, h => by
    have wl := l.w_pos
    have wr := r.w_pos
    rcases List.mem_append.mp h with h | h
    · have wl2 : 2 ≤ l.w := by
        cases l with
        | leaf => cases h
        | node a b => have := a.w_pos; have := b.w_pos; show 2 ≤ a.w + b.w; omega
      rw [inn_node wl2] at h
      rcases List.mem_cons.mp h with h | h
      · obtain ⟨rfl, rfl⟩ := Prod.mk.inj h
        cases l with
        | leaf => exact absurd wl2 (by show ¬ 2 ≤ 1; omega)
        | node a b =>
          have wa := a.w_pos
          have wb := b.w_pos
          refine ⟨node a (node b r), x + a.w, x + (a.w + b.w + r.w), a.inn x ++ (b.inn (x + a.w) ++ r.inn (x + (a.w + b.w))), ?_, ?_, ?_, ?_, ?_, ?_, ?_⟩
          · show a.w + (b.w + r.w) = a.w + b.w + r.w; omega
          · show (((x, x + (a.w + b.w)) :: (a.inn x ++ b.inn (x + a.w))) ++ r.inn (x + (a.w + b.w))).Perm _
            rw [List.cons_append, List.append_assoc]
            exact List.Perm.refl _
          · show (a.inn x ++ ((x + a.w, x + a.w + (b.w + r.w)) :: (b.inn (x + a.w) ++ r.inn (x + a.w + b.w)))).Perm _
            rw [Nat.min_eq_left (by omega), Nat.max_eq_right (by omega), show x + a.w + (b.w + r.w) = x + (a.w + b.w + r.w) by omega, show x + a.w + b.w = x + (a.w + b.w) by omega]
            exact List.perm_middle
          · show x < x + a.w ∧ x + a.w < x + (a.w + b.w); omega
          · refine .inr ⟨?_, mem_node.mpr (.inl rfl), mem_node.mpr (.inr (.inr ?_))⟩
            · show x + (a.w + b.w) < x + (a.w + b.w + r.w); omega
            · show (x + (a.w + b.w), x + (a.w + b.w + r.w)) ∈ r.all (x + (a.w + b.w))
              rw [show x + (a.w + b.w + r.w) = x + (a.w + b.w) + r.w by omega]; exact root_mem
          · exact mem_node.mpr (.inr (.inl (mem_node.mpr (.inr (.inl root_mem)))))
          · refine mem_node.mpr (.inr (.inl (mem_node.mpr (.inr (.inr ?_)))))
            show (x + a.w, x + (a.w + b.w)) ∈ b.all (x + a.w)
            rw [show x + (a.w + b.w) = x + a.w + b.w by omega]; exact root_mem
      · obtain ⟨l', m, o, R, F⟩ := flip h
        exact ⟨node l' r, m, o, _, flip_up_l wl2 F⟩
    · have wr2 : 2 ≤ r.w := by
        cases r with
        | leaf => cases h
        | node a b => have := a.w_pos; have := b.w_pos; show 2 ≤ a.w + b.w; omega
      rw [inn_node wr2] at h
      rcases List.mem_cons.mp h with h | h
      · obtain ⟨rfl, rfl⟩ := Prod.mk.inj h
        cases r with
        | leaf => exact absurd wr2 (by show ¬ 2 ≤ 1; omega)
        | node a b =>
          have wa := a.w_pos
          have wb := b.w_pos
          refine ⟨node (node l a) b, lo + l.w + a.w, lo, l.inn lo ++ (a.inn (lo + l.w) ++ b.inn (lo + l.w + a.w)), ?_, ?_, ?_, ?_, ?_, ?_, ?_⟩
          · show l.w + a.w + b.w = l.w + (a.w + b.w); omega
          · show (l.inn lo ++ ((lo + l.w, lo + l.w + (a.w + b.w)) :: (a.inn (lo + l.w) ++ b.inn (lo + l.w + a.w)))).Perm _
            exact List.perm_middle
          · show (((lo, lo + (l.w + a.w)) :: (l.inn lo ++ a.inn (lo + l.w))) ++ b.inn (lo + (l.w + a.w))).Perm _
            rw [Nat.min_eq_right (by omega), Nat.max_eq_left (by omega), List.cons_append, List.append_assoc, show lo + (l.w + a.w) = lo + l.w + a.w by omega]
          · show lo + l.w < lo + l.w + a.w ∧ lo + l.w + a.w < lo + l.w + (a.w + b.w); omega
          · refine .inl ⟨by omega, mem_node.mpr (.inr (.inl root_mem)), mem_node.mpr (.inl ?_)⟩
            show (lo, lo + l.w + (a.w + b.w)) = (lo, lo + (l.w + (a.w + b.w)))
            congr 1
            omega
          · exact mem_node.mpr (.inr (.inr (mem_node.mpr (.inr (.inl root_mem)))))
          · refine mem_node.mpr (.inr (.inr (mem_node.mpr (.inr (.inr ?_)))))
            show (lo + l.w + a.w, lo + l.w + (a.w + b.w)) ∈ b.all (lo + l.w + a.w)
            rw [show lo + l.w + (a.w + b.w) = lo + l.w + a.w + b.w by omega]; exact root_mem
      · obtain ⟨r', m, o, R, F⟩ := flip h
        exact ⟨node l r', m, o, _, flip_up_r wr2 F⟩
end Tr
open PySem PySem.Spec PyProof.Rows L2
/-- the cutting behind a turning -/
def turnedL (n : Nat) (cut : List IP) (a b : Int) : List IP :=
  let e := besideL n (tiesL n cut) a b
  sortP (cut.filter (fun p => !decide (p = tieOf a b)) ++ [(e.getD 0 0, e.getD 1 0)])
structure Turning (n : Nat) (cut : List IP) (t t' : Tr) (x y m o : Nat) (R : List (Nat × Nat)) : Prop where
  F : Tr.Flip t t' 0 x y m o R
  bes : besideL n (tiesL n cut) x y = [((min m o : Nat) : Int), ((max m o : Nat) : Int)]
  out : o < x ∨ y < o
  on : o < n
  rest : (cut.filter (fun p => !decide (p = castP (x, y)))).Perm (R.map castP)
  cut' : Cutting n (turnedL n cut x y) t'
theorem Cutting.turn {n : Nat} {cut : List IP} {t : Tr} (C : Cutting n cut t) {x y : Nat} (h : (x, y) ∈ t.ropes 0) : ∃ t' m o R, Turning n cut t t' x y m o R := by
  obtain ⟨t', m, o, R, F⟩ := Tr.flip h
  obtain ⟨m2, o2, hm2, h1, h2, ho2, oo, on, eb⟩ := C.beside_rope h
  have hi := (ropes_bd h).1
  obtain ⟨m3, _, _, _, u⟩ := Tr.apex_in hi
  have em : m = m2 := (u m F.btw.1 F.btw.2 F.am F.mb).trans (u m2 hm2.1 hm2.2 h1 h2).symm
  obtain ⟨o3, _, uo⟩ := Tr.apex_out (Tr.inn_all hi) (by rw [Nat.zero_add]; exact (ropes_bd h).2)
  have eo : o = o2 := (uo o F.out).trans (uo o2 ho2).symm
  subst em; subst eo
  have pc : cut.Perm (castP (x, y) :: R.map castP) := C.perm.trans (F.old.map castP)
  have hb := Tr.bd (Tr.inn_all hi)
  simp only at hb
  have nR : castP (x, y) ∉ R.map castP := fun q => by
    obtain ⟨z, hz, e⟩ := List.mem_map.mp q
    rw [castP_inj e] at hz
    have nd := (F.old.nodup_iff).mp (Tr.ropes_nodup t 0)
    exact (List.nodup_cons.mp nd).1 hz
  have rest : (cut.filter (fun p => !decide (p = castP (x, y)))).Perm (R.map castP) := by
    refine (pc.filter _).trans ?_
    rw [List.filter_cons_of_neg (by simp)]
    rw [List.filter_eq_self.mpr]
    intro p hp
    have : p ≠ castP (x, y) := fun e => nR (by rw [← e]; exact hp)
    simp [this]
  have tx : tieOf (x : Int) (y : Int) = castP (x, y) := by rw [tie_cast, Nat.min_eq_left (by omega), Nat.max_eq_right (by omega)]
  refine ⟨t', m, o, R, F, eb, oo, on, rest, ?_, C.n3, ?_, sortP_rising _⟩
  · rw [F.w]; exact C.w
  · unfold turnedL
    simp only
    rw [eb, tx]
    refine (sortP_perm _).trans ?_
    refine (rest.append_right _).trans ?_
    refine (List.perm_append_singleton _ _).trans ?_
    exact (F.new.map castP).symm
/-- the new rope of a turning -/
theorem turned_comm (n : Nat) (cut : List IP) (a b : Int) : turnedL n cut a b = turnedL n cut b a := by
  unfold turnedL
  rw [beside_comm, tie_comm]
section
variable {n : Nat} {cut : List IP} {t t' : Tr} {x y m o : Nat} {R : List (Nat × Nat)}
theorem Turning.all_iff (C : Cutting n cut t) (U : Turning n cut t t' x y m o R) {q : Nat × Nat} : q ∈ t'.all 0 ↔ (q ∈ t.all 0 ∧ q ≠ (x, y)) ∨ q = (min m o, max m o) := by
  have h : (x, y) ∈ t.ropes 0 := U.F.old.mem_iff.mpr List.mem_cons_self
  have w2 := C.w2
  have w2' : 2 ≤ t'.w := by rw [U.F.w]; exact w2
  have nd := (U.F.old.nodup_iff).mp (Tr.ropes_nodup t 0)
  have wide := Tr.inn_wide (ropes_bd h).1
  simp only at wide
  have hr := (ropes_iff w2).mp h
  rw [Tr.all_iff, Tr.all_iff, inn_iff w2, inn_iff w2', U.F.old.mem_iff, U.F.new.mem_iff, List.mem_cons, List.mem_cons, U.F.w]
  constructor
  · rintro ((e | e | e) | e)
    · refine .inl ⟨.inl (.inl e), fun z => hr.2 (by rw [← z]; exact e)⟩
    · exact .inr e
    · refine .inl ⟨.inl (.inr (.inr e)), fun z => (List.nodup_cons.mp nd).1 (by rw [← z]; exact e)⟩
    · refine .inl ⟨.inr e, fun z => ?_⟩
      rw [z] at e
      simp only at e
      omega
  · rintro (⟨(e | e | e) | e, ne⟩ | e)
    · exact .inl (.inl e)
    · exact absurd e ne
    · exact .inl (.inr (.inr e))
    · exact .inr e
    · exact .inl (.inr (.inl e))
/-- the new rope crosses the old one -/
theorem Turning.cross (C : Cutting n cut t) (U : Turning n cut t t' x y m o R) : (x < m ∧ m < y ∧ y < o ∧ min m o = m ∧ max m o = o) ∨ (o < x ∧ x < m ∧ m < y ∧ min m o = o ∧ max m o = m) := by
  have b := U.F.btw
  rcases U.out with h | h <;> omega
/-- turned again, the old cutting -/
theorem Turning.back (C : Cutting n cut t) (U : Turning n cut t t' x y m o R) : (min m o, max m o) ∈ t'.ropes 0 ∧ turnedL n (turnedL n cut x y) ((min m o : Nat) : Int) ((max m o : Nat) : Int) = cut := by
  have hnew : (min m o, max m o) ∈ t'.ropes 0 := U.F.new.mem_iff.mpr List.mem_cons_self
  refine ⟨hnew, ?_⟩
  obtain ⟨t2, m2, o2, R2, U2⟩ := U.cut'.turn hnew
  have hold : (x, y) ∈ t.ropes 0 := U.F.old.mem_iff.mpr List.mem_cons_self
  have b := U.F.btw
  have cr := U.cross C
  -- the four ties round the rope stay
  have keep : ∀ {q : Nat × Nat}, q ∈ t.all 0 → q ≠ (x, y) → q ∈ t'.all 0 := fun h1 h2 => (U.all_iff C).mpr (.inl ⟨h1, h2⟩)
  have hi2 := (ropes_bd hnew).1
  obtain ⟨m3, hm3, _, _, u⟩ := Tr.apex_in hi2
  obtain ⟨o3, ho3, uo⟩ := Tr.apex_out (Tr.inn_all hi2) (by rw [Nat.zero_add]; exact (ropes_bd hnew).2)
  have em2 : m2 = m3 := u m2 U2.F.btw.1 U2.F.btw.2 U2.F.am U2.F.mb
  have eo2 : o2 = o3 := uo o2 U2.F.out
  have kam : (x, m) ∈ t'.all 0 := keep U.F.am (fun e => by have := (Prod.mk.inj e).2; omega)
  have kmb : (m, y) ∈ t'.all 0 := keep U.F.mb (fun e => by have := (Prod.mk.inj e).1; omega)
  have both : min m2 o2 = x ∧ max m2 o2 = y := by
    rcases U.F.out with ⟨ho, h1, h2⟩ | ⟨ho, h1, h2⟩
    · have k1 := keep h1 (fun e => by have := (Prod.mk.inj e).2; omega)
      have k2 := keep h2 (fun e => by have := (Prod.mk.inj e).1; omega)
      have e1 : min m o = o := by omega
      have e2 : max m o = m := by omega
      rw [e1, e2] at u uo
      have ex : x = m3 := u x ho b.1 k1 kam
      have ey : y = o3 := uo y (.inr ⟨b.2, k2, kmb⟩)
      omega
    · have k1 := keep h1 (fun e => by have := (Prod.mk.inj e).2; omega)
      have k2 := keep h2 (fun e => by have := (Prod.mk.inj e).1; omega)
      have e1 : min m o = m := by omega
      have e2 : max m o = o := by omega
      rw [e1, e2] at u uo
      have ey : y = m3 := u y b.2 ho kmb k2
      have ex : x = o3 := uo x (.inl ⟨b.1, kam, k1⟩)
      omega
  refine rising_eq (sortP_rising _) C.rise ?_
  have p2 := U2.cut'.perm
  refine p2.trans ?_
  have q1 : (t2.ropes 0).Perm ((x, y) :: R2) := by have := U2.F.new; rw [both.1, both.2] at this; exact this
  have q2 : R2.Perm R := by
    have z := (U2.F.old.symm.trans U.F.new).cons_inv
    exact z
  refine (q1.map castP).trans ?_
  refine ((q2.cons _).map castP).trans ?_
  exact ((C.perm.trans (U.F.old.map castP))).symm
end
end Pm
namespace Pm
open PySem PySem.Spec PyProof.Rows L2
/-! ### two pairs that cross -/
def crossP (a b c d : Int) : Prop := (c ≠ min a b ∧ c ≠ max a b ∧ d ≠ min a b ∧ d ≠ max a b) ∧ ¬ ((min a b < c ∧ c < max a b) ↔ (min a b < d ∧ d < max a b))
instance (a b c d : Int) : Decidable (crossP a b c d) := by unfold crossP; exact inferInstance

theorem cross_no {a b c d : Int} (h : c = min a b ∨ c = max a b ∨ d = min a b ∨ d = max a b) : decide (crossP a b c d) = false := by
  refine decide_eq_false fun q => ?_
  obtain ⟨⟨h1, h2, h3, h4⟩, _⟩ := q
  rcases h with h | h | h | h
  · exact h1 h
  · exact h2 h
  · exact h3 h
  · exact h4 h
theorem cross_is {a b c d : Int} {x y : Bool} (h : c ≠ min a b ∧ c ≠ max a b ∧ d ≠ min a b ∧ d ≠ max a b) (hx : x = decide (min a b < c ∧ c < max a b)) (hy : y = decide (min a b < d ∧ d < max a b)) : (!(x == y)) = decide (crossP a b c d) := by
  subst hx; subst hy
  by_cases h1 : (min a b < c ∧ c < max a b) <;> by_cases h2 : (min a b < d ∧ d < max a b)
  · rw [decide_eq_true h1, decide_eq_true h2, decide_eq_false (show ¬ crossP a b c d from fun q => q.2 ⟨fun _ => h2, fun _ => h1⟩)]; rfl
  · rw [decide_eq_true h1, decide_eq_false h2, decide_eq_true (show crossP a b c d from ⟨h, fun q => h2 (q.mp h1)⟩)]; rfl
  · rw [decide_eq_false h1, decide_eq_true h2, decide_eq_true (show crossP a b c d from ⟨h, fun q => h1 (q.mpr h2)⟩)]; rfl
  · rw [decide_eq_false h1, decide_eq_false h2, decide_eq_false (show ¬ crossP a b c d from fun q => q.2 ⟨fun z => absurd z h1, fun z => absurd z h2⟩)]; rfl
def spCross (K : PySem.W.Frag) : Sp := fun vs H Q _ => ∃ (t u : Addr) (a b c d : Int), vs = [.ref t, .ref u] ∧ SqT K H t [.int a, .int b] ∧ SqT K H u [.int c, .int d] ∧ Q (.bl (decide (crossP a b c d))) H
theorem mem2 {a b c : Int} : c ∈ [a, b] ↔ c = min a b ∨ c = max a b := by
  rw [List.mem_cons, List.mem_singleton]
  omega
theorem cross_iff {a b c d : Int} (h1 : a < b) (h2 : c < d) : crossP a b c d ↔ (a < c ∧ c < b ∧ b < d) ∨ (c < a ∧ a < d ∧ d < b) := by
  unfold crossP
  rw [Int.min_eq_left (by omega), Int.max_eq_right (by omega)]
  omega
/-- ties of a cutting do not cross -/
theorem Cutting.nocross {n : Nat} {cut : List IP} {t : Tr} (C : Cutting n cut t) {p q : IP} (hp : p ∈ tiesL n cut) (hq : q ∈ tiesL n cut) : ¬ crossP p.1 p.2 q.1 q.2 := by
  obtain ⟨⟨a, b⟩, ha, rfl⟩ := C.ties.mp hp
  obtain ⟨⟨c, d⟩, hc, rfl⟩ := C.ties.mp hq
  have h1 := Tr.bd ha
  have h2 := Tr.bd hc
  simp only at h1 h2
  have n1 := Tr.noncross ha hc
  have n2 := Tr.noncross hc ha
  simp only at n1 n2
  simp only [castP]
  rw [cross_iff (by omega) (by omega)]
  omega
section
variable {n : Nat} {cut : List IP} {t t' : Tr} {x y m o : Nat} {R : List (Nat × Nat)}
theorem Turning.rope_mem (U : Turning n cut t t' x y m o R) : (x, y) ∈ t.ropes 0 := U.F.old.mem_iff.mpr List.mem_cons_self
theorem Turning.new_mem (U : Turning n cut t t' x y m o R) : (min m o, max m o) ∈ t'.ropes 0 := U.F.new.mem_iff.mpr List.mem_cons_self
theorem Turning.cutP (C : Cutting n cut t) (U : Turning n cut t t' x y m o R) : cut.Perm (castP (x, y) :: R.map castP) := C.perm.trans (U.F.old.map castP)
theorem Turning.newP (U : Turning n cut t t' x y m o R) : (turnedL n cut x y).Perm (castP (min m o, max m o) :: R.map castP) := U.cut'.perm.trans (U.F.new.map castP)
theorem Turning.len (C : Cutting n cut t) (U : Turning n cut t t' x y m o R) : (turnedL n cut x y).length = cut.length := by
  rw [U.newP.length_eq, (U.cutP C).length_eq] <;> rfl
theorem Turning.new_cross (C : Cutting n cut t) (U : Turning n cut t t' x y m o R) : crossP (castP (min m o, max m o)).1 (castP (min m o, max m o)).2 (castP (x, y)).1 (castP (x, y)).2 := by
  have c := U.cross C
  have b := U.F.btw
  simp only [castP]
  rw [cross_iff (by omega) (by omega)]
  omega
theorem Turning.new_notin (C : Cutting n cut t) (U : Turning n cut t t' x y m o R) : castP (min m o, max m o) ∉ tiesL n cut := fun h => by
  exact C.nocross h (mem_ties.mpr (.inr (C.mem.mpr ⟨_, U.rope_mem, rfl⟩))) (U.new_cross C)
theorem Turning.old_notin (C : Cutting n cut t) (U : Turning n cut t t' x y m o R) : castP (x, y) ∉ turnedL n cut x y := fun h => by
  have h2 : castP (x, y) ∈ tiesL n (turnedL n cut x y) := mem_ties.mpr (.inr h)
  have h3 : castP (min m o, max m o) ∈ tiesL n (turnedL n cut x y) := mem_ties.mpr (.inr (U.cut'.mem.mpr ⟨_, U.new_mem, rfl⟩))
  exact U.cut'.nocross h3 h2 (U.new_cross C)
theorem Turning.fresh (C : Cutting n cut t) (U : Turning n cut t t' x y m o R) : (turnedL n cut x y).filter (fun p => !decide (p ∈ cut)) = [castP (min m o, max m o)] := by
  have pp := U.newP.filter (fun p => !decide (p ∈ cut))
  rw [List.filter_cons_of_pos (by
    have : castP (min m o, max m o) ∉ cut := fun h => U.new_notin C (mem_ties.mpr (.inr h))
    simp [this])] at pp
  have e2 : (R.map castP).filter (fun p => !decide (p ∈ cut)) = [] := List.filter_eq_nil_iff.mpr (fun p hp => by
    have : p ∈ cut := (U.cutP C).mem_iff.mpr (List.mem_cons_of_mem _ hp)
    simp [this])
  rw [e2] at pp
  exact List.perm_singleton.mp pp
theorem Turning.keeps (C : Cutting n cut t) (U : Turning n cut t t' x y m o R) {p : IP} (hp : p ∈ cut) (hne : p ≠ castP (x, y)) : p ∈ turnedL n cut x y ∧ ¬ crossP p.1 p.2 (castP (min m o, max m o)).1 (castP (min m o, max m o)).2 := by
  have h1 : p ∈ turnedL n cut x y := by
    rcases List.mem_cons.mp ((U.cutP C).mem_iff.mp hp) with e | e
    · exact absurd e hne
    · exact U.newP.mem_iff.mpr (List.mem_cons_of_mem _ e)
  exact ⟨h1, U.cut'.nocross (mem_ties.mpr (.inr h1)) (mem_ties.mpr (.inr (U.cut'.mem.mpr ⟨_, U.new_mem, rfl⟩)))⟩
theorem Turning.new_bd (C : Cutting n cut t) (U : Turning n cut t t' x y m o R) : min m o < max m o ∧ max m o < n := by
  have h := Tr.bd (Tr.inn_all (ropes_bd U.new_mem).1)
  have := U.cut'.w
  simp only at h
  omega
end
/-- any two numbers that are a rope -/
theorem Cutting.rope_of {n : Nat} {cut : List IP} {t : Tr} (C : Cutting n cut t) {a b : Int} (h : tieOf a b ∈ cut) : ∃ x y : Nat, (x, y) ∈ t.ropes 0 ∧ tieOf a b = castP (x, y) ∧ x < y ∧ y < n ∧ ((a = x ∧ b = y) ∨ (a = y ∧ b = x)) := by
  obtain ⟨⟨x, y⟩, hq, e⟩ := C.mem.mp h
  have hb := Tr.bd (Tr.inn_all (ropes_bd hq).1)
  have hw := C.w
  simp only at hb
  refine ⟨x, y, hq, e, hb.2.1, by omega, ?_⟩
  have e1 := congrArg Prod.fst e
  have e2 := congrArg Prod.snd e
  simp only [tieOf, castP] at e1 e2
  omega
theorem Cutting.beside2 {n : Nat} {cut : List IP} {t : Tr} (C : Cutting n cut t) {a b : Int} (h : tieOf a b ∈ cut) : 2 ≤ (besideL n (tiesL n cut) a b).length := by
  rw [C.beside_len (mem_ties.mpr (.inr h)), if_pos h]
  decide
theorem Cutting.turned_any {n : Nat} {cut : List IP} {t : Tr} (C : Cutting n cut t) {a b : Int} (h : tieOf a b ∈ cut) : ∃ t' x y m o R, Turning n cut t t' x y m o R ∧ tieOf a b = castP (x, y) ∧ turnedL n cut a b = turnedL n cut x y := by
  obtain ⟨x, y, hq, e, _, _, c⟩ := C.rope_of h
  obtain ⟨t', m, o, R, U⟩ := C.turn hq
  refine ⟨t', x, y, m, o, R, U, e, ?_⟩
  rcases c with ⟨rfl, rfl⟩ | ⟨rfl, rfl⟩
  · rfl
  · exact turned_comm _ _ _ _
end Pm
/-! ### pairs that are a cutting -/
namespace Pm
open PySem PySem.Spec PyProof.Rows L2
def ropeOk (n : Int) (p : IP) : Prop := 0 ≤ p.1 ∧ p.2 < n ∧ 2 ≤ p.2 - p.1 ∧ p.2 - p.1 < n - 1
instance (n : Int) (p : IP) : Decidable (ropeOk n p) := by unfold ropeOk; exact inferInstance
def okPair (p q : IP) : Prop := p ≠ q ∧ ¬ crossP p.1 p.2 q.1 q.2
instance (p q : IP) : Decidable (okPair p q) := by unfold okPair; exact inferInstance
structure GoodP (n : Int) (l : List IP) : Prop where
  ok : ∀ p ∈ l, ropeOk n p
  pw : l.Pairwise okPair
theorem good_nil (n : Int) : GoodP n [] := ⟨fun _ h => absurd h List.not_mem_nil, List.Pairwise.nil⟩
theorem good_snoc {n : Int} {l : List IP} {x : IP} : GoodP n (l ++ [x]) ↔ GoodP n l ∧ ropeOk n x ∧ ∀ p ∈ l, okPair p x := by
  constructor
  · rintro ⟨h1, h2⟩
    have h2 := List.pairwise_append.mp h2
    exact ⟨⟨fun p hp => h1 p (List.mem_append_left _ hp), h2.1⟩, h1 x (List.mem_append_right _ (List.mem_singleton.mpr rfl)), fun p hp => h2.2.2 p hp x (List.mem_singleton.mpr rfl)⟩
  · rintro ⟨⟨h1, h2⟩, h3, h4⟩
    refine ⟨fun p hp => ?_, List.pairwise_append.mpr ⟨h2, List.pairwise_singleton _ _, fun a ha b hb => ?_⟩⟩
    · rcases List.mem_append.mp hp with h | h
      · exact h1 p h
      · rw [List.mem_singleton.mp h]; exact h3
    · rw [List.mem_singleton.mp hb]; exact h4 a ha
theorem good_take {n : Int} {l : List IP} {k : Nat} (h : GoodP n l) : GoodP n (l.take k) := ⟨fun p hp => h.ok p (List.mem_of_mem_take hp), h.pw.sublist (List.take_sublist k l)⟩
theorem okPair_symm {n : Int} {p q : IP} (hp : ropeOk n p) (hq : ropeOk n q) (h : okPair p q) : okPair q p := by
  unfold ropeOk at hp hq
  refine ⟨fun e => h.1 e.symm, fun c => h.2 ?_⟩
  rw [cross_iff (by omega) (by omega)] at c ⊢
  omega
theorem good_perm {n : Int} {l m : List IP} (e : l.Perm m) (h : GoodP n l) : GoodP n m := by
  have hok : ∀ p ∈ m, ropeOk n p := fun p hp => h.ok p (e.mem_iff.mpr hp)
  refine ⟨hok, ?_⟩
  have h1 : l.Pairwise (fun p q => (ropeOk n p ∧ ropeOk n q) ∧ okPair p q) := by
    have := h.pw
    refine List.pairwise_iff_getElem.mpr fun i j hi hj hij => ⟨⟨h.ok _ (List.getElem_mem hi), h.ok _ (List.getElem_mem hj)⟩, List.pairwise_iff_getElem.mp this i j hi hj hij⟩
  have sy : ∀ {p q : IP}, (ropeOk n p ∧ ropeOk n q) ∧ okPair p q → (ropeOk n q ∧ ropeOk n p) ∧ okPair q p := fun ⟨⟨a, b⟩, c⟩ => ⟨⟨b, a⟩, okPair_symm a b c⟩
  exact ((List.Perm.pairwise_iff sy e).mp h1).imp fun z => z.2
def tied (p : IP) : IP := tieOf p.1 p.2
/-- what kept lets by -/
def KeptOk (n : Int) (ps : List IP) : Prop := (3 ≤ n ∧ n ≤ 12) ∧ (ps.length : Int) = n - 3 ∧ GoodP n (sortP (ps.map tied))
theorem kept_iff (n : Int) (ps : List IP) : KeptOk n ps ↔ (3 ≤ n ∧ n ≤ 12) ∧ (ps.length : Int) = n - 3 ∧ GoodP n (ps.map tied) := by
  unfold KeptOk
  exact ⟨fun ⟨h1, h2, h3⟩ => ⟨h1, h2, good_perm (sortP_perm _) h3⟩, fun ⟨h1, h2, h3⟩ => ⟨h1, h2, good_perm (sortP_perm _).symm h3⟩⟩
theorem cross_tied (p : IP) (c d : Int) : crossP (tied p).1 (tied p).2 c d ↔ crossP p.1 p.2 c d := by
  unfold tied tieOf crossP
  have e1 : min (min p.1 p.2) (max p.1 p.2) = min p.1 p.2 := by omega
  have e2 : max (min p.1 p.2) (max p.1 p.2) = max p.1 p.2 := by omega
  simp only [e1, e2]
theorem prs_cut {H : Hp} {vs : List V} {ps : List IP} (lo hi : Option Int) (h : Prs H vs ps) : ∃ ps', Prs H (cutV vs lo hi) ps' ∧ ps'.length ≤ ps.length := by
  refine ⟨(ps.drop (HT.sIx vs.length 0 lo)).take (HT.sIx vs.length vs.length hi - HT.sIx vs.length 0 lo), (h.drop _).take _, ?_⟩
  rw [List.length_take, List.length_drop]
  omega
end Pm
/-! ### the numbers of cuttings -/
namespace Pm
open PySem PySem.Spec PyProof.Rows L2
abbrev partsN : List Nat := [1, 1, 2, 5, 14, 42, 132, 429, 1430, 4862, 16796]
def pc (w : Nat) : Nat := partsN.getD (w - 1) 0
/-- how many cuttings have their first post beside at one of the first k places -/
def ahead (W : Nat) : Nat → Nat
  | 0 => 0
  | k + 1 => ahead W k + pc (k + 1) * pc (W - (k + 1))
theorem ahead_all : ∀ W : Nat, W < 12 → 2 ≤ W → ahead W (W - 1) = pc W := by decide +kernel
theorem pc_pos : ∀ W : Nat, W < 12 → 1 ≤ W → 1 ≤ pc W := by decide +kernel
theorem pc_small : ∀ W : Nat, W < 12 → pc W ≤ 16796 := by decide +kernel
theorem ahead_mono (W : Nat) : ∀ {k j : Nat}, k ≤ j → ahead W k ≤ ahead W j := by
  intro k j h
  induction h with
  | refl => exact Nat.le_refl _
  | step _ ih => exact Nat.le_trans ih (Nat.le_add_right _ _)
theorem ahead_step {W k : Nat} (h : 1 ≤ k) : ahead W k = ahead W (k - 1) + pc k * pc (W - k) := by
  obtain ⟨j, rfl⟩ : ∃ j, k = j + 1 := ⟨k - 1, by omega⟩
  rfl
theorem two_digits {a b c d m : Nat} (h1 : b < m) (h2 : d < m) (h : a * m + b = c * m + d) : a = c ∧ b = d := by
  have key : ∀ {a b c d : Nat}, b < m → a < c → a * m + b < c * m + d := fun {a b c d} hb hac => by
    have : (a + 1) * m ≤ c * m := Nat.mul_le_mul_right _ hac
    rw [Nat.succ_mul] at this
    omega
  rcases Nat.lt_trichotomy a c with q | q | q
  · have := key (d := d) h1 q; omega
  · subst q; exact ⟨rfl, by omega⟩
  · have := key (d := b) h2 q; omega
theorem two_less {a b c d m : Nat} (hb : b < m) (hac : a < c) : a * m + b < c * m + d := by
  have : (a + 1) * m ≤ c * m := Nat.mul_le_mul_right _ hac
  rw [Nat.succ_mul] at this
  omega
namespace Tr
def num : Tr → Nat
  | leaf => 0
  | node l r => ahead (l.w + r.w) (l.w - 1) + (l.num * pc r.w + r.num)
theorem num_lt : ∀ {t : Tr}, t.w < 12 → t.num < pc t.w
  | leaf, _ => by decide
  | node l r, h => by
    have h : l.w + r.w < 12 := h
    have wl := l.w_pos
    have wr := r.w_pos
    have h1 := num_lt (t := l) (by omega)
    have h2 := num_lt (t := r) (by omega)
    have h3 : l.num * pc r.w + r.num < pc l.w * pc r.w + 0 := two_less h2 h1
    have h4 := ahead_step (W := l.w + r.w) wl
    have h5 := ahead_mono (l.w + r.w) (show l.w ≤ l.w + r.w - 1 by omega)
    rw [ahead_all _ h (by omega)] at h5
    rw [show l.w + r.w - l.w = r.w by omega] at h4
    show ahead (l.w + r.w) (l.w - 1) + (l.num * pc r.w + r.num) < pc (l.w + r.w)
    omega
/-- the number stands among those of its first post beside -/
theorem num_in {l r : Tr} (h : l.w + r.w < 12) : ahead (l.w + r.w) (l.w - 1) ≤ (node l r).num ∧ (node l r).num < ahead (l.w + r.w) l.w := by
  have wl := l.w_pos
  have wr := r.w_pos
  have h1 := num_lt (t := l) (by omega)
  have h2 := num_lt (t := r) (by omega)
  have h3 : l.num * pc r.w + r.num < pc l.w * pc r.w + 0 := two_less h2 h1
  have h4 := ahead_step (W := l.w + r.w) wl
  rw [show l.w + r.w - l.w = r.w by omega] at h4
  show ahead (l.w + r.w) (l.w - 1) ≤ ahead (l.w + r.w) (l.w - 1) + (l.num * pc r.w + r.num) ∧ ahead (l.w + r.w) (l.w - 1) + (l.num * pc r.w + r.num) < _
  omega
/-- the order of two cuttings of one ring -/
def ord : Tr → Tr → Int
  | node l r, node l' r' => if l.w ≠ l'.w then (l.w : Int) - l'.w else if ord l l' ≠ 0 then ord l l' else ord r r'
  | _, _ => 0
theorem ord_num : ∀ {t u : Tr}, t.w = u.w → t.w < 12 → (t.num < u.num ↔ ord t u < 0) ∧ (u.num < t.num ↔ 0 < ord t u) ∧ (t.num = u.num → t = u)
  | leaf, leaf, _, _ => by
    refine ⟨⟨fun h => absurd h (by decide), fun h => absurd h (by unfold ord; omega)⟩, ⟨fun h => absurd h (by decide), fun h => absurd h (by unfold ord; omega)⟩, fun _ => rfl⟩
  | leaf, node l r, h, _ => by
    have h : 1 = l.w + r.w := h
    have := l.w_pos
    have := r.w_pos
    omega
  | node l r, leaf, h, _ => by
    have h : l.w + r.w = 1 := h
    have := l.w_pos
    have := r.w_pos
    omega
  | node l r, node l' r', h, h12 => by
    have h : l.w + r.w = l'.w + r'.w := h
    have h12 : l.w + r.w < 12 := h12
    have n1 := num_in (l := l) (r := r) h12
    have n2 := num_in (l := l') (r := r') (by omega)
    have wl := l.w_pos
    have wl' := l'.w_pos
    have wr := r.w_pos
    have wr' := r'.w_pos
    rw [← h] at n2
    unfold ord
    by_cases c : l.w = l'.w
    · rw [if_neg (by omega)]
      have cr : r.w = r'.w := by omega
      obtain ⟨a1, a2, a3⟩ := ord_num (t := l) (u := l') c (by omega)
      obtain ⟨b1, b2, b3⟩ := ord_num (t := r) (u := r') cr (by omega)
      have m1 := num_lt (t := r) (by omega)
      have m2 := num_lt (t := r') (by omega)
      rw [← cr] at m2
      have e1 : (node l r).num = ahead (l.w + r.w) (l.w - 1) + (l.num * pc r.w + r.num) := rfl
      have e2 : (node l' r').num = ahead (l.w + r.w) (l.w - 1) + (l'.num * pc r.w + r'.num) := by rw [h, c, cr]; rfl
      rcases Nat.lt_trichotomy l.num l'.num with q | q | q
      · have z := two_less (d := r'.num) m1 q
        have := a1.mp q
        rw [if_pos (by omega)]
        refine ⟨⟨fun _ => this, fun _ => by omega⟩, ⟨fun _ => by omega, fun _ => by omega⟩, fun _ => by omega⟩
      · have el := a3 q
        have z : ord l l' = 0 := by
          have y1 := mt a1.mpr (by omega)
          have y2 := mt a2.mpr (by omega)
          omega
        rw [if_neg (by omega), e1, e2, q]
        refine ⟨⟨fun _ => b1.mp (by omega), fun y => ?_⟩, ⟨fun _ => b2.mp (by omega), fun y => ?_⟩, fun _ => ?_⟩
        · have := b1.mpr y; omega
        · have := b2.mpr y; omega
        · rw [el, b3 (by omega)]
      · have z := two_less (d := r.num) m2 q
        have := a2.mp q
        rw [if_pos (by omega)]
        refine ⟨⟨fun _ => by omega, fun _ => by omega⟩, ⟨fun _ => this, fun _ => by omega⟩, fun _ => by omega⟩
    · rw [if_pos c]
      by_cases d : l.w < l'.w
      · have := ahead_mono (l.w + r.w) (show l.w ≤ l'.w - 1 by omega)
        refine ⟨⟨fun _ => by omega, fun _ => by omega⟩, ⟨fun _ => by omega, fun _ => by omega⟩, fun _ => by omega⟩
      · have := ahead_mono (l.w + r.w) (show l'.w ≤ l.w - 1 by omega)
        refine ⟨⟨fun _ => by omega, fun _ => by omega⟩, ⟨fun _ => by omega, fun _ => by omega⟩, fun _ => by omega⟩
theorem num_inj {t u : Tr} (h : t.w = u.w) (h12 : t.w < 12) (e : t.num = u.num) : t = u := (ord_num h h12).2.2 e
end Tr
theorem Tr.inn_is (t : Tr) (lo : Nat) : t.inn lo = (if 1 < t.w then [(lo, lo + t.w)] else []) ++ t.ropes lo := by
  by_cases h : 1 < t.w
  · rw [if_pos h, Tr.inn_node h]
    rfl
  · rw [if_neg h]
    cases t with
    | leaf => rfl
    | node l r =>
      have := l.w_pos
      have := r.w_pos
      exact absurd (show 1 < l.w + r.w by omega) h
theorem Tr.inn_len : ∀ (t : Tr) (lo : Nat), (t.inn lo).length + 1 = t.w
  | .leaf, _ => rfl
  | .node l r, lo => by
    have h1 := inn_len l lo
    have h2 := inn_len r (lo + l.w)
    show (_ :: (_ ++ _)).length + 1 = l.w + r.w
    rw [List.length_cons, List.length_append]
    omega
theorem Tr.ropes_le (t : Tr) (lo : Nat) : (t.ropes lo).length ≤ t.w := by
  have h := t.inn_len lo
  rw [t.inn_is lo, List.length_append] at h
  omega
theorem ropes_grow {l r : Tr} {lo k : Nat} {q1 q2 : List IP} (e : l.w = k + 1) (h1 : q1.Perm ((l.ropes lo).map castP)) (h2 : q2.Perm ((r.ropes (lo + 1 + k)).map castP)) :
    (((q1 ++ q2) ++ (if 1 < l.w then [castP (lo, lo + 1 + k)] else [])) ++ (if 1 < r.w then [castP (lo + 1 + k, lo + 1 + k + r.w)] else [])).Perm (((Tr.node l r).ropes lo).map castP) := by
  have e0 : lo + 1 + k = lo + l.w := by omega
  show List.Perm _ ((l.inn lo ++ r.inn (lo + l.w)).map castP)
  rw [e0] at h2 ⊢
  rw [l.inn_is lo, r.inn_is (lo + l.w)]
  refine ((((h1.append h2).append_right _).append_right _).trans ?_)
  rw [List.map_append, List.map_append, List.map_append]
  have a1 : (if 1 < l.w then [(lo, lo + l.w)] else []).map castP = (if 1 < l.w then [castP (lo, lo + l.w)] else []) := by split <;> rfl
  have a2 : (if 1 < r.w then [(lo + l.w, lo + l.w + r.w)] else []).map castP = (if 1 < r.w then [castP (lo + l.w, lo + l.w + r.w)] else []) := by split <;> rfl
  rw [a1, a2]
  refine List.perm_iff_count.mpr fun a => ?_
  simp only [List.count_append]
  omega
/-- two cuttings of one tree are one list -/
theorem Cutting.same {n : Nat} {c d : List IP} {t : Tr} (C : Cutting n c t) (D : Cutting n d t) : c = d := by
  have e1 := sortP_self C.rise
  have e2 := sortP_self D.rise
  rw [← e1, ← e2]
  exact sortP_congr (C.perm.trans D.perm.symm)
theorem Cutting.good {n : Nat} {cut : List IP} {t : Tr} (C : Cutting n cut t) : GoodP n cut := by
  have hw := C.w
  have ok : ∀ p ∈ cut, ropeOk n p := fun p hp => by
    obtain ⟨q, hq, rfl⟩ := C.mem.mp hp
    have z := ropes_bd hq
    have w2 := Tr.inn_wide z.1
    have b := Tr.bd (Tr.inn_all z.1)
    unfold ropeOk castP
    simp only
    omega
  have nd : cut.Pairwise (· ≠ ·) := by
    refine (C.perm.nodup_iff).mpr (List.pairwise_map.mpr ?_)
    exact (Tr.ropes_nodup t 0).imp fun h e => h (castP_inj e)
  refine ⟨ok, nd.imp_of_mem fun {p q} hp hq h => ⟨h, C.nocross (mem_ties.mpr (.inr hp)) (mem_ties.mpr (.inr hq))⟩⟩
theorem Cutting.len {n : Nat} {cut : List IP} {t : Tr} (C : Cutting n cut t) : cut.length + 3 = n := by
  have h := C.perm.length_eq
  have h1 := t.inn_len 0
  have hw := C.w
  rw [Tr.inn_node C.w2, List.length_cons] at h1
  rw [List.length_map] at h
  omega
/-- a is tied with b, a < b, by a rope of cut or as a neighbour -/
def Tied (cut : List IP) (a b : Int) : Prop := b - a = 1 ∨ (a, b) ∈ cut
instance (cut : List IP) (a b : Int) : Decidable (Tied cut a b) := by unfold Tied; infer_instance
/-- within lo .. lo + t.w the ties of cut are those of t (but for the whole's) -/
def Within (cut : List IP) (lo : Nat) (t : Tr) : Prop := ∀ a b : Nat, lo ≤ a → a < b → b ≤ lo + t.w → ¬ (a = lo ∧ b = lo + t.w) → (Tied cut a b ↔ (a, b) ∈ t.all lo)
theorem Cutting.within {n : Nat} {cut : List IP} {t : Tr} (C : Cutting n cut t) : Within cut 0 t := fun a b _ hab hb hne => by
  have hw := C.w
  have h2 := C.w2
  unfold Tied
  rw [Tr.all_iff, inn_iff h2, C.mem]
  constructor
  · rintro (h | ⟨q, h, e⟩)
    · exact .inr ⟨by omega, by simp only; omega, by simp only; omega⟩
    · have e' : castP (a, b) = castP q := e
      rw [castP_inj e']
      exact .inl (.inr h)
  · rintro ((h | h) | h)
    · obtain ⟨h1, h2⟩ := Prod.mk.inj h
      exact absurd ⟨h1, by omega⟩ hne
    · exact .inr ⟨_, h, rfl⟩
    · simp only at h
      exact .inl (by omega)
theorem Within.left {cut : List IP} {lo : Nat} {l r : Tr} (h : Within cut lo (.node l r)) : Within cut lo l := fun a b h1 h2 h3 h4 => by
  have wr := r.w_pos
  rw [h a b h1 h2 (by show b ≤ lo + (l.w + r.w); omega) (by show ¬ (a = lo ∧ b = lo + (l.w + r.w)); omega), Tr.mem_node]
  constructor
  · rintro (e | e | e)
    · have := (Prod.mk.inj e).2; omega
    · exact e
    · have := (Tr.bd e).1; simp only at this; omega
  · exact fun e => .inr (.inl e)
theorem Within.right {cut : List IP} {lo : Nat} {l r : Tr} (h : Within cut lo (.node l r)) : Within cut (lo + l.w) r := fun a b h1 h2 h3 h4 => by
  have wl := l.w_pos
  rw [h a b (by omega) h2 (by show b ≤ lo + (l.w + r.w); omega) (by show ¬ (a = lo ∧ b = lo + (l.w + r.w)); omega), Tr.mem_node]
  constructor
  · rintro (e | e | e)
    · have := (Prod.mk.inj e).1; omega
    · have := (Tr.bd e).2.2; simp only at this; omega
    · exact e
  · exact fun e => .inr (.inr e)
/-- the one post beside the whole's tie -/
theorem Within.apex {cut : List IP} {lo : Nat} {l r : Tr} (h : Within cut lo (.node l r)) {m : Nat} (h1 : lo < m) (h2 : m < lo + (l.w + r.w)) : (Tied cut lo m ∧ Tied cut m ((lo + (l.w + r.w) : Nat) : Int)) ↔ m = lo + l.w := by
  have wl := l.w_pos
  have wr := r.w_pos
  rw [h lo m (Nat.le_refl _) h1 (by show m ≤ lo + (l.w + r.w); omega) (by show ¬ (lo = lo ∧ m = lo + (l.w + r.w)); omega), h m _ (by omega) h2 (by show lo + (l.w + r.w) ≤ lo + (l.w + r.w); omega) (by omega)]
  rw [Tr.mem_node, Tr.mem_node]
  constructor
  · rintro ⟨e | e | e, f⟩
    · have := (Prod.mk.inj e).2; omega
    · have q := (Tr.bd e).2.2
      simp only at q
      rcases f with f | f | f
      · have := (Prod.mk.inj f).1; omega
      · have := (Tr.bd f).2.2; simp only at this; omega
      · have := (Tr.bd f).1; simp only at this; omega
    · have := (Tr.bd e).1; simp only at this; omega
  · rintro rfl
    exact ⟨.inr (.inl Tr.root_mem), .inr (.inr (by rw [← Nat.add_assoc]; exact Tr.root_mem))⟩
theorem Within.unique {cut : List IP} : ∀ {t u : Tr} {lo : Nat}, t.w = u.w → Within cut lo t → Within cut lo u → t = u
  | .leaf, .leaf, _, _, _, _ => rfl
  | .leaf, .node l r, _, h, _, _ => by
    have h : 1 = l.w + r.w := h
    have := l.w_pos
    have := r.w_pos
    omega
  | .node l r, .leaf, _, h, _, _ => by
    have h : l.w + r.w = 1 := h
    have := l.w_pos
    have := r.w_pos
    omega
  | .node l r, .node l' r', lo, h, h1, h2 => by
    have h : l.w + r.w = l'.w + r'.w := h
    have wl := l.w_pos
    have wr := r.w_pos
    have wl' := l'.w_pos
    have wr' := r'.w_pos
    have a1 := (h1.apex (m := lo + l.w) (by omega) (by omega)).mpr rfl
    rw [h] at a1
    have e := (h2.apex (m := lo + l.w) (by omega) (by omega)).mp a1
    have el : l.w = l'.w := by omega
    have h2r := h2.right
    rw [← el] at h2r
    rw [Within.unique el h1.left h2.left, Within.unique (by omega) h1.right h2r]
theorem Cutting.unique {n : Nat} {c : List IP} {t u : Tr} (C : Cutting n c t) (D : Cutting n c u) : t = u := Within.unique (by have := C.w; have := D.w; omega) C.within D.within
end Pm
namespace Pm
open PySem PySem.Spec PyProof.Rows L2
/-! #### two lists of pairs in a list -/
section
variable {K : PySem.W.Frag} {H : Hp} {Q : VK} {a b : Addr} {vs ws vs' ws' : List V} {p1 p2 q1 q2 : Addr} {ps qs ps' qs' : List IP}
theorem shaped_two (ps qs : List IP) : SeqAt.shaped (.list [.list (ps.map pD), .list (qs.map pD)]) = true := by
  have h1 := depths_pD ps
  have h2 := depths_pD qs
  have h3 : PyData.depth (.list [.list (ps.map pD), .list (qs.map pD)]) ≤ 64 := by
    simp only [PyData.depth, PyData.depthAll]
    omega
  show (PyData.canLay0 (.list [.list (ps.map pD), .list (qs.map pD)]) && decide (PyData.depth (.list [.list (ps.map pD), .list (qs.map pD)]) ≤ 64)) = true
  rw [Bool.and_eq_true]
  refine ⟨?_, decide_eq_true h3⟩
  simp only [PyData.canLay0, PyData.canLayAll0, lays_pD, Bool.and_true]
theorem eqv_two (ps qs ps' qs' : List IP) : PyData.eqv (.list [.list (ps.map pD), .list (qs.map pD)]) (.list [.list (ps'.map pD), .list (qs'.map pD)]) = (decide (ps = ps') && decide (qs = qs')) := by
  rw [PyData.eqv, PyData.eqvAll, PyData.eqvAll, PyData.eqvAll, eqv_list, eqv_list, Bool.and_true]
theorem w_neTwo (h1 : SqL K H a [.ref p1, .ref p2]) (h2 : SqL K H b [.ref q1, .ref q2]) (a1 : SqL K H p1 vs) (a2 : SqL K H p2 ws) (b1 : SqL K H q1 vs') (b2 : SqL K H q2 ws') (c1 : Prs H vs ps) (c2 : Prs H ws qs) (d1 : Prs H vs' ps') (d2 : Prs H ws' qs')
    (h : Q (.bl (!(decide (ps = ps') && decide (qs = qs')))) H) : rNeD K (.ref a) (.ref b) H Q :=
  ⟨_, _, .lst h1 (.cons (.lst a1 (dp_prs c1)) (.cons (.lst a2 (dp_prs c2)) .nil)), .lst h2 (.cons (.lst b1 (dp_prs d1)) (.cons (.lst b2 (dp_prs d2)) .nil)), shaped_two _ _, shaped_two _ _, by rw [eqv_two]; exact h⟩
end
end Pm
/-! ### roads of turnings -/
namespace Pm
open PySem PySem.Spec PyProof.Rows L2
namespace Tr
/-- seen from the first post: a tie that is not at it shows one that faces it -/
theorem face_lo : ∀ {t : Tr} {lo : Nat}, (∃ q ∈ t.inn lo, q.1 ≠ lo) → ∃ a b, (a, b) ∈ t.inn lo ∧ lo < a ∧ (lo, a) ∈ t.all lo ∧ (lo, b) ∈ t.all lo
  | leaf, _, ⟨_, h, _⟩ => by cases h
  | node l leaf, lo, ⟨q, h, ne⟩ => by
    rcases List.mem_cons.mp h with e | h
    · exact absurd (by rw [e]) ne
    · rcases List.mem_append.mp h with h | h
      · obtain ⟨a, b, h1, h2, h3, h4⟩ := face_lo ⟨q, h, ne⟩
        exact ⟨a, b, List.mem_cons_of_mem _ (List.mem_append_left _ h1), h2, mem_node.mpr (.inr (.inl h3)), mem_node.mpr (.inr (.inl h4))⟩
      · cases h
  | node l (node r r'), lo, _ => by
    have wl := l.w_pos
    refine ⟨lo + l.w, lo + (l.w + (node r r').w), ?_, by omega, mem_node.mpr (.inr (.inl root_mem)), mem_node.mpr (.inl rfl)⟩
    refine List.mem_cons_of_mem _ (List.mem_append_right _ ?_)
    rw [← Nat.add_assoc]
    exact List.mem_cons_self
theorem face_hi : ∀ {t : Tr} {lo : Nat}, (∃ q ∈ t.inn lo, q.2 ≠ lo + t.w) → ∃ a b, (a, b) ∈ t.inn lo ∧ b < lo + t.w ∧ (a, lo + t.w) ∈ t.all lo ∧ (b, lo + t.w) ∈ t.all lo
  | leaf, _, ⟨_, h, _⟩ => by cases h
  | node leaf r, lo, ⟨q, h, ne⟩ => by
    have e0 : lo + (node leaf r).w = lo + 1 + r.w := by show lo + (1 + r.w) = _; omega
    rw [e0] at ne ⊢
    rcases List.mem_cons.mp h with e | h
    · exact absurd (by rw [e]; show lo + (1 + r.w) = _; omega) ne
    · rcases List.mem_append.mp h with h | h
      · cases h
      · obtain ⟨a, b, h1, h2, h3, h4⟩ := face_hi (t := r) (lo := lo + 1) ⟨q, h, ne⟩
        exact ⟨a, b, List.mem_cons_of_mem _ (List.mem_append_right _ h1), h2, mem_node.mpr (.inr (.inr h3)), mem_node.mpr (.inr (.inr h4))⟩
  | node (node l l') r, lo, _ => by
    have wr := r.w_pos
    refine ⟨lo, lo + (node l l').w, List.mem_cons_of_mem _ (List.mem_append_left _ List.mem_cons_self), ?_, mem_node.mpr (.inl rfl), mem_node.mpr (.inr (.inr ?_))⟩
    · show lo + (node l l').w < lo + ((node l l').w + r.w)
      omega
    · show (lo + (node l l').w, lo + ((node l l').w + r.w)) ∈ _
      rw [← Nat.add_assoc]
      exact root_mem
/-- a post within is the one between the ends of a tie -/
theorem face_in : ∀ {t : Tr} {lo p : Nat}, lo < p → p < lo + t.w → ∃ a b, (a, b) ∈ t.inn lo ∧ a < p ∧ p < b ∧ (a, p) ∈ t.all lo ∧ (p, b) ∈ t.all lo
  | leaf, lo, p, h1, h2 => by
    have h2 : p < lo + 1 := h2
    omega
  | node l r, lo, p, h1, h2 => by
    have h2 : p < lo + (l.w + r.w) := h2
    rcases Nat.lt_trichotomy p (lo + l.w) with h | h | h
    · obtain ⟨a, b, k1, k2, k3, k4, k5⟩ := face_in (t := l) h1 h
      exact ⟨a, b, List.mem_cons_of_mem _ (List.mem_append_left _ k1), k2, k3, mem_node.mpr (.inr (.inl k4)), mem_node.mpr (.inr (.inl k5))⟩
    · subst h
      exact ⟨lo, lo + (l.w + r.w), List.mem_cons_self, h1, h2, mem_node.mpr (.inr (.inl root_mem)), mem_node.mpr (.inr (.inr (by rw [← Nat.add_assoc]; exact root_mem)))⟩
    · obtain ⟨a, b, k1, k2, k3, k4, k5⟩ := face_in (t := r) h (by omega)
      exact ⟨a, b, List.mem_cons_of_mem _ (List.mem_append_right _ k1), k2, k3, mem_node.mpr (.inr (.inr k4)), mem_node.mpr (.inr (.inr k5))⟩
/-- all at the first post: one tree -/
theorem lo_uniq : ∀ {t u : Tr} {lo : Nat}, t.w = u.w → (∀ q ∈ t.inn lo, q.1 = lo) → (∀ q ∈ u.inn lo, q.1 = lo) → t = u
  | leaf, leaf, _, _, _, _ => rfl
  | leaf, node l r, _, h, _, _ => by
    have h : 1 = l.w + r.w := h
    have := l.w_pos
    have := r.w_pos
    omega
  | node l r, leaf, _, h, _, _ => by
    have h : l.w + r.w = 1 := h
    have := l.w_pos
    have := r.w_pos
    omega
  | node l r, node l' r', lo, h, h1, h2 => by
    have key : ∀ {l r : Tr}, (∀ q ∈ (node l r).inn lo, q.1 = lo) → r = leaf := fun {l r} z => by
      cases r with
      | leaf => rfl
      | node a b =>
        have wl := l.w_pos
        have := z (lo + l.w, lo + l.w + (a.w + b.w)) (List.mem_cons_of_mem _ (List.mem_append_right _ List.mem_cons_self))
        simp only at this
        omega
    have e1 := key h1
    have e2 := key h2
    subst e1
    subst e2
    have h : l.w + 1 = l'.w + 1 := h
    rw [lo_uniq (t := l) (u := l') (lo := lo) (by omega) (fun q hq => h1 q (List.mem_cons_of_mem _ (List.mem_append_left _ hq))) (fun q hq => h2 q (List.mem_cons_of_mem _ (List.mem_append_left _ hq)))]
theorem hi_uniq : ∀ {t u : Tr} {lo : Nat}, t.w = u.w → (∀ q ∈ t.inn lo, q.2 = lo + t.w) → (∀ q ∈ u.inn lo, q.2 = lo + u.w) → t = u
  | leaf, leaf, _, _, _, _ => rfl
  | leaf, node l r, _, h, _, _ => by
    have h : 1 = l.w + r.w := h
    have := l.w_pos
    have := r.w_pos
    omega
  | node l r, leaf, _, h, _, _ => by
    have h : l.w + r.w = 1 := h
    have := l.w_pos
    have := r.w_pos
    omega
  | node l r, node l' r', lo, h, h1, h2 => by
    have key : ∀ {l r : Tr}, (∀ q ∈ (node l r).inn lo, q.2 = lo + (node l r).w) → l = leaf := fun {l r} z => by
      cases l with
      | leaf => rfl
      | node a b =>
        have wr := r.w_pos
        have := z (lo, lo + (a.w + b.w)) (List.mem_cons_of_mem _ (List.mem_append_left _ List.mem_cons_self))
        have this : lo + (a.w + b.w) = lo + (a.w + b.w + r.w) := this
        omega
    have e1 := key h1
    have e2 := key h2
    subst e1
    subst e2
    have h : 1 + r.w = 1 + r'.w := h
    have g1 : ∀ q ∈ r.inn (lo + 1), q.2 = lo + 1 + r.w := fun q hq => by
      have := h1 q (List.mem_cons_of_mem _ (List.mem_append_right _ hq))
      have this : q.2 = lo + (1 + r.w) := this
      omega
    have g2 : ∀ q ∈ r'.inn (lo + 1), q.2 = lo + 1 + r'.w := fun q hq => by
      have := h2 q (List.mem_cons_of_mem _ (List.mem_append_right _ hq))
      have this : q.2 = lo + (1 + r'.w) := this
      omega
    rw [hi_uniq (t := r) (u := r') (lo := lo + 1) (by omega) g1 g2]
end Tr
/-- the ropes that are not at a post -/
def farB (p : Int) (r : IP) : Bool := !(decide (p = r.1) || decide (p = r.2))
def awayL (cut : List IP) (p : Int) : Nat := (cut.filter (farB p)).length
theorem away_perm {c d : List IP} (h : c.Perm d) (p : Int) : awayL c p = awayL d p := (h.filter _).length_eq
theorem away_cons (r : IP) (c : List IP) (p : Int) : awayL (r :: c) p = (if farB p r = true then 1 else 0) + awayL c p := by
  unfold awayL
  rw [List.filter_cons]
  split
  · rw [List.length_cons]; omega
  · omega
section
variable {n : Nat} {cut : List IP} {t : Tr}
theorem away_zero {p : Nat} (h : awayL cut p = 0) {r : IP} (hr : r ∈ cut) : (p : Int) = r.1 ∨ (p : Int) = r.2 := by
  have := List.eq_nil_of_length_eq_zero h
  have z := List.filter_eq_nil_iff.mp this r hr
  unfold farB at z
  by_cases h1 : (p : Int) = r.1
  · exact .inl h1
  · by_cases h2 : (p : Int) = r.2
    · exact .inr h2
    · simp [h1, h2] at z
/-- a rope away from a post shows a rope that faces it -/
theorem Cutting.face (C : Cutting n cut t) {p : Nat} (hp : p < n) (h : awayL cut p ≠ 0) : ∃ a b : Nat, (a, b) ∈ t.ropes 0 ∧ isBeside (tiesL n cut) a b p = true := by
  have hw := C.w
  have w2 := C.w2
  obtain ⟨r, hr⟩ : ∃ r, r ∈ cut.filter (farB p) := by
    cases e : cut.filter (farB p) with
    | nil => exact absurd (by unfold awayL; rw [e]; rfl) h
    | cons r _ => exact ⟨r, List.mem_cons_self⟩
  obtain ⟨hc, hf⟩ := List.mem_filter.mp hr
  obtain ⟨q, hq, rfl⟩ := C.mem.mp hc
  have far : p ≠ q.1 ∧ p ≠ q.2 := by
    unfold farB castP at hf
    simp only [Bool.not_eq_true', Bool.or_eq_false_iff, decide_eq_false_iff_not] at hf
    omega
  have hqi := (ropes_iff w2).mp hq
  have fin : ∀ {a b : Nat}, (a, b) ∈ t.inn 0 → (a, b) ≠ (0, t.w) → (((a < p ∧ p < b) ∧ (a, p) ∈ t.all 0 ∧ (p, b) ∈ t.all 0) ∨ Tr.Out t 0 a b p) → ∃ a b : Nat, (a, b) ∈ t.ropes 0 ∧ isBeside (tiesL n cut) a b p = true := fun {a b} h1 h2 h3 => by
    have hb := Tr.bd (Tr.inn_all h1)
    simp only at hb
    exact ⟨a, b, (ropes_iff w2).mpr ⟨h1, h2⟩, (C.beside_iff hb.2.1).mpr h3⟩
  by_cases p0 : p = 0
  · subst p0
    obtain ⟨a, b, h1, h2, h3, h4⟩ := Tr.face_lo ⟨q, hqi.1, fun z => far.1 z.symm⟩
    exact fin h1 (fun e => by have := (Prod.mk.inj e).1; omega) (.inr (.inl ⟨h2, h3, h4⟩))
  by_cases pw : p = t.w
  · obtain ⟨a, b, h1, h2, h3, h4⟩ := Tr.face_hi (t := t) (lo := 0) ⟨q, hqi.1, by omega⟩
    rw [Nat.zero_add, ← pw] at h2 h3 h4
    exact fin h1 (fun e => by have := (Prod.mk.inj e).2; omega) (.inr (.inr ⟨h2, h3, h4⟩))
  obtain ⟨a, b, h1, h2, h3, h4, h5⟩ := Tr.face_in (t := t) (lo := 0) (p := p) (by omega) (by omega)
  by_cases wh : (a, b) = (0, t.w)
  · obtain ⟨rfl, rfl⟩ := Prod.mk.inj wh
    cases t with
    | leaf => exact absurd w2 (by decide)
    | node l r =>
      have wl := l.w_pos
      have wr := r.w_pos
      have pm : p = l.w := by
        rcases Tr.mem_node.mp h4 with e | e | e
        · have := (Prod.mk.inj e).2; have h3 : p < l.w + r.w := h3; omega
        · have b1 := (Tr.bd e).2.2
          simp only at b1
          rcases Tr.mem_node.mp h5 with f | f | f
          · have := (Prod.mk.inj f).1; omega
          · have b2 := (Tr.bd f).2.2
            have b2 : l.w + r.w ≤ 0 + l.w := b2
            omega
          · have b2 := (Tr.bd f).1
            simp only at b2
            omega
        · have := (Tr.bd e).1; simp only at this; omega
      have hq' : q ∈ l.inn 0 ++ r.inn (0 + l.w) := hq
      rcases List.mem_append.mp hq' with g | g
      · obtain ⟨a, b, k1, k2, k3, k4⟩ := Tr.face_hi (t := l) (lo := 0) ⟨q, g, by omega⟩
        rw [Nat.zero_add, ← pm] at k2 k3 k4
        exact fin (List.mem_cons_of_mem _ (List.mem_append_left _ k1)) (fun e => by have := (Prod.mk.inj e).2; have this : b = l.w + r.w := this; omega) (.inr (.inr ⟨k2, Tr.mem_node.mpr (.inr (.inl k3)), Tr.mem_node.mpr (.inr (.inl k4))⟩))
      · obtain ⟨a, b, k1, k2, k3, k4⟩ := Tr.face_lo (t := r) (lo := 0 + l.w) ⟨q, g, by omega⟩
        have ep : 0 + l.w = p := by omega
        rw [ep] at k1 k2 k3 k4
        have m1 : (a, b) ∈ r.inn (0 + l.w) := by rw [ep]; exact k1
        have m3 : (p, a) ∈ r.all (0 + l.w) := by rw [ep]; exact k3
        have m4 : (p, b) ∈ r.all (0 + l.w) := by rw [ep]; exact k4
        exact fin (List.mem_cons_of_mem _ (List.mem_append_right _ m1)) (fun e => by have := (Prod.mk.inj e).1; omega) (.inr (.inl ⟨k2, Tr.mem_node.mpr (.inr (.inr m3)), Tr.mem_node.mpr (.inr (.inr m4))⟩))
  · exact fin h1 wh (.inl ⟨⟨h2, h3⟩, h4, h5⟩)
/-- a fan is one cutting -/
theorem Cutting.fan {d : List IP} {u : Tr} (C : Cutting n cut t) (D : Cutting n d u) {p : Nat} (hp : p < n) (h1 : awayL cut p = 0) (h2 : awayL d p = 0) : cut = d := by
  have hw := C.w
  have hw' := D.w
  have w2 := C.w2
  have w2' := D.w2
  have at1 : ∀ q ∈ t.ropes 0, p = q.1 ∨ p = q.2 := fun q hq => by
    have := away_zero h1 (C.mem.mpr ⟨q, hq, rfl⟩)
    simp only [castP] at this
    omega
  have at2 : ∀ q ∈ u.ropes 0, p = q.1 ∨ p = q.2 := fun q hq => by
    have := away_zero h2 (D.mem.mpr ⟨q, hq, rfl⟩)
    simp only [castP] at this
    omega
  suffices e : t = u by subst e; exact C.same D
  by_cases p0 : p = 0
  · subst p0
    have f : ∀ {t : Tr}, 2 ≤ t.w → (∀ q ∈ t.ropes 0, 0 = q.1 ∨ 0 = q.2) → ∀ q ∈ t.inn 0, q.1 = 0 := fun {t} w2 z q hq => by
      have b := Tr.bd (Tr.inn_all hq)
      rcases (inn_iff w2).mp hq with e | e
      · rw [e]
      · have := z q e; omega
    exact Tr.lo_uniq (lo := 0) (by omega) (f w2 at1) (f w2' at2)
  by_cases pw : p = t.w
  · have f : ∀ {t : Tr}, p = t.w → 2 ≤ t.w → (∀ q ∈ t.ropes 0, p = q.1 ∨ p = q.2) → ∀ q ∈ t.inn 0, q.2 = 0 + t.w := fun {t} e0 w2 z q hq => by
      have b := Tr.bd (Tr.inn_all hq)
      rcases (inn_iff w2).mp hq with e | e
      · rw [e]; simp only; omega
      · have := z q e; omega
    exact Tr.hi_uniq (lo := 0) (by omega) (f pw w2 at1) (f (by omega) w2' at2)
  have mid : ∀ {t : Tr}, 2 ≤ t.w → p < t.w → (∀ q ∈ t.ropes 0, p = q.1 ∨ p = q.2) → ∃ l r, t = .node l r ∧ l.w = p ∧ (∀ q ∈ l.inn 0, q.2 = 0 + l.w) ∧ ∀ q ∈ r.inn p, q.1 = p := fun {t} w2 hpw z => by
    obtain ⟨a, b, k1, k2, k3, k4, k5⟩ := Tr.face_in (t := t) (lo := 0) (p := p) (by omega) (by omega)
    have wh : (a, b) = (0, t.w) := by
      rcases (inn_iff w2).mp k1 with e | e
      · exact e
      · have := z _ e; simp only at this; omega
    obtain ⟨rfl, rfl⟩ := Prod.mk.inj wh
    cases t with
    | leaf => exact absurd w2 (by decide)
    | node l r =>
      have wl := l.w_pos
      have wr := r.w_pos
      have hpw : p < l.w + r.w := hpw
      have pm : l.w = p := by
        rcases Tr.mem_node.mp k4 with e | e | e
        · have := (Prod.mk.inj e).2; omega
        · have b1 := (Tr.bd e).2.2
          simp only at b1
          rcases Tr.mem_node.mp k5 with f | f | f
          · have := (Prod.mk.inj f).1; omega
          · have b2 := (Tr.bd f).2.2
            have b2 : l.w + r.w ≤ 0 + l.w := b2
            omega
          · have b2 := (Tr.bd f).1
            simp only at b2
            omega
        · have := (Tr.bd e).1; simp only at this; omega
      refine ⟨l, r, rfl, pm, fun q hq => ?_, fun q hq => ?_⟩
      · have b := Tr.bd (Tr.inn_all hq)
        have := z q (List.mem_append_left _ hq)
        omega
      · have hq : q ∈ r.inn (0 + l.w) := by rw [Nat.zero_add, pm]; exact hq
        have b := Tr.bd (Tr.inn_all hq)
        have := z q (List.mem_append_right _ hq)
        omega
  obtain ⟨l, r, rfl, a1, a2, a3⟩ := mid w2 (by omega) at1
  obtain ⟨l', r', rfl, b1, b2, b3⟩ := mid w2' (by omega) at2
  have hw : l.w + r.w + 1 = n := hw
  have hw' : l'.w + r'.w + 1 = n := hw'
  rw [Tr.hi_uniq (t := l) (u := l') (lo := 0) (by omega) a2 b2, Tr.lo_uniq (t := r) (u := r') (lo := p) (by omega) a3 b3]
end
theorem Turning.away {n : Nat} {cut : List IP} {t t' : Tr} {x y m o : Nat} {R : List (Nat × Nat)} (C : Cutting n cut t) (U : Turning n cut t t' x y m o R) {p : Nat} (hp : p = m ∨ p = o) : awayL cut p = awayL (turnedL n cut x y) p + 1 := by
  have c := U.cross C
  rw [away_perm (U.cutP C), away_perm U.newP, away_cons, away_cons]
  have f1 : farB (p : Int) (castP (x, y)) = true := by
    unfold farB castP
    simp only [Bool.not_eq_true', Bool.or_eq_false_iff, decide_eq_false_iff_not]
    omega
  have f2 : farB (p : Int) (castP (min m o, max m o)) = false := by
    unfold farB castP
    simp only [Bool.not_eq_false', Bool.or_eq_true, decide_eq_true_eq]
    omega
  rw [f1, f2, if_pos rfl, if_neg (by decide)]
  omega
/-- the two posts beside a rope, as a pair -/
def endsL (n : Nat) (cut : List IP) (r : IP) : IP := ((besideL n (tiesL n cut) r.1 r.2).getD 0 0, (besideL n (tiesL n cut) r.1 r.2).getD 1 0)
theorem mem_besideL {n : Nat} {T : List IP} {a b : Int} {p : Nat} : (p : Int) ∈ besideL n T a b ↔ p < n ∧ isBeside T a b p = true := by
  unfold besideL
  rw [List.mem_map]
  constructor
  · rintro ⟨c, hc, e⟩
    have e : c = p := by omega
    subst e
    have := List.mem_filter.mp hc
    exact ⟨List.mem_range.mp this.1, this.2⟩
  · rintro ⟨h1, h2⟩
    exact ⟨p, List.mem_filter.mpr ⟨List.mem_range.mpr h1, h2⟩, rfl⟩
theorem Cutting.step {n : Nat} {cut : List IP} {t : Tr} (C : Cutting n cut t) {r : IP} (hr : r ∈ cut) : (∃ t', Cutting n (turnedL n cut r.1 r.2) t') ∧ endsL n cut r ∈ turnedL n cut r.1 r.2 ∧ turnedL n (turnedL n cut r.1 r.2) (endsL n cut r).1 (endsL n cut r).2 = cut ∧
    (besideL n (tiesL n cut) r.1 r.2).length = 2 ∧ tieOf r.1 r.2 = r ∧ ∀ p : Nat, (p : Int) ∈ besideL n (tiesL n cut) r.1 r.2 → awayL cut p = awayL (turnedL n cut r.1 r.2) p + 1 := by
  obtain ⟨⟨x, y⟩, hq, rfl⟩ := C.mem.mp hr
  obtain ⟨t', m, o, R, U⟩ := C.turn hq
  have hb := Tr.bd (Tr.inn_all (ropes_bd hq).1)
  simp only at hb
  have eb : besideL n (tiesL n cut) (castP (x, y)).1 (castP (x, y)).2 = [((min m o : Nat) : Int), ((max m o : Nat) : Int)] := U.bes
  have ee : endsL n cut (castP (x, y)) = castP (min m o, max m o) := by
    unfold endsL
    rw [eb]
    rfl
  refine ⟨⟨t', U.cut'⟩, ?_, ?_, ?_, tie_lt (by show (x : Int) < y; omega), fun p hp => ?_⟩
  · rw [ee]
    exact U.cut'.mem.mpr ⟨_, U.new_mem, rfl⟩
  · rw [ee]
    exact (U.back C).2
  · rw [eb]
    rfl
  · rw [eb] at hp
    refine U.away C ?_
    rcases List.mem_cons.mp hp with e | e
    · have e : p = min m o := by omega
      omega
    · have e := List.mem_singleton.mp e
      have e : p = max m o := by omega
      omega
/-- turned one behind the other -/
def Lead (n : Nat) : List IP → List IP → List IP → Prop
  | c, [], d => c = d
  | c, r :: rs, d => r ∈ c ∧ Lead n (turnedL n c r.1 r.2) rs d
theorem Lead.snoc {n : Nat} : ∀ {rs c d : List IP} {r : IP}, Lead n c rs d → r ∈ d → Lead n c (rs ++ [r]) (turnedL n d r.1 r.2)
  | [], c, d, r, h, hr => by
    have h : c = d := h
    subst h
    exact ⟨hr, rfl⟩
  | q :: rs, c, d, r, h, hr => ⟨h.1, Lead.snoc h.2 hr⟩
theorem Lead.append {n : Nat} : ∀ {rs ss c d e : List IP}, Lead n c rs d → Lead n d ss e → Lead n c (rs ++ ss) e
  | [], _, c, d, _, h, h2 => by
    have h : c = d := h
    subst h
    exact h2
  | q :: rs, _, _, _, _, h, h2 => ⟨h.1, Lead.append h.2 h2⟩
/-- a walk to the fan of a post: there, and back -/
structure Walked (n : Nat) (p : Nat) (c : List IP) (ss : List (IP × IP)) (d : List IP) : Prop where
  there : Lead n c (ss.map Prod.fst) d
  back : Lead n d (ss.map Prod.snd).reverse c
  cut : ∃ t, Cutting n d t
  len : ss.length + awayL d p = awayL c p
theorem Walked.more {n p : Nat} {c d : List IP} {ss : List (IP × IP)} (W : Walked n p c ss d) {r : IP} (hr : r ∈ d) (hp : (p : Int) ∈ besideL n (tiesL n d) r.1 r.2) : Walked n p c (ss ++ [(r, endsL n d r)]) (turnedL n d r.1 r.2) := by
  obtain ⟨t, C⟩ := W.cut
  obtain ⟨h1, h2, h3, _, _, h4⟩ := C.step hr
  refine ⟨?_, ?_, h1, ?_⟩
  · rw [List.map_append]
    exact W.there.snoc hr
  · rw [List.map_append, List.reverse_append]
    exact ⟨h2, by rw [h3]; exact W.back⟩
  · have := h4 p hp
    have := W.len
    rw [List.length_append, List.length_singleton]
    omega
/-! #### None -/
def rNotN : R2 := fun x y H Q => y = .non ∧ Q (.bl (!decide (x = .non))) H
def rIsN : R2 := fun x y H Q => y = .non ∧ Q (.bl (decide (x = .non))) H
theorem op_notNK {X : Cx} : OpR X (compareOp .IsNot) rNotN := op_notN
theorem op_isNK {X : Cx} : OpR X (compareOp .Is) rIsN := op_isN
section
variable {H : Hp} {Q : VK} {a : Addr}
theorem w_notN_ref (h : Q (.bl true) H) : rNotN (.ref a) .non H Q := ⟨rfl, h⟩
theorem w_notN_non (h : Q (.bl false) H) : rNotN .non .non H Q := ⟨rfl, h⟩
theorem w_isN_ref (h : Q (.bl false) H) : rIsN (.ref a) .non H Q := ⟨rfl, h⟩
theorem w_isN_non (h : Q (.bl true) H) : rIsN .non .non H Q := ⟨rfl, h⟩
end
/-- a step: a tuple of two pairs -/
def St2 (H : Hp) (v : V) (s : IP × IP) : Prop := ∃ u a b : Addr, v = .ref u ∧ H u = some (.tup [.ref a, .ref b]) ∧ Pr H (.ref a) s.1 ∧ Pr H (.ref b) s.2
theorem k_revL {X : Cx} {K : PySem.W.Frag} {ex : Expr} {te : TE} (h : PE X ex (tRevL X.K te)) (e : X.K = K := by rfl) : PE X ex (tRevL K te) := e ▸ h
def RevK (K : PySem.W.Frag) (Q : VK) : VK := fun x H1 => ∃ a xs, x = .ref a ∧ SqL K H1 a xs ∧ ∀ p, H1 p = none → Q (.ref p) (upd H1 p (.lst xs.reverse))
theorem w_revL {K : PySem.W.Frag} {te : TE} {σ : L2.St} {H : Hp} {Q : VK} (h : te σ H (RevK K Q)) : tRevL K te σ H Q := h
theorem w_revK {K : PySem.W.Frag} {H : Hp} {Q : VK} {a : Addr} {xs : List V} (hl : SqL K H a xs) (h : ∀ p, H p = none → Q (.ref p) (upd H p (.lst xs.reverse))) : RevK K Q (.ref a) H := ⟨a, xs, rfl, hl, h⟩
theorem All2.reverse {α β : Type} {R : α → β → Prop} : ∀ {xs : List α} {ys : List β}, All2 R xs ys → All2 R xs.reverse ys.reverse
  | [], [], _ => trivial
  | _ :: _, _ :: _, h => by
    rw [List.reverse_cons, List.reverse_cons]
    exact h.2.reverse.snoc h.1
end Pm
local macro_rules | `(tactic| walk_at "s1") => `(tactic| first
  | with_reducible refine Pm.w_seq ?_ | with_reducible refine Pm.w_asg ?_ | with_reducible refine Pm.w_drop ?_ | with_reducible refine Pm.w_ret ?_ | with_reducible refine Pm.w_retN ?_
  | with_reducible refine Pm.w_next ?_ | with_reducible refine Pm.w_brk ?_ | with_reducible refine Pm.w_cont ?_ | with_reducible refine Pm.w_if ?_ | with_reducible refine Pm.w_gname ?_ | with_reducible refine Pm.w_gcons ?_ | with_reducible refine Pm.w_gsub ?_ | with_reducible refine Pm.w_gnil ?_
  | ((with_reducible show L2.tVar _ _ _ _); refine Pm.w_var rfl ?_) | with_reducible refine Pm.w_c ?_ | with_reducible refine Pm.w_op ?_ | with_reducible refine Pm.w_un ?_
  | with_reducible refine Pm.w_i0 ?_ | ((with_reducible refine Pm.w_i ?_ ?_); (walk_at "side")) | with_reducible refine Pm.w_u ?_ | with_reducible refine Pm.w_eqi ?_ | with_reducible refine Pm.w_nei ?_
  | with_reducible refine Pm.w_eqb ?_ | with_reducible refine Pm.w_neb ?_ | with_reducible refine Pm.w_eqs ?_
  | with_reducible refine Pm.w_cb ?_ | with_reducible refine Pm.w_nil ?_ | with_reducible refine Pm.w_cons ?_ | with_reducible refine Pm.w_call ?_ | with_reducible refine Pm.w_callS ?_ | with_reducible refine Pm.w_tup ?_ | with_reducible refine Pm.w_lst ?_
  | with_reducible refine Pm.w_test ?_ | with_reducible refine Pm.w_b ?_ | with_reducible refine Pm.w_bl ?_ | with_reducible refine Pm.w_and ?_ | with_reducible refine Pm.w_or ?_ | with_reducible refine Pm.w_not ?_
  | with_reducible refine Pm.w_andV ?_ | with_reducible refine Pm.w_orV ?_ | with_reducible refine Pm.w_notV ?_ | with_reducible refine Pm.w_ifE ?_ | with_reducible refine Pm.w_chain ?_ | with_reducible refine Pm.w_chain3 ?_ | with_reducible refine Pm.w_blx ?_
  | with_reducible refine Pm.w_par ?_ | with_reducible refine Pm.w_par2 ?_ | with_reducible refine Pm.w_max ?_ | with_reducible refine Pm.w_min ?_ | with_reducible refine Pm.w_abs ?_
  | with_reducible refine Pm.w_bm ?_ | with_reducible refine Pm.w_bm0 ?_ | with_reducible refine Pm.w_for ?_ | with_reducible refine Pm.w_iList ?_ | with_reducible refine Pm.w_iTup ?_ | with_reducible refine Pm.w_iRng1 ?_ | with_reducible refine Pm.w_iRng2 ?_
  | ((with_reducible refine Pm.w_rg1 ?_ ?_); (constructor <;> omega)) | ((with_reducible refine Pm.w_rg2 ?_ ?_); (refine ⟨⟨?_, ?_⟩, ?_, ?_⟩ <;> omega))
  | with_reducible refine Pm.w_dput ?_ | with_reducible refine Pm.w_din ?_ | with_reducible refine Pm.w_dnotin ?_ | with_reducible refine Pm.w_dget ?_
  | with_reducible refine Pm.w_int1 ?_ | with_reducible refine Pm.w_sl ?_ | with_reducible refine Pm.w_noPart ?_ | with_reducible refine Pm.w_part ?_ | with_reducible refine Pm.w_partK ?_
  | with_reducible refine Pm.w_lc ?_ | with_reducible refine Pm.w_yes ?_ | ((with_reducible show Pm.LcTurn _ _ _ _ _ _ _ _); refine Pm.w_turn rfl ?_)
  | with_reducible refine Pm.w_iteT ?_ | with_reducible refine Pm.w_iteF ?_ | with_reducible refine Pm.w_iteN1 ?_ | with_reducible refine Pm.w_iteN0 ?_)
local macro_rules | `(tactic| walk_at "side") => `(tactic| first | (refine Pm.w_mul1 ?_; constructor <;> omega) | (refine Pm.w_mul2 ?_; constructor <;> omega) | ((with_reducible show L2.CDiv _ _); refine ⟨?_, ?_⟩ <;> omega) | ((with_reducible show L2.CPow _ _); exact ⟨by decide, by decide, by decide⟩) | (show (0:Int) < _; omega))
local macro_rules | `(tactic| walk_at "st") => `(tactic| repeat (walk_at "s1"))
namespace Pm
open PySem PySem.Spec PyProof.Rows L2
/-! ### the text by places -/
def top (i : Nat) : Stmt := PySem.Challenge.pw_postmead_k17_whole_roads_lead.main.body.getD i (.Pass ⟨0, 0, 0, 0⟩)
abbrev s_tie_of : Stmt := top 4
abbrev N_tie_of : List Str := ["a", "b"]
theorem sc_tie_of : FnScope N_tie_of ["a", "b"] (defScope s_tie_of) := ⟨rfl, rfl, rfl, by decide +kernel, rfl, by decide +kernel, by decide +kernel⟩
abbrev s_sides : Stmt := top 5
abbrev N_sides : List Str := ["n", "k"]
theorem sc_sides : FnScope N_sides ["n"] (defScope s_sides) := ⟨rfl, rfl, rfl, by decide +kernel, rfl, by decide +kernel, by decide +kernel⟩
abbrev s_ties : Stmt := top 6
abbrev N_ties : List Str := ["n", "cut"]
theorem sc_ties : FnScope N_ties ["n", "cut"] (defScope s_ties) := ⟨rfl, rfl, rfl, by decide +kernel, rfl, by decide +kernel, by decide +kernel⟩
abbrev s_beside : Stmt := top 7
abbrev N_beside : List Str := ["n", "cut", "a", "b", "all_ties", "found", "post"]
theorem sc_beside : FnScope N_beside ["n", "cut", "a", "b"] (defScope s_beside) := ⟨rfl, rfl, rfl, by decide +kernel, rfl, by decide +kernel, by decide +kernel⟩
abbrev s_turned : Stmt := top 8
abbrev N_turned : List Str := ["n", "cut", "a", "b", "rope", "ends", "one"]
theorem sc_turned : FnScope N_turned ["n", "cut", "a", "b"] (defScope s_turned) := ⟨rfl, rfl, rfl, by decide +kernel, rfl, by decide +kernel, by decide +kernel⟩
abbrev s_away : Stmt := top 10
abbrev N_away : List Str := ["cut", "post", "rope"]
theorem sc_away : FnScope N_away ["cut", "post"] (defScope s_away) := ⟨rfl, rfl, rfl, by decide +kernel, rfl, by decide +kernel, by decide +kernel⟩
abbrev s_facing : Stmt := top 11
abbrev N_facing : List Str := ["n", "cut", "post", "rope"]
theorem sc_facing : FnScope N_facing ["n", "cut", "post"] (defScope s_facing) := ⟨rfl, rfl, rfl, by decide +kernel, rfl, by decide +kernel, by decide +kernel⟩
abbrev s_walk : Stmt := top 12
abbrev N_walk : List Str := ["n", "cut", "post", "steps", "rope", "ends"]
theorem sc_walk : FnScope N_walk ["n", "cut", "post"] (defScope s_walk) := ⟨rfl, rfl, rfl, by decide +kernel, rfl, by decide +kernel, by decide +kernel⟩
abbrev s_road : Stmt := top 13
abbrev N_road : List Str := ["n", "one", "other", "best", "post", "there", "step", "back"]
theorem sc_road : FnScope N_road ["n", "one", "other"] (defScope s_road) := ⟨rfl, rfl, rfl, by decide +kernel, rfl, by decide +kernel, by decide +kernel⟩
abbrev s_law_flow : Stmt := top 15
abbrev N_law_flow : List Str := ["_law_script", "_law_many_here", "_law_great", "_law_row", "_law_k", "_law_cell", "_law_mixed"]
theorem sc_law_flow : FnScope N_law_flow ["_law_script", "_law_many_here"] (defScope s_law_flow) := ⟨rfl, rfl, rfl, by decide +kernel, rfl, by decide +kernel, by decide +kernel⟩
abbrev s_law_whole : Stmt := top 16
abbrev N_law_whole : List Str := ["_law_found"]
theorem sc_law_whole : FnScope N_law_whole ["_law_found"] (defScope s_law_whole) := ⟨rfl, rfl, rfl, by decide +kernel, rfl, by decide +kernel, by decide +kernel⟩
abbrev s_law_many : Stmt := top 17
abbrev N_law_many : List Str := ["_law_row"]
theorem sc_law_many : FnScope N_law_many ["_law_row"] (defScope s_law_many) := ⟨rfl, rfl, rfl, by decide +kernel, rfl, by decide +kernel, by decide +kernel⟩
abbrev s_law_pair : Stmt := top 18
abbrev N_law_pair : List Str := ["_law_a", "_law_b"]
theorem sc_law_pair : FnScope N_law_pair ["_law_a", "_law_b"] (defScope s_law_pair) := ⟨rfl, rfl, rfl, by decide +kernel, rfl, by decide +kernel, by decide +kernel⟩
abbrev s_law_ears : Stmt := top 19
abbrev N_law_ears : List Str := ["_law_n", "_law_row", "_law_left", "_law_k", "_law_ears_here"]
theorem sc_law_ears : FnScope N_law_ears ["_law_n", "_law_row"] (defScope s_law_ears) := ⟨rfl, rfl, rfl, by decide +kernel, rfl, by decide +kernel, by decide +kernel⟩
abbrev s_law_ropes : Stmt := top 20
abbrev N_law_ropes : List Str := ["_law_ears_here", "_law_ear"]
theorem sc_law_ropes : FnScope N_law_ropes ["_law_ears_here"] (defScope s_law_ropes) := ⟨rfl, rfl, rfl, by decide +kernel, rfl, by decide +kernel, by decide +kernel⟩
abbrev s_law_sides : Stmt := top 21
abbrev N_law_sides : List Str := ["_law_n", "_law_k"]
theorem sc_law_sides : FnScope N_law_sides ["_law_n"] (defScope s_law_sides) := ⟨rfl, rfl, rfl, by decide +kernel, rfl, by decide +kernel, by decide +kernel⟩
abbrev s_law_ties : Stmt := top 22
abbrev N_law_ties : List Str := ["_law_n", "_law_cut"]
theorem sc_law_ties : FnScope N_law_ties ["_law_n", "_law_cut"] (defScope s_law_ties) := ⟨rfl, rfl, rfl, by decide +kernel, rfl, by decide +kernel, by decide +kernel⟩
abbrev s_law_beside : Stmt := top 23
abbrev N_law_beside : List Str := ["_law_n", "_law_all_ties", "_law_a", "_law_b", "_law_found", "_law_post"]
theorem sc_law_beside : FnScope N_law_beside ["_law_n", "_law_all_ties", "_law_a", "_law_b"] (defScope s_law_beside) := ⟨rfl, rfl, rfl, by decide +kernel, rfl, by decide +kernel, by decide +kernel⟩
abbrev s_law_turned : Stmt := top 24
abbrev N_law_turned : List Str := ["_law_n", "_law_cut", "_law_rope", "_law_ends", "_law_one"]
theorem sc_law_turned : FnScope N_law_turned ["_law_n", "_law_cut", "_law_rope"] (defScope s_law_turned) := ⟨rfl, rfl, rfl, by decide +kernel, rfl, by decide +kernel, by decide +kernel⟩
abbrev s_law_tuple : Stmt := top 25
abbrev N_law_tuple : List Str := ["_law_found", "_law_many_here", "_law_one"]
theorem sc_law_tuple : FnScope N_law_tuple ["_law_found", "_law_many_here"] (defScope s_law_tuple) := ⟨rfl, rfl, rfl, by decide +kernel, rfl, by decide +kernel, by decide +kernel⟩
abbrev s_law_list : Stmt := top 26
abbrev N_law_list : List Str := ["_law_found", "_law_many_here", "_law_one"]
theorem sc_law_list : FnScope N_law_list ["_law_found", "_law_many_here"] (defScope s_law_list) := ⟨rfl, rfl, rfl, by decide +kernel, rfl, by decide +kernel, by decide +kernel⟩
abbrev s_law_walk : Stmt := top 27
abbrev N_law_walk : List Str := ["_law_n", "_law_cut", "_law_found", "_law_rope"]
theorem sc_law_walk : FnScope N_law_walk ["_law_n", "_law_cut", "_law_found"] (defScope s_law_walk) := ⟨rfl, rfl, rfl, by decide +kernel, rfl, by decide +kernel, by decide +kernel⟩
abbrev s_law_away : Stmt := top 28
abbrev N_law_away : List Str := ["_law_cut", "_law_post", "_law_rope"]
theorem sc_law_away : FnScope N_law_away ["_law_cut", "_law_post"] (defScope s_law_away) := ⟨rfl, rfl, rfl, by decide +kernel, rfl, by decide +kernel, by decide +kernel⟩
abbrev s_law : Stmt := top 29
abbrev N_law : List Str := ["_law_script", "_law_row", "_law_n", "_law_one", "_law_other", "_law_handed", "_law_found", "_law_end", "_law_post"]
theorem sc_law : FnScope N_law ["_law_script"] (defScope s_law) := ⟨rfl, rfl, rfl, by decide +kernel, rfl, by decide +kernel, by decide +kernel⟩
/-- what the top has written -/
structure Tx (K : PySem.W.Frag) (mg : Str → Option Value) : Type where
  a_tie_of : Addr
  fd_tie_of : FuncData
  F_tie_of : Fun K "tie_of" "tie_of" s_tie_of a_tie_of fd_tie_of
  g_tie_of : mg "tie_of" = some (.ref a_tie_of)
  b_tie_of : Binds K fd_tie_of ["a", "b"] []
  a_sides : Addr
  fd_sides : FuncData
  F_sides : Fun K "sides" "sides" s_sides a_sides fd_sides
  g_sides : mg "sides" = some (.ref a_sides)
  b_sides : Binds K fd_sides ["n"] []
  a_ties : Addr
  fd_ties : FuncData
  F_ties : Fun K "ties" "ties" s_ties a_ties fd_ties
  g_ties : mg "ties" = some (.ref a_ties)
  b_ties : Binds K fd_ties ["n", "cut"] []
  a_beside : Addr
  fd_beside : FuncData
  F_beside : Fun K "beside" "beside" s_beside a_beside fd_beside
  g_beside : mg "beside" = some (.ref a_beside)
  b_beside : Binds K fd_beside ["n", "cut", "a", "b"] []
  a_turned : Addr
  fd_turned : FuncData
  F_turned : Fun K "turned" "turned" s_turned a_turned fd_turned
  g_turned : mg "turned" = some (.ref a_turned)
  b_turned : Binds K fd_turned ["n", "cut", "a", "b"] []
  a_away : Addr
  fd_away : FuncData
  F_away : Fun K "away" "away" s_away a_away fd_away
  g_away : mg "away" = some (.ref a_away)
  b_away : Binds K fd_away ["cut", "post"] []
  a_facing : Addr
  fd_facing : FuncData
  F_facing : Fun K "facing" "facing" s_facing a_facing fd_facing
  g_facing : mg "facing" = some (.ref a_facing)
  b_facing : Binds K fd_facing ["n", "cut", "post"] []
  a_walk : Addr
  fd_walk : FuncData
  F_walk : Fun K "walk" "walk" s_walk a_walk fd_walk
  g_walk : mg "walk" = some (.ref a_walk)
  b_walk : Binds K fd_walk ["n", "cut", "post"] []
  a_road : Addr
  fd_road : FuncData
  F_road : Fun K "road" "road" s_road a_road fd_road
  g_road : mg "road" = some (.ref a_road)
  b_road : Binds K fd_road ["n", "one", "other"] []
  a_law_flow : Addr
  fd_law_flow : FuncData
  F_law_flow : Fun K "_law_flow" "_law_flow" s_law_flow a_law_flow fd_law_flow
  g_law_flow : mg "_law_flow" = some (.ref a_law_flow)
  b_law_flow : Binds K fd_law_flow ["_law_script", "_law_many_here"] []
  a_law_whole : Addr
  fd_law_whole : FuncData
  F_law_whole : Fun K "_law_whole" "_law_whole" s_law_whole a_law_whole fd_law_whole
  g_law_whole : mg "_law_whole" = some (.ref a_law_whole)
  b_law_whole : Binds K fd_law_whole ["_law_found"] []
  a_law_many : Addr
  fd_law_many : FuncData
  F_law_many : Fun K "_law_many" "_law_many" s_law_many a_law_many fd_law_many
  g_law_many : mg "_law_many" = some (.ref a_law_many)
  b_law_many : Binds K fd_law_many ["_law_row"] []
  a_law_pair : Addr
  fd_law_pair : FuncData
  F_law_pair : Fun K "_law_pair" "_law_pair" s_law_pair a_law_pair fd_law_pair
  g_law_pair : mg "_law_pair" = some (.ref a_law_pair)
  b_law_pair : Binds K fd_law_pair ["_law_a", "_law_b"] []
  a_law_ears : Addr
  fd_law_ears : FuncData
  F_law_ears : Fun K "_law_ears" "_law_ears" s_law_ears a_law_ears fd_law_ears
  g_law_ears : mg "_law_ears" = some (.ref a_law_ears)
  b_law_ears : Binds K fd_law_ears ["_law_n", "_law_row"] []
  a_law_ropes : Addr
  fd_law_ropes : FuncData
  F_law_ropes : Fun K "_law_ropes" "_law_ropes" s_law_ropes a_law_ropes fd_law_ropes
  g_law_ropes : mg "_law_ropes" = some (.ref a_law_ropes)
  b_law_ropes : Binds K fd_law_ropes ["_law_ears_here"] []
  a_law_sides : Addr
  fd_law_sides : FuncData
  F_law_sides : Fun K "_law_sides" "_law_sides" s_law_sides a_law_sides fd_law_sides
  g_law_sides : mg "_law_sides" = some (.ref a_law_sides)
  b_law_sides : Binds K fd_law_sides ["_law_n"] []
  a_law_ties : Addr
  fd_law_ties : FuncData
  F_law_ties : Fun K "_law_ties" "_law_ties" s_law_ties a_law_ties fd_law_ties
  g_law_ties : mg "_law_ties" = some (.ref a_law_ties)
  b_law_ties : Binds K fd_law_ties ["_law_n", "_law_cut"] []
  a_law_beside : Addr
  fd_law_beside : FuncData
  F_law_beside : Fun K "_law_beside" "_law_beside" s_law_beside a_law_beside fd_law_beside
  g_law_beside : mg "_law_beside" = some (.ref a_law_beside)
  b_law_beside : Binds K fd_law_beside ["_law_n", "_law_all_ties", "_law_a", "_law_b"] []
  a_law_turned : Addr
  fd_law_turned : FuncData
  F_law_turned : Fun K "_law_turned" "_law_turned" s_law_turned a_law_turned fd_law_turned
  g_law_turned : mg "_law_turned" = some (.ref a_law_turned)
  b_law_turned : Binds K fd_law_turned ["_law_n", "_law_cut", "_law_rope"] []
  a_law_tuple : Addr
  fd_law_tuple : FuncData
  F_law_tuple : Fun K "_law_tuple" "_law_tuple" s_law_tuple a_law_tuple fd_law_tuple
  g_law_tuple : mg "_law_tuple" = some (.ref a_law_tuple)
  b_law_tuple : Binds K fd_law_tuple ["_law_found", "_law_many_here"] []
  a_law_list : Addr
  fd_law_list : FuncData
  F_law_list : Fun K "_law_list" "_law_list" s_law_list a_law_list fd_law_list
  g_law_list : mg "_law_list" = some (.ref a_law_list)
  b_law_list : Binds K fd_law_list ["_law_found", "_law_many_here"] []
  a_law_walk : Addr
  fd_law_walk : FuncData
  F_law_walk : Fun K "_law_walk" "_law_walk" s_law_walk a_law_walk fd_law_walk
  g_law_walk : mg "_law_walk" = some (.ref a_law_walk)
  b_law_walk : Binds K fd_law_walk ["_law_n", "_law_cut", "_law_found"] []
  a_law_away : Addr
  fd_law_away : FuncData
  F_law_away : Fun K "_law_away" "_law_away" s_law_away a_law_away fd_law_away
  g_law_away : mg "_law_away" = some (.ref a_law_away)
  b_law_away : Binds K fd_law_away ["_law_cut", "_law_post"] []
  a_law : Addr
  fd_law : FuncData
  F_law : Fun K "law" "law" s_law a_law fd_law
  g_law : mg "law" = some (.ref a_law)
  b_law : Binds K fd_law ["_law_script"] []
  m_min : mg "min" = none
  m_max : mg "max" = none
  m_sorted : mg "sorted" = none
  m_range : mg "range" = none
  m_len : mg "len" = none
  m_abs : mg "abs" = none
  m_isinstance : mg "isinstance" = none
  m_int : mg "int" = none
  m_bool : mg "bool" = none
  m_tuple : mg "tuple" = none
  m_list : mg "list" = none
  c_NoRope : Addr
  g_NoRope : mg "NoRope" = some (.ref c_NoRope)
  x_NoRope : PySem.W.excIn K c_NoRope [.type "ValueError", .type "Exception", .type "BaseException", .type "object"] "ValueError.__new__" = true
  k_NoRope : PySem.W.keepIn K (.ref c_NoRope) = true
  b_NoRope : PySem.W.subIn K (.ref c_NoRope) (.type "BaseException") = some true
  t_NoRope : PySem.W.typeIn K (.ref c_NoRope) = some (.type "type")
  i_NoRope : PySem.W.isClsIn K c_NoRope = true
  z_NoRope : PySem.W.subIn K (.ref c_NoRope) (.ref c_NoRope) = some true
/-! ### the draws: a new list of so many numbers below a million -/
def spFlow (K : PySem.W.Frag) : Sp := fun vs H Q _ => ∃ (a : Addr) (ns : List Int) (m : Nat), vs = [.ref a, .int m] ∧ SqL K H a (ns.map V.int) ∧ m ≤ 100000 ∧
  ∀ (row : List Int) (H' : Hp) (p : Addr), row.length = m → (∀ x ∈ row, 0 ≤ x ∧ x < 1000000) → Same H H' → H p = none → H' p = some (.lst (row.map V.int)) → Q (.ref p) H'
theorem flow_more {row : List Int} {x : Int} (h : ∀ x ∈ row, 0 ≤ x ∧ x < 1000000) (h0 : 0 ≤ x) (h1 : x < 1000000) : ∀ y ∈ row ++ [x], 0 ≤ y ∧ y < 1000000 := fun y hy => by
  rcases List.mem_append.mp hy with q | q
  · exact h y q
  · rw [List.mem_singleton.mp q]; exact ⟨h0, h1⟩
theorem flow_get {row : List Int} (h : ∀ x ∈ row, 0 ≤ x ∧ x < 1000000) (i : Nat) : 0 ≤ row.getD i 0 ∧ row.getD i 0 < 1000000 := by
  rw [List.getD_eq_getElem?_getD]
  cases e : row[i]? with
  | none => exact ⟨by decide, by decide⟩
  | some x => exact h x (List.mem_of_getElem? e)
section
variable {P : Program} {w : World} {K : PySem.W.Frag} {mg : Str → Option Value} {base : Heap}
theorem ok_law_flow (T : Tx K mg) : FnOk P w K mg base CX0 1 T.a_law_flow T.fd_law_flow ["_law_script", "_law_many_here"] (spFlow K) := by
  refine T.F_law_flow.ok sc_law_flow (fun vs H Q E h => ?_) (fun cdv A outer s H vs Q E hr h => ?_)
  · obtain ⟨a, ns, m, rfl, _⟩ := h
    rfl
  obtain ⟨a, ns, m, rfl, hS, hm, q⟩ := h
  refine ⟨_, (pss_cons (ps_set (i := 2) sc_law_flow.nd rfl (.inl rfl) (pe_int))
      (C8.pss_cut (ps_if (PW.pt (pw_and (pt_cmpR op_gt (pe_callB (c_len (K := K)) (by rfl) T.m_len PySem.boot_len (pa_cons (pv 0) pa_nil)) (pe_int) (nomark _)) (pw_and1 (pt_cmpR op_ge (pe_callB c_abs (by rfl) T.m_abs (by decide +kernel) (pa_cons (pe_ix (ix_listK (K := K)) (pv 0) (pe_int) (fun _ _ => rfl)) pa_nil)) (pe_op op_pow (pe_int) (pe_int)) (nomark _))))) (pss_one (ps_set (i := 2) sc_law_flow.nd rfl (.inl rfl) (pe_op op_sub (pe_callB c_abs (by rfl) T.m_abs (by decide +kernel) (pa_cons (pe_ix (ix_listK (K := K)) (pv 0) (pe_int) (fun _ _ => rfl)) pa_nil)) (pe_op op_pow (pe_int) (pe_int))))) pss_nil)
      (pss_cons (ps_set (i := 3) sc_law_flow.nd rfl (.inl rfl) (pe_lst pa_nil))
      (pss_cons (ps_for PassesOwn.never rfl (pi_range1 (by rfl) T.m_range (pa_cons (pv 1) pa_nil)) (pg_name (i := 4) sc_law_flow.nd rfl (.inl rfl)) (pss_one (ps_if (pt_cmpR op_gt (pv 2) (pe_int) (nomark _)) (pss_cons (ps_expr (k_bm (K := K) (pe_bm PySem.F.plainAttrs_list PySem.F.slot_list_append PySem.F.type_list_append mt_append (pv 3) (pa_cons (pe_op op_mod (pv 2) (pe_int)) pa_nil))))
      (pss_one (ps_set (i := 2) sc_law_flow.nd rfl (.inl rfl) (pe_op op_fdiv (pv 2) (pe_int))))) (pss_cons (ps_set (i := 5) sc_law_flow.nd rfl (.inl rfl) (pe_op op_add (pv 4) (pe_int)))
      (C8.pss_cut (ps_if (pt_cmpR op_gt (pe_callB (c_len (K := K)) (by rfl) T.m_len PySem.boot_len (pa_cons (pv 0) pa_nil)) (pe_int) (nomark _)) (pss_one (ps_set (i := 5) sc_law_flow.nd rfl (.inl rfl) (pe_ix (ix_listK (K := K)) (pv 0) (pe_op op_mod (pv 4) (pe_callB (c_len (K := K)) (by rfl) T.m_len PySem.boot_len (pa_cons (pv 0) pa_nil))) (fun _ _ => rfl)))) pss_nil)
      (pss_cons (ps_set (i := 6) sc_law_flow.nd rfl (.inl rfl) (pe_op op_mod (pe_op op_add (pe_op op_add (pe_op op_mul (pv 5) (pe_int)) (pe_op op_mul (pv 4) (pe_int))) (pe_int)) (pe_int)))
      (pss_cons (ps_set (i := 6) sc_law_flow.nd rfl (.inl rfl) (pe_op op_mod (pe_op op_add (pe_op op_add (pe_op op_mul (pv 6) (pe_int)) (pe_op op_mul (pv 4) (pe_int))) (pe_callB (c_len (K := K)) (by rfl) T.m_len PySem.boot_len (pa_cons (pv 0) pa_nil))) (pe_int)))
      (pss_one (ps_expr (k_bm (K := K) (pe_bm PySem.F.plainAttrs_list PySem.F.slot_list_append PySem.F.type_list_append mt_append (pv 3) (pa_cons (pe_op op_mod (pe_op op_fdiv (pv 6) (pe_int)) (pe_int)) pa_nil))))))))))))
      (pss_one (ps_ret (pv 3))))))), ?_⟩
  walk_at "st"
  have hl : (ns.map V.int).length = ns.length := List.length_map _
  refine Pm.w_cut (fun σ' H' => ∃ g : Int, σ' = [some (.ref a), some (.int m), some (.int g), none, none, none, none] ∧ H' = H) ?_ ?_
  · walk_at "st"
    refine Pm.w_len (.inl hS) ?_
    walk_at "st"
    refine Pm.w_ite (fun c => ?_) (fun c => ?_)
    · rw [hl] at c
      walk_at "st"
      refine Pm.w_ixL hS (atI_int (by omega) (by omega)) ?_
      walk_at "st"
      refine Pm.w_ite (fun c => ?_) (fun c => ?_)
      · walk_at "st"
        refine Pm.w_ixL hS (atI_int (by omega) (by omega)) ?_
        walk_at "st"
        exact ⟨_, rfl, rfl⟩
      · walk_at "st"
        exact ⟨_, rfl, rfl⟩
    · walk_at "st"
      exact ⟨_, rfl, rfl⟩
  rintro σ H' ⟨g, rfl, rfl⟩
  walk_at "st"
  refine Pm.w_newL (fun p hp => ?_)
  walk_at "st"
  rw [Int.toNat_natCast]
  refine Pm.w_forR (fun i σ H2 => ∃ (g : Int) (row : List Int) (x4 x5 x6 : Option V), σ = [some (.ref a), some (.int m), some (.int g), some (.ref p), x4, x5, x6] ∧
    row.length = i ∧ (∀ x ∈ row, 0 ≤ x ∧ x < 1000000) ∧ H2 = upd H' p (.lst (row.map V.int))) ?_ ?_ ?_
  · exact ⟨g, [], none, none, none, rfl, rfl, fun x hx => absurd hx (List.not_mem_nil), rfl⟩
  · rintro i σ H2 hi ⟨g, row, x4, x5, x6, rfl, hrow, hb, rfl⟩
    have hS2 : SqL K (upd H' p (.lst (row.map V.int))) a (ns.map V.int) := (same_new hp _).seq hS
    have hz : (row.map V.int).length < sizeLine := by rw [List.length_map]; exact size_lt (by omega)
    have fin : ∀ x : Int, upd (upd H' p (.lst (row.map V.int))) p (.lst (row.map V.int ++ [.int x])) = upd H' p (.lst ((row ++ [x]).map V.int)) := fun x => by rw [upd_upd, List.map_append] <;> rfl
    walk_at "st"
    refine Pm.w_ite (fun c => ?_) (fun c => ?_)
    · walk_at "st"
      refine ⟨.inl ⟨rfl, _, SqL.of upd_same⟩, ?_⟩
      walk_at "st"
      refine Pm.w_append upd_same hz ?_
      walk_at "st"
      refine ⟨_, row ++ [g % 1000000], _, _, _, rfl, by rw [List.length_append, hrow] <;> rfl, flow_more hb (by omega) (by omega), fin _⟩
    · walk_at "st"
      refine Pm.w_cut (fun σ' H3 => ∃ cell : Int, σ' = [some (.ref a), some (.int m), some (.int g), some (.ref p), some (.int (0 + (i : Nat))), some (.int cell), x6] ∧ H3 = upd H' p (.lst (row.map V.int))) ?_ ?_
      · walk_at "st"
        refine Pm.w_len (.inl hS2) ?_
        walk_at "st"
        refine Pm.w_ite (fun c => ?_) (fun c => ?_)
        · rw [hl] at c
          walk_at "st"
          refine Pm.w_len (.inl hS2) ?_
          rw [hl]
          walk_at "st"
          refine Pm.w_ixL hS2 (atI_int (Int.emod_nonneg _ (by omega)) (Int.emod_lt_of_pos _ (by omega))) ?_
          walk_at "st"
          exact ⟨_, rfl, rfl⟩
        · walk_at "st"
          exact ⟨_, rfl, rfl⟩
      · rintro σ H3 ⟨cell, rfl, rfl⟩
        walk_at "st"
        refine Pm.w_len (.inl hS2) ?_
        walk_at "st"
        refine ⟨.inl ⟨rfl, _, SqL.of upd_same⟩, ?_⟩
        walk_at "st"
        refine Pm.w_append upd_same hz ?_
        walk_at "st"
        refine ⟨_, row ++ [_], _, _, _, rfl, by rw [List.length_append, hrow] <;> rfl, flow_more hb (Int.emod_nonneg _ (by decide)) (Int.emod_lt_of_pos _ (by decide)), fin _⟩
  · rintro σ H2 ⟨g, row, x4, x5, x6, rfl, hrow, hb, rfl⟩
    walk_at "st"
    exact q row _ p hrow hb (same_new hp _) hp upd_same
end
/-! ### is it an int -/
section
variable {P : Program} {w : World} {K : PySem.W.Frag} {mg : Str → Option Value} {base : Heap}
def spWhole : Sp := fun vs H Q _ => ∃ i : Int, vs = [.int i] ∧ Q (.bl true) H
theorem ok_law_whole (T : Tx K mg) : FnOk P w K mg base CX0 1 T.a_law_whole T.fd_law_whole ["_law_found"] spWhole := by
  refine T.F_law_whole.ok sc_law_whole (fun vs H Q E h => ?_) (fun cdv A outer s H vs Q E hr h => ?_)
  · obtain ⟨i, rfl, _⟩ := h
    rfl
  obtain ⟨i, rfl, q⟩ := h
  refine ⟨_, (pss_one (ps_ret ((pe_and (pe_callB (call_isK (K := K)) (by rfl) T.m_isinstance (by decide +kernel) (pa_cons (pv 0) (pa_cons (pe_bltn (v := .ty "int") (by rfl) T.m_int (by decide +kernel) rfl) pa_nil))) (pe_one (pe_not (pe_callB (call_isK (K := K)) (by rfl) T.m_isinstance (by decide +kernel) (pa_cons (pv 0) (pa_cons (pe_bltn (v := .ty "bool") (by rfl) T.m_bool (by decide +kernel) rfl) pa_nil))))))))), ?_⟩
  walk_at "st"
  refine Pm.w_isiInt (b := true) (by decide +kernel) ?_
  walk_at "st"
  refine Pm.w_isiInt (b := false) (by decide +kernel) ?_
  walk_at "st"
  exact q
end
/-! ### the drawn cutting -/
/-- a new pair -/
def PrNew (H : Hp) (p : IP) (Q : VK) : Prop := ∀ (t : Addr) (H' : Hp), Same H H' → H t = none → Pr H' (.ref t) p → Q (.ref t) H'
def spPair : Sp := fun vs H Q _ => ∃ a b : Int, vs = [.int a, .int b] ∧ PrNew H (tieOf a b) Q
theorem atI_prev {ns : List Int} {k : Int} (h0 : 0 ≤ k) (h : k < (ns.length : Int)) : atI (ns.map V.int) (k - 1) = some (.int (ns.getD ((k.toNat + ns.length - 1) % ns.length) 0)) := by
  by_cases c : k = 0
  · subst c
    have e : ((0 : Int).toNat + ns.length - 1) % ns.length = ns.length - 1 := by
      rw [show (0 : Int).toNat + ns.length - 1 = ns.length - 1 by omega]
      exact Nat.mod_eq_of_lt (by omega)
    rw [e]
    unfold atI ixN
    rw [if_neg (by omega), if_pos (by rw [List.length_map]; omega)]
    show (ns.map V.int)[(0 - 1 + ((ns.map V.int).length : Int)).toNat]? = _
    rw [show (0 - 1 + ((ns.map V.int).length : Int)).toNat = ns.length - 1 by rw [List.length_map]; omega, List.getElem?_map, List.getElem?_eq_getElem (by omega), List.getD_eq_getElem?_getD, List.getElem?_eq_getElem (by omega)] <;> rfl
  · have e : (k.toNat + ns.length - 1) % ns.length = (k - 1).toNat := by
      rw [show k.toNat + ns.length - 1 = (k - 1).toNat + ns.length by omega, Nat.add_mod_right]
      exact Nat.mod_eq_of_lt (by omega)
    rw [e]
    exact atI_int (by omega) (by omega)
section
variable {P : Program} {w : World} {K : PySem.W.Frag} {mg : Str → Option Value} {base : Heap}
theorem ok_law_pair (T : Tx K mg) : FnOk P w K mg base CX0 1 T.a_law_pair T.fd_law_pair ["_law_a", "_law_b"] spPair := by
  refine T.F_law_pair.ok sc_law_pair (fun vs H Q E h => ?_) (fun cdv A outer s H vs Q E hr h => ?_)
  · obtain ⟨a, b, rfl, _⟩ := h
    rfl
  obtain ⟨a, b, rfl, q⟩ := h
  refine ⟨_, (pss_one (ps_ret (pe_tup (pa_cons (pe_callB (c_min rfl) (by rfl) T.m_min (by decide +kernel) (pa_cons (pv 0) (pa_cons (pv 1) pa_nil))) (pa_cons (pe_callB (c_max rfl) (by rfl) T.m_max (by decide +kernel) (pa_cons (pv 0) (pa_cons (pv 1) pa_nil))) pa_nil))))), ?_⟩
  walk_at "st"
  refine Pm.w_newT (fun t ht => ?_)
  exact q t _ (same_new ht _) ht (pr_new upd_same)
def spEars (K : PySem.W.Frag) : Sp := fun vs H Q _ => ∃ (n : Nat) (r : Addr) (row : List Int), vs = [.int n, .ref r] ∧ SqL K H r (row.map V.int) ∧ 3 ≤ n ∧ n ≤ 12 ∧ n ≤ row.length + 3 ∧
  ∀ (p : Addr) (H' : Hp) (evs : List V) (es : List Ear), Same H H' → H p = none → H' p = some (.lst evs) → All2 (Er H') evs es → Ears (posts n) es → es.length + 3 = n → Q (.ref p) H'
theorem ok_law_ears (T : Tx K mg) : FnOk P w K mg base CX0 1 T.a_law_ears T.fd_law_ears ["_law_n", "_law_row"] (spEars K) := by
  refine T.F_law_ears.ok sc_law_ears (fun vs H Q E h => ?_) (fun cdv A outer s H vs Q E hr h => ?_)
  · obtain ⟨n, r, row, rfl, _⟩ := h
    rfl
  obtain ⟨n, r, row, rfl, hR, n3, n12, hrow, q⟩ := h
  refine ⟨_, (pss_cons (ps_setLc (i := 2) (own := [("_law_k", 3)]) (g := gName 3) (tt := tYes) rfl sc_law_ears.nd rfl rfl (sw_true rfl rfl rfl (by decide +kernel)) (pi_range1 (by rfl) T.m_range (pa_cons (pv 0) pa_nil)) (blkOk_by (N := N_law_ears) (sc := defScope s_law_ears) (by decide +kernel)) (fun _ _ _ _ _ => (pg_name (i := 3) sc_law_ears.nd rfl (.inl rfl))) (fun _ _ _ _ _ => pts_nil) (fun _ _ _ _ _ => (pv 3)))
      (pss_cons (ps_set (i := 4) sc_law_ears.nd rfl (.inl rfl) (pe_lst pa_nil))
      (pss_cons (ps_while PassesOwn.never (pt_cmpR op_gt (pe_callB (c_len (K := K)) (by rfl) T.m_len PySem.boot_len (pa_cons (pv 2) pa_nil)) (pe_int) (nomark _)) (pss_cons (ps_set (i := 3) sc_law_ears.nd rfl (.inl rfl) (pe_op op_mod (pe_ix (ix_listK (K := K)) (pv 1) (pe_callB (c_len (K := K)) (by rfl) T.m_len PySem.boot_len (pa_cons (pv 4) pa_nil)) (fun _ _ => rfl)) (pe_callB (c_len (K := K)) (by rfl) T.m_len PySem.boot_len (pa_cons (pv 2) pa_nil))))
      (pss_cons (ps_expr (k_bm (K := K) (pe_bm PySem.F.plainAttrs_list PySem.F.slot_list_append PySem.F.type_list_append mt_append (pv 4) (pa_cons (pe_tup (pa_cons (pe_ix (ix_listK (K := K)) (pv 2) (pv 3) (fun _ _ => rfl)) (pa_cons (pe_ix (ix_listK (K := K)) (pv 2) (pe_op op_sub (pv 3) (pe_int)) (fun _ _ => rfl)) (pa_cons (pe_ix (ix_listK (K := K)) (pv 2) (pe_op op_mod (pe_op op_add (pv 3) (pe_int)) (pe_callB (c_len (K := K)) (by rfl) T.m_len PySem.boot_len (pa_cons (pv 2) pa_nil))) (fun _ _ => rfl)) pa_nil)))) pa_nil))))
      (pss_one (ps_set (i := 2) sc_law_ears.nd rfl (.inl rfl) (pe_op op_cat (pe_slice (sl_listK (K := K)) (pv 2) po_none (po_some (pv 3))) (pe_slice (sl_listK (K := K)) (pv 2) (po_some (pe_op op_add (pv 3) (pe_int))) po_none)))))))
      (pss_one (ps_ret (pv 4)))))), ?_⟩
  walk_at "st"
  rw [Int.toNat_natCast]
  refine Pm.w_lcRm (R := In) in_mono (fun i : Nat => (i : Int)) (by omega) (fun D i H1 Nx hD hi s1 put => ?_) (fun D H1 ws hD s1 hd ha => ?_)
  · walk_at "st"
    exact put _ _ (Same.refl _) (by show V.int (0 + (i : Int)) = _; rw [Int.zero_add])
  have ew := ins_map ha
  subst ew
  walk_at "st"
  refine Pm.w_newL (fun e he => ?_)
  walk_at "st"
  have nD : e ≠ D := fun z => by subst z; rw [hd] at he; cases he
  have hD2 : (upd H1 e (.lst [])) D = some (.lst ((posts n).map V.int)) := by rw [upd_ne nD.symm]; exact hd
  have sE : Same H (upd H1 e (.lst [])) := s1.trans (same_new he _)
  have hHe : H e = none := s1.free he
  refine Pm.w_while (fun m σ H2 => ∃ (l : Addr) (L : List Int) (x : Option V) (evs : List V) (es : List Ear), σ = [some (.int n), some (.ref r), some (.ref l), x, some (.ref e)] ∧ H2 l = some (.lst (L.map V.int)) ∧ H2 e = some (.lst evs) ∧ All2 (Er H2) evs es ∧
    L.length + es.length = n ∧ 3 ≤ L.length ∧ (∀ es', Ears L es' → Ears (posts n) (es ++ es')) ∧ Same H H2 ∧ l ≠ e ∧ m = L.length) n ⟨D, posts n, _, [], [], rfl, hD2, upd_same, trivial, by rw [posts_len] <;> rfl, by rw [posts_len]; exact n3, fun _ h => h, sE, nD.symm, (posts_len n).symm⟩ ?_
  rintro m σ H2 ⟨l, L, x, evs, es, rfl, hl, hE, hA, hlen, hL3, hears, s2, nle, rfl⟩
  have hlL : (L.map V.int).length = L.length := List.length_map _
  have hR2 : SqL K H2 r (row.map V.int) := s2.seq hR
  have ale := hA.length
  walk_at "st"
  refine Pm.w_lenL (SqL.of hl) ?_
  walk_at "st"
  refine Pm.w_wh (fun c => ?_) (fun c => ?_)
  · rw [hlL] at c
    walk_at "st"
    refine Pm.w_lenL (SqL.of hE) ?_
    walk_at "st"
    refine Pm.w_ixL hR2 (atI_int (by omega) (by omega)) ?_
    walk_at "st"
    refine Pm.w_lenL (SqL.of hl) ?_
    rw [hlL]
    walk_at "st"
    generalize hk : row.getD (evs.length : Int).toNat 0 % (L.length : Int) = k
    have k0 : 0 ≤ k := by rw [← hk]; exact Int.emod_nonneg _ (by omega)
    have k1 : k < (L.length : Int) := by rw [← hk]; exact Int.emod_lt_of_pos _ (by omega)
    refine ⟨.inl ⟨rfl, _, SqL.of hE⟩, ?_⟩
    walk_at "st"
    refine Pm.w_ixL (SqL.of hl) (atI_int k0 k1) ?_
    walk_at "st"
    refine Pm.w_ixL (SqL.of hl) (atI_prev k0 k1) ?_
    walk_at "st"
    refine Pm.w_lenL (SqL.of hl) ?_
    rw [hlL]
    walk_at "st"
    refine Pm.w_ixL (SqL.of hl) (atI_int (Int.emod_nonneg _ (by omega)) (Int.emod_lt_of_pos _ (by omega))) ?_
    walk_at "st"
    refine Pm.w_newT (fun t ht => ?_)
    walk_at "st"
    have ek : ((k + 1) % (L.length : Int)).toNat = (k.toNat + 1) % L.length := by
      have e1 : k + 1 = ((k.toNat + 1 : Nat) : Int) := by omega
      rw [e1, ← Int.natCast_emod, Int.toNat_natCast]
    rw [ek]
    have nte : e ≠ t := ne_of_none hE ht
    have ntl : l ≠ t := ne_of_none hl ht
    refine Pm.w_append (by rw [upd_ne nte]; exact hE) (size_lt (by omega)) ?_
    walk_at "st"
    generalize hT : (V.ref t) = tv
    have hl3 : (upd (upd H2 t (.tup [.int (L.getD k.toNat 0), .int (L.getD ((k.toNat + L.length - 1) % L.length) 0), .int (L.getD ((k.toNat + 1) % L.length) 0)])) e (.lst (evs ++ [tv]))) l = some (.lst (L.map V.int)) := by
      rw [upd_ne nle, upd_ne ntl]; exact hl
    refine Pm.w_slL (SqL.of hl3) (fun p1 hp1 => ?_)
    rw [cut_take k0 (by rw [hlL]; omega)]
    walk_at "st"
    have np1 : l ≠ p1 := ne_of_none hl3 hp1
    refine Pm.w_slL (SqL.of (by rw [upd_ne np1]; exact hl3)) (fun p2 hp2 => ?_)
    have np12 : p1 ≠ p2 := ne_of_none upd_same hp2
    rw [cut_drop (by omega) (by rw [hlL]; omega)]
    refine Pm.w_cat (by rw [upd_ne np12]; exact upd_same) upd_same (size_ok (by rw [List.length_take, List.length_drop, hlL]; omega)) (fun p3 hp3 => ?_)
    walk_at "st"
    have eL : (L.map V.int).take k.toNat ++ (L.map V.int).drop (k + 1).toNat = (L.eraseIdx k.toNat).map V.int := by
      rw [List.eraseIdx_eq_take_drop_succ, List.map_append, List.map_take, List.map_drop, show (k + 1).toNat = k.toNat + 1 by omega]
    have hkL : k.toNat < L.length := by omega
    have leL : (L.eraseIdx k.toNat).length = L.length - 1 := List.length_eraseIdx_of_lt hkL
    have kk : Keeps H2 (upd (upd H2 t (.tup [.int (L.getD k.toNat 0), .int (L.getD ((k.toNat + L.length - 1) % L.length) 0), .int (L.getD ((k.toNat + 1) % L.length) 0)])) e (.lst (evs ++ [tv]))) := (keeps (same_new ht _)).trans (keeps_lst (xs := evs) (by rw [upd_ne nte]; exact hE))
    have sF : Same (upd (upd H2 t (.tup [.int (L.getD k.toNat 0), .int (L.getD ((k.toNat + L.length - 1) % L.length) 0), .int (L.getD ((k.toNat + 1) % L.length) 0)])) e (.lst (evs ++ [tv]))) (upd (upd (upd (upd (upd H2 t (.tup [.int (L.getD k.toNat 0), .int (L.getD ((k.toNat + L.length - 1) % L.length) 0), .int (L.getD ((k.toNat + 1) % L.length) 0)])) e (.lst (evs ++ [tv]))) p1 (.lst (List.take k.toNat (List.map V.int L)))) p2 (.lst (List.drop (k + 1).toNat (List.map V.int L)))) p3 (.lst (List.take k.toNat (List.map V.int L) ++ List.drop (k + 1).toNat (List.map V.int L)))) :=
      (same_new hp1 _).trans ((same_new hp2 _).trans (same_new hp3 _))
    refine ⟨L.length - 1, by omega, p3, L.eraseIdx k.toNat, _, evs ++ [tv], es ++ [(L.getD k.toNat 0, L.getD ((k.toNat + L.length - 1) % L.length) 0, L.getD ((k.toNat + 1) % L.length) 0)], rfl, by rw [upd_same, eL], sF _ _ upd_same, ?_, ?_, by omega, fun es' h' => ?_, ?_, ?_, leL.symm⟩
    · refine (hA.mono fun _ _ r => er_mono _ _ _ _ (kk.trans (keeps sF)) r).snoc (er_mono _ _ _ _ (keeps sF) ⟨t, hT.symm, ?_⟩)
      rw [upd_ne nte.symm, upd_same]
    · rw [leL, List.length_append, List.length_singleton]; omega
    · rw [List.append_assoc]
      exact hears _ (Ears.step k.toNat (by omega) hkL h')
    · exact (same_but hHe (s2.trans (same_new ht _))).trans sF
    · exact fun z => by
        have : e ≠ p3 := ne_of_none (o := .lst (evs ++ [tv])) (((same_new hp1 _).trans (same_new hp2 _)) _ _ upd_same) hp3
        exact this z.symm
  · rw [hlL] at c
    walk_at "st"
    have h0 : Ears L [] := .done (by omega)
    have h1 := hears _ h0
    rw [List.append_nil] at h1
    exact q e H2 evs es s2 hHe hE hA h1 (by omega)
def spRopes (K : PySem.W.Frag) : Sp := fun vs H Q _ => ∃ (r : Addr) (evs : List V) (es : List Ear), vs = [.ref r] ∧ SqL K H r evs ∧ All2 (Er H) evs es ∧ es.length ≤ 1000 ∧ PLNew H (sortP (es.map ropeOf)) Q
theorem ok_law_ropes (T : Tx K mg) : FnOk P w K mg base CX0 2 T.a_law_ropes T.fd_law_ropes ["_law_ears_here"] (spRopes K) := by
  refine T.F_law_ropes.ok sc_law_ropes (fun vs H Q E h => ?_) (fun cdv A outer s H vs Q E hr h => ?_)
  · obtain ⟨r, evs, es, rfl, _⟩ := h
    rfl
  obtain ⟨r, evs, es, rfl, hR, hA, hn, q⟩ := h
  refine ⟨_, (pss_one (ps_ret (pe_callB (cr_sortK (K := K)) (by rfl) T.m_sorted (by decide +kernel) (pa_cons (pe_lc (own := [("_law_ear", 1)]) (g := gName 1) (tt := tYes) rfl sc_law_ropes.nd (k_il (K := K) (pi_list (pv 0))) (blkOk_by (N := N_law_ropes) (sc := defScope s_law_ropes) (by decide +kernel)) (fun _ _ _ _ _ => (pg_name (i := 1) sc_law_ropes.nd rfl (.inl rfl))) (fun _ _ _ _ _ => pts_nil) (fun _ _ _ _ _ => (pe_call (ok_law_pair T) (hr.mono (by decide)) (by rfl) T.g_law_pair T.F_law_pair.kp T.b_law_pair .nil pass0 (pa_cons (pe_ix (ix_tupK (K := K)) (pv 1) (pe_int) (fun _ _ => rfl)) (pa_cons (pe_ix (ix_tupK (K := K)) (pv 1) (pe_int) (fun _ _ => rfl)) pa_nil))))) pa_nil)))), ?_⟩
  walk_at "st"
  refine Pm.w_rdL hR ?_
  refine Pm.w_lcLf (R := Pr) pr_mono (S := Er) er_mono hR hA ropeOf (fun _ => true) (by omega) (fun D x c H1 Nx hD hc hs s1 put skip => ?_) (fun D H1 ws hD s1 hd ha => ?_)
  · obtain ⟨t, rfl, ht⟩ := hs
    walk_at "st"
    refine Pm.w_ixT (SqT.of ht) (show atI [V.int c.1, V.int c.2.1, V.int c.2.2] 1 = some (V.int c.2.1) from rfl) ?_
    walk_at "st"
    refine Pm.w_ixT (SqT.of ht) (show atI [V.int c.1, V.int c.2.1, V.int c.2.2] 2 = some (V.int c.2.2) from rfl) ?_
    walk_at "st"
    exact ⟨_, _, rfl, fun u H2 s2 nu hu => put _ _ rfl s2 hu⟩
  · rw [List.filter_eq_self.mpr (fun _ _ => rfl)] at ha
    walk_at "st"
    refine Pm.w_sortP (SqL.of hd) ha (fun ys p hp hy => ?_)
    exact q p _ ys (s1.trans (same_new hp _)) (s1.free hp) upd_same (prs_keep (keeps (same_new hp _)) hy)
end
section
variable {P : Program} {w : World} {K : PySem.W.Frag} {mg : Str → Option Value} {base : Heap}
def spMany (K : PySem.W.Frag) : Sp := fun vs H Q _ => ∃ (r : Addr) (row : List Int), vs = [.ref r] ∧ SqL K H r (row.map V.int) ∧ 2 ≤ row.length ∧ ∀ n : Nat, 3 ≤ n → n ≤ 12 → Q (.int n) H
theorem ok_law_many (T : Tx K mg) : FnOk P w K mg base CX0 1 T.a_law_many T.fd_law_many ["_law_row"] (spMany K) := by
  refine T.F_law_many.ok sc_law_many (fun vs H Q E h => ?_) (fun cdv A outer s H vs Q E hr h => ?_)
  · obtain ⟨r, row, rfl, _⟩ := h
    rfl
  obtain ⟨r, row, rfl, hR, hn, q⟩ := h
  have q' : ∀ n : Int, 3 ≤ n → n ≤ 12 → Q (.int n) H := fun n h1 h2 => by
    have e : n = (n.toNat : Int) := by omega
    rw [e]
    exact q _ (by omega) (by omega)
  refine ⟨_, (pss_cons (ps_if (pt_cmpR op_eq (pe_op op_mod (pe_ix (ix_listK (K := K)) (pv 0) (pe_int) (fun _ _ => rfl)) (pe_int)) (pe_int) (nomark _)) (pss_one (ps_ret (pe_op op_add (pe_int) (pe_op op_mod (pe_ix (ix_listK (K := K)) (pv 0) (pe_int) (fun _ _ => rfl)) (pe_int))))) pss_nil)
      (pss_one (ps_ret (pe_op op_add (pe_int) (pe_op op_mod (pe_ix (ix_listK (K := K)) (pv 0) (pe_int) (fun _ _ => rfl)) (pe_int)))))), ?_⟩
  walk_at "st"
  refine Pm.w_ixL hR (atI_int (by omega) (by omega)) ?_
  walk_at "st"
  refine Pm.w_ite (fun e => ?_) (fun e => ?_)
  · walk_at "st"
    refine Pm.w_ixL hR (atI_int (by omega) (by omega)) ?_
    walk_at "st"
    exact q' _ (by omega) (by omega)
  · walk_at "st"
    refine Pm.w_ixL hR (atI_int (by omega) (by omega)) ?_
    walk_at "st"
    exact q' _ (by omega) (by omega)
end
/-! ### ties -/
section
variable {P : Program} {w : World} {K : PySem.W.Frag} {mg : Str → Option Value} {base : Heap}
theorem ok_tie_of (T : Tx K mg) : FnOk P w K mg base CX0 1 T.a_tie_of T.fd_tie_of ["a", "b"] spPair := by
  refine T.F_tie_of.ok sc_tie_of (fun vs H Q E h => ?_) (fun cdv A outer s H vs Q E hr h => ?_)
  · obtain ⟨a, b, rfl, _⟩ := h
    rfl
  obtain ⟨a, b, rfl, q⟩ := h
  refine ⟨_, (pss_one (ps_ret (pe_tup (pa_cons (pe_callB (c_min rfl) (by rfl) T.m_min (by decide +kernel) (pa_cons (pv 0) (pa_cons (pv 1) pa_nil))) (pa_cons (pe_callB (c_max rfl) (by rfl) T.m_max (by decide +kernel) (pa_cons (pv 0) (pa_cons (pv 1) pa_nil))) pa_nil))))), ?_⟩
  walk_at "st"
  refine Pm.w_newT (fun t ht => ?_)
  exact q t _ (same_new ht _) ht (pr_new upd_same)
end
section
variable {P : Program} {w : World} {K : PySem.W.Frag} {mg : Str → Option Value} {base : Heap}
def spSides : Sp := fun vs H Q _ => ∃ n : Nat, vs = [.int n] ∧ 1 ≤ n ∧ n ≤ 1000 ∧ PLNew H (sidesL n) Q
theorem ok_sides (T : Tx K mg) : FnOk P w K mg base CX0 1 T.a_sides T.fd_sides ["n"] spSides := by
  refine T.F_sides.ok sc_sides (fun vs H Q E h => ?_) (fun cdv A outer s H vs Q E hr h => ?_)
  · obtain ⟨n, rfl, _⟩ := h
    rfl
  obtain ⟨n, rfl, n1, n2, q⟩ := h
  refine ⟨_, (pss_one (ps_ret (pe_callB (cr_sortK (K := K)) (by rfl) T.m_sorted (by decide +kernel) (pa_cons (pe_op op_cat (pe_lc (own := [("k", 1)]) (g := gName 1) (tt := tYes) rfl sc_sides.nd (pi_range1 (by rfl) T.m_range (pa_cons (pe_op op_sub (pv 0) (pe_int)) pa_nil)) (blkOk_by (N := N_sides) (sc := defScope s_sides) (by decide +kernel)) (fun _ _ _ _ _ => (pg_name (i := 1) sc_sides.nd rfl (.inl rfl))) (fun _ _ _ _ _ => pts_nil) (fun _ _ _ _ _ => (pe_tup (pa_cons (pv 1) (pa_cons (pe_op op_add (pv 1) (pe_int)) pa_nil))))) (pe_lst (pa_cons (pe_tup (pa_cons (pe_int) (pa_cons (pe_op op_sub (pv 0) (pe_int)) pa_nil))) pa_nil))) pa_nil)))), ?_⟩
  walk_at "st"
  have en : ((n : Int) - 1).toNat = n - 1 := by omega
  rw [en]
  refine Pm.w_lcRm (R := Pr) pr_mono (fun k : Nat => ((k : Int), (k : Int) + 1)) (by omega) (fun D i H1 Nx hD hi s1 put => ?_) (fun D H1 ws hD s1 hd ha => ?_)
  · walk_at "st"
    refine Pm.w_newT (fun t ht => ?_)
    refine put _ _ (same_new ht _) ⟨t, rfl, ?_⟩
    rw [upd_same, Int.zero_add]
  · walk_at "st"
    refine Pm.w_newT (fun t ht => ?_)
    walk_at "st"
    refine Pm.w_newL (fun l hl => ?_)
    have nD : D ≠ l := ne_of_none (o := .lst ws) ((same_new ht _) _ _ hd) hl
    have hlen := ha.length
    rw [List.length_map, List.length_range] at hlen
    refine Pm.w_cat (by rw [upd_ne nD, upd_ne (ne_of_none hd ht)]; exact hd) upd_same (size_ok (by rw [hlen, List.length_singleton]; omega)) (fun p hp => ?_)
    have k1 : Keeps H1 (upd (upd (upd H1 t (.tup [.int 0, .int ((n : Int) - 1)])) l (.lst [.ref t])) p (.lst (ws ++ [.ref t]))) := keeps ((same_new ht _).trans ((same_new hl _).trans (same_new hp _)))
    refine Pm.w_sortP (ps := sides0 n) (SqL.of upd_same) ((prs_keep k1 ha).append ⟨⟨t, rfl, ?_⟩, trivial⟩) (fun ys p2 hp2 hy => ?_)
    · exact ((same_new hl _).trans (same_new hp _)) _ _ upd_same
    · have s2 := s1.trans ((same_new ht _).trans ((same_new hl _).trans (same_new hp (.lst (ws ++ [.ref t])))))
      exact q p2 _ ys (s2.trans (same_new hp2 _)) (s2.free hp2) upd_same (prs_keep (keeps (same_new hp2 _)) hy)
end
section
variable {P : Program} {w : World} {K : PySem.W.Frag} {mg : Str → Option Value} {base : Heap}
def spTies : Sp := fun vs H Q _ => ∃ (n : Nat) (c : Addr) (cut : List IP), vs = [.int n, .ref c] ∧ 1 ≤ n ∧ n ≤ 1000 ∧ PLt H c cut ∧ cut.length ≤ 1000 ∧ PLNew H (tiesL n cut) Q
theorem ok_ties (T : Tx K mg) : FnOk P w K mg base CX0 2 T.a_ties T.fd_ties ["n", "cut"] spTies := by
  refine T.F_ties.ok sc_ties (fun vs H Q E h => ?_) (fun cdv A outer s H vs Q E hr h => ?_)
  · obtain ⟨n, c, cut, rfl, _⟩ := h
    rfl
  obtain ⟨n, c, cut, rfl, n1, n2, ⟨cvs, hc, pc⟩, cl, q⟩ := h
  refine ⟨_, (pss_one (ps_ret (pe_callB (cr_sortK (K := K)) (by rfl) T.m_sorted (by decide +kernel) (pa_cons (pe_op op_cat (pe_call (ok_sides T) (hr.mono (by decide)) (by rfl) T.g_sides T.F_sides.kp T.b_sides .nil pass0 (pa_cons (pv 0) pa_nil)) (pv 1)) pa_nil)))), ?_⟩
  walk_at "st"
  refine ⟨n, rfl, n1, n2, fun p H1 ws s1 np hp ha => ?_⟩
  walk_at "st"
  have l1 := ha.length
  rw [sidesL, sortP_len, sides0_len n1] at l1
  have l2 := pc.length
  refine Pm.w_cat hp (s1 _ _ hc) (size_ok (by omega)) (fun l hl => ?_)
  have k1 := keeps (same_new hl (.lst (ws ++ cvs)))
  refine Pm.w_sortP (SqL.of upd_same) ((prs_keep k1 ha).append (prs_keep ((keeps s1).trans k1) pc)) (fun ys p2 hp2 hy => ?_)
  rw [tiesL_eq] at hy
  have s2 := s1.trans (same_new hl (.lst (ws ++ cvs)))
  exact q p2 _ ys (s2.trans (same_new hp2 _)) (s2.free hp2) upd_same (prs_keep (keeps (same_new hp2 _)) hy)
end
theorem besides_snoc (T : List IP) (a b : Int) (i : Nat) : ((List.range (i + 1)).filter (isBeside T a b)).map (fun c : Nat => (c : Int)) = ((List.range i).filter (isBeside T a b)).map (fun c : Nat => (c : Int)) ++ (if isBeside T a b i = true then [(i : Int)] else []) := by
  rw [List.range_succ, List.filter_append, List.map_append]
  congr 1
  by_cases h : isBeside T a b i = true
  · simp [h]
  · simp [h]
/-- a new list of numbers -/
def ILNew (H : Hp) (ns : List Int) (Q : VK) : Prop := ∀ (p : Addr) (H' : Hp), Same H H' → H p = none → H' p = some (.lst (ns.map V.int)) → Q (.ref p) H'
section
variable {P : Program} {w : World} {K : PySem.W.Frag} {mg : Str → Option Value} {base : Heap}
def spBeside (C : Addr) : Sp := fun vs H Q E => ∃ (n : Nat) (c : Addr) (cut : List IP) (a b : Int), vs = [.int n, .ref c, .int a, .int b] ∧ 1 ≤ n ∧ n ≤ 1000 ∧ PLt H c cut ∧ cut.length ≤ 1000 ∧
  (tieOf a b ∉ tiesL n cut → ∀ H', Same H H' → E (.ref C) none H') ∧ (tieOf a b ∈ tiesL n cut → ILNew H (besideL n (tiesL n cut) a b) Q)
theorem ok_beside (T : Tx K mg) : FnOk P w K mg base (L2.CX P w) 3 T.a_beside T.fd_beside ["n", "cut", "a", "b"] (spBeside T.c_NoRope) := by
  refine T.F_beside.okX sc_beside (fun vs H Q E h => ?_) (fun cdv A outer s H vs Q E hr h => ?_)
  · obtain ⟨n, c, cut, a, b, rfl, _⟩ := h
    rfl
  obtain ⟨n, c, cut, a, b, rfl, n1, n2, hc, cl, hE, q⟩ := h
  refine ⟨_, (pss_cons (ps_set (i := 4) sc_beside.nd rfl (.inl rfl) (pe_call (ok_ties T) (hr.mono (by decide)) (by rfl) T.g_ties T.F_ties.kp T.b_ties .nil pass0 (pa_cons (pv 0) (pa_cons (pv 1) pa_nil))))
      (pss_cons (ps_if (pt_cmpR (op_notInDK (K := K) hr.u65) (pe_call (ok_tie_of T) (hr.mono (by decide)) (by rfl) T.g_tie_of T.F_tie_of.kp T.b_tie_of .nil pass0 (pa_cons (pv 2) (pa_cons (pv 3) pa_nil))) (pv 4) (by rfl)) (pss_one (ps_raise rfl (takes_of rfl rfl rfl rfl) (pmk_own PySem.F.excBase_ValueError T.x_NoRope T.g_NoRope T.k_NoRope (raises_own T.b_NoRope T.t_NoRope) rfl))) pss_nil)
      (pss_cons (ps_set (i := 5) sc_beside.nd rfl (.inl rfl) (pe_lst pa_nil))
      (pss_cons (ps_for (passes_of rfl) rfl (pi_range1 (by rfl) T.m_range (pa_cons (pv 0) pa_nil)) (pg_name (i := 6) sc_beside.nd rfl (.inl rfl)) (pss_one (ps_if (PW.pt (pw_and (pt_cmpR (op_inDK (K := K) hr.u65) (pe_call (ok_tie_of T) (hr.mono (by decide)) (by rfl) T.g_tie_of T.F_tie_of.kp T.b_tie_of .nil pass0 (pa_cons (pv 2) (pa_cons (pv 6) pa_nil))) (pv 4) (by rfl)) (pw_and1 (pt_cmpR (op_inDK (K := K) hr.u65) (pe_call (ok_tie_of T) (hr.mono (by decide)) (by rfl) T.g_tie_of T.F_tie_of.kp T.b_tie_of .nil pass0 (pa_cons (pv 3) (pa_cons (pv 6) pa_nil))) (pv 4) (by rfl))))) (pss_one (ps_expr (k_bm (K := K) (pe_bm PySem.F.plainAttrs_list PySem.F.slot_list_append PySem.F.type_list_append mt_append (pv 5) (pa_cons (pv 6) pa_nil))))) pss_nil)))
      (pss_one (ps_ret (pv 5))))))), ?_⟩
  walk_at "st"
  refine ⟨n, c, cut, rfl, n1, n2, hc, cl, fun l H1 ws s1 nl hl ha => ?_⟩
  walk_at "st"
  refine ⟨a, b, rfl, fun t H2 s2 nt ht => ?_⟩
  walk_at "st"
  refine Pm.w_ninPL ht (SqL.of (s2 _ _ hl)) (prs_keep (keeps s2) ha) ?_
  walk_at "st"
  refine Pm.w_iteN (fun e => ?_) (fun e => ?_)
  · exact hE e _ (s1.trans s2)
  walk_at "st"
  refine Pm.w_newL (fun f hf => ?_)
  walk_at "st"
  rw [Int.toNat_natCast]
  have s3 : Same H2 (upd H2 f (.lst [])) := same_new hf _
  have nlf : l ≠ f := ne_of_none (s2 _ _ hl) hf
  have hHf : H f = none := (s1.trans s2).free hf
  refine Pm.w_forR (fun i σ H3 => ∃ x, σ = [some (.int n), some (.ref c), some (.int a), some (.int b), some (.ref l), some (.ref f), x] ∧ Same H H3 ∧ H3 l = some (.lst ws) ∧ Prs H3 ws (tiesL n cut) ∧ H3 f = some (.lst ((((List.range i).filter (isBeside (tiesL n cut) a b)).map fun c : Nat => (c : Int)).map V.int))) ?_ ?_ ?_
  · exact ⟨_, rfl, same_but hHf (s1.trans s2), s3 _ _ (s2 _ _ hl), prs_keep (keeps (s2.trans s3)) ha, upd_same⟩
  · rintro i σ H3 hi ⟨x, rfl, sm, hl3, ha3, hf3⟩
    have hz : ((((List.range i).filter (isBeside (tiesL n cut) a b)).map fun c : Nat => (c : Int)).map V.int).length < sizeLine := by
      rw [List.length_map, List.length_map]
      have := List.length_filter_le (isBeside (tiesL n cut) a b) (List.range i)
      rw [List.length_range] at this
      exact size_lt (by omega)
    have fin : ∀ H5 : Hp, Same H3 H5 → isBeside (tiesL n cut) a b i = false → ∃ x, ([some (.int n), some (.ref c), some (.int a), some (.int b), some (.ref l), some (.ref f), some (.int (0 + (i : Nat)))] : L2.St) = [some (.int n), some (.ref c), some (.int a), some (.int b), some (.ref l), some (.ref f), x] ∧ Same H H5 ∧ H5 l = some (.lst ws) ∧ Prs H5 ws (tiesL n cut) ∧ H5 f = some (.lst ((((List.range (i + 1)).filter (isBeside (tiesL n cut) a b)).map fun c : Nat => (c : Int)).map V.int)) := fun H5 s5 z => by
      refine ⟨_, rfl, sm.trans s5, s5 _ _ hl3, prs_keep (keeps s5) ha3, ?_⟩
      rw [besides_snoc, z, if_neg Bool.false_ne_true, List.append_nil]
      exact s5 _ _ hf3
    walk_at "st"
    refine ⟨a, _, rfl, fun t4 H4 s4 nt4 ht4 => ?_⟩
    rw [Int.zero_add] at ht4
    walk_at "st"
    refine Pm.w_inPL ht4 (SqL.of (s4 _ _ hl3)) (prs_keep (keeps s4) ha3) ?_
    walk_at "st"
    refine Pm.w_ite (fun e1 => ?_) (fun e1 => ?_)
    · walk_at "st"
      refine ⟨b, _, rfl, fun t5 H5 s5 nt5 ht5 => ?_⟩
      rw [Int.zero_add] at ht5
      have s45 := s4.trans s5
      walk_at "st"
      refine Pm.w_inPL ht5 (SqL.of (s45 _ _ hl3)) (prs_keep (keeps s45) ha3) ?_
      walk_at "st"
      refine Pm.w_ite (fun e2 => ?_) (fun e2 => ?_)
      · have z : isBeside (tiesL n cut) a b i = true := by unfold isBeside; rw [decide_eq_true e1, decide_eq_true e2]; rfl
        walk_at "st"
        refine ⟨.inl ⟨rfl, _, SqL.of (s45 _ _ hf3)⟩, ?_⟩
        walk_at "st"
        refine Pm.w_append (s45 _ _ hf3) hz ?_
        walk_at "st"
        refine ⟨_, rfl, same_but hHf (sm.trans s45), ?_, ?_, ?_⟩
        · rw [upd_ne nlf]; exact s45 _ _ hl3
        · exact prs_keep (keeps_lst (s45 _ _ hf3)) (prs_keep (keeps s45) ha3)
        · rw [upd_same, besides_snoc, z, if_pos rfl, List.map_append, Int.zero_add]
          rfl
      · have z : isBeside (tiesL n cut) a b i = false := by unfold isBeside; rw [decide_eq_false e2, Bool.and_false]
        walk_at "st"
        exact fin H5 s45 z
    · have z : isBeside (tiesL n cut) a b i = false := by unfold isBeside; rw [decide_eq_false e1, Bool.false_and]
      walk_at "st"
      exact fin H4 s4 z
  · rintro σ H3 ⟨x, rfl, sm, hl3, ha3, hf3⟩
    walk_at "st"
    exact q e f _ sm hHf hf3
end
section
variable {P : Program} {w : World} {K : PySem.W.Frag} {mg : Str → Option Value} {base : Heap}
def spTurned (C : Addr) : Sp := fun vs H Q E => ∃ (n : Nat) (c : Addr) (cut : List IP) (a b : Int), vs = [.int n, .ref c, .int a, .int b] ∧ 1 ≤ n ∧ n ≤ 1000 ∧ PLt H c cut ∧ cut.length ≤ 1000 ∧
  (tieOf a b ∉ cut → ∀ H', Same H H' → E (.ref C) none H') ∧ (tieOf a b ∈ cut → 2 ≤ (besideL n (tiesL n cut) a b).length ∧ PLNew H (turnedL n cut a b) Q)
theorem ok_turned (T : Tx K mg) : FnOk P w K mg base (L2.CX P w) 4 T.a_turned T.fd_turned ["n", "cut", "a", "b"] (spTurned T.c_NoRope) := by
  refine T.F_turned.okX sc_turned (fun vs H Q E h => ?_) (fun cdv A outer s H vs Q E hr h => ?_)
  · obtain ⟨n, c, cut, a, b, rfl, _⟩ := h
    rfl
  obtain ⟨n, c, cut, a, b, rfl, n1, n2, hc, cl, hE, q⟩ := h
  refine ⟨_, (pss_cons (ps_set (i := 4) sc_turned.nd rfl (.inr rfl) (pe_call (ok_tie_of T) (hr.mono (by decide)) (by rfl) T.g_tie_of T.F_tie_of.kp T.b_tie_of .nil pass0 (pa_cons (pv 2) (pa_cons (pv 3) pa_nil))))
      (pss_cons (ps_if (pt_cmpR (op_notInDK (K := K) hr.u65) (pv 4) (pv 1) (by rfl)) (pss_one (ps_raise rfl (takes_of rfl rfl rfl rfl) (pmk_own PySem.F.excBase_ValueError T.x_NoRope T.g_NoRope T.k_NoRope (raises_own T.b_NoRope T.t_NoRope) rfl))) pss_nil)
      (pss_cons (ps_set (i := 5) sc_turned.nd rfl (.inl rfl) (pe_call (ok_beside T) (hr.mono (by decide)) (by rfl) T.g_beside T.F_beside.kp T.b_beside .nil (passes_call (takes_of rfl rfl rfl rfl) (fun _ _ _ _ h => h)) (pa_cons (pv 0) (pa_cons (pv 1) (pa_cons (pv 2) (pa_cons (pv 3) pa_nil))))))
      (pss_one (ps_ret (pe_callB (cr_sortK (K := K)) (by rfl) T.m_sorted (by decide +kernel) (pa_cons (pe_op op_cat (pe_lc (own := [("one", 6)]) (g := gName 6) rfl sc_turned.nd (k_il (K := K) (pi_list (pv 1))) (blkOk_by (N := N_turned) (sc := defScope s_turned) (by decide +kernel)) (fun _ _ _ _ _ => (pg_name (i := 6) sc_turned.nd rfl (.inl rfl))) (fun _ _ _ _ _ => (pts_one (pt_cmpR (op_neDK (K := K) hr.units) (pv 6) (pv 4) (nomark _)))) (fun _ _ _ _ _ => (pv 6))) (pe_lst (pa_cons (pe_tup (pa_cons (pe_ix (ix_listK (K := K)) (pv 5) (pe_int) (fun _ _ => rfl)) (pa_cons (pe_ix (ix_listK (K := K)) (pv 5) (pe_int) (fun _ _ => rfl)) pa_nil))) pa_nil))) pa_nil))))))), ?_⟩
  walk_at "st"
  refine ⟨a, b, rfl, fun r H1 s1 nr hr1 => ?_⟩
  obtain ⟨cv1, hc1, hp1⟩ := hc.same s1
  walk_at "st"
  refine Pm.w_ninPL hr1 (SqL.of hc1) hp1 ?_
  walk_at "st"
  refine Pm.w_iteN (fun e => ?_) (fun e => ?_)
  · exact hE e _ s1
  obtain ⟨l2, q⟩ := q e
  walk_at "st"
  refine ⟨n, c, cut, a, b, rfl, n1, n2, ⟨cv1, hc1, hp1⟩, cl, fun z => absurd (mem_ties.mpr (.inr e)) z, fun _ l H2 s2 nl hl => ?_⟩
  obtain ⟨cv2, hc2, hp2⟩ := PLt.same ⟨cv1, hc1, hp1⟩ s2
  walk_at "st"
  refine Pm.w_rdL (SqL.of hc2) ?_
  refine Pm.w_lcLf (R := Pr) pr_mono (S := Pr) pr_mono (SqL.of hc2) hp2 id (fun p => !decide (p = tieOf a b)) (by omega) (fun D x p H3 Nx hD hm hs s3 put skip => ?_) (fun D H3 ws hD s3 hd ha => ?_)
  · obtain ⟨t, rfl, ht⟩ := hs
    obtain ⟨u, eu, hu⟩ := hr1.keep (keeps (s2.trans s3))
    cases eu
    walk_at "st"
    refine Pm.w_neP ⟨t, rfl, ht⟩ ⟨_, rfl, hu⟩ ?_
    walk_at "st"
    refine Pm.w_iteN (fun z => ?_) (fun z => ?_)
    · walk_at "st"
      exact put _ _ (by simp [z]) (Same.refl _) ⟨t, rfl, ht⟩
    · exact skip _ (by simp [z]) (Same.refl _)
  · rw [List.map_id] at ha
    have hl3 := s3 _ _ hl
    walk_at "st"
    refine Pm.w_ixL (SqL.of hl3) (atI_getD (i := 0) (by omega)) ?_
    walk_at "st"
    refine Pm.w_ixL (SqL.of hl3) (atI_getD (i := 1) (by omega)) ?_
    walk_at "st"
    refine Pm.w_newT (fun t ht => ?_)
    walk_at "st"
    refine Pm.w_newL (fun k hk => ?_)
    have nDk : D ≠ k := ne_of_none (o := .lst ws) ((same_new ht _) _ _ hd) hk
    have hlen := ha.length
    have hlf := List.length_filter_le (fun p : IP => !decide (p = tieOf a b)) cut
    refine Pm.w_cat (by rw [upd_ne nDk, upd_ne (ne_of_none hd ht)]; exact hd) upd_same (size_ok (by rw [List.length_singleton]; omega)) (fun g hg => ?_)
    have k1 := keeps ((same_new ht (.tup [.int ((besideL n (tiesL n cut) a b).getD 0 0), .int ((besideL n (tiesL n cut) a b).getD 1 0)])).trans ((same_new hk (.lst [.ref t])).trans (same_new hg (.lst (ws ++ [.ref t])))))
    have s4 := (same_new ht (.tup [.int ((besideL n (tiesL n cut) a b).getD 0 0), .int ((besideL n (tiesL n cut) a b).getD 1 0)])).trans ((same_new hk (.lst [.ref t])).trans (same_new hg (.lst (ws ++ [.ref t]))))
    refine Pm.w_sortP (SqL.of upd_same) ((prs_keep k1 ha).append (ys' := [((besideL n (tiesL n cut) a b).getD 0 0, (besideL n (tiesL n cut) a b).getD 1 0)]) ⟨⟨t, rfl, ?_⟩, trivial⟩) (fun ys p2 hp2' hy => ?_)
    · exact ((same_new hk _).trans (same_new hg _)) _ _ upd_same
    · have s5 := s1.trans (s2.trans (s3.trans s4))
      exact q p2 _ ys (s5.trans (same_new hp2' _)) (s5.free hp2') upd_same (prs_keep (keeps (same_new hp2' _)) hy)
end
section
variable {P : Program} {w : World} {K : PySem.W.Frag} {mg : Str → Option Value} {base : Heap}
/-- a rope that faces the post, or none where there is none -/
def Fc (n : Nat) (cut : List IP) (p : Nat) (H : Hp) (v : V) : Prop := (v = .non ∧ awayL cut p = 0) ∨ ∃ (u : Addr) (r : IP), v = .ref u ∧ Pr H (.ref u) r ∧ r ∈ cut ∧ (p : Int) ∈ besideL n (tiesL n cut) r.1 r.2
def spFacing : Sp := fun vs H Q _ => ∃ (n : Nat) (c : Addr) (cut : List IP) (p : Nat) (t : Tr), vs = [.int n, .ref c, .int p] ∧ n ≤ 1000 ∧ PLt H c cut ∧ Cutting n cut t ∧ p < n ∧ cut.length ≤ 1000 ∧
  ∀ (v : V) (H' : Hp), Same H H' → Fc n cut p H' v → Q v H'
theorem ok_facing (T : Tx K mg) : FnOk P w K mg base CX0 4 T.a_facing T.fd_facing ["n", "cut", "post"] spFacing := by
  refine T.F_facing.ok sc_facing (fun vs H Q E h => ?_) (fun cdv A outer s H vs Q E hr h => ?_)
  · obtain ⟨n, c, cut, p, t, rfl, _⟩ := h
    rfl
  obtain ⟨n, c, cut, p, t, rfl, n2, ⟨cv, hc, hp⟩, C, hpn, cl, q⟩ := h
  have n3 := C.n3
  refine ⟨_, (pss_cons (ps_for PassesOwn.never rfl (k_il (K := K) (pi_list (pv 1))) (pg_name (i := 3) sc_facing.nd rfl (.inl rfl)) (pss_one (ps_if (pt_cmpR (op_in_seqK (K := K)) (pv 2) (pe_call (ok_beside T) (hr.mono (by decide)) (by rfl) T.g_beside T.F_beside.kp T.b_beside .nil passL (pa_cons (pv 0) (pa_cons (pv 1) (pa_cons (pe_ix (ix_tupK (K := K)) (pv 3) (pe_int) (fun _ _ => rfl)) (pa_cons (pe_ix (ix_tupK (K := K)) (pv 3) (pe_int) (fun _ _ => rfl)) pa_nil))))) (by rfl)) (pss_one (ps_ret (pv 3))) pss_nil)))
      (pss_one (ps_ret (pe_non)))), ?_⟩
  walk_at "st"
  refine Pm.w_rdL (SqL.of hc) ?_
  refine Pm.w_forL (xs := cv) (fun i σ H1 => ∃ x, σ = [some (.int n), some (.ref c), some (.int p), x] ∧ Same H H1 ∧ ∀ r ∈ cut.take i, (p : Int) ∉ besideL n (tiesL n cut) r.1 r.2) ⟨_, rfl, Same.refl _, fun r hr => by cases hr⟩ (fun i σ H' _ ⟨x, _, s1, _⟩ => SqL.of (s1 _ _ hc)) ?_ ?_
  · rintro i x σ H1 hi ⟨y, rfl, s1, hno⟩
    obtain ⟨r, hr', u, rfl, hu⟩ := hp.get hi
    have hmem := List.mem_of_getElem? hr'
    have eT := (C.step hmem).2.2.2.2.1
    have hu1 := s1 _ _ hu
    walk_at "st"
    refine Pm.w_ixT (SqT.of hu1) (atI2 _ _).1 ?_
    walk_at "st"
    refine Pm.w_ixT (SqT.of hu1) (atI2 _ _).2 ?_
    walk_at "st"
    refine ⟨n, c, cut, r.1, r.2, rfl, by omega, n2, PLt.same ⟨cv, hc, hp⟩ s1, cl, fun z => absurd (mem_ties.mpr (.inr (by rw [eT]; exact hmem))) z, fun _ l H2 s2 nl hl => ?_⟩
    walk_at "st"
    refine Pm.w_inInts (.inl (SqL.of hl)) ?_
    walk_at "st"
    refine Pm.w_ite (fun e => ?_) (fun e => ?_)
    · walk_at "st"
      exact q _ _ (s1.trans s2) (.inr ⟨u, r, rfl, ⟨u, rfl, s2 _ _ hu1⟩, hmem, e⟩)
    · walk_at "st"
      refine ⟨_, rfl, s1.trans s2, fun r' hr2 => ?_⟩
      rw [List.take_add_one, hr'] at hr2
      rcases List.mem_append.mp hr2 with h | h
      · exact hno r' h
      · have : r' = r := by simpa using h
        rw [this]; exact e
  · rintro σ H1 ⟨x, rfl, s1, hno⟩
    walk_at "st"
    refine q _ _ s1 (.inl ⟨rfl, ?_⟩)
    rw [hp.length, List.take_length] at hno
    refine Classical.byContradiction fun z => ?_
    obtain ⟨a, b, h1, h2⟩ := C.face hpn z
    exact hno (castP (a, b)) (C.mem.mpr ⟨_, h1, rfl⟩) (mem_besideL.mpr ⟨hpn, h2⟩)
theorem St2.keep {H H' : Hp} (k : Keeps H H') {v : V} {s : IP × IP} (h : St2 H v s) : St2 H' v s := by
  obtain ⟨u, a, b, e, hu, ha, hb⟩ := h
  exact ⟨u, a, b, e, k _ _ hu, ha.keep k, hb.keep k⟩
theorem st2_mono (H H' : Hp) (v : V) (b : IP × IP) (k : Keeps H H') (h : St2 H v b) : St2 H' v b := h.keep k
def spWalk : Sp := fun vs H Q _ => ∃ (n : Nat) (c : Addr) (cut : List IP) (p : Nat) (t : Tr), vs = [.int n, .ref c, .int p] ∧ n ≤ 1000 ∧ PLt H c cut ∧ Cutting n cut t ∧ p < n ∧ cut.length ≤ 1000 ∧
  ∀ (l : Addr) (H' : Hp) (ws : List V) (ss : List (IP × IP)) (d : List IP), Same H H' → H l = none → H' l = some (.lst ws) → All2 (St2 H') ws ss → Walked n p cut ss d → awayL d p = 0 → Q (.ref l) H'
theorem Cutting.len_n {n : Nat} {cut : List IP} {t : Tr} (C : Cutting n cut t) : cut.length + 3 = n := by
  have h := C.perm.length_eq
  have h2 := C.w
  rw [List.length_map] at h
  have h3 : ∀ t : Tr, ∀ lo, 2 ≤ t.w → (t.ropes lo).length + 2 = t.w := by
    have h4 : ∀ (t : Tr) (lo : Nat), (t.inn lo).length + 1 = t.w := by
      intro t
      induction t with
      | leaf => intro lo; rfl
      | node l r i1 i2 =>
        intro lo
        show ((lo, _) :: (l.inn lo ++ r.inn (lo + l.w))).length + 1 = l.w + r.w
        rw [List.length_cons, List.length_append]
        have := i1 lo
        have := i2 (lo + l.w)
        omega
    intro t lo ht
    have := h4 t lo
    rw [Tr.inn_node ht, List.length_cons] at this
    omega
  have := h3 t 0 C.w2
  omega
theorem away_le (cut : List IP) (p : Int) : awayL cut p ≤ cut.length := List.length_filter_le _ _
theorem ok_walk (T : Tx K mg) : FnOk P w K mg base CX0 5 T.a_walk T.fd_walk ["n", "cut", "post"] spWalk := by
  refine T.F_walk.ok sc_walk (fun vs H Q E h => ?_) (fun cdv A outer s H vs Q E hr h => ?_)
  · obtain ⟨n, c, cut, p, t, rfl, _⟩ := h
    rfl
  obtain ⟨n, c, cut, p, t, rfl, n2, hc, C, hpn, cl, q⟩ := h
  have n3 := C.n3
  refine ⟨_, (pss_cons (ps_set (i := 3) sc_walk.nd rfl (.inl rfl) (pe_lst pa_nil))
      (pss_cons (ps_set (i := 4) sc_walk.nd rfl (.inl rfl) (pe_call (ok_facing T) (hr.mono (by decide)) (by rfl) T.g_facing T.F_facing.kp T.b_facing .nil pass0 (pa_cons (pv 0) (pa_cons (pv 1) (pa_cons (pv 2) pa_nil)))))
      (pss_cons (ps_while PassesOwn.never (pt_cmpR op_notNK (pv 4) (pe_non) (nomark _)) (pss_cons (ps_set (i := 5) sc_walk.nd rfl (.inl rfl) (pe_call (ok_beside T) (hr.mono (by decide)) (by rfl) T.g_beside T.F_beside.kp T.b_beside .nil passL (pa_cons (pv 0) (pa_cons (pv 1) (pa_cons (pe_ix (ix_tupK (K := K)) (pv 4) (pe_int) (fun _ _ => rfl)) (pa_cons (pe_ix (ix_tupK (K := K)) (pv 4) (pe_int) (fun _ _ => rfl)) pa_nil))))))
      (pss_cons (ps_expr (k_bm (K := K) (pe_bm PySem.F.plainAttrs_list PySem.F.slot_list_append PySem.F.type_list_append mt_append (pv 3) (pa_cons (pe_tup (pa_cons (pv 4) (pa_cons (pe_tup (pa_cons (pe_ix (ix_listK (K := K)) (pv 5) (pe_int) (fun _ _ => rfl)) (pa_cons (pe_ix (ix_listK (K := K)) (pv 5) (pe_int) (fun _ _ => rfl)) pa_nil))) pa_nil))) pa_nil))))
      (pss_cons (ps_set (i := 1) sc_walk.nd rfl (.inl rfl) (pe_call (ok_turned T) (hr.mono (by decide)) (by rfl) T.g_turned T.F_turned.kp T.b_turned .nil passL (pa_cons (pv 0) (pa_cons (pv 1) (pa_cons (pe_ix (ix_tupK (K := K)) (pv 4) (pe_int) (fun _ _ => rfl)) (pa_cons (pe_ix (ix_tupK (K := K)) (pv 4) (pe_int) (fun _ _ => rfl)) pa_nil))))))
      (pss_one (ps_set (i := 4) sc_walk.nd rfl (.inl rfl) (pe_call (ok_facing T) (hr.mono (by decide)) (by rfl) T.g_facing T.F_facing.kp T.b_facing .nil pass0 (pa_cons (pv 0) (pa_cons (pv 1) (pa_cons (pv 2) pa_nil))))))))))
      (pss_one (ps_ret (pv 3)))))), ?_⟩
  walk_at "st"
  refine Pm.w_newL (fun st hst => ?_)
  have s0 := same_new hst (.lst [])
  walk_at "st"
  have W0 : Walked n p cut [] cut := ⟨rfl, rfl, ⟨t, C⟩, by simp⟩
  have ncs : c ≠ st := fun e => by
    obtain ⟨cv, h1, _⟩ := hc
    rw [e, hst] at h1; cases h1
  refine ⟨n, c, cut, p, t, rfl, n2, hc.same s0, C, hpn, cl, fun v H1 s1 hv => ?_⟩
  walk_at "st"
  refine Pm.w_while (fun m σ H1 => ∃ (ss : List (IP × IP)) (d : List IP) (c' : Addr) (rv : V) (x : Option V) (ws : List V), σ = [some (.int n), some (.ref c'), some (.int p), some (.ref st), some rv, x] ∧ Same H H1 ∧ PLt H1 c' d ∧ H1 st = some (.lst ws) ∧ All2 (St2 H1) ws ss ∧ c' ≠ st ∧ Walked n p cut ss d ∧ m = awayL d p ∧ Fc n d p H1 rv) _ ⟨[], cut, c, v, _, [], rfl, s0.trans s1, hc.same (s0.trans s1), s1 _ _ upd_same, trivial, ncs, W0, rfl, hv⟩ ?_
  · rintro m σ H1 ⟨ss, d, c', rv, x, ws, rfl, s1, hd, hs1, ha1, nc', W, em, ⟨rfl, h0⟩ | ⟨u, r, rfl, hu, hm, hb⟩⟩
    · walk_at "st"
      refine Pm.w_notN_non ?_
      walk_at "st"
      refine Pm.w_whF ?_
      walk_at "st"
      exact q st _ ws ss d s1 hst hs1 ha1 W h0
    · walk_at "st"
      refine Pm.w_notN_ref ?_
      walk_at "st"
      refine Pm.w_whT ?_
      obtain ⟨td, D⟩ := W.cut
      obtain ⟨⟨t', D'⟩, _, _, eb, eT, aw⟩ := D.step hm
      have dl := D.len_n
      have dl' := D'.len_n
      walk_at "st"
      refine Pm.w_ixT hu.tup (atI2 _ _).1 ?_
      walk_at "st"
      refine Pm.w_ixT hu.tup (atI2 _ _).2 ?_
      walk_at "st"
      refine ⟨n, c', d, r.1, r.2, rfl, by omega, n2, hd, by omega, fun z => absurd (mem_ties.mpr (.inr (by rw [eT]; exact hm))) z, fun _ l H2 s2 nl hl => ?_⟩
      have hu2 := hu.keep (keeps s2)
      walk_at "st"
      refine ⟨.inl ⟨rfl, _, SqL.of (s2 _ _ hs1)⟩, ?_⟩
      walk_at "st"
      refine Pm.w_ixL (SqL.of hl) (atI_getD (i := 0) (by omega)) ?_
      walk_at "st"
      refine Pm.w_ixL (SqL.of hl) (atI_getD (i := 1) (by omega)) ?_
      walk_at "st"
      refine Pm.w_newT (fun a ha => ?_)
      walk_at "st"
      refine Pm.w_newT (fun b hb' => ?_)
      have s3 := (same_new ha (.tup [.int ((besideL n (tiesL n d) r.1 r.2).getD 0 0), .int ((besideL n (tiesL n d) r.1 r.2).getD 1 0)])).trans (same_new hb' (.tup [.ref u, .ref a]))
      have s23 := s2.trans s3
      walk_at "st"
      have awle := away_le cut p
      have wl := W.len
      refine Pm.w_append (s23 _ _ hs1) (by rw [ha1.length]; exact size_lt (by omega)) ?_
      have k4 := keeps_lst (ys := ws ++ [.ref b]) (s23 _ _ hs1)
      have kk := (keeps s23).trans k4
      obtain ⟨dv, hd1, hd2⟩ := hd
      have hd4 := (⟨dv, (upd_ne nc').trans (s23 _ _ hd1), prs_keep kk hd2⟩ : PLt (upd _ st (.lst (ws ++ [.ref b]))) c' d)
      have hu4 := hu.keep kk
      have ha4 := (ha1.mono fun _ _ z => St2.keep kk z).snoc (x := .ref b) (y := (r, endsL n d r)) ⟨b, u, a, rfl, k4 _ _ upd_same, hu4, a, rfl, k4 _ _ ((same_new hb' _) _ _ upd_same)⟩
      have s4 := same_but (o := .lst (ws ++ [.ref b])) hst (s1.trans s23)
      walk_at "st"
      refine Pm.w_ixT hu4.tup (atI2 _ _).1 ?_
      walk_at "st"
      refine Pm.w_ixT hu4.tup (atI2 _ _).2 ?_
      walk_at "st"
      refine ⟨n, c', d, r.1, r.2, rfl, by omega, n2, hd4, by omega, fun z => absurd (by rw [eT]; exact hm) z, fun _ => ⟨by omega, fun c2 H5 cv5 s5 nc5 hc5 hp5 => ?_⟩⟩
      have W5 := W.more hm hb
      have nc5' : c2 ≠ st := fun e => by rw [e, upd_same] at nc5; cases nc5
      have aw5 := aw p hb
      walk_at "st"
      refine ⟨n, c2, _, p, t', rfl, n2, ⟨cv5, hc5, hp5⟩, D', hpn, by omega, fun v6 H6 s6 hv6 => ?_⟩
      walk_at "st"
      exact ⟨awayL (turnedL n d r.1 r.2) p, by omega, _, _, c2, v6, _, _, rfl, s4.trans (s5.trans s6), PLt.same ⟨cv5, hc5, hp5⟩ s6, s6 _ _ (s5 _ _ upd_same), ha4.mono fun _ _ z => z.keep (keeps (s5.trans s6)), nc5', W5, rfl, hv6⟩
end
section
variable {P : Program} {w : World} {K : PySem.W.Frag} {mg : Str → Option Value} {base : Heap}
def spLSides : Sp := fun vs H Q _ => ∃ n : Nat, vs = [.int n] ∧ 1 ≤ n ∧ n ≤ 1000 ∧ PLNew H (sides0 n) Q
theorem ok_law_sides (T : Tx K mg) : FnOk P w K mg base CX0 1 T.a_law_sides T.fd_law_sides ["_law_n"] spLSides := by
  refine T.F_law_sides.ok sc_law_sides (fun vs H Q E h => ?_) (fun cdv A outer s H vs Q E hr h => ?_)
  · obtain ⟨n, rfl, _⟩ := h
    rfl
  obtain ⟨n, rfl, n1, n2, q⟩ := h
  refine ⟨_, (pss_one (ps_ret (pe_op op_cat (pe_lc (own := [("_law_k", 1)]) (g := gName 1) (tt := tYes) rfl sc_law_sides.nd (pi_range1 (by rfl) T.m_range (pa_cons (pe_op op_sub (pv 0) (pe_int)) pa_nil)) (blkOk_by (N := N_law_sides) (sc := defScope s_law_sides) (by decide +kernel)) (fun _ _ _ _ _ => (pg_name (i := 1) sc_law_sides.nd rfl (.inl rfl))) (fun _ _ _ _ _ => pts_nil) (fun _ _ _ _ _ => (pe_tup (pa_cons (pv 1) (pa_cons (pe_op op_add (pv 1) (pe_int)) pa_nil))))) (pe_lst (pa_cons (pe_tup (pa_cons (pe_int) (pa_cons (pe_op op_sub (pv 0) (pe_int)) pa_nil))) pa_nil))))), ?_⟩
  walk_at "st"
  have en : ((n : Int) - 1).toNat = n - 1 := by omega
  rw [en]
  refine Pm.w_lcRm (R := Pr) pr_mono (fun k : Nat => ((k : Int), (k : Int) + 1)) (by omega) (fun D i H1 Nx hD hi s1 put => ?_) (fun D H1 ws hD s1 hd ha => ?_)
  · walk_at "st"
    refine Pm.w_newT (fun t ht => ?_)
    refine put _ _ (same_new ht _) ⟨t, rfl, ?_⟩
    rw [upd_same, Int.zero_add]
  · walk_at "st"
    refine Pm.w_newT (fun t ht => ?_)
    walk_at "st"
    refine Pm.w_newL (fun l hl => ?_)
    have nD : D ≠ l := ne_of_none (o := .lst ws) ((same_new ht _) _ _ hd) hl
    have hlen := ha.length
    rw [List.length_map, List.length_range] at hlen
    refine Pm.w_cat (by rw [upd_ne nD, upd_ne (ne_of_none hd ht)]; exact hd) upd_same (size_ok (by rw [hlen, List.length_singleton]; omega)) (fun p hp => ?_)
    have k1 : Keeps H1 (upd (upd (upd H1 t (.tup [.int 0, .int ((n : Int) - 1)])) l (.lst [.ref t])) p (.lst (ws ++ [.ref t]))) := keeps ((same_new ht _).trans ((same_new hl _).trans (same_new hp _)))
    have s2 := s1.trans ((same_new ht _).trans ((same_new hl _).trans (same_new hp (.lst (ws ++ [.ref t])))))
    refine q p _ _ s2 (by have := (s1.trans ((same_new ht _).trans (same_new hl (.lst [.ref t])))).free hp; exact this) upd_same ((prs_keep k1 ha).append ⟨⟨t, rfl, ?_⟩, trivial⟩)
    exact ((same_new hl _).trans (same_new hp _)) _ _ upd_same
end
section
variable {P : Program} {w : World} {K : PySem.W.Frag} {mg : Str → Option Value} {base : Heap}
def spLTies : Sp := fun vs H Q _ => ∃ (n : Nat) (c : Addr) (cut : List IP), vs = [.int n, .ref c] ∧ 1 ≤ n ∧ n ≤ 1000 ∧ PLt H c cut ∧ cut.length ≤ 1000 ∧ PLNew H (tiesL n cut) Q
theorem ok_law_ties (T : Tx K mg) : FnOk P w K mg base CX0 2 T.a_law_ties T.fd_law_ties ["_law_n", "_law_cut"] spLTies := by
  refine T.F_law_ties.ok sc_law_ties (fun vs H Q E h => ?_) (fun cdv A outer s H vs Q E hr h => ?_)
  · obtain ⟨n, c, cut, rfl, _⟩ := h
    rfl
  obtain ⟨n, c, cut, rfl, n1, n2, ⟨cvs, hc, pc⟩, cl, q⟩ := h
  refine ⟨_, (pss_one (ps_ret (pe_callB (cr_sortK (K := K)) (by rfl) T.m_sorted (by decide +kernel) (pa_cons (pe_op op_cat (pe_call (ok_law_sides T) (hr.mono (by decide)) (by rfl) T.g_law_sides T.F_law_sides.kp T.b_law_sides .nil pass0 (pa_cons (pv 0) pa_nil)) (pv 1)) pa_nil)))), ?_⟩
  walk_at "st"
  refine ⟨n, rfl, n1, n2, fun p H1 ws s1 np hp ha => ?_⟩
  walk_at "st"
  have l1 := ha.length
  rw [sides0_len n1] at l1
  have l2 := pc.length
  refine Pm.w_cat hp (s1 _ _ hc) (size_ok (by omega)) (fun l hl => ?_)
  have k1 := keeps (same_new hl (.lst (ws ++ cvs)))
  refine Pm.w_sortP (SqL.of upd_same) ((prs_keep k1 ha).append (prs_keep ((keeps s1).trans k1) pc)) (fun ys p2 hp2 hy => ?_)
  have s2 := s1.trans (same_new hl (.lst (ws ++ cvs)))
  exact q p2 _ ys (s2.trans (same_new hp2 _)) (s2.free hp2) upd_same (prs_keep (keeps (same_new hp2 _)) hy)
end
section
variable {P : Program} {w : World} {K : PySem.W.Frag} {mg : Str → Option Value} {base : Heap}
def spTup (K : PySem.W.Frag) : Sp := fun vs H Q _ => ∃ (t : Addr) (ns : List Int), vs = [.ref t, .int ns.length] ∧ SqT K H t (ns.map V.int) ∧ Q (.bl true) H
theorem ok_law_tuple (T : Tx K mg) : FnOk P w K mg base CX0 2 T.a_law_tuple T.fd_law_tuple (["_law_found", "_law_many_here"]) (spTup K) := by
  refine T.F_law_tuple.ok sc_law_tuple (fun vs H Q E h => ?_) (fun cdv A outer s H vs Q E hr h => ?_)
  · obtain ⟨t, ns, rfl, _⟩ := h
    rfl
  obtain ⟨t, ns, rfl, ht, q⟩ := h
  refine ⟨_, (pss_cons (ps_if (PW.pt (pw_or (pt_not (pt_val (pe_callB (call_isK (K := K)) (by rfl) T.m_isinstance (by decide +kernel) (pa_cons (pv 0) (pa_cons (pe_bltn (v := .ty "tuple") (by rfl) T.m_tuple (by decide +kernel) rfl) pa_nil))))) (pw_or1 (pt_cmpR op_ne (pe_callB (c_len (K := K)) (by rfl) T.m_len PySem.boot_len (pa_cons (pv 0) pa_nil)) (pv 1) (nomark _))))) (pss_one (ps_ret (pe_bl))) pss_nil)
      (pss_cons (ps_for PassesOwn.never rfl (k_it (K := K) (pi_tup (pv 0))) (pg_name (i := 2) sc_law_tuple.nd rfl (.inl rfl)) (pss_one (ps_if (pt_not (pt_val (pe_call (ok_law_whole T) (hr.mono (by decide)) (by rfl) T.g_law_whole T.F_law_whole.kp T.b_law_whole .nil pass0 (pa_cons (pv 2) pa_nil)))) (pss_one (ps_ret (pe_bl))) pss_nil)))
      (pss_one (ps_ret (pe_bl))))), ?_⟩
  walk_at "st"
  refine Pm.w_isiTup ht (b := true) (by decide +kernel) ?_
  walk_at "st"
  refine Pm.w_lenT ht ?_
  walk_at "st"
  refine Pm.w_iteN (fun z => absurd (by rw [List.length_map]) z) (fun _ => ?_)
  walk_at "st"
  refine Pm.w_rdT ht ?_
  refine Pm.w_forT (xs := ns.map V.int) (fun i σ H' => ∃ x, σ = [some (.ref t), some (.int ns.length), x] ∧ H' = H) ⟨_, rfl, rfl⟩ (fun i σ H' _ ⟨x, _, e⟩ => by rw [e]; exact ht) ?_ ?_
  · rintro i x σ H' hx ⟨y, rfl, rfl⟩
    rw [List.getElem?_map] at hx
    cases ex : ns[i]? with
    | none => rw [ex] at hx; cases hx
    | some z =>
      rw [ex] at hx
      cases hx
      walk_at "st"
      refine ⟨z, rfl, ?_⟩
      walk_at "st"
      exact ⟨_, rfl, rfl⟩
  · rintro σ H' ⟨x, rfl, rfl⟩
    walk_at "st"
    exact q
def spList (K : PySem.W.Frag) : Sp := fun vs H Q _ => ∃ (a : Addr) (xs : List V) (m : Nat), vs = [.ref a, .int m] ∧ SqL K H a xs ∧ (∀ x ∈ xs, ∃ (t : Addr) (ns : List Int), x = .ref t ∧ SqT K H t (ns.map V.int) ∧ ns.length = m) ∧ Q (.bl true) H
theorem ok_law_list (T : Tx K mg) : FnOk P w K mg base CX0 3 T.a_law_list T.fd_law_list (["_law_found", "_law_many_here"]) (spList K) := by
  refine T.F_law_list.ok sc_law_list (fun vs H Q E h => ?_) (fun cdv A outer s H vs Q E hr h => ?_)
  · obtain ⟨a, xs, m, rfl, _⟩ := h
    rfl
  obtain ⟨a, xs, m, rfl, ha, hx, q⟩ := h
  refine ⟨_, (pss_cons (ps_if (pt_not (pt_val (pe_callB (call_isK (K := K)) (by rfl) T.m_isinstance (by decide +kernel) (pa_cons (pv 0) (pa_cons (pe_bltn (v := .ty "list") (by rfl) T.m_list (by decide +kernel) rfl) pa_nil))))) (pss_one (ps_ret (pe_bl))) pss_nil)
      (pss_cons (ps_for PassesOwn.never rfl (k_il (K := K) (pi_list (pv 0))) (pg_name (i := 2) sc_law_list.nd rfl (.inl rfl)) (pss_one (ps_if (pt_not (pt_val (pe_call (ok_law_tuple T) (hr.mono (by decide)) (by rfl) T.g_law_tuple T.F_law_tuple.kp T.b_law_tuple .nil pass0 (pa_cons (pv 2) (pa_cons (pv 1) pa_nil))))) (pss_one (ps_ret (pe_bl))) pss_nil)))
      (pss_one (ps_ret (pe_bl))))), ?_⟩
  walk_at "st"
  refine Pm.w_isiLst ha (b := true) (by decide +kernel) ?_
  walk_at "st"
  refine Pm.w_rdL ha ?_
  refine Pm.w_forL (xs := xs) (fun i σ H' => ∃ x, σ = [some (.ref a), some (.int m), x] ∧ H' = H) ⟨_, rfl, rfl⟩ (fun i σ H' _ ⟨x, _, e⟩ => by rw [e]; exact ha) ?_ ?_
  · rintro i x σ H' hi ⟨y, rfl, rfl⟩
    obtain ⟨t, ns, rfl, ht, rfl⟩ := hx x (List.mem_of_getElem? hi)
    walk_at "st"
    refine ⟨t, ns, rfl, ht, ?_⟩
    walk_at "st"
    exact ⟨_, rfl, rfl⟩
  · rintro σ H' ⟨x, rfl, rfl⟩
    walk_at "st"
    exact q
theorem list_of_prs {K : PySem.W.Frag} {H : Hp} {vs : List V} {ps : List IP} (h : Prs H vs ps) : ∀ x ∈ vs, ∃ (t : Addr) (ns : List Int), x = .ref t ∧ SqT K H t (ns.map V.int) ∧ ns.length = 2 := fun x hx => by
  obtain ⟨p, _, t, rfl, ht⟩ := h.mem hx
  exact ⟨t, [p.1, p.2], rfl, SqT.of ht, rfl⟩
end
section
variable {P : Program} {w : World} {K : PySem.W.Frag} {mg : Str → Option Value} {base : Heap}
def spLBeside : Sp := fun vs H Q _ => ∃ (n : Nat) (l : Addr) (T0 : List IP) (a b : Int), vs = [.int n, .ref l, .int a, .int b] ∧ n ≤ 1000 ∧ PLt H l T0 ∧ ILNew H (besideL n T0 a b) Q
theorem ok_law_beside (T : Tx K mg) : FnOk P w K mg base CX0 2 T.a_law_beside T.fd_law_beside ["_law_n", "_law_all_ties", "_law_a", "_law_b"] spLBeside := by
  refine T.F_law_beside.ok sc_law_beside (fun vs H Q E h => ?_) (fun cdv A outer s H vs Q E hr h => ?_)
  · obtain ⟨n, l, T0, a, b, rfl, _⟩ := h
    rfl
  obtain ⟨n, l, T0, a, b, rfl, n2, ⟨ws, hl, ha⟩, q⟩ := h
  refine ⟨_, (pss_cons (ps_set (i := 4) sc_law_beside.nd rfl (.inl rfl) (pe_lst pa_nil))
      (pss_cons (ps_for PassesOwn.never rfl (pi_range1 (by rfl) T.m_range (pa_cons (pv 0) pa_nil)) (pg_name (i := 5) sc_law_beside.nd rfl (.inl rfl)) (pss_one (ps_if (PW.pt (pw_and (pt_cmpR (op_inDK (K := K) hr.u65) (pe_call (ok_law_pair T) (hr.mono (by decide)) (by rfl) T.g_law_pair T.F_law_pair.kp T.b_law_pair .nil pass0 (pa_cons (pv 2) (pa_cons (pv 5) pa_nil))) (pv 1) (by rfl)) (pw_and1 (pt_cmpR (op_inDK (K := K) hr.u65) (pe_call (ok_law_pair T) (hr.mono (by decide)) (by rfl) T.g_law_pair T.F_law_pair.kp T.b_law_pair .nil pass0 (pa_cons (pv 3) (pa_cons (pv 5) pa_nil))) (pv 1) (by rfl))))) (pss_one (ps_expr (k_bm (K := K) (pe_bm PySem.F.plainAttrs_list PySem.F.slot_list_append PySem.F.type_list_append mt_append (pv 4) (pa_cons (pv 5) pa_nil))))) pss_nil)))
      (pss_one (ps_ret (pv 4))))), ?_⟩
  walk_at "st"
  refine Pm.w_newL (fun f hf => ?_)
  walk_at "st"
  rw [Int.toNat_natCast]
  have s3 : Same H (upd H f (.lst [])) := same_new hf _
  have nlf : l ≠ f := ne_of_none hl hf
  have hHf : H f = none := hf
  refine Pm.w_forR (fun i σ H3 => ∃ x, σ = [some (.int n), some (.ref l), some (.int a), some (.int b), some (.ref f), x] ∧ Same H H3 ∧ H3 l = some (.lst ws) ∧ Prs H3 ws (T0) ∧ H3 f = some (.lst ((((List.range i).filter (isBeside (T0) a b)).map fun c : Nat => (c : Int)).map V.int))) ?_ ?_ ?_
  · exact ⟨_, rfl, same_but hHf (Same.refl _), s3 _ _ hl, prs_keep (keeps s3) ha, upd_same⟩
  · rintro i σ H3 hi ⟨x, rfl, sm, hl3, ha3, hf3⟩
    have hz : ((((List.range i).filter (isBeside (T0) a b)).map fun c : Nat => (c : Int)).map V.int).length < sizeLine := by
      rw [List.length_map, List.length_map]
      have := List.length_filter_le (isBeside (T0) a b) (List.range i)
      rw [List.length_range] at this
      exact size_lt (by omega)
    have fin : ∀ H5 : Hp, Same H3 H5 → isBeside (T0) a b i = false → ∃ x, ([some (.int n), some (.ref l), some (.int a), some (.int b), some (.ref f), some (.int (0 + (i : Nat)))] : L2.St) = [some (.int n), some (.ref l), some (.int a), some (.int b), some (.ref f), x] ∧ Same H H5 ∧ H5 l = some (.lst ws) ∧ Prs H5 ws (T0) ∧ H5 f = some (.lst ((((List.range (i + 1)).filter (isBeside (T0) a b)).map fun c : Nat => (c : Int)).map V.int)) := fun H5 s5 z => by
      refine ⟨_, rfl, sm.trans s5, s5 _ _ hl3, prs_keep (keeps s5) ha3, ?_⟩
      rw [besides_snoc, z, if_neg Bool.false_ne_true, List.append_nil]
      exact s5 _ _ hf3
    walk_at "st"
    refine ⟨a, _, rfl, fun t4 H4 s4 nt4 ht4 => ?_⟩
    rw [Int.zero_add] at ht4
    walk_at "st"
    refine Pm.w_inPL ht4 (SqL.of (s4 _ _ hl3)) (prs_keep (keeps s4) ha3) ?_
    walk_at "st"
    refine Pm.w_ite (fun e1 => ?_) (fun e1 => ?_)
    · walk_at "st"
      refine ⟨b, _, rfl, fun t5 H5 s5 nt5 ht5 => ?_⟩
      rw [Int.zero_add] at ht5
      have s45 := s4.trans s5
      walk_at "st"
      refine Pm.w_inPL ht5 (SqL.of (s45 _ _ hl3)) (prs_keep (keeps s45) ha3) ?_
      walk_at "st"
      refine Pm.w_ite (fun e2 => ?_) (fun e2 => ?_)
      · have z : isBeside (T0) a b i = true := by unfold isBeside; rw [decide_eq_true e1, decide_eq_true e2]; rfl
        walk_at "st"
        refine ⟨.inl ⟨rfl, _, SqL.of (s45 _ _ hf3)⟩, ?_⟩
        walk_at "st"
        refine Pm.w_append (s45 _ _ hf3) hz ?_
        walk_at "st"
        refine ⟨_, rfl, same_but hHf (sm.trans s45), ?_, ?_, ?_⟩
        · rw [upd_ne nlf]; exact s45 _ _ hl3
        · exact prs_keep (keeps_lst (s45 _ _ hf3)) (prs_keep (keeps s45) ha3)
        · rw [upd_same, besides_snoc, z, if_pos rfl, List.map_append, Int.zero_add]
          rfl
      · have z : isBeside (T0) a b i = false := by unfold isBeside; rw [decide_eq_false e2, Bool.and_false]
        walk_at "st"
        exact fin H5 s45 z
    · have z : isBeside (T0) a b i = false := by unfold isBeside; rw [decide_eq_false e1, Bool.false_and]
      walk_at "st"
      exact fin H4 s4 z
  · rintro σ H3 ⟨x, rfl, sm, hl3, ha3, hf3⟩
    walk_at "st"
    exact q f _ sm hHf hf3
end
section
variable {P : Program} {w : World} {K : PySem.W.Frag} {mg : Str → Option Value} {base : Heap}
def spLTurned : Sp := fun vs H Q _ => ∃ (n : Nat) (c r : Addr) (cut : List IP) (rope : IP), vs = [.int n, .ref c, .ref r] ∧ 1 ≤ n ∧ n ≤ 1000 ∧ PLt H c cut ∧ cut.length ≤ 1000 ∧ Pr H (.ref r) rope ∧ rope.1 < rope.2 ∧ 2 ≤ (besideL n (tiesL n cut) rope.1 rope.2).length ∧ PLNew H (turnedL n cut rope.1 rope.2) Q
theorem ok_law_turned (T : Tx K mg) : FnOk P w K mg base CX0 3 T.a_law_turned T.fd_law_turned ["_law_n", "_law_cut", "_law_rope"] spLTurned := by
  refine T.F_law_turned.ok sc_law_turned (fun vs H Q E h => ?_) (fun cdv A outer s H vs Q E hr h => ?_)
  · obtain ⟨n, c, r, cut, rope, rfl, _⟩ := h
    rfl
  obtain ⟨n, c, r, cut, rope, rfl, n1, n2, hc, cl, hrp, hlt, l2, q⟩ := h
  obtain ⟨a, b⟩ := rope
  simp only at hlt l2 q
  have eT : tieOf a b = (a, b) := tie_lt hlt
  refine ⟨_, (pss_cons (ps_set (i := 3) sc_law_turned.nd rfl (.inl rfl) (pe_call (ok_law_beside T) (hr.mono (by decide)) (by rfl) T.g_law_beside T.F_law_beside.kp T.b_law_beside .nil pass0 (pa_cons (pv 0) (pa_cons (pe_call (ok_law_ties T) (hr.mono (by decide)) (by rfl) T.g_law_ties T.F_law_ties.kp T.b_law_ties .nil pass0 (pa_cons (pv 0) (pa_cons (pv 1) pa_nil))) (pa_cons (pe_ix (ix_tupK (K := K)) (pv 2) (pe_int) (fun _ _ => rfl)) (pa_cons (pe_ix (ix_tupK (K := K)) (pv 2) (pe_int) (fun _ _ => rfl)) pa_nil))))))
      (pss_one (ps_ret (pe_callB (cr_sortK (K := K)) (by rfl) T.m_sorted (by decide +kernel) (pa_cons (pe_op op_cat (pe_lc (own := [("_law_one", 4)]) (g := gName 4) rfl sc_law_turned.nd (k_il (K := K) (pi_list (pv 1))) (blkOk_by (N := N_law_turned) (sc := defScope s_law_turned) (by decide +kernel)) (fun _ _ _ _ _ => (pg_name (i := 4) sc_law_turned.nd rfl (.inl rfl))) (fun _ _ _ _ _ => (pts_one (pt_cmpR (op_neDK (K := K) hr.units) (pv 4) (pv 2) (nomark _)))) (fun _ _ _ _ _ => (pv 4))) (pe_lst (pa_cons (pe_tup (pa_cons (pe_ix (ix_listK (K := K)) (pv 3) (pe_int) (fun _ _ => rfl)) (pa_cons (pe_ix (ix_listK (K := K)) (pv 3) (pe_int) (fun _ _ => rfl)) pa_nil))) pa_nil))) pa_nil))))), ?_⟩
  walk_at "st"
  refine ⟨n, c, cut, rfl, n1, n2, hc, cl, fun tl H1 tvs s1 ntl htl htp => ?_⟩
  have hr1 := hrp.keep (keeps s1)
  walk_at "st"
  refine Pm.w_ixT hr1.tup (atI2 _ _).1 ?_
  walk_at "st"
  refine Pm.w_ixT hr1.tup (atI2 _ _).2 ?_
  walk_at "st"
  refine ⟨n, tl, _, a, b, rfl, n2, ⟨tvs, htl, htp⟩, fun l H2 s2 nl hl => ?_⟩
  obtain ⟨cv2, hc2, hp2⟩ := hc.same (s1.trans s2)
  walk_at "st"
  refine Pm.w_rdL (SqL.of hc2) ?_
  refine Pm.w_lcLf (R := Pr) pr_mono (S := Pr) pr_mono (SqL.of hc2) hp2 id (fun p => !decide (p = tieOf a b)) (by omega) (fun D x p H3 Nx hD hm hs s3 put skip => ?_) (fun D H3 ws hD s3 hd ha => ?_)
  · obtain ⟨t, rfl, ht⟩ := hs
    obtain ⟨u, eu, hu⟩ := hr1.keep (keeps (s2.trans s3))
    cases eu
    walk_at "st"
    refine Pm.w_neP ⟨t, rfl, ht⟩ ⟨_, rfl, hu⟩ ?_
    walk_at "st"
    refine Pm.w_iteN (fun z => ?_) (fun z => ?_)
    · walk_at "st"
      exact put _ _ (by rw [eT]; simp [z]) (Same.refl _) ⟨t, rfl, ht⟩
    · exact skip _ (by rw [eT]; simp [z]) (Same.refl _)
  · rw [List.map_id] at ha
    have hl3 := s3 _ _ hl
    walk_at "st"
    refine Pm.w_ixL (SqL.of hl3) (atI_getD (i := 0) (by omega)) ?_
    walk_at "st"
    refine Pm.w_ixL (SqL.of hl3) (atI_getD (i := 1) (by omega)) ?_
    walk_at "st"
    refine Pm.w_newT (fun t ht => ?_)
    walk_at "st"
    refine Pm.w_newL (fun k hk => ?_)
    have nDk : D ≠ k := ne_of_none (o := .lst ws) ((same_new ht _) _ _ hd) hk
    have hlen := ha.length
    have hlf := List.length_filter_le (fun p : IP => !decide (p = tieOf a b)) cut
    refine Pm.w_cat (by rw [upd_ne nDk, upd_ne (ne_of_none hd ht)]; exact hd) upd_same (size_ok (by rw [List.length_singleton]; omega)) (fun g hg => ?_)
    have k1 := keeps ((same_new ht (.tup [.int ((besideL n (tiesL n cut) a b).getD 0 0), .int ((besideL n (tiesL n cut) a b).getD 1 0)])).trans ((same_new hk (.lst [.ref t])).trans (same_new hg (.lst (ws ++ [.ref t])))))
    have s4 := (same_new ht (.tup [.int ((besideL n (tiesL n cut) a b).getD 0 0), .int ((besideL n (tiesL n cut) a b).getD 1 0)])).trans ((same_new hk (.lst [.ref t])).trans (same_new hg (.lst (ws ++ [.ref t]))))
    refine Pm.w_sortP (SqL.of upd_same) ((prs_keep k1 ha).append (ys' := [((besideL n (tiesL n cut) a b).getD 0 0, (besideL n (tiesL n cut) a b).getD 1 0)]) ⟨⟨t, rfl, ?_⟩, trivial⟩) (fun ys p2 hp2' hy => ?_)
    · exact ((same_new hk _).trans (same_new hg _)) _ _ upd_same
    · have s5 := s1.trans (s2.trans (s3.trans s4))
      exact q p2 _ ys (s5.trans (same_new hp2' _)) (s5.free hp2') upd_same (prs_keep (keeps (same_new hp2' _)) hy)
end
section
variable {P : Program} {w : World} {K : PySem.W.Frag} {mg : Str → Option Value} {base : Heap}
theorem Lead.cutting {n : Nat} : ∀ {rs c d : List IP}, Lead n c rs d → (∃ t, Cutting n c t) → ∃ t, Cutting n d t
  | [], c, d, h, hc => by have h : c = d := h; subst h; exact hc
  | r :: rs, c, d, h, ⟨t, C⟩ => Lead.cutting h.2 (C.step h.1).1
theorem Lead.split {n : Nat} : ∀ {rs ss c e : List IP}, Lead n c (rs ++ ss) e → ∃ d, Lead n c rs d ∧ Lead n d ss e
  | [], _, c, _, h => ⟨c, rfl, h⟩
  | r :: rs, ss, c, e, h => by
    obtain ⟨d, h1, h2⟩ := Lead.split (rs := rs) h.2
    exact ⟨d, ⟨h.1, h1⟩, h2⟩
theorem Lead.det {n : Nat} : ∀ {rs c d e : List IP}, Lead n c rs d → Lead n c rs e → d = e
  | [], c, d, e, h, k => by have h : c = d := h; have k : c = e := k; rw [← h, k]
  | r :: rs, c, d, e, h, k => Lead.det h.2 k.2
def spLWalk : Sp := fun vs H Q _ => ∃ (n : Nat) (c f : Addr) (cut rs d : List IP), vs = [.int n, .ref c, .ref f] ∧ n ≤ 1000 ∧ PLt H c cut ∧ PLt H f rs ∧ (∃ t, Cutting n cut t) ∧ Lead n cut rs d ∧ rs.length ≤ 1000000 ∧
  ∀ (l : Addr) (H' : Hp), Same H H' → PLt H' l d → Q (.ref l) H'
theorem ok_law_walk (T : Tx K mg) : FnOk P w K mg base CX0 4 T.a_law_walk T.fd_law_walk ["_law_n", "_law_cut", "_law_found"] spLWalk := by
  refine T.F_law_walk.ok sc_law_walk (fun vs H Q E h => ?_) (fun cdv A outer s H vs Q E hr h => ?_)
  · obtain ⟨n, c, f, cut, rs, d, rfl, _⟩ := h
    rfl
  obtain ⟨n, c, f, cut, rs, d, rfl, n2, hc, ⟨fv, hf, hp⟩, CC, L, rl, q⟩ := h
  refine ⟨_, (pss_cons (ps_if (pt_not (pt_val (pe_call (ok_law_list T) (hr.mono (by decide)) (by rfl) T.g_law_list T.F_law_list.kp T.b_law_list .nil pass0 (pa_cons (pv 2) (pa_cons (pe_int) pa_nil))))) (pss_one (ps_ret (pe_non))) pss_nil)
      (pss_cons (ps_for PassesOwn.never rfl (k_il (K := K) (pi_list (pv 2))) (pg_name (i := 3) sc_law_walk.nd rfl (.inl rfl)) (pss_cons (ps_if (pt_cmpR (op_notInDK (K := K) hr.u65) (pv 3) (pv 1) (by rfl)) (pss_one (ps_ret (pe_non))) pss_nil)
      (pss_one (ps_set (i := 1) sc_law_walk.nd rfl (.inl rfl) (pe_call (ok_law_turned T) (hr.mono (by decide)) (by rfl) T.g_law_turned T.F_law_turned.kp T.b_law_turned .nil pass0 (pa_cons (pv 0) (pa_cons (pv 1) (pa_cons (pv 3) pa_nil))))))))
      (pss_one (ps_ret (pv 1))))), ?_⟩
  walk_at "st"
  refine ⟨f, fv, 2, rfl, SqL.of hf, list_of_prs hp, ?_⟩
  walk_at "st"
  refine Pm.w_rdL (SqL.of hf) ?_
  refine Pm.w_forL (xs := fv) (fun i σ H1 => ∃ (x : Option V) (c' : Addr) (d' : List IP), σ = [some (.int n), some (.ref c'), some (.ref f), x] ∧ Same H H1 ∧ PLt H1 c' d' ∧ Lead n cut (rs.take i) d') ⟨_, c, cut, rfl, Same.refl _, hc, rfl⟩ (fun i σ H' _ ⟨x, _, _, _, s1, _⟩ => SqL.of (s1 _ _ hf)) ?_ ?_
  · rintro i x σ H1 hi ⟨y, c', d', rfl, s1, hd, L1⟩
    obtain ⟨r, hr', u, rfl, hu⟩ := hp.get hi
    have hu1 : Pr H1 (.ref u) r := ⟨u, rfl, s1 _ _ hu⟩
    have er : rs = rs.take i ++ (r :: rs.drop (i + 1)) := by
      have hlt : i < rs.length := (List.getElem?_eq_some_iff.mp hr').1
      have e1 : rs[i] = r := by rw [List.getElem?_eq_getElem hlt] at hr'; exact Option.some.inj hr'
      rw [← e1, List.getElem_cons_drop, List.take_append_drop]
    have L' := L
    rw [er] at L'
    obtain ⟨d2, k1, k2⟩ := L'.split
    have ed := Lead.det L1 k1
    subst ed
    obtain ⟨t', C'⟩ := L1.cutting CC
    have hm : r ∈ d' := k2.1
    obtain ⟨_, _, _, eb, eT, _⟩ := C'.step hm
    have dl := C'.len_n
    obtain ⟨dv, hd1, hd2⟩ := hd
    have hlt : r.1 < r.2 := by
      obtain ⟨q, hq, e⟩ := C'.mem.mp hm
      have hb := Tr.bd (Tr.inn_all (ropes_bd hq).1)
      rw [e]
      show (q.1 : Int) < q.2
      omega
    walk_at "st"
    refine Pm.w_ninPL hu1 (SqL.of hd1) hd2 ?_
    rw [decide_eq_true hm]
    walk_at "st"
    refine ⟨n, c', u, d', r, rfl, by omega, n2, ⟨dv, hd1, hd2⟩, by omega, hu1, hlt, by omega, fun c2 H2 ws s2 nc2 hc2 hp2 => ?_⟩
    walk_at "st"
    refine ⟨_, c2, _, rfl, s1.trans s2, ⟨ws, hc2, hp2⟩, ?_⟩
    rw [List.take_add_one, hr']
    exact L1.snoc hm
  · rintro σ H1 ⟨x, c', d', rfl, s1, hd, L1⟩
    walk_at "st"
    rw [hp.length, List.take_length] at L1
    rw [Lead.det L1 L] at hd
    exact q _ _ s1 hd
def spAway : Sp := fun vs H Q _ => ∃ (c : Addr) (cut : List IP) (p : Int), vs = [.ref c, .int p] ∧ PLt H c cut ∧ cut.length ≤ 1000 ∧ ∀ H', Same H H' → Q (.int (awayL cut p)) H'
theorem ok_law_away (T : Tx K mg) : FnOk P w K mg base CX0 1 T.a_law_away T.fd_law_away ["_law_cut", "_law_post"] spAway := by
  refine T.F_law_away.ok sc_law_away (fun vs H Q E h => ?_) (fun cdv A outer s H vs Q E hr h => ?_)
  · obtain ⟨c, cut, p, rfl, _⟩ := h
    rfl
  obtain ⟨c, cut, p, rfl, ⟨cv, hc, hp⟩, cl, q⟩ := h
  refine ⟨_, (pss_one (ps_ret (pe_callB (c_len (K := K)) (by rfl) T.m_len PySem.boot_len (pa_cons (pe_lc (own := [("_law_rope", 2)]) (g := gName 2) rfl sc_law_away.nd (k_il (K := K) (pi_list (pv 0))) (blkOk_by (N := N_law_away) (sc := defScope s_law_away) (by decide +kernel)) (fun _ _ _ _ _ => (pg_name (i := 2) sc_law_away.nd rfl (.inl rfl))) (fun _ _ _ _ _ => (pts_one (pt_cmpR (op_notIn_seqK (K := K)) (pv 1) (pv 2) (by rfl)))) (fun _ _ _ _ _ => (pv 2))) pa_nil)))), ?_⟩
  walk_at "st"
  refine Pm.w_rdL (SqL.of hc) ?_
  refine Pm.w_lcLf (R := Pr) pr_mono (S := Pr) pr_mono (SqL.of hc) hp id (farB p) (by omega) (fun D x r H1 Nx hD hm hs s1 put skip => ?_) (fun D H1 ws hD s1 hd ha => ?_)
  · obtain ⟨u, rfl, hu⟩ := hs
    walk_at "st"
    refine Pm.w_ninInts (ns := [r.1, r.2]) (.inr (SqT.of hu)) ?_
    have e : (!decide (p ∈ [r.1, r.2])) = farB p r := by
      unfold farB
      congr 1
      by_cases h1 : p = r.1 <;> by_cases h2 : p = r.2 <;> simp [h1, h2]
    rw [e]
    cases ef : farB p r with
    | true =>
      walk_at "st"
      exact put _ _ ef (Same.refl _) ⟨u, rfl, hu⟩
    | false =>
      walk_at "st"
      exact skip _ ef (Same.refl _)
  · walk_at "st"
    refine Pm.w_lenL (SqL.of hd) ?_
    rw [ha.length, List.map_id]
    exact q _ s1
end
section
variable {P : Program} {w : World} {K : PySem.W.Frag} {mg : Str → Option Value} {base : Heap}
theorem ok_away (T : Tx K mg) : FnOk P w K mg base CX0 1 T.a_away T.fd_away ["cut", "post"] spAway := by
  refine T.F_away.ok sc_away (fun vs H Q E h => ?_) (fun cdv A outer s H vs Q E hr h => ?_)
  · obtain ⟨c, cut, p, rfl, _⟩ := h
    rfl
  obtain ⟨c, cut, p, rfl, ⟨cv, hc, hp⟩, cl, q⟩ := h
  refine ⟨_, (pss_one (ps_ret (pe_callB (c_len (K := K)) (by rfl) T.m_len PySem.boot_len (pa_cons (pe_lc (own := [("rope", 2)]) (g := gName 2) rfl sc_away.nd (k_il (K := K) (pi_list (pv 0))) (blkOk_by (N := N_away) (sc := defScope s_away) (by decide +kernel)) (fun _ _ _ _ _ => (pg_name (i := 2) sc_away.nd rfl (.inl rfl))) (fun _ _ _ _ _ => (pts_one (pt_cmpR (op_notIn_seqK (K := K)) (pv 1) (pv 2) (by rfl)))) (fun _ _ _ _ _ => (pv 2))) pa_nil)))), ?_⟩
  walk_at "st"
  refine Pm.w_rdL (SqL.of hc) ?_
  refine Pm.w_lcLf (R := Pr) pr_mono (S := Pr) pr_mono (SqL.of hc) hp id (farB p) (by omega) (fun D x r H1 Nx hD hm hs s1 put skip => ?_) (fun D H1 ws hD s1 hd ha => ?_)
  · obtain ⟨u, rfl, hu⟩ := hs
    walk_at "st"
    refine Pm.w_ninInts (ns := [r.1, r.2]) (.inr (SqT.of hu)) ?_
    have e : (!decide (p ∈ [r.1, r.2])) = farB p r := by
      unfold farB
      congr 1
      by_cases h1 : p = r.1 <;> by_cases h2 : p = r.2 <;> simp [h1, h2]
    rw [e]
    cases ef : farB p r with
    | true =>
      walk_at "st"
      exact put _ _ ef (Same.refl _) ⟨u, rfl, hu⟩
    | false =>
      walk_at "st"
      exact skip _ ef (Same.refl _)
  · walk_at "st"
    refine Pm.w_lenL (SqL.of hd) ?_
    rw [ha.length, List.map_id]
    exact q _ s1
/-- a road between two cuttings -/
def Roads (n : Nat) (one other rs : List IP) : Prop := Lead n one rs other ∧ (one = other → rs = []) ∧ ∀ p : Nat, p < n → rs.length ≤ awayL one p + awayL other p
def spRoad : Sp := fun vs H Q _ => ∃ (n : Nat) (a b : Addr) (one other : List IP), vs = [.int n, .ref a, .ref b] ∧ n ≤ 1000 ∧ PLt H a one ∧ PLt H b other ∧ (∃ t, Cutting n one t) ∧ (∃ t, Cutting n other t) ∧
  ∀ (l : Addr) (H' : Hp) (rs : List IP), Same H H' → H l = none → PLt H' l rs → Roads n one other rs → Q (.ref l) H'
theorem ok_road (T : Tx K mg) : FnOk P w K mg base CX0 6 T.a_road T.fd_road ["n", "one", "other"] spRoad := by
  refine T.F_road.ok sc_road (fun vs H Q E h => ?_) (fun cdv A outer s H vs Q E hr h => ?_)
  · obtain ⟨n, a, b, one, other, rfl, _⟩ := h
    rfl
  obtain ⟨n, a, b, one, other, rfl, n2, h1, h2, ⟨t1, C1⟩, ⟨t2, C2⟩, q⟩ := h
  have n3 := C1.n3
  have l1 := C1.len_n
  have l2 := C2.len_n
  obtain ⟨v1, hv1, p1⟩ := h1
  obtain ⟨v2, hv2, p2⟩ := h2
  have h1 : PLt H a one := ⟨v1, hv1, p1⟩
  have h2 : PLt H b other := ⟨v2, hv2, p2⟩
  refine ⟨_, (pss_cons (ps_if (pt_cmpR (op_eqDK (K := K) hr.units) (pv 1) (pv 2) (nomark _)) (pss_one (ps_ret (pe_lst pa_nil))) pss_nil)
      (pss_cons (ps_set (i := 3) sc_road.nd rfl (.inl rfl) (pe_int))
      (pss_cons (ps_for PassesOwn.never rfl (pi_range1 (by rfl) T.m_range (pa_cons (pv 0) pa_nil)) (pg_name (i := 4) sc_road.nd rfl (.inl rfl)) (pss_one (ps_if (pt_cmpR op_lt (pe_op op_add (pe_call (ok_away T) (hr.mono (by decide)) (by rfl) T.g_away T.F_away.kp T.b_away .nil pass0 (pa_cons (pv 1) (pa_cons (pv 4) pa_nil))) (pe_call (ok_away T) (hr.mono (by decide)) (by rfl) T.g_away T.F_away.kp T.b_away .nil pass0 (pa_cons (pv 2) (pa_cons (pv 4) pa_nil)))) (pe_op op_add (pe_call (ok_away T) (hr.mono (by decide)) (by rfl) T.g_away T.F_away.kp T.b_away .nil pass0 (pa_cons (pv 1) (pa_cons (pv 3) pa_nil))) (pe_call (ok_away T) (hr.mono (by decide)) (by rfl) T.g_away T.F_away.kp T.b_away .nil pass0 (pa_cons (pv 2) (pa_cons (pv 3) pa_nil)))) (nomark _)) (pss_one (ps_set (i := 3) sc_road.nd rfl (.inl rfl) (pv 4))) pss_nil)))
      (pss_cons (ps_setLc (i := 5) (own := [("step", 6)]) (g := gName 6) (tt := tYes) rfl sc_road.nd rfl rfl (sw_true rfl rfl rfl (by decide +kernel)) (k_il (K := K) (pi_list (pe_call (ok_walk T) (hr.mono (by decide)) (by rfl) T.g_walk T.F_walk.kp T.b_walk .nil pass0 (pa_cons (pv 0) (pa_cons (pv 1) (pa_cons (pv 3) pa_nil)))))) (blkOk_by (N := N_road) (sc := defScope s_road) (by decide +kernel)) (fun _ _ _ _ _ => (pg_name (i := 6) sc_road.nd rfl (.inl rfl))) (fun _ _ _ _ _ => pts_nil) (fun _ _ _ _ _ => (pe_ix (ix_tupK (K := K)) (pv 6) (pe_int) (fun _ _ => rfl))))
      (pss_cons (ps_setLc (i := 7) (own := [("step", 6)]) (g := gName 6) (tt := tYes) rfl sc_road.nd rfl rfl (sw_true rfl rfl rfl (by decide +kernel)) (k_il (K := K) (pi_list (pe_call (ok_walk T) (hr.mono (by decide)) (by rfl) T.g_walk T.F_walk.kp T.b_walk .nil pass0 (pa_cons (pv 0) (pa_cons (pv 2) (pa_cons (pv 3) pa_nil)))))) (blkOk_by (N := N_road) (sc := defScope s_road) (by decide +kernel)) (fun _ _ _ _ _ => (pg_name (i := 6) sc_road.nd rfl (.inl rfl))) (fun _ _ _ _ _ => pts_nil) (fun _ _ _ _ _ => (pe_ix (ix_tupK (K := K)) (pv 6) (pe_int) (fun _ _ => rfl))))
      (pss_one (ps_ret (pe_op op_cat (pv 5) (k_revL (K := K) (pe_revL (pv 7))))))))))), ?_⟩
  walk_at "st"
  refine Pm.w_eqPL (SqL.of hv1) p1 (SqL.of hv2) p2 ?_
  walk_at "st"
  refine Pm.w_ite (fun e => ?_) (fun e => ?_)
  · walk_at "st"
    refine Pm.w_newL (fun l hl => ?_)
    exact q l _ [] (same_new hl _) hl ⟨[], upd_same, trivial⟩ ⟨e, fun _ => rfl, fun p hp => by rw [List.length_nil]; omega⟩
  walk_at "st"
  rw [Int.toNat_natCast]
  refine Pm.w_forR (fun i σ H1 => ∃ (x x3 x4 x5 : Option V) (k : Nat), σ = [some (.int n), some (.ref a), some (.ref b), some (.int k), x, x3, x4, x5] ∧ Same H H1 ∧ k < n ∧ ∀ j : Nat, j < i → awayL one k + awayL other k ≤ awayL one j + awayL other j) ⟨_, _, _, _, 0, rfl, Same.refl _, by omega, fun j hj => by omega⟩ ?_ ?_
  · rintro i σ H1 hi ⟨x, x3, x4, x5, k, rfl, s1, hk, hle⟩
    walk_at "st"
    refine ⟨a, one, _, rfl, h1.same s1, by omega, fun H2 s2 => ?_⟩
    walk_at "st"
    refine ⟨b, other, _, rfl, h2.same (s1.trans s2), by omega, fun H3 s3 => ?_⟩
    walk_at "st"
    refine ⟨a, one, _, rfl, h1.same (s1.trans (s2.trans s3)), by omega, fun H4 s4 => ?_⟩
    walk_at "st"
    refine ⟨b, other, _, rfl, h2.same (s1.trans (s2.trans (s3.trans s4))), by omega, fun H5 s5 => ?_⟩
    have s15 := s1.trans (s2.trans (s3.trans (s4.trans s5)))
    walk_at "st"
    refine Pm.w_ite (fun e2 => ?_) (fun e2 => ?_)
    · walk_at "st"
      rw [Int.zero_add] at e2
      refine ⟨_, _, _, _, i, by rw [Int.zero_add]; rfl, s15, hi, fun j hj => ?_⟩
      by_cases hj2 : j = i
      · subst hj2; exact Nat.le_refl _
      · have := hle j (by omega)
        omega
    · walk_at "st"
      rw [Int.zero_add] at e2
      refine ⟨_, _, _, _, k, rfl, s15, hk, fun j hj => ?_⟩
      by_cases hj2 : j = i
      · subst hj2; omega
      · exact hle j (by omega)
  · rintro σ H1 ⟨x, x3, x4, x5, k, rfl, s1, hk, hle⟩
    walk_at "st"
    refine ⟨n, a, one, k, t1, rfl, n2, h1.same s1, C1, hk, by omega, fun l2' H2 ws2 ss2 d2 s2 nl2 hl2 ha2 W2 z2 => ?_⟩
    have wl2 := W2.len
    have awle2 := away_le one k
    refine Pm.w_rdL (SqL.of hl2) ?_
    refine Pm.w_lcLf (R := Pr) pr_mono (S := St2) st2_mono (SqL.of hl2) ha2 Prod.fst (fun _ => true) (by omega) (fun D x r H3 Nx hD hm hs s3 put skip => ?_) (fun D H3 ws3 hD s3 hd ha3 => ?_)
    · obtain ⟨u, a', b', rfl, hu, pa, pb⟩ := hs
      walk_at "st"
      refine Pm.w_ixT (SqT.of hu) (atI2 _ _).1 ?_
      exact put _ _ rfl (Same.refl _) pa
    rw [List.filter_eq_self.mpr (fun _ _ => rfl)] at ha3
    have s13 := s1.trans (s2.trans s3)
    walk_at "st"
    refine ⟨n, b, other, k, t2, rfl, n2, h2.same s13, C2, hk, by omega, fun l4 H4 ws4 ss4 d4 s4 nl4 hl4 ha4 W4 z4 => ?_⟩
    have wl4 := W4.len
    have awle4 := away_le other k
    refine Pm.w_rdL (SqL.of hl4) ?_
    refine Pm.w_lcLf (R := Pr) pr_mono (S := St2) st2_mono (SqL.of hl4) ha4 Prod.snd (fun _ => true) (by omega) (fun D x r H3 Nx hD hm hs s3 put skip => ?_) (fun D5 H5 ws5 hD5 s5 hd5 ha5 => ?_)
    · obtain ⟨u, a', b', rfl, hu, pa, pb⟩ := hs
      walk_at "st"
      refine Pm.w_ixT (SqT.of hu) (atI2 _ _).2 ?_
      exact put _ _ rfl (Same.refl _) pb
    rw [List.filter_eq_self.mpr (fun _ _ => rfl)] at ha5
    have s45 := s4.trans s5
    walk_at "st"
    refine Pm.w_revL ?_
    walk_at "st"
    refine Pm.w_revK (SqL.of hd5) (fun p6 hp6 => ?_)
    have s6 := same_new hp6 (.lst ws5.reverse)
    have len3 := ha3.length
    have len5 := ha5.length
    rw [List.length_map] at len3 len5
    refine Pm.w_cat (s6 _ _ (s45 _ _ hd)) upd_same (size_ok (by rw [List.length_reverse]; omega)) (fun p7 hp7 => ?_)
    have s7 := same_new hp7 (.lst (ws3 ++ ws5.reverse))
    have sAll := s13.trans (s45.trans (s6.trans s7))
    have efan : d2 = d4 := by
      obtain ⟨u1, D1⟩ := W2.cut
      obtain ⟨u2, D2⟩ := W4.cut
      exact D1.fan D2 hk z2 z4
    refine q p7 _ (ss2.map Prod.fst ++ (ss4.map Prod.snd).reverse) sAll ((s13.trans (s45.trans s6)).free hp7) ⟨_, upd_same, ?_⟩ ⟨?_, fun z => absurd z e, fun p hp => ?_⟩
    · exact (prs_keep (keeps (s45.trans (s6.trans s7))) ha3).append (prs_keep (keeps (s6.trans s7)) ha5).reverse
    · exact Lead.append W2.there (by rw [efan]; exact W4.back)
    · rw [List.length_append, List.length_reverse, List.length_map, List.length_map]
      have := hle p hp
      omega
end
section
variable {P : Program} {w : World} {K : PySem.W.Frag} {mg : Str → Option Value} {base : Heap}
def spLaw (K : PySem.W.Frag) : Sp := fun vs H Q _ => ∃ (a : Addr) (ns : List Int), vs = [.ref a] ∧ SqL K H a (ns.map V.int) ∧ ns.length ≤ 63 ∧ ∀ H', Q (.bl true) H'
theorem ok_law (T : Tx K mg) : FnOk P w K mg base CX0 7 T.a_law T.fd_law ["_law_script"] (spLaw K) := by
  refine T.F_law.ok sc_law (fun vs H Q E h => ?_) (fun cdv A outer s H vs Q E hr h => ?_)
  · obtain ⟨a, ns, rfl, _⟩ := h
    rfl
  obtain ⟨sc, ns, rfl, hS, hl, q⟩ := h
  refine ⟨_, (pss_cons (ps_set (i := 1) sc_law.nd rfl (.inl rfl) (pe_call (ok_law_flow T) (hr.mono (by decide)) (by rfl) T.g_law_flow T.F_law_flow.kp T.b_law_flow .nil pass0 (pa_cons (pv 0) (pa_cons (pe_int) pa_nil))))
      (pss_cons (ps_set (i := 2) sc_law.nd rfl (.inl rfl) (pe_call (ok_law_many T) (hr.mono (by decide)) (by rfl) T.g_law_many T.F_law_many.kp T.b_law_many .nil pass0 (pa_cons (pv 1) pa_nil)))
      (pss_cons (ps_set (i := 3) sc_law.nd rfl (.inl rfl) (pe_call (ok_law_ropes T) (hr.mono (by decide)) (by rfl) T.g_law_ropes T.F_law_ropes.kp T.b_law_ropes .nil pass0 (pa_cons (pe_call (ok_law_ears T) (hr.mono (by decide)) (by rfl) T.g_law_ears T.F_law_ears.kp T.b_law_ears .nil pass0 (pa_cons (pv 2) (pa_cons (pe_slice (sl_listK (K := K)) (pv 1) (po_some (pe_int)) po_none) pa_nil))) pa_nil)))
      (pss_cons (ps_set (i := 4) sc_law.nd rfl (.inl rfl) (pe_call (ok_law_ropes T) (hr.mono (by decide)) (by rfl) T.g_law_ropes T.F_law_ropes.kp T.b_law_ropes .nil pass0 (pa_cons (pe_call (ok_law_ears T) (hr.mono (by decide)) (by rfl) T.g_law_ears T.F_law_ears.kp T.b_law_ears .nil pass0 (pa_cons (pv 2) (pa_cons (pe_slice (sl_listK (K := K)) (pv 1) (po_some (pe_int)) po_none) pa_nil))) pa_nil)))
      (C8.pss_cut (ps_if (pt_cmpR op_eq (pe_op op_mod (pe_ix (ix_listK (K := K)) (pv 1) (pe_int) (fun _ _ => rfl)) (pe_int)) (pe_int) (nomark _)) (pss_one (ps_set (i := 4) sc_law.nd rfl (.inl rfl) (pe_callTy (c_listOf (K := K)) (by rfl) T.m_list (by decide +kernel) (pa_cons (pv 3) pa_nil)))) pss_nil)
      (C8.pss_cut (ps_if (PW.pt (pw_and (pt_cmpR op_eq (pe_op op_mod (pe_ix (ix_listK (K := K)) (pv 1) (pe_int) (fun _ _ => rfl)) (pe_int)) (pe_int) (nomark _)) (pw_and1 (pt_cmpR op_gt (pv 2) (pe_int) (nomark _))))) (pss_one (ps_set (i := 4) sc_law.nd rfl (.inl rfl) (pe_call (ok_law_turned T) (hr.mono (by decide)) (by rfl) T.g_law_turned T.F_law_turned.kp T.b_law_turned .nil pass0 (pa_cons (pv 2) (pa_cons (pv 3) (pa_cons (pe_ix (ix_listK (K := K)) (pv 3) (pe_op op_mod (pe_ix (ix_listK (K := K)) (pv 1) (pe_int) (fun _ _ => rfl)) (pe_callB (c_len (K := K)) (by rfl) T.m_len PySem.boot_len (pa_cons (pv 3) pa_nil))) (fun _ _ => rfl)) pa_nil)))))) pss_nil)
      (pss_cons (ps_set (i := 5) sc_law.nd rfl (.inl rfl) (pe_lst (pa_cons (pe_callTy (c_listOf (K := K)) (by rfl) T.m_list (by decide +kernel) (pa_cons (pv 3) pa_nil)) (pa_cons (pe_callTy (c_listOf (K := K)) (by rfl) T.m_list (by decide +kernel) (pa_cons (pv 4) pa_nil)) pa_nil))))
      (pss_cons (ps_set (i := 6) sc_law.nd rfl (.inl rfl) (pe_call (ok_road T) (hr.mono (by decide)) (by rfl) T.g_road T.F_road.kp T.b_road .nil pass0 (pa_cons (pv 2) (pa_cons (pe_ix (ix_listK (K := K)) (pv 5) (pe_int) (fun _ _ => rfl)) (pa_cons (pe_ix (ix_listK (K := K)) (pv 5) (pe_int) (fun _ _ => rfl)) pa_nil)))))
      (pss_cons (ps_set (i := 7) sc_law.nd rfl (.inl rfl) (pe_call (ok_law_walk T) (hr.mono (by decide)) (by rfl) T.g_law_walk T.F_law_walk.kp T.b_law_walk .nil pass0 (pa_cons (pv 2) (pa_cons (pv 3) (pa_cons (pv 6) pa_nil)))))
      (pss_cons (ps_if (PW.pt (pw_or (pt_cmpR op_isNK (pv 7) (pe_non) (nomark _)) (pw_or (pt_cmpR (op_neDK (K := K) hr.units) (pv 7) (pv 4) (nomark _)) (pw_or1 (pt_cmpR (op_neDK (K := K) hr.units) (pv 5) (pe_lst (pa_cons (pv 3) (pa_cons (pv 4) pa_nil))) (nomark _)))))) (pss_one (ps_ret (pe_bl))) pss_nil)
      (pss_cons (ps_if (pt_cmpR (op_eqDK (K := K) hr.units) (pv 3) (pv 4) (nomark _)) (pss_one (ps_ret (pe_cmpR (op_eqDK (K := K) hr.units) (pv 6) (pe_lst pa_nil) (nomark _)))) pss_nil)
      (pss_cons (ps_for PassesOwn.never rfl (pi_range1 (by rfl) T.m_range (pa_cons (pv 2) pa_nil)) (pg_name (i := 8) sc_law.nd rfl (.inl rfl)) (pss_one (ps_if (pt_cmpR op_gt (pe_callB (c_len (K := K)) (by rfl) T.m_len PySem.boot_len (pa_cons (pv 6) pa_nil)) (pe_op op_add (pe_call (ok_law_away T) (hr.mono (by decide)) (by rfl) T.g_law_away T.F_law_away.kp T.b_law_away .nil pass0 (pa_cons (pv 3) (pa_cons (pv 8) pa_nil))) (pe_call (ok_law_away T) (hr.mono (by decide)) (by rfl) T.g_law_away T.F_law_away.kp T.b_law_away .nil pass0 (pa_cons (pv 4) (pa_cons (pv 8) pa_nil)))) (nomark _)) (pss_one (ps_ret (pe_bl))) pss_nil)))
      (pss_one (ps_ret (pe_bl))))))))))))))), ?_⟩
  walk_at "st"
  refine ⟨sc, ns, 28, rfl, hS, by decide, fun row H1 r hrow hb s1 nr hr1 => ?_⟩
  have hR : SqL K H1 r (row.map V.int) := SqL.of hr1
  walk_at "st"
  refine ⟨r, row, rfl, hR, by omega, fun n n3 n12 => ?_⟩
  walk_at "st"
  refine Pm.w_slL hR (fun p1 hp1 => ?_)
  rw [cut_drop (by decide) (by rw [List.length_map, hrow]; decide), ← List.map_drop]
  walk_at "st"
  refine ⟨n, p1, row.drop (4 : Int).toNat, rfl, SqL.of upd_same, by omega, by omega, by rw [List.length_drop, hrow]; show n ≤ 28 - 4 + 3; omega, fun e H3 evs es s3 ne he hA hears hes => ?_⟩
  walk_at "st"
  refine ⟨e, evs, es, rfl, SqL.of he, hA, by omega, fun c1 H4 cv1 s4 nc1 hc1 hp1' => ?_⟩
  obtain ⟨t1, C1⟩ := drawn_cutting hears (by omega)
  generalize hcut : sortP (es.map ropeOf) = cut1 at hp1' C1
  have s14 : Same H1 H4 := (same_new hp1 _).trans (s3.trans s4)
  have hR4 := s14.seq hR
  walk_at "st"
  refine Pm.w_slL hR4 (fun p2 hp2 => ?_)
  rw [cut_drop (by decide) (by rw [List.length_map, hrow]; decide), ← List.map_drop]
  walk_at "st"
  refine ⟨n, p2, row.drop (16 : Int).toNat, rfl, SqL.of upd_same, by omega, by omega, by rw [List.length_drop, hrow]; show n ≤ 28 - 16 + 3; omega, fun e2 H5 evs2 es2 s5 ne2 he2 hA2 hears2 hes2 => ?_⟩
  walk_at "st"
  refine ⟨e2, evs2, es2, rfl, SqL.of he2, hA2, by omega, fun c2 H6 cv2 s6 nc2 hc2 hp2' => ?_⟩
  obtain ⟨t2, C2⟩ := drawn_cutting hears2 (by omega)
  generalize hcut2 : sortP (es2.map ropeOf) = cut2 at hp2' C2
  have s46 : Same H4 H6 := (same_new hp2 _).trans (s5.trans s6)
  have hL1 : PLt H6 c1 cut1 := PLt.same ⟨cv1, hc1, hp1'⟩ s46
  have hR6 := s46.seq hR4
  walk_at "st"
  refine Pm.w_cut (fun σ' H' => ∃ (c2 : Addr) (cut2 : List IP) (t2 : Tr), σ' = [some (.ref sc), some (.ref r), some (.int n), some (.ref c1), some (.ref c2), none, none, none, none] ∧ Same H6 H' ∧ PLt H' c2 cut2 ∧ Cutting n cut2 t2) ?_ ?_
  · obtain ⟨cv1, hc1, hp1'⟩ := hL1
    walk_at "st"
    refine Pm.w_ixL hR6 (atI_int (by omega) (by omega)) ?_
    walk_at "st"
    refine Pm.w_ite (fun e1 => ?_) (fun e1 => ?_)
    · walk_at "st"
      refine Pm.w_listOf (SqL.of hc1) (fun d1 hd1 => ?_)
      have s8 := same_new hd1 (.lst cv1)
      walk_at "st"
      exact ⟨d1, cut1, t1, rfl, s8, ⟨cv1, upd_same, prs_keep (keeps s8) hp1'⟩, C1⟩
    · walk_at "st"
      exact ⟨c2, cut2, t2, rfl, Same.refl _, ⟨cv2, hc2, hp2'⟩, C2⟩
  clear C2 hp2' hc2
  rintro σ H6' ⟨c2, cut2, t2, rfl, s6', ⟨cv2, hc2, hp2'⟩, C2⟩
  have hL1 := hL1.same s6'
  have hR6 := s6'.seq hR6
  refine Pm.w_cut (fun σ' H' => ∃ (c2 : Addr) (cut2 : List IP) (t2 : Tr), σ' = [some (.ref sc), some (.ref r), some (.int n), some (.ref c1), some (.ref c2), none, none, none, none] ∧ Same H6' H' ∧ PLt H' c2 cut2 ∧ Cutting n cut2 t2) ?_ ?_
  · obtain ⟨cv1, hc1, hp1'⟩ := hL1
    have lc := hp1'.length
    have lC := C1.len_n
    walk_at "st"
    refine Pm.w_ixL hR6 (atI_int (by omega) (by omega)) ?_
    walk_at "st"
    refine Pm.w_ite (fun e1 => ?_) (fun e1 => ?_)
    · walk_at "st"
      refine Pm.w_ite (fun e2 => ?_) (fun e2 => ?_)
      · walk_at "st"
        refine Pm.w_ixL hR6 (atI_int (by omega) (by omega)) ?_
        walk_at "st"
        refine Pm.w_lenL (SqL.of hc1) ?_
        walk_at "st"
        have m0 : 0 ≤ row.getD (3 : Int).toNat 0 % (cv1.length : Int) := Int.emod_nonneg _ (by omega)
        have m1 : row.getD (3 : Int).toNat 0 % (cv1.length : Int) < (cv1.length : Int) := Int.emod_lt_of_pos _ (by omega)
        generalize row.getD (3 : Int).toNat 0 % (cv1.length : Int) = mi at m0 m1
        obtain ⟨m, rfl⟩ : ∃ m : Nat, mi = (m : Int) := ⟨mi.toNat, by omega⟩
        have hmv : m < cv1.length := by omega
        obtain ⟨p, hp, t, et, ht⟩ := hp1'.get (List.getElem?_eq_getElem hmv)
        have hat : atI cv1 (m : Int) = some (.ref t) := atI_nat (by rw [List.getElem?_eq_getElem hmv, et])
        refine Pm.w_ixL (SqL.of hc1) hat ?_
        have mp : p ∈ cut1 := List.mem_of_getElem? hp
        obtain ⟨⟨t', C'⟩, _, _, eb, eT, _⟩ := C1.step mp
        have hlt : p.1 < p.2 := by
          obtain ⟨q, hq, e⟩ := C1.mem.mp mp
          have hb := Tr.bd (Tr.inn_all (ropes_bd hq).1)
          rw [e]
          show (q.1 : Int) < q.2
          omega
        walk_at "st"
        refine ⟨n, c1, t, cut1, p, rfl, by omega, by omega, ⟨cv1, hc1, hp1'⟩, by omega, ⟨t, rfl, ht⟩, hlt, by omega, fun c3 H7 ws7 s7 nc3 hc3 hp3 => ?_⟩
        walk_at "st"
        exact ⟨c3, _, t', rfl, s7, ⟨ws7, hc3, hp3⟩, C'⟩
      · walk_at "st"
        exact ⟨c2, cut2, t2, rfl, Same.refl _, ⟨cv2, hc2, hp2'⟩, C2⟩
    · walk_at "st"
      exact ⟨c2, cut2, t2, rfl, Same.refl _, ⟨cv2, hc2, hp2'⟩, C2⟩
  clear C2 hp2' hc2
  rintro σ H7 ⟨c2, cut2, t2, rfl, s7, ⟨cv2, hc2, hp2'⟩, C2⟩
  obtain ⟨cv1, hc1, hp1'⟩ := hL1.same s7
  have lC1 := C1.len_n
  have lC2 := C2.len_n
  walk_at "st"
  refine Pm.w_listOf (SqL.of hc1) (fun d1 hd1 => ?_)
  have s8 := same_new hd1 (.lst cv1)
  walk_at "st"
  refine Pm.w_listOf (SqL.of (s8 _ _ hc2)) (fun d2 hd2 => ?_)
  have s9 := same_new hd2 (.lst cv2)
  walk_at "st"
  refine Pm.w_newL (fun h hh => ?_)
  have s10 := same_new hh (.lst [.ref d1, .ref d2])
  have hh10 : upd (upd (upd H7 d1 (.lst cv1)) d2 (.lst cv2)) h (.lst [.ref d1, .ref d2]) h = some (.lst [.ref d1, .ref d2]) := upd_same
  have hd1' := (s9.trans s10) _ _ (show upd H7 d1 (.lst cv1) d1 = some (.lst cv1) from upd_same)
  have hd2' := s10 _ _ (show upd (upd H7 d1 (.lst cv1)) d2 (.lst cv2) d2 = some (.lst cv2) from upd_same)
  have sA := s8.trans (s9.trans s10)
  have hcA := sA _ _ hc1
  have hcB := sA _ _ hc2
  have hpA := prs_keep (keeps sA) hp1'
  have hpB := prs_keep (keeps sA) hp2'
  clear s8 s9 s10 sA hd1 hd2 hh
  generalize upd (upd (upd H7 d1 (.lst cv1)) d2 (.lst cv2)) h (.lst [.ref d1, .ref d2]) = H10 at hh10 hd1' hd2' hcA hcB hpA hpB
  walk_at "st"
  refine Pm.w_ixL (SqL.of hh10) (rfl : atI [V.ref d1, V.ref d2] 0 = some (.ref d1)) ?_
  walk_at "st"
  refine Pm.w_ixL (SqL.of hh10) (rfl : atI [V.ref d1, V.ref d2] 1 = some (.ref d2)) ?_
  walk_at "st"
  refine ⟨n, d1, d2, cut1, cut2, rfl, by omega, ⟨cv1, hd1', hpA⟩, ⟨cv2, hd2', hpB⟩, ⟨t1, C1⟩, ⟨t2, C2⟩, fun l H11 rs s11 nl hl11 R => ?_⟩
  have rl := R.2.2 0 (by omega)
  have aw1 := away_le cut1 0
  have aw2 := away_le cut2 0
  simp only [Int.natCast_zero] at rl
  walk_at "st"
  refine ⟨n, c1, l, cut1, rs, cut2, rfl, by omega, ⟨cv1, s11 _ _ hcA, prs_keep (keeps s11) hpA⟩, hl11, ⟨t1, C1⟩, R.1, by omega, fun e12 H12 s12 he12 => ?_⟩
  obtain ⟨ev, he, hep⟩ := he12
  have sB := s11.trans s12
  walk_at "st"
  refine Pm.w_isN_ref ?_
  walk_at "st"
  refine Pm.w_nePL (SqL.of he) hep (SqL.of (sB _ _ hcB)) (prs_keep (keeps sB) hpB) ?_
  rw [decide_eq_true rfl]
  walk_at "st"
  refine Pm.w_newL (fun g hg => ?_)
  have sC := sB.trans (same_new hg (.lst [.ref c1, .ref c2]))
  have hpA' := prs_keep (keeps sC) hpA
  have hpB' := prs_keep (keeps sC) hpB
  refine Pm.w_neTwo (SqL.of (sC _ _ hh10)) (SqL.of upd_same) (SqL.of (sC _ _ hd1')) (SqL.of (sC _ _ hd2')) (SqL.of (sC _ _ hcA)) (SqL.of (sC _ _ hcB)) hpA' hpB' hpA' hpB' ?_
  rw [decide_eq_true rfl, decide_eq_true rfl, Bool.and_self]
  walk_at "st"
  have hl13 := hl11.same (s12.trans (same_new hg (.lst [.ref c1, .ref c2])))
  have hcA := sC _ _ hcA
  have hcB := sC _ _ hcB
  clear hd1' hd2' hpA hpB hh10
  generalize upd H12 g (.lst [.ref c1, .ref c2]) = H13 at hpA' hpB' hl13 hcA hcB
  obtain ⟨lv, hl13, hlp⟩ := hl13
  refine Pm.w_eqPL (SqL.of hcA) hpA' (SqL.of hcB) hpB' ?_
  walk_at "st"
  refine Pm.w_ite (fun e => ?_) (fun e => ?_)
  · walk_at "st"
    refine Pm.w_newL (fun g2 hg2 => ?_)
    have sD := same_new hg2 (.lst [])
    refine Pm.w_eqPL (qs := []) (SqL.of (sD _ _ hl13)) (prs_keep (keeps sD) hlp) (SqL.of upd_same) trivial ?_
    rw [decide_eq_true (R.2.1 e)]
    exact q _
  walk_at "st"
  rw [Int.toNat_natCast]
  refine Pm.w_forR (fun i σ H' => ∃ x, σ = [some (.ref sc), some (.ref r), some (.int n), some (.ref c1), some (.ref c2), some (.ref h), some (.ref l), some (.ref e12), x] ∧ Same H13 H') ⟨_, rfl, Same.refl _⟩ ?_ ?_
  · rintro i σ H14 hi ⟨x, rfl, s14⟩
    walk_at "st"
    refine Pm.w_lenL (SqL.of (s14 _ _ hl13)) ?_
    walk_at "st"
    refine ⟨c1, cut1, _, rfl, PLt.same ⟨cv1, hcA, hpA'⟩ s14, by omega, fun H15 s15 => ?_⟩
    walk_at "st"
    refine ⟨c2, cut2, _, rfl, PLt.same ⟨cv2, hcB, hpB'⟩ (s14.trans s15), by omega, fun H16 s16 => ?_⟩
    walk_at "st"
    have := R.2.2 i hi
    refine Pm.w_ite (fun z => ?_) (fun _ => ?_)
    · rw [hlp.length, Int.zero_add] at z
      omega
    walk_at "st"
    exact ⟨_, rfl, s14.trans (s15.trans s16)⟩
  · rintro σ H14 ⟨x, rfl, s14⟩
    walk_at "st"
    exact q _
end
/-! ### what the top has written; the end -/
def tx_mk {K : PySem.W.Frag} {h : Heap} {mg : Str → Option Value} (X : K.In h) (G : h.Ns mainGlobals mg)
    {f_0 : Addr} {od_0 an_0 : Option Addr} {sl_0 : Array (Option Value)} {oc_0 kV_0 dc_0 pm_0 cd_0 ct_0 : Value}
    {f_1 : Addr} {od_1 an_1 : Option Addr} {sl_1 : Array (Option Value)} {oc_1 kV_1 dc_1 pm_1 cd_1 ct_1 : Value}
    {f_2 : Addr} {od_2 an_2 : Option Addr} {sl_2 : Array (Option Value)} {oc_2 kV_2 dc_2 pm_2 cd_2 ct_2 : Value}
    {f_3 : Addr} {od_3 an_3 : Option Addr} {sl_3 : Array (Option Value)} {oc_3 kV_3 dc_3 pm_3 cd_3 ct_3 : Value}
    {f_4 : Addr} {od_4 an_4 : Option Addr} {sl_4 : Array (Option Value)} {oc_4 kV_4 dc_4 pm_4 cd_4 ct_4 : Value}
    {f_5 : Addr} {od_5 an_5 : Option Addr} {sl_5 : Array (Option Value)} {oc_5 kV_5 dc_5 pm_5 cd_5 ct_5 : Value}
    {f_6 : Addr} {od_6 an_6 : Option Addr} {sl_6 : Array (Option Value)} {oc_6 kV_6 dc_6 pm_6 cd_6 ct_6 : Value}
    {f_7 : Addr} {od_7 an_7 : Option Addr} {sl_7 : Array (Option Value)} {oc_7 kV_7 dc_7 pm_7 cd_7 ct_7 : Value}
    {f_8 : Addr} {od_8 an_8 : Option Addr} {sl_8 : Array (Option Value)} {oc_8 kV_8 dc_8 pm_8 cd_8 ct_8 : Value}
    {f_9 : Addr} {od_9 an_9 : Option Addr} {sl_9 : Array (Option Value)} {oc_9 kV_9 dc_9 pm_9 cd_9 ct_9 : Value}
    {f_10 : Addr} {od_10 an_10 : Option Addr} {sl_10 : Array (Option Value)} {oc_10 kV_10 dc_10 pm_10 cd_10 ct_10 : Value}
    {f_11 : Addr} {od_11 an_11 : Option Addr} {sl_11 : Array (Option Value)} {oc_11 kV_11 dc_11 pm_11 cd_11 ct_11 : Value}
    {f_12 : Addr} {od_12 an_12 : Option Addr} {sl_12 : Array (Option Value)} {oc_12 kV_12 dc_12 pm_12 cd_12 ct_12 : Value}
    {f_13 : Addr} {od_13 an_13 : Option Addr} {sl_13 : Array (Option Value)} {oc_13 kV_13 dc_13 pm_13 cd_13 ct_13 : Value}
    {f_14 : Addr} {od_14 an_14 : Option Addr} {sl_14 : Array (Option Value)} {oc_14 kV_14 dc_14 pm_14 cd_14 ct_14 : Value}
    {f_15 : Addr} {od_15 an_15 : Option Addr} {sl_15 : Array (Option Value)} {oc_15 kV_15 dc_15 pm_15 cd_15 ct_15 : Value}
    {f_16 : Addr} {od_16 an_16 : Option Addr} {sl_16 : Array (Option Value)} {oc_16 kV_16 dc_16 pm_16 cd_16 ct_16 : Value}
    {f_17 : Addr} {od_17 an_17 : Option Addr} {sl_17 : Array (Option Value)} {oc_17 kV_17 dc_17 pm_17 cd_17 ct_17 : Value}
    {f_18 : Addr} {od_18 an_18 : Option Addr} {sl_18 : Array (Option Value)} {oc_18 kV_18 dc_18 pm_18 cd_18 ct_18 : Value}
    {f_19 : Addr} {od_19 an_19 : Option Addr} {sl_19 : Array (Option Value)} {oc_19 kV_19 dc_19 pm_19 cd_19 ct_19 : Value}
    {f_20 : Addr} {od_20 an_20 : Option Addr} {sl_20 : Array (Option Value)} {oc_20 kV_20 dc_20 pm_20 cd_20 ct_20 : Value}
    {f_21 : Addr} {od_21 an_21 : Option Addr} {sl_21 : Array (Option Value)} {oc_21 kV_21 dc_21 pm_21 cd_21 ct_21 : Value}
    {f_22 : Addr} {od_22 an_22 : Option Addr} {sl_22 : Array (Option Value)} {oc_22 kV_22 dc_22 pm_22 cd_22 ct_22 : Value}
    {f_23 : Addr} {od_23 an_23 : Option Addr} {sl_23 : Array (Option Value)} {oc_23 kV_23 dc_23 pm_23 cd_23 ct_23 : Value}
    {C_NoRope : Addr}
    (a0 : PySem.W.nsIn K mainGlobals "tie_of" = some (some (.ref f_0)))
    (l0 : K.lookup f_0 = some ⟨oc_0, od_0, .func (PySem.W.fnOf "tie_of" "tie_of" (defArgs s_tie_of) (defBody s_tie_of) (defScope s_tie_of) .none kV_0 dc_0 pm_0 an_0 cd_0 ct_0), sl_0⟩)
    (c0 : PySem.W.codeIn K cd_0 "tie_of" = true)
    (k0 : PySem.W.keepIn K (.ref f_0) = true)
    (a1 : PySem.W.nsIn K mainGlobals "sides" = some (some (.ref f_1)))
    (l1 : K.lookup f_1 = some ⟨oc_1, od_1, .func (PySem.W.fnOf "sides" "sides" (defArgs s_sides) (defBody s_sides) (defScope s_sides) .none kV_1 dc_1 pm_1 an_1 cd_1 ct_1), sl_1⟩)
    (c1 : PySem.W.codeIn K cd_1 "sides" = true)
    (k1 : PySem.W.keepIn K (.ref f_1) = true)
    (a2 : PySem.W.nsIn K mainGlobals "ties" = some (some (.ref f_2)))
    (l2 : K.lookup f_2 = some ⟨oc_2, od_2, .func (PySem.W.fnOf "ties" "ties" (defArgs s_ties) (defBody s_ties) (defScope s_ties) .none kV_2 dc_2 pm_2 an_2 cd_2 ct_2), sl_2⟩)
    (c2 : PySem.W.codeIn K cd_2 "ties" = true)
    (k2 : PySem.W.keepIn K (.ref f_2) = true)
    (a3 : PySem.W.nsIn K mainGlobals "beside" = some (some (.ref f_3)))
    (l3 : K.lookup f_3 = some ⟨oc_3, od_3, .func (PySem.W.fnOf "beside" "beside" (defArgs s_beside) (defBody s_beside) (defScope s_beside) .none kV_3 dc_3 pm_3 an_3 cd_3 ct_3), sl_3⟩)
    (c3 : PySem.W.codeIn K cd_3 "beside" = true)
    (k3 : PySem.W.keepIn K (.ref f_3) = true)
    (a4 : PySem.W.nsIn K mainGlobals "turned" = some (some (.ref f_4)))
    (l4 : K.lookup f_4 = some ⟨oc_4, od_4, .func (PySem.W.fnOf "turned" "turned" (defArgs s_turned) (defBody s_turned) (defScope s_turned) .none kV_4 dc_4 pm_4 an_4 cd_4 ct_4), sl_4⟩)
    (c4 : PySem.W.codeIn K cd_4 "turned" = true)
    (k4 : PySem.W.keepIn K (.ref f_4) = true)
    (a5 : PySem.W.nsIn K mainGlobals "away" = some (some (.ref f_5)))
    (l5 : K.lookup f_5 = some ⟨oc_5, od_5, .func (PySem.W.fnOf "away" "away" (defArgs s_away) (defBody s_away) (defScope s_away) .none kV_5 dc_5 pm_5 an_5 cd_5 ct_5), sl_5⟩)
    (c5 : PySem.W.codeIn K cd_5 "away" = true)
    (k5 : PySem.W.keepIn K (.ref f_5) = true)
    (a6 : PySem.W.nsIn K mainGlobals "facing" = some (some (.ref f_6)))
    (l6 : K.lookup f_6 = some ⟨oc_6, od_6, .func (PySem.W.fnOf "facing" "facing" (defArgs s_facing) (defBody s_facing) (defScope s_facing) .none kV_6 dc_6 pm_6 an_6 cd_6 ct_6), sl_6⟩)
    (c6 : PySem.W.codeIn K cd_6 "facing" = true)
    (k6 : PySem.W.keepIn K (.ref f_6) = true)
    (a7 : PySem.W.nsIn K mainGlobals "walk" = some (some (.ref f_7)))
    (l7 : K.lookup f_7 = some ⟨oc_7, od_7, .func (PySem.W.fnOf "walk" "walk" (defArgs s_walk) (defBody s_walk) (defScope s_walk) .none kV_7 dc_7 pm_7 an_7 cd_7 ct_7), sl_7⟩)
    (c7 : PySem.W.codeIn K cd_7 "walk" = true)
    (k7 : PySem.W.keepIn K (.ref f_7) = true)
    (a8 : PySem.W.nsIn K mainGlobals "road" = some (some (.ref f_8)))
    (l8 : K.lookup f_8 = some ⟨oc_8, od_8, .func (PySem.W.fnOf "road" "road" (defArgs s_road) (defBody s_road) (defScope s_road) .none kV_8 dc_8 pm_8 an_8 cd_8 ct_8), sl_8⟩)
    (c8 : PySem.W.codeIn K cd_8 "road" = true)
    (k8 : PySem.W.keepIn K (.ref f_8) = true)
    (a9 : PySem.W.nsIn K mainGlobals "_law_flow" = some (some (.ref f_9)))
    (l9 : K.lookup f_9 = some ⟨oc_9, od_9, .func (PySem.W.fnOf "_law_flow" "_law_flow" (defArgs s_law_flow) (defBody s_law_flow) (defScope s_law_flow) .none kV_9 dc_9 pm_9 an_9 cd_9 ct_9), sl_9⟩)
    (c9 : PySem.W.codeIn K cd_9 "_law_flow" = true)
    (k9 : PySem.W.keepIn K (.ref f_9) = true)
    (a10 : PySem.W.nsIn K mainGlobals "_law_whole" = some (some (.ref f_10)))
    (l10 : K.lookup f_10 = some ⟨oc_10, od_10, .func (PySem.W.fnOf "_law_whole" "_law_whole" (defArgs s_law_whole) (defBody s_law_whole) (defScope s_law_whole) .none kV_10 dc_10 pm_10 an_10 cd_10 ct_10), sl_10⟩)
    (c10 : PySem.W.codeIn K cd_10 "_law_whole" = true)
    (k10 : PySem.W.keepIn K (.ref f_10) = true)
    (a11 : PySem.W.nsIn K mainGlobals "_law_many" = some (some (.ref f_11)))
    (l11 : K.lookup f_11 = some ⟨oc_11, od_11, .func (PySem.W.fnOf "_law_many" "_law_many" (defArgs s_law_many) (defBody s_law_many) (defScope s_law_many) .none kV_11 dc_11 pm_11 an_11 cd_11 ct_11), sl_11⟩)
    (c11 : PySem.W.codeIn K cd_11 "_law_many" = true)
    (k11 : PySem.W.keepIn K (.ref f_11) = true)
    (a12 : PySem.W.nsIn K mainGlobals "_law_pair" = some (some (.ref f_12)))
    (l12 : K.lookup f_12 = some ⟨oc_12, od_12, .func (PySem.W.fnOf "_law_pair" "_law_pair" (defArgs s_law_pair) (defBody s_law_pair) (defScope s_law_pair) .none kV_12 dc_12 pm_12 an_12 cd_12 ct_12), sl_12⟩)
    (c12 : PySem.W.codeIn K cd_12 "_law_pair" = true)
    (k12 : PySem.W.keepIn K (.ref f_12) = true)
    (a13 : PySem.W.nsIn K mainGlobals "_law_ears" = some (some (.ref f_13)))
    (l13 : K.lookup f_13 = some ⟨oc_13, od_13, .func (PySem.W.fnOf "_law_ears" "_law_ears" (defArgs s_law_ears) (defBody s_law_ears) (defScope s_law_ears) .none kV_13 dc_13 pm_13 an_13 cd_13 ct_13), sl_13⟩)
    (c13 : PySem.W.codeIn K cd_13 "_law_ears" = true)
    (k13 : PySem.W.keepIn K (.ref f_13) = true)
    (a14 : PySem.W.nsIn K mainGlobals "_law_ropes" = some (some (.ref f_14)))
    (l14 : K.lookup f_14 = some ⟨oc_14, od_14, .func (PySem.W.fnOf "_law_ropes" "_law_ropes" (defArgs s_law_ropes) (defBody s_law_ropes) (defScope s_law_ropes) .none kV_14 dc_14 pm_14 an_14 cd_14 ct_14), sl_14⟩)
    (c14 : PySem.W.codeIn K cd_14 "_law_ropes" = true)
    (k14 : PySem.W.keepIn K (.ref f_14) = true)
    (a15 : PySem.W.nsIn K mainGlobals "_law_sides" = some (some (.ref f_15)))
    (l15 : K.lookup f_15 = some ⟨oc_15, od_15, .func (PySem.W.fnOf "_law_sides" "_law_sides" (defArgs s_law_sides) (defBody s_law_sides) (defScope s_law_sides) .none kV_15 dc_15 pm_15 an_15 cd_15 ct_15), sl_15⟩)
    (c15 : PySem.W.codeIn K cd_15 "_law_sides" = true)
    (k15 : PySem.W.keepIn K (.ref f_15) = true)
    (a16 : PySem.W.nsIn K mainGlobals "_law_ties" = some (some (.ref f_16)))
    (l16 : K.lookup f_16 = some ⟨oc_16, od_16, .func (PySem.W.fnOf "_law_ties" "_law_ties" (defArgs s_law_ties) (defBody s_law_ties) (defScope s_law_ties) .none kV_16 dc_16 pm_16 an_16 cd_16 ct_16), sl_16⟩)
    (c16 : PySem.W.codeIn K cd_16 "_law_ties" = true)
    (k16 : PySem.W.keepIn K (.ref f_16) = true)
    (a17 : PySem.W.nsIn K mainGlobals "_law_beside" = some (some (.ref f_17)))
    (l17 : K.lookup f_17 = some ⟨oc_17, od_17, .func (PySem.W.fnOf "_law_beside" "_law_beside" (defArgs s_law_beside) (defBody s_law_beside) (defScope s_law_beside) .none kV_17 dc_17 pm_17 an_17 cd_17 ct_17), sl_17⟩)
    (c17 : PySem.W.codeIn K cd_17 "_law_beside" = true)
    (k17 : PySem.W.keepIn K (.ref f_17) = true)
    (a18 : PySem.W.nsIn K mainGlobals "_law_turned" = some (some (.ref f_18)))
    (l18 : K.lookup f_18 = some ⟨oc_18, od_18, .func (PySem.W.fnOf "_law_turned" "_law_turned" (defArgs s_law_turned) (defBody s_law_turned) (defScope s_law_turned) .none kV_18 dc_18 pm_18 an_18 cd_18 ct_18), sl_18⟩)
    (c18 : PySem.W.codeIn K cd_18 "_law_turned" = true)
    (k18 : PySem.W.keepIn K (.ref f_18) = true)
    (a19 : PySem.W.nsIn K mainGlobals "_law_tuple" = some (some (.ref f_19)))
    (l19 : K.lookup f_19 = some ⟨oc_19, od_19, .func (PySem.W.fnOf "_law_tuple" "_law_tuple" (defArgs s_law_tuple) (defBody s_law_tuple) (defScope s_law_tuple) .none kV_19 dc_19 pm_19 an_19 cd_19 ct_19), sl_19⟩)
    (c19 : PySem.W.codeIn K cd_19 "_law_tuple" = true)
    (k19 : PySem.W.keepIn K (.ref f_19) = true)
    (a20 : PySem.W.nsIn K mainGlobals "_law_list" = some (some (.ref f_20)))
    (l20 : K.lookup f_20 = some ⟨oc_20, od_20, .func (PySem.W.fnOf "_law_list" "_law_list" (defArgs s_law_list) (defBody s_law_list) (defScope s_law_list) .none kV_20 dc_20 pm_20 an_20 cd_20 ct_20), sl_20⟩)
    (c20 : PySem.W.codeIn K cd_20 "_law_list" = true)
    (k20 : PySem.W.keepIn K (.ref f_20) = true)
    (a21 : PySem.W.nsIn K mainGlobals "_law_walk" = some (some (.ref f_21)))
    (l21 : K.lookup f_21 = some ⟨oc_21, od_21, .func (PySem.W.fnOf "_law_walk" "_law_walk" (defArgs s_law_walk) (defBody s_law_walk) (defScope s_law_walk) .none kV_21 dc_21 pm_21 an_21 cd_21 ct_21), sl_21⟩)
    (c21 : PySem.W.codeIn K cd_21 "_law_walk" = true)
    (k21 : PySem.W.keepIn K (.ref f_21) = true)
    (a22 : PySem.W.nsIn K mainGlobals "_law_away" = some (some (.ref f_22)))
    (l22 : K.lookup f_22 = some ⟨oc_22, od_22, .func (PySem.W.fnOf "_law_away" "_law_away" (defArgs s_law_away) (defBody s_law_away) (defScope s_law_away) .none kV_22 dc_22 pm_22 an_22 cd_22 ct_22), sl_22⟩)
    (c22 : PySem.W.codeIn K cd_22 "_law_away" = true)
    (k22 : PySem.W.keepIn K (.ref f_22) = true)
    (a23 : PySem.W.nsIn K mainGlobals "law" = some (some (.ref f_23)))
    (l23 : K.lookup f_23 = some ⟨oc_23, od_23, .func (PySem.W.fnOf "law" "law" (defArgs s_law) (defBody s_law) (defScope s_law) .none kV_23 dc_23 pm_23 an_23 cd_23 ct_23), sl_23⟩)
    (c23 : PySem.W.codeIn K cd_23 "law" = true)
    (k23 : PySem.W.keepIn K (.ref f_23) = true)
    (z_min : PySem.W.nsIn K mainGlobals "min" = some none)
    (z_max : PySem.W.nsIn K mainGlobals "max" = some none)
    (z_sorted : PySem.W.nsIn K mainGlobals "sorted" = some none)
    (z_range : PySem.W.nsIn K mainGlobals "range" = some none)
    (z_len : PySem.W.nsIn K mainGlobals "len" = some none)
    (z_abs : PySem.W.nsIn K mainGlobals "abs" = some none)
    (z_isinstance : PySem.W.nsIn K mainGlobals "isinstance" = some none)
    (z_int : PySem.W.nsIn K mainGlobals "int" = some none)
    (z_bool : PySem.W.nsIn K mainGlobals "bool" = some none)
    (z_tuple : PySem.W.nsIn K mainGlobals "tuple" = some none)
    (z_list : PySem.W.nsIn K mainGlobals "list" = some none)
    (ca_NoRope : PySem.W.nsIn K mainGlobals "NoRope" = some (some (.ref C_NoRope)))
    (cx_NoRope : PySem.W.excIn K C_NoRope [.type "ValueError", .type "Exception", .type "BaseException", .type "object"] "ValueError.__new__" = true)
    (ck_NoRope : PySem.W.keepIn K (.ref C_NoRope) = true)
    (cb_NoRope : PySem.W.subIn K (.ref C_NoRope) (.type "BaseException") = some true)
    (ct_NoRope : PySem.W.typeIn K (.ref C_NoRope) = some (.type "type"))
    (ci_NoRope : PySem.W.isClsIn K C_NoRope = true)
    (cz_NoRope : PySem.W.subIn K (.ref C_NoRope) (.ref C_NoRope) = some true) : Tx K mg :=
  { a_tie_of := f_0, fd_tie_of := _, F_tie_of := fun_mk (st := s_tie_of) l0 c0 k0, g_tie_of := PySem.W.mg_of X G a0, b_tie_of := (fun_mk (st := s_tie_of) l0 c0 k0).binds (ps := ["a", "b"]) fun _ _ _ _ _ _ us hl => match us, hl with | [_, _], _ => rfl,
    a_sides := f_1, fd_sides := _, F_sides := fun_mk (st := s_sides) l1 c1 k1, g_sides := PySem.W.mg_of X G a1, b_sides := (fun_mk (st := s_sides) l1 c1 k1).binds (ps := ["n"]) fun _ _ _ _ _ _ us hl => match us, hl with | [_], _ => rfl,
    a_ties := f_2, fd_ties := _, F_ties := fun_mk (st := s_ties) l2 c2 k2, g_ties := PySem.W.mg_of X G a2, b_ties := (fun_mk (st := s_ties) l2 c2 k2).binds (ps := ["n", "cut"]) fun _ _ _ _ _ _ us hl => match us, hl with | [_, _], _ => rfl,
    a_beside := f_3, fd_beside := _, F_beside := fun_mk (st := s_beside) l3 c3 k3, g_beside := PySem.W.mg_of X G a3, b_beside := (fun_mk (st := s_beside) l3 c3 k3).binds (ps := ["n", "cut", "a", "b"]) fun _ _ _ _ _ _ us hl => match us, hl with | [_, _, _, _], _ => rfl,
    a_turned := f_4, fd_turned := _, F_turned := fun_mk (st := s_turned) l4 c4 k4, g_turned := PySem.W.mg_of X G a4, b_turned := (fun_mk (st := s_turned) l4 c4 k4).binds (ps := ["n", "cut", "a", "b"]) fun _ _ _ _ _ _ us hl => match us, hl with | [_, _, _, _], _ => rfl,
    a_away := f_5, fd_away := _, F_away := fun_mk (st := s_away) l5 c5 k5, g_away := PySem.W.mg_of X G a5, b_away := (fun_mk (st := s_away) l5 c5 k5).binds (ps := ["cut", "post"]) fun _ _ _ _ _ _ us hl => match us, hl with | [_, _], _ => rfl,
    a_facing := f_6, fd_facing := _, F_facing := fun_mk (st := s_facing) l6 c6 k6, g_facing := PySem.W.mg_of X G a6, b_facing := (fun_mk (st := s_facing) l6 c6 k6).binds (ps := ["n", "cut", "post"]) fun _ _ _ _ _ _ us hl => match us, hl with | [_, _, _], _ => rfl,
    a_walk := f_7, fd_walk := _, F_walk := fun_mk (st := s_walk) l7 c7 k7, g_walk := PySem.W.mg_of X G a7, b_walk := (fun_mk (st := s_walk) l7 c7 k7).binds (ps := ["n", "cut", "post"]) fun _ _ _ _ _ _ us hl => match us, hl with | [_, _, _], _ => rfl,
    a_road := f_8, fd_road := _, F_road := fun_mk (st := s_road) l8 c8 k8, g_road := PySem.W.mg_of X G a8, b_road := (fun_mk (st := s_road) l8 c8 k8).binds (ps := ["n", "one", "other"]) fun _ _ _ _ _ _ us hl => match us, hl with | [_, _, _], _ => rfl,
    a_law_flow := f_9, fd_law_flow := _, F_law_flow := fun_mk (st := s_law_flow) l9 c9 k9, g_law_flow := PySem.W.mg_of X G a9, b_law_flow := (fun_mk (st := s_law_flow) l9 c9 k9).binds (ps := ["_law_script", "_law_many_here"]) fun _ _ _ _ _ _ us hl => match us, hl with | [_, _], _ => rfl,
    a_law_whole := f_10, fd_law_whole := _, F_law_whole := fun_mk (st := s_law_whole) l10 c10 k10, g_law_whole := PySem.W.mg_of X G a10, b_law_whole := (fun_mk (st := s_law_whole) l10 c10 k10).binds (ps := ["_law_found"]) fun _ _ _ _ _ _ us hl => match us, hl with | [_], _ => rfl,
    a_law_many := f_11, fd_law_many := _, F_law_many := fun_mk (st := s_law_many) l11 c11 k11, g_law_many := PySem.W.mg_of X G a11, b_law_many := (fun_mk (st := s_law_many) l11 c11 k11).binds (ps := ["_law_row"]) fun _ _ _ _ _ _ us hl => match us, hl with | [_], _ => rfl,
    a_law_pair := f_12, fd_law_pair := _, F_law_pair := fun_mk (st := s_law_pair) l12 c12 k12, g_law_pair := PySem.W.mg_of X G a12, b_law_pair := (fun_mk (st := s_law_pair) l12 c12 k12).binds (ps := ["_law_a", "_law_b"]) fun _ _ _ _ _ _ us hl => match us, hl with | [_, _], _ => rfl,
    a_law_ears := f_13, fd_law_ears := _, F_law_ears := fun_mk (st := s_law_ears) l13 c13 k13, g_law_ears := PySem.W.mg_of X G a13, b_law_ears := (fun_mk (st := s_law_ears) l13 c13 k13).binds (ps := ["_law_n", "_law_row"]) fun _ _ _ _ _ _ us hl => match us, hl with | [_, _], _ => rfl,
    a_law_ropes := f_14, fd_law_ropes := _, F_law_ropes := fun_mk (st := s_law_ropes) l14 c14 k14, g_law_ropes := PySem.W.mg_of X G a14, b_law_ropes := (fun_mk (st := s_law_ropes) l14 c14 k14).binds (ps := ["_law_ears_here"]) fun _ _ _ _ _ _ us hl => match us, hl with | [_], _ => rfl,
    a_law_sides := f_15, fd_law_sides := _, F_law_sides := fun_mk (st := s_law_sides) l15 c15 k15, g_law_sides := PySem.W.mg_of X G a15, b_law_sides := (fun_mk (st := s_law_sides) l15 c15 k15).binds (ps := ["_law_n"]) fun _ _ _ _ _ _ us hl => match us, hl with | [_], _ => rfl,
    a_law_ties := f_16, fd_law_ties := _, F_law_ties := fun_mk (st := s_law_ties) l16 c16 k16, g_law_ties := PySem.W.mg_of X G a16, b_law_ties := (fun_mk (st := s_law_ties) l16 c16 k16).binds (ps := ["_law_n", "_law_cut"]) fun _ _ _ _ _ _ us hl => match us, hl with | [_, _], _ => rfl,
    a_law_beside := f_17, fd_law_beside := _, F_law_beside := fun_mk (st := s_law_beside) l17 c17 k17, g_law_beside := PySem.W.mg_of X G a17, b_law_beside := (fun_mk (st := s_law_beside) l17 c17 k17).binds (ps := ["_law_n", "_law_all_ties", "_law_a", "_law_b"]) fun _ _ _ _ _ _ us hl => match us, hl with | [_, _, _, _], _ => rfl,
    a_law_turned := f_18, fd_law_turned := _, F_law_turned := fun_mk (st := s_law_turned) l18 c18 k18, g_law_turned := PySem.W.mg_of X G a18, b_law_turned := (fun_mk (st := s_law_turned) l18 c18 k18).binds (ps := ["_law_n", "_law_cut", "_law_rope"]) fun _ _ _ _ _ _ us hl => match us, hl with | [_, _, _], _ => rfl,
    a_law_tuple := f_19, fd_law_tuple := _, F_law_tuple := fun_mk (st := s_law_tuple) l19 c19 k19, g_law_tuple := PySem.W.mg_of X G a19, b_law_tuple := (fun_mk (st := s_law_tuple) l19 c19 k19).binds (ps := ["_law_found", "_law_many_here"]) fun _ _ _ _ _ _ us hl => match us, hl with | [_, _], _ => rfl,
    a_law_list := f_20, fd_law_list := _, F_law_list := fun_mk (st := s_law_list) l20 c20 k20, g_law_list := PySem.W.mg_of X G a20, b_law_list := (fun_mk (st := s_law_list) l20 c20 k20).binds (ps := ["_law_found", "_law_many_here"]) fun _ _ _ _ _ _ us hl => match us, hl with | [_, _], _ => rfl,
    a_law_walk := f_21, fd_law_walk := _, F_law_walk := fun_mk (st := s_law_walk) l21 c21 k21, g_law_walk := PySem.W.mg_of X G a21, b_law_walk := (fun_mk (st := s_law_walk) l21 c21 k21).binds (ps := ["_law_n", "_law_cut", "_law_found"]) fun _ _ _ _ _ _ us hl => match us, hl with | [_, _, _], _ => rfl,
    a_law_away := f_22, fd_law_away := _, F_law_away := fun_mk (st := s_law_away) l22 c22 k22, g_law_away := PySem.W.mg_of X G a22, b_law_away := (fun_mk (st := s_law_away) l22 c22 k22).binds (ps := ["_law_cut", "_law_post"]) fun _ _ _ _ _ _ us hl => match us, hl with | [_, _], _ => rfl,
    a_law := f_23, fd_law := _, F_law := fun_mk (st := s_law) l23 c23 k23, g_law := PySem.W.mg_of X G a23, b_law := (fun_mk (st := s_law) l23 c23 k23).binds (ps := ["_law_script"]) fun _ _ _ _ _ _ us hl => match us, hl with | [_], _ => rfl,
    m_min := PySem.W.mg_none_of X G z_min,
    m_max := PySem.W.mg_none_of X G z_max,
    m_sorted := PySem.W.mg_none_of X G z_sorted,
    m_range := PySem.W.mg_none_of X G z_range,
    m_len := PySem.W.mg_none_of X G z_len,
    m_abs := PySem.W.mg_none_of X G z_abs,
    m_isinstance := PySem.W.mg_none_of X G z_isinstance,
    m_int := PySem.W.mg_none_of X G z_int,
    m_bool := PySem.W.mg_none_of X G z_bool,
    m_tuple := PySem.W.mg_none_of X G z_tuple,
    m_list := PySem.W.mg_none_of X G z_list,
    c_NoRope := C_NoRope, g_NoRope := PySem.W.mg_of X G ca_NoRope, x_NoRope := cx_NoRope, k_NoRope := ck_NoRope, b_NoRope := cb_NoRope, t_NoRope := ct_NoRope, i_NoRope := ci_NoRope, z_NoRope := cz_NoRope }
theorem all_mk {l : PySem.W.OpenLaw} {w : World} {K : PySem.W.Frag} {mg : Str → Option Value} {fa : Addr} (hfa : mg "law" = some (.ref fa)) (T : Tx K mg) :
    ∃ fd : FuncData, (∀ (s : Shared) (v : Value), BindsTo s fd ⟨[v], []⟩ [("_law_script", v)]) ∧ ∀ base : Heap, K.In base → base.Ns mainGlobals mg → FnOk l.prog w K mg base CX0 7 fa fd ["_law_script"] (spLaw K) := by
  have e := hfa.symm.trans T.g_law
  cases e
  refine ⟨T.fd_law, fun s v => ?_, fun base _ _ => ok_law T⟩
  obtain ⟨oc, od, kV, doc, pm, an, cdv, ct, osl, e, lk, hcd⟩ := T.F_law.ex
  rw [e]
  exact .of_eq rfl
end Pm
open PySem PySem.W PyProof.Rows
set_option maxHeartbeats 0 in
theorem PySem.Challenge.cw_postmead_k17_whole_roads_lead_holds : PySem.Challenge.rw_postmead_k17_whole_roads_lead.Holds := by
  w_on; o_law; k_head; (case hw => w_witness2)
  k_fill
  refine L2.walk_of (l := PySem.Challenge.rw_postmead_k17_whole_roads_lead) (n := 63) (k := 7) (x := "_law_script") (CX := fun _ => L2.CX0) (sp := fun w => Pm.spLaw _) rfl (by decide) rfl ⟨rfl, by decide, by decide⟩ (fun w h Y => PySem.W.kIn_of Y) ?F (fun _ _ a ns hl _ hS => ⟨a, ns, rfl, hS, hl, fun _ => rfl⟩) (fun _ _ _ _ _ h => h)
  case F =>
    intro w mg fa h KX G hmg
    refine' Pm.all_mk hmg (Pm.tx_mk KX G ?a0 ?l0 ?c0 ?k0 ?a1 ?l1 ?c1 ?k1 ?a2 ?l2 ?c2 ?k2 ?a3 ?l3 ?c3 ?k3 ?a4 ?l4 ?c4 ?k4 ?a5 ?l5 ?c5 ?k5 ?a6 ?l6 ?c6 ?k6 ?a7 ?l7 ?c7 ?k7 ?a8 ?l8 ?c8 ?k8 ?a9 ?l9 ?c9 ?k9 ?a10 ?l10 ?c10 ?k10 ?a11 ?l11 ?c11 ?k11 ?a12 ?l12 ?c12 ?k12 ?a13 ?l13 ?c13 ?k13 ?a14 ?l14 ?c14 ?k14 ?a15 ?l15 ?c15 ?k15 ?a16 ?l16 ?c16 ?k16 ?a17 ?l17 ?c17 ?k17 ?a18 ?l18 ?c18 ?k18 ?a19 ?l19 ?c19 ?k19 ?a20 ?l20 ?c20 ?k20 ?a21 ?l21 ?c21 ?k21 ?a22 ?l22 ?c22 ?k22 ?a23 ?l23 ?c23 ?k23 ?z_min ?z_max ?z_sorted ?z_range ?z_len ?z_abs ?z_isinstance ?z_int ?z_bool ?z_tuple ?z_list ?ca_NoRope ?cx_NoRope ?ck_NoRope ?cb_NoRope ?ct_NoRope ?ci_NoRope ?cz_NoRope)
    (case a0 => k_is)
    (case l0 => k_is)
    (case c0 => k_is)
    (case k0 => k_is)
    (case a1 => k_is)
    (case l1 => k_is)
    (case c1 => k_is)
    (case k1 => k_is)
    (case a2 => k_is)
    (case l2 => k_is)
    (case c2 => k_is)
    (case k2 => k_is)
    (case a3 => k_is)
    (case l3 => k_is)
    (case c3 => k_is)
    (case k3 => k_is)
    (case a4 => k_is)
    (case l4 => k_is)
    (case c4 => k_is)
    (case k4 => k_is)
    (case a5 => k_is)
    (case l5 => k_is)
    (case c5 => k_is)
    (case k5 => k_is)
    (case a6 => k_is)
    (case l6 => k_is)
    (case c6 => k_is)
    (case k6 => k_is)
    (case a7 => k_is)
    (case l7 => k_is)
    (case c7 => k_is)
    (case k7 => k_is)
    (case a8 => k_is)
    (case l8 => k_is)
    (case c8 => k_is)
    (case k8 => k_is)
    (case a9 => k_is)
    (case l9 => k_is)
    (case c9 => k_is)
    (case k9 => k_is)
    (case a10 => k_is)
    (case l10 => k_is)
    (case c10 => k_is)
    (case k10 => k_is)
    (case a11 => k_is)
    (case l11 => k_is)
    (case c11 => k_is)
    (case k11 => k_is)
    (case a12 => k_is)
    (case l12 => k_is)
    (case c12 => k_is)
    (case k12 => k_is)
    (case a13 => k_is)
    (case l13 => k_is)
    (case c13 => k_is)
    (case k13 => k_is)
    (case a14 => k_is)
    (case l14 => k_is)
    (case c14 => k_is)
    (case k14 => k_is)
    (case a15 => k_is)
    (case l15 => k_is)
    (case c15 => k_is)
    (case k15 => k_is)
    (case a16 => k_is)
    (case l16 => k_is)
    (case c16 => k_is)
    (case k16 => k_is)
    (case a17 => k_is)
    (case l17 => k_is)
    (case c17 => k_is)
    (case k17 => k_is)
    (case a18 => k_is)
    (case l18 => k_is)
    (case c18 => k_is)
    (case k18 => k_is)
    (case a19 => k_is)
    (case l19 => k_is)
    (case c19 => k_is)
    (case k19 => k_is)
    (case a20 => k_is)
    (case l20 => k_is)
    (case c20 => k_is)
    (case k20 => k_is)
    (case a21 => k_is)
    (case l21 => k_is)
    (case c21 => k_is)
    (case k21 => k_is)
    (case a22 => k_is)
    (case l22 => k_is)
    (case c22 => k_is)
    (case k22 => k_is)
    (case a23 => k_is)
    (case l23 => k_is)
    (case c23 => k_is)
    (case k23 => k_is)
    (case z_min => k_is)
    (case z_max => k_is)
    (case z_sorted => k_is)
    (case z_range => k_is)
    (case z_len => k_is)
    (case z_abs => k_is)
    (case z_isinstance => k_is)
    (case z_int => k_is)
    (case z_bool => k_is)
    (case z_tuple => k_is)
    (case z_list => k_is)
    (case ca_NoRope => k_is)
    (case cx_NoRope => first | k_exc | k_is)
    (case ck_NoRope => k_is)
    (case cb_NoRope => k_is)
    (case ct_NoRope => k_is)
    (case ci_NoRope => k_is)
    (case cz_NoRope => first | rfl | k_is)
#print axioms PySem.Challenge.cw_postmead_k17_whole_roads_lead_holds
