import PyProof.Rows.All
import HandS.DictTup
import HandS.TupLen
import KE.KDictWalk
import KE.KDictCopyH
import KE.KDictOf
import HandS.Style
import HandS.SortInts
import HandS.ExcInit
import HandS.ExcField
import HandS.Head0
import HandS.Head1
import HandS.Head2
import HandS.HeadEnd
import HandS.HeadHook1
import HandS.HeadHook2
import Wide.All
import OpenK.AllK
import Wide.FinOn
import PySem.Challenge.RW_postmead_k29_tables_of_pairs
import HandS.ForMost
import HandS.ForExc
import HandS.IsInst
import HandS.Deep
import HandS.Codes
import HandS.SortRule
import HandS.Wide
import HandS.ExcIs
import HandS.TryOnly
import HandS.TupLe
set_option exponentiation.threshold 2000
set_option Elab.async false
set_option linter.all false
set_option maxRecDepth 100000
set_option maxHeartbeats 4000000
namespace Pm
open PySem PySem.Spec PyProof.Rows L2
theorem size_ok {n : Nat} (h : n ≤ 16777216) : n ≤ sizeLine := by rw [sizeLine_eq]; exact h
theorem size_lt {n : Nat} (h : n < 16777216) : n < sizeLine := by rw [sizeLine_eq]; exact h
section
variable {X : Cx} {K : PySem.W.Frag}
theorem ix_listK (e : X.K = K := by rfl) : IxR X (rIxL K) := e ▸ ix_list
theorem ix_tupK (e : X.K = K := by rfl) : IxR X (rIxT K) := e ▸ ix_tup
theorem sl_listK (e : X.K = K := by rfl) : SlR X (rSlL K) := e ▸ sl_list
theorem op_eqDK (hu : X.A.units + 64 < cLine) (e : X.K = K := by rfl) : OpR X (compareOp .Eq) (rEqD K) := e ▸ op_eqD hu
theorem op_neDK (hu : X.A.units + 64 < cLine) (e : X.K = K := by rfl) : OpR X (compareOp .NotEq) (rNeD K) := e ▸ op_neD hu
theorem call_isK (e : X.K = K := by rfl) : CallR X (.builtin "isinstance") (rIsi K) := e ▸ call_isi
theorem k_bm {ex : Expr} {T : String} {r : V → List V → Hp → VK → Prop} {to : TE} {t : TA} (h : PE X ex (tBM X.K T r to t)) (e : X.K = K := by rfl) : PE X ex (tBM K T r to t) := e ▸ h
theorem k_il {tg ex : Expr} {te : TE} (h : PI X tg ex (iList X.K te)) (e : X.K = K := by rfl) : PI X tg ex (iList K te) := e ▸ h
theorem k_it {tg ex : Expr} {te : TE} (h : PI X tg ex (iTup X.K te)) (e : X.K = K := by rfl) : PI X tg ex (iTup K te) := e ▸ h
end
/-- a op1 b op2 c op3 d -/
def tChain3 (r r' r'' : R2) (ta tb tc td : TE) : TE := fun σ H Q => ta σ H fun x H1 => tb σ H1 fun y H2 => r x y H2 fun z H3 => ∃ k, z = .bl k ∧
  (if k = true then tc σ H3 fun w' H4 => r' y w' H4 fun z' H5 => ∃ k', z' = .bl k' ∧ (if k' = true then td σ H5 fun v' H6 => r'' w' v' H6 Q else Q (.bl false) H5) else Q (.bl false) H3)
def rAbs : List V → Hp → VK → Prop := fun xs H Q => ∃ i, xs = [.int i] ∧ Q (.int (if i < 0 then -i else i)) H
theorem c_abs {X : Cx} : CallR X (.builtin "abs") rAbs := call_abs
def rMax2 : List V → Hp → VK → Prop := fun xs H Q => ∃ i j, xs = [.int i, .int j] ∧ Q (.int (if j > i then j else i)) H
theorem c_max {X : Cx} (hc : X.calm = true) : CallR X (.builtin "max") rMax2 := call_max2 hc
def rMin2 : List V → Hp → VK → Prop := fun xs H Q => ∃ i j, xs = [.int i, .int j] ∧ Q (.int (if j < i then j else i)) H
theorem c_min {X : Cx} (hc : X.calm = true) : CallR X (.builtin "min") rMin2 := call_min2 hc
def rLen (K : PySem.W.Frag) : List V → Hp → VK → Prop := fun xs H Q => ∃ p ys, xs = [.ref p] ∧ (SqL K H p ys ∨ SqT K H p ys) ∧ Q (.int ys.length) H
theorem c_len {X : Cx} {K : PySem.W.Frag} (e : X.K = K := by rfl) : CallR X (.builtin "len") (rLen K) := e ▸ call_len_seq
def rInt1 : List V → Hp → VK → Prop := fun xs H Q => (∃ i, xs = [.int i] ∧ Q (.int i) H) ∨ ∃ k, xs = [.bl k] ∧ Q (.int (if k then 1 else 0)) H
def rListOf (K : PySem.W.Frag) : List V → Hp → VK → Prop := fun xs H Q => ∃ p ys, xs = [.ref p] ∧ (SqL K H p ys ∨ SqT K H p ys) ∧ ∀ l, H l = none → Q (.ref l) (upd H l (.lst ys))
theorem c_listOf {X : Cx} {K : PySem.W.Frag} (e : X.K = K := by rfl) : CallR X (.type "list") (rListOf K) := e ▸ call_list_of
def TupK (Q : VK) : List V → Hp → Prop := fun xs H1 => xs.length ≤ sizeLine ∧ ∀ p, H1 p = none → Q (.ref p) (upd H1 p (.tup xs))
def LstK (Q : VK) : List V → Hp → Prop := fun xs H1 => xs.length ≤ sizeLine ∧ ∀ p, H1 p = none → Q (.ref p) (upd H1 p (.lst xs))
/-- what is asked of a for's body, once what is walked is there -/
def ForB (g : TG) (t : TS) (nx : L2.St → Hp → Prop) (rt : VK) (σ : L2.St) : It → Hp → Prop := fun J H1 => ∃ W : Nat → Nat → L2.St → Hp → Prop, (∃ m, W 0 m σ H1) ∧ ∀ i m σ H, W i m σ H →
  (J.stop i H ∧ nx σ H) ∨ (J.go i H ∧ ∃ N : L2.St → Hp → Prop, (∀ σ' H', N σ' H' → ∃ m', m' < m ∧ W (i + 1) m' σ' H') ∧ ∀ x H', J.yld i H x H' → g x σ H' fun σ2 H2 => t ⟨N, rt, nx, N⟩ σ2 H2)
def WhB (t : TS) (nx : L2.St → Hp → Prop) (rt : VK) (Pv : Nat → L2.St → Hp → Prop) (m : Nat) (σ : L2.St) : Bool → Hp → Prop := fun b H1 => if b = true then ∃ N : L2.St → Hp → Prop, (∀ σ' H', N σ' H' → ∃ m', m' < m ∧ Pv m' σ' H') ∧ t ⟨N, rt, nx, N⟩ σ H1 else nx σ H1
def ParK (i j : Nat) (nx : L2.St → Hp → Prop) (σ : L2.St) : List V → Hp → Prop := fun vs H1 => ∃ v w, vs = [v, w] ∧ nx ((σ.set i (some v)).set j (some w)) H1
def PartK (O : Option Int → Hp → Prop) : VK := fun x H1 => ∃ i, x = .int i ∧ O (some i) H1
def DPK (nx : L2.St → Hp → Prop) (σ : L2.St) (v x : V) : VK := fun y H3 => ∃ a H4, x = .ref a ∧ DPut H3 a y v H4 ∧ nx σ H4
def DInK (y : V) (Q : VK) : VK := fun x H2 => ∃ a o, x = .ref a ∧ DGet H2 a y o ∧ Q (.bl o.isSome) H2
def DNotInK (y : V) (Q : VK) : VK := fun x H2 => ∃ a o, x = .ref a ∧ DGet H2 a y o ∧ Q (.bl (!o.isSome)) H2
def DGK (x : V) (Q : VK) : VK := fun y H2 => ∃ a v, x = .ref a ∧ DGet H2 a y (some v) ∧ Q v H2
def RdL (K : PySem.W.Frag) (R : It → Hp → Prop) : VK := fun x H1 => ∃ a, x = .ref a ∧ (∃ xs, SqL K H1 a xs) ∧ R (Itl K a) H1
def RdT (K : PySem.W.Frag) (R : It → Hp → Prop) : VK := fun x H1 => ∃ a, x = .ref a ∧ (∃ xs, SqT K H1 a xs) ∧ R (Itt K a) H1
def Rg1 (R : It → Hp → Prop) : List V → Hp → Prop := fun vs H1 => ∃ j : Int, vs = [.int j] ∧ -(2 ^ 62) ≤ j ∧ j < 2 ^ 62 ∧ R (Itr 0 j.toNat) H1
def Rg2 (R : It → Hp → Prop) : List V → Hp → Prop := fun vs H1 => ∃ i j : Int, vs = [.int i, .int j] ∧ (-(2 ^ 62) ≤ i ∧ i < 2 ^ 62 ∧ -(2 ^ 62) ≤ j ∧ j < 2 ^ 62) ∧ R (Itr i (j - i).toNat) H1
/-- what is asked of a list comprehension, once what is walked is there -/
def LcB (g : TG) (tt : TT) (te : TE) (vs : List Nat) (σ : L2.St) (Q : VK) : It → Hp → Prop := fun J H1 => ∀ D, H1 D = none → ∃ W : Nat → Nat → Hp → Prop, (∃ m, W 0 m (upd H1 D (.lst []))) ∧ ∀ i m H, W i m H →
  (J.stop i H ∧ Q (.ref D) H) ∨ (J.go i H ∧ ∃ Nx : Hp → Prop, (∀ H', Nx H' → ∃ m', m' < m ∧ W (i + 1) m' H') ∧ ∀ x H', J.yld i H x H' → g x (wipe σ vs) H' fun σ2 H2 => wipe σ2 vs = wipe σ vs ∧ tt σ2 H2 fun b H3 =>
    if b = true then te σ2 H3 fun y H4 => ∃ acc, H4 D = some (.lst acc) ∧ acc.length < sizeLine ∧ Nx (upd H4 D (.lst (acc ++ [y]))) else Nx H3)
/-- a turn of a comprehension: the item put behind the list at D -/
def LcPut (D : Addr) (Nx : Hp → Prop) : VK := fun y H4 => ∃ acc, H4 D = some (.lst acc) ∧ acc.length < sizeLine ∧ Nx (upd H4 D (.lst (acc ++ [y])))
def LcTurn (tt : TT) (te : TE) (vs : List Nat) (σ : L2.St) (D : Addr) (Nx : Hp → Prop) : L2.St → Hp → Prop := fun σ2 H2 => wipe σ2 vs = wipe σ vs ∧ tt σ2 H2 fun b H3 => if b = true then te σ2 H3 (LcPut D Nx) else Nx H3
section
variable {nx bk ct : L2.St → Hp → Prop} {rt : VK} {σ : L2.St} {H : Hp} {t u : TS} {te ta tb tc : TE} {g : TG} {Q : VK} {B : Bool → Hp → Prop} {c c' : TT} {L : List V → Hp → Prop}
theorem w_seq (h : t ⟨u ⟨nx, rt, bk, ct⟩, rt, bk, ct⟩ σ H) : tSeq t u ⟨nx, rt, bk, ct⟩ σ H := h
theorem w_cut (Mid : L2.St → Hp → Prop) (h : t ⟨Mid, rt, bk, ct⟩ σ H) (h2 : ∀ σ' H', Mid σ' H' → u ⟨nx, rt, bk, ct⟩ σ' H') : C8.tCut t u ⟨nx, rt, bk, ct⟩ σ H := ⟨Mid, h, h2⟩
theorem w_asg (h : te σ H fun x H1 => g x σ H1 nx) : tAsg te g ⟨nx, rt, bk, ct⟩ σ H := h
theorem w_drop (h : te σ H fun _ H1 => nx σ H1) : tDrop te ⟨nx, rt, bk, ct⟩ σ H := h
theorem w_ret (h : te σ H rt) : tRet te ⟨nx, rt, bk, ct⟩ σ H := h
theorem w_retN (h : rt .non H) : tRetN ⟨nx, rt, bk, ct⟩ σ H := h
theorem w_next (h : nx σ H) : tNext ⟨nx, rt, bk, ct⟩ σ H := h
theorem w_brk (h : bk σ H) : tBreak ⟨nx, rt, bk, ct⟩ σ H := h
theorem w_cont (h : ct σ H) : tCont ⟨nx, rt, bk, ct⟩ σ H := h
theorem w_if (h : c σ H fun b H1 => if b = true then t ⟨nx, rt, bk, ct⟩ σ H1 else u ⟨nx, rt, bk, ct⟩ σ H1) : tIfS c t u ⟨nx, rt, bk, ct⟩ σ H := h
theorem w_par {i j : Nat} {t : TA} (h : t σ H (ParK i j nx σ)) : tPar i j t ⟨nx, rt, bk, ct⟩ σ H := h
theorem w_par2 {v w : V} {i j : Nat} (h : nx ((σ.set i (some v)).set j (some w)) H) : ParK i j nx σ [v, w] H := ⟨v, w, rfl, h⟩
theorem w_gname {v : V} {i : Nat} {R : L2.St → Hp → Prop} (h : R (σ.set i (some v)) H) : gName i v σ H R := h
theorem w_gcons {t : TG} {u : TGs} {v : V} {r : List V} {R : L2.St → Hp → Prop} (h : t v σ H fun σ' H' => u r σ' H' R) : gCons t u (v :: r) σ H R := ⟨v, r, rfl, h⟩
theorem w_gnil {R : L2.St → Hp → Prop} (h : R σ H) : gNil [] σ H R := ⟨rfl, h⟩
theorem w_gsub {to ti : TE} {t : TSet} {v : V} {R : L2.St → Hp → Prop} (h : to σ H fun o H1 => ti σ H1 fun i H2 => t o i v H2 fun H3 => R σ H3) : gSub to ti t v σ H R := h
theorem w_setL {p : Addr} {xs : List V} {k : Int} {v : V} {R : Hp → Prop} (hl : H p = some (.lst xs)) (h0 : 0 ≤ k) (h1 : k < (xs.length : Int)) (h : R (upd H p (.lst (xs.set k.toNat v)))) : rSetL (.ref p) (.int k) v H R := ⟨p, xs, k, k.toNat, rfl, rfl, hl, by unfold ixN; rw [if_pos h0, if_pos h1], h⟩
theorem w_var {i : Nat} {v : V} (e : σ[i]? = some (some v)) (h : Q v H) : tVar i σ H Q := ⟨v, e, h⟩
theorem w_c {v : V} (h : Q v H) : tC v σ H Q := h
theorem w_op {r : R2} (h : ta σ H fun x H1 => tb σ H1 fun y H2 => r x y H2 Q) : tOp r ta tb σ H Q := h
theorem w_un {r : V → Hp → VK → Prop} (h : ta σ H fun x H1 => r x H1 Q) : tUn r ta σ H Q := h
theorem w_i0 {k : Int → Int → V} {i j : Int} (h : Q (k i j) H) : rI0 k (.int i) (.int j) H Q := ⟨i, j, rfl, rfl, h⟩
theorem w_i {C : Int → Int → Prop} {k : Int → Int → V} {i j : Int} (hc : C i j) (h : Q (k i j) H) : rI C k (.int i) (.int j) H Q := ⟨i, j, rfl, rfl, hc, h⟩
theorem w_u {k : Int → V} {i : Int} (h : Q (k i) H) : rU k (.int i) H Q := ⟨i, rfl, h⟩
theorem w_eqi {i j : Int} (h : Q (.bl (decide (i = j))) H) : rEq (.int i) (.int j) H Q := by
  refine ⟨rfl, ?_⟩
  have e : decide (V.int i = V.int j) = decide (i = j) := by simp
  rw [e]; exact h
theorem w_nei {i j : Int} (h : Q (.bl (!decide (i = j))) H) : rNe (.int i) (.int j) H Q := by
  refine ⟨rfl, ?_⟩
  have e : decide (V.int i = V.int j) = decide (i = j) := by simp
  rw [e]; exact h
theorem w_eqb {i j : Bool} (h : Q (.bl (i == j)) H) : rEq (.bl i) (.bl j) H Q := by
  refine ⟨rfl, ?_⟩
  have e : decide (V.bl i = V.bl j) = (i == j) := by cases i <;> cases j <;> rfl
  rw [e]; exact h
theorem w_neb {i j : Bool} (h : Q (.bl (!(i == j))) H) : rNe (.bl i) (.bl j) H Q := by
  refine ⟨rfl, ?_⟩
  have e : decide (V.bl i = V.bl j) = (i == j) := by cases i <;> cases j <;> rfl
  rw [e]; exact h
theorem w_eqs {i j : Str} (h : Q (.bl (decide (i = j))) H) : rEq (.str i) (.str j) H Q := by
  refine ⟨rfl, ?_⟩
  have e : decide (V.str i = V.str j) = decide (i = j) := by simp
  rw [e]; exact h
theorem w_cb {r : List V → Hp → VK → Prop} {t : TA} (h : t σ H fun vs H1 => r vs H1 Q) : tCB r t σ H Q := h
theorem w_nil (h : L [] H) : tNil σ H L := h
theorem w_cons {t : TA} (h : ta σ H fun x H1 => t σ H1 fun xs H2 => L (x :: xs) H2) : tCons ta t σ H L := h
theorem w_call {sp : Sp} {E : XK} {t : TA} (h : t σ H fun vs H1 => sp (vs ++ []) H1 Q E) : tCall sp [] E t σ H Q := h
theorem w_tup {t : TA} (h : t σ H (TupK Q)) : tTup t σ H Q := h
theorem w_lst {t : TA} (h : t σ H (LstK Q)) : tLst t σ H Q := h
theorem w_newT {xs : List V} (h : ∀ p, H p = none → Q (.ref p) (upd H p (.tup xs))) (hz : xs.length ≤ sizeLine := by exact Pm.size_ok (Nat.le_of_ble_eq_true rfl)) : TupK Q xs H := ⟨hz, h⟩
theorem w_newL {xs : List V} (h : ∀ p, H p = none → Q (.ref p) (upd H p (.lst xs))) (hz : xs.length ≤ sizeLine := by exact Pm.size_ok (Nat.le_of_ble_eq_true rfl)) : LstK Q xs H := ⟨hz, h⟩
theorem w_test (h : te σ H fun x H' => ∃ k, x = .bl k ∧ B k H') : tTest te σ H B := h
theorem w_b (h : te σ H fun x H' => ∃ k, x = .bl k ∧ B k H') : tB te σ H B := h
theorem w_bl {k : Bool} (h : B k H) : ∃ k', V.bl k = .bl k' ∧ B k' H := ⟨k, rfl, h⟩
theorem w_and (h : c σ H fun b H1 => if b = true then c' σ H1 B else B false H1) : tAnd c c' σ H B := h
theorem w_or (h : c σ H fun b H1 => if b = true then B true H1 else c' σ H1 B) : tOr c c' σ H B := h
theorem w_not (h : c σ H fun b H1 => B (!b) H1) : tNot c σ H B := h
theorem w_andV (h : ta σ H fun x H1 => ∃ k, x = .bl k ∧ if k = true then tb σ H1 Q else Q (.bl false) H1) : tAndV ta tb σ H Q := h
theorem w_orV (h : ta σ H fun x H1 => ∃ k, x = .bl k ∧ if k = true then Q (.bl true) H1 else tb σ H1 Q) : tOrV ta tb σ H Q := h
theorem w_notV (h : ta σ H fun x H1 => ∃ k, x = .bl k ∧ Q (.bl (!k)) H1) : tNotV ta σ H Q := h
theorem w_ifE (h : c σ H fun b H1 => if b = true then ta σ H1 Q else tb σ H1 Q) : tIf c ta tb σ H Q := h
theorem w_chain {r r' : R2} (h : ta σ H fun x H1 => tb σ H1 fun y H2 => r x y H2 fun z H3 => ∃ k, z = .bl k ∧ (if k = true then tc σ H3 fun w H4 => r' y w H4 Q else Q (.bl false) H3)) : tChain r r' ta tb tc σ H Q := h
theorem w_chain3 {r r' r'' : R2} {td : TE} (h : ta σ H fun x H1 => tb σ H1 fun y H2 => r x y H2 fun z H3 => ∃ k, z = .bl k ∧
  (if k = true then tc σ H3 fun w' H4 => r' y w' H4 fun z' H5 => ∃ k', z' = .bl k' ∧ (if k' = true then td σ H5 fun v' H6 => r'' w' v' H6 Q else Q (.bl false) H5) else Q (.bl false) H3)) : tChain3 r r' r'' ta tb tc td σ H Q := h
theorem w_blx {k : Bool} {R : Bool → Prop} (h : R k) : ∃ k', V.bl k = .bl k' ∧ R k' := ⟨k, rfl, h⟩
theorem w_iteT {A C : Prop} (h : A) : if true = true then A else C := by rw [if_pos rfl]; exact h
theorem w_iteF {A C : Prop} (h : C) : if false = true then A else C := by rw [if_neg Bool.false_ne_true]; exact h
theorem w_iteN1 {A C : Prop} (h : C) : if (!true) = true then A else C := w_iteF h
theorem w_iteN0 {A C : Prop} (h : A) : if (!false) = true then A else C := w_iteT h
theorem w_ite {p A C : Prop} [Decidable p] (h1 : p → A) (h2 : ¬ p → C) : if decide p = true then A else C := by
  by_cases h : p
  · rw [decide_eq_true h, if_pos rfl]; exact h1 h
  · rw [decide_eq_false h, if_neg Bool.false_ne_true]; exact h2 h
theorem w_iteN {p A C : Prop} [Decidable p] (h1 : ¬ p → A) (h2 : p → C) : if (!decide p) = true then A else C := by
  by_cases h : p
  · rw [decide_eq_true h]; exact w_iteF (h2 h)
  · rw [decide_eq_false h]; exact w_iteT (h1 h)
theorem w_abs {i : Int} (h : Q (.int (if i < 0 then -i else i)) H) : rAbs [.int i] H Q := ⟨i, rfl, h⟩
theorem w_max {i j : Int} (h : Q (.int (max i j)) H) : rMax2 [V.int i, V.int j] H Q := by
  refine ⟨i, j, rfl, ?_⟩
  have e : (if j > i then j else i) = max i j := by rw [Int.max_def]; split <;> split <;> omega
  rw [e]; exact h
theorem w_min {i j : Int} (h : Q (.int (min i j)) H) : rMin2 [V.int i, V.int j] H Q := by
  refine ⟨i, j, rfl, ?_⟩
  have e : (if j < i then j else i) = min i j := by rw [Int.min_def]; split <;> split <;> omega
  rw [e]; exact h
theorem w_mul1 {i j : Int} (h : -(2 ^ 64) < i ∧ i < 2 ^ 64) : CMul i j := .inl h
theorem w_mul2 {i j : Int} (h : -(2 ^ 64) < j ∧ j < 2 ^ 64) : CMul i j := .inr h
theorem w_ixL {K : PySem.W.Frag} {p : Addr} {xs : List V} {i : Int} {v : V} (hl : SqL K H p xs) (e : atI xs i = some v) (h : Q v H) : rIxL K (.ref p) (.int i) H Q := ⟨p, xs, i, v, rfl, rfl, hl, e, h⟩
theorem w_ixT {K : PySem.W.Frag} {p : Addr} {xs : List V} {i : Int} {v : V} (hl : SqT K H p xs) (e : atI xs i = some v) (h : Q v H) : rIxT K (.ref p) (.int i) H Q := ⟨p, xs, i, v, rfl, rfl, hl, e, h⟩
theorem w_bm {K : PySem.W.Frag} {T : String} {r : V → List V → Hp → VK → Prop} {t : TA} (h : ta σ H fun x H1 => tyV K T x H1 ∧ t σ H1 fun xs H2 => r x xs H2 Q) : tBM K T r ta t σ H Q := h
theorem w_bm0 {K : PySem.W.Frag} {T : String} {r : V → List V → Hp → VK → Prop} (h : ta σ H fun x H1 => tyV K T x H1 ∧ r x [] H1 Q) : tBM0 K T r ta σ H Q := h
theorem w_append {l : Addr} {xs : List V} {y : V} (hl : H l = some (.lst xs)) (hz : xs.length < sizeLine) (h : Q .non (upd H l (.lst (xs ++ [y])))) : rAppend (.ref l) [y] H Q := ⟨l, xs, y, rfl, rfl, hl, hz, h⟩
theorem w_len {K : PySem.W.Frag} {p : Addr} {ys : List V} (hl : SqL K H p ys ∨ SqT K H p ys) (h : Q (.int ys.length) H) : rLen K [V.ref p] H Q := ⟨p, ys, rfl, hl, h⟩
theorem w_lenL {K : PySem.W.Frag} {p : Addr} {ys : List V} (hl : SqL K H p ys) (h : Q (.int ys.length) H) : rLen K [V.ref p] H Q := ⟨p, ys, rfl, .inl hl, h⟩
theorem w_lenT {K : PySem.W.Frag} {p : Addr} {ys : List V} (hl : SqT K H p ys) (h : Q (.int ys.length) H) : rLen K [V.ref p] H Q := ⟨p, ys, rfl, .inr hl, h⟩
theorem w_int1 {b : Bool} (h : Q (.int (if b then 1 else 0)) H) : rInt1 [.bl b] H Q := .inr ⟨b, rfl, h⟩
theorem w_listOf {K : PySem.W.Frag} {p : Addr} {ys : List V} (hl : SqL K H p ys) (h : ∀ l, H l = none → Q (.ref l) (upd H l (.lst ys))) : rListOf K [.ref p] H Q := ⟨p, ys, rfl, .inl hl, h⟩
theorem w_sl {r : V → Option Int → Option Int → Hp → VK → Prop} {tl th : TO} (h : te σ H fun x H1 => tl σ H1 fun l H2 => th σ H2 fun u H3 => r x l u H3 Q) : tSl r te tl th σ H Q := h
theorem w_noPart {O : Option Int → Hp → Prop} (h : O none H) : tNoPart σ H O := h
theorem w_part {O : Option Int → Hp → Prop} (h : te σ H (PartK O)) : tPart te σ H O := h
theorem w_partK {O : Option Int → Hp → Prop} {i : Int} (h : O (some i) H) : PartK O (.int i) H := ⟨i, rfl, h⟩
theorem w_slL {K : PySem.W.Frag} {a : Addr} {xs : List V} {lo hi : Option Int} (hl : SqL K H a xs) (h : ∀ p, H p = none → Q (.ref p) (upd H p (.lst (cutV xs lo hi)))) : rSlL K (.ref a) lo hi H Q := ⟨a, xs, rfl, hl, h⟩
theorem w_cat {l b : Addr} {xs zs : List V} (h1 : H l = some (.lst xs)) (h2 : H b = some (.lst zs)) (hz : xs.length + zs.length ≤ sizeLine) (h : ∀ p, H p = none → Q (.ref p) (upd H p (.lst (xs ++ zs)))) : rCat (.ref l) (.ref b) H Q := ⟨l, b, xs, zs, rfl, rfl, h1, h2, hz, h⟩
theorem w_dput {td ty tv : TE} (h : tv σ H fun v H1 => td σ H1 fun x H2 => ty σ H2 (DPK nx σ v x)) : sDPut td ty tv ⟨nx, rt, bk, ct⟩ σ H := h
theorem w_din {ty td : TE} (h : ty σ H fun y H1 => td σ H1 (DInK y Q)) : tDIn ty td σ H Q := h
theorem w_dnotin {ty td : TE} (h : ty σ H fun y H1 => td σ H1 (DNotInK y Q)) : tDNotIn ty td σ H Q := h
theorem w_dget {td ty : TE} (h : td σ H fun x H1 => ty σ H1 (DGK x Q)) : tDGet td ty σ H Q := h
theorem w_for {wi : TI} (h : wi σ H (ForB g t nx rt σ)) : tFor wi g t ⟨nx, rt, bk, ct⟩ σ H := h
theorem w_iList {K : PySem.W.Frag} {R : It → Hp → Prop} (h : te σ H (RdL K R)) : iList K te σ H R := h
theorem w_iTup {K : PySem.W.Frag} {R : It → Hp → Prop} (h : te σ H (RdT K R)) : iTup K te σ H R := h
theorem w_rdL {K : PySem.W.Frag} {R : It → Hp → Prop} {a : Addr} {xs : List V} (hl : SqL K H a xs) (h : R (Itl K a) H) : RdL K R (.ref a) H := ⟨a, rfl, ⟨xs, hl⟩, h⟩
theorem w_rdT {K : PySem.W.Frag} {R : It → Hp → Prop} {a : Addr} {xs : List V} (hl : SqT K H a xs) (h : R (Itt K a) H) : RdT K R (.ref a) H := ⟨a, rfl, ⟨xs, hl⟩, h⟩
theorem w_iRng1 {t : TA} {R : It → Hp → Prop} (h : t σ H (Rg1 R)) : iRng1 t σ H R := h
theorem w_iRng2 {t : TA} {R : It → Hp → Prop} (h : t σ H (Rg2 R)) : iRng2 t σ H R := h
theorem w_rg1 {j : Int} {R : It → Hp → Prop} (h1 : -(2 ^ 62) ≤ j ∧ j < 2 ^ 62) (h : R (Itr 0 j.toNat) H) : Rg1 R [.int j] H := ⟨j, rfl, h1.1, h1.2, h⟩
theorem w_rg2 {i j : Int} {R : It → Hp → Prop} (h1 : (-(2 ^ 62) ≤ i ∧ i < 2 ^ 62) ∧ (-(2 ^ 62) ≤ j ∧ j < 2 ^ 62)) (h : R (Itr i (j - i).toNat) H) : Rg2 R [.int i, .int j] H := ⟨i, j, rfl, ⟨h1.1.1, h1.1.2, h1.2.1, h1.2.2⟩, h⟩
/-- for over a range, by what holds ahead of turn i -/
theorem w_forR {lo : Int} {n : Nat} (Pv : Nat → L2.St → Hp → Prop) (h0 : Pv 0 σ H) (hs : ∀ i σ H, i < n → Pv i σ H → g (.int (lo + i)) σ H fun σ2 H2 => t ⟨Pv (i + 1), rt, nx, Pv (i + 1)⟩ σ2 H2) (hd : ∀ σ H, Pv n σ H → nx σ H) : ForB g t nx rt σ (Itr lo n) H :=
  for_range (D := ⟨nx, rt, fun _ _ => False, fun _ _ => False⟩) Pv h0 hs hd
theorem w_forL {K : PySem.W.Frag} {a : Addr} {xs : List V} (Pv : Nat → L2.St → Hp → Prop) (h0 : Pv 0 σ H) (hl : ∀ i σ H, i ≤ xs.length → Pv i σ H → SqL K H a xs) (hs : ∀ i x σ H, xs[i]? = some x → Pv i σ H → g x σ H fun σ2 H2 => t ⟨Pv (i + 1), rt, nx, Pv (i + 1)⟩ σ2 H2) (hd : ∀ σ H, Pv xs.length σ H → nx σ H) : ForB g t nx rt σ (Itl K a) H :=
  for_list (D := ⟨nx, rt, fun _ _ => False, fun _ _ => False⟩) Pv h0 hl hs hd
theorem w_forT {K : PySem.W.Frag} {a : Addr} {xs : List V} (Pv : Nat → L2.St → Hp → Prop) (h0 : Pv 0 σ H) (hl : ∀ i σ H, i ≤ xs.length → Pv i σ H → SqT K H a xs) (hs : ∀ i x σ H, xs[i]? = some x → Pv i σ H → g x σ H fun σ2 H2 => t ⟨Pv (i + 1), rt, nx, Pv (i + 1)⟩ σ2 H2) (hd : ∀ σ H, Pv xs.length σ H → nx σ H) : ForB g t nx rt σ (Itt K a) H :=
  for_tup (D := ⟨nx, rt, fun _ _ => False, fun _ _ => False⟩) Pv h0 hl hs hd
/-- while, by an invariant with a measure -/
theorem w_while {c : TT} (Pv : Nat → L2.St → Hp → Prop) (m : Nat) (h0 : Pv m σ H) (hs : ∀ m σ H, Pv m σ H → c σ H (WhB t nx rt Pv m σ)) : tWhile c t ⟨nx, rt, bk, ct⟩ σ H := ⟨Pv, ⟨m, h0⟩, hs⟩
theorem w_whT {Pv : Nat → L2.St → Hp → Prop} {m : Nat} (h : t ⟨fun σ' H' => ∃ m', m' < m ∧ Pv m' σ' H', rt, nx, fun σ' H' => ∃ m', m' < m ∧ Pv m' σ' H'⟩ σ H) : WhB t nx rt Pv m σ true H := w_iteT ⟨_, fun _ _ h => h, h⟩
theorem w_whF {Pv : Nat → L2.St → Hp → Prop} {m : Nat} (h : nx σ H) : WhB t nx rt Pv m σ false H := w_iteF h
theorem w_wh {Pv : Nat → L2.St → Hp → Prop} {m : Nat} {p : Prop} [Decidable p] (h1 : p → t ⟨fun σ' H' => ∃ m', m' < m ∧ Pv m' σ' H', rt, nx, fun σ' H' => ∃ m', m' < m ∧ Pv m' σ' H'⟩ σ H) (h2 : ¬ p → nx σ H) : WhB t nx rt Pv m σ (decide p) H := by
  by_cases h : p
  · rw [decide_eq_true h]; exact w_whT (h1 h)
  · rw [decide_eq_false h]; exact w_whF (h2 h)
theorem w_lc {wi : TI} {tt : TT} {vs : List Nat} (h : wi σ H (LcB g tt te vs σ Q)) : tLc wi g tt te vs σ H Q := h
theorem w_yes (h : B true H) : tYes σ H B := h
theorem w_lcR {lo : Int} {n : Nat} {tt : TT} {vs : List Nat} (h : ∀ D, H D = none → ∃ Pv : Nat → Hp → Prop, Pv 0 (upd H D (.lst [])) ∧
    (∀ i H1, i < n → Pv i H1 → g (.int (lo + i)) (wipe σ vs) H1 (LcTurn tt te vs σ D (Pv (i + 1)))) ∧ ∀ H1, Pv n H1 → Q (.ref D) H1) : LcB g tt te vs σ Q (Itr lo n) H := fun D hD => by
  obtain ⟨Pv, h0, hs, hd⟩ := h D hD
  exact lc_range (Qd := Q (.ref D)) Pv h0 hs hd
theorem w_lcL {K : PySem.W.Frag} {a : Addr} {xs : List V} {tt : TT} {vs : List Nat} (h : ∀ D, H D = none → ∃ Pv : Nat → Hp → Prop, Pv 0 (upd H D (.lst [])) ∧ (∀ i H1, i ≤ xs.length → Pv i H1 → SqL K H1 a xs) ∧
    (∀ i x H1, xs[i]? = some x → Pv i H1 → g x (wipe σ vs) H1 (LcTurn tt te vs σ D (Pv (i + 1)))) ∧ ∀ H1, Pv xs.length H1 → Q (.ref D) H1) : LcB g tt te vs σ Q (Itl K a) H := fun D hD => by
  obtain ⟨Pv, h0, hl, hs, hd⟩ := h D hD
  exact lc_list (Qd := Q (.ref D)) Pv h0 hl hs hd
theorem w_turn {tt : TT} {vs : List Nat} {σ2 : L2.St} {D : Addr} {Nx : Hp → Prop} (e : wipe σ2 vs = wipe σ vs) (h : tt σ2 H fun b H3 => if b = true then te σ2 H3 (LcPut D Nx) else Nx H3) : LcTurn tt te vs σ D Nx σ2 H := ⟨e, h⟩
theorem w_put {D : Addr} {Nx : Hp → Prop} {acc : List V} {y : V} (hl : H D = some (.lst acc)) (hz : acc.length < sizeLine) (h : Nx (upd H D (.lst (acc ++ [y])))) : LcPut D Nx y H := ⟨acc, hl, hz, h⟩
theorem w_isiInt {K : PySem.W.Frag} {i : Int} {n : String} {b : Bool} (e : kitB "int" n = some b) (h : Q (.bl b) H) : rIsi K [.int i, .ty n] H Q := ⟨_, _, _, _, b, rfl, .ty n, .base (.int i), kit_ty e, h⟩
theorem w_isiTup {K : PySem.W.Frag} {a : Addr} {xs : List V} {n : String} {b : Bool} (hl : SqT K H a xs) (e : kitB "tuple" n = some b) (h : Q (.bl b) H) : rIsi K [.ref a, .ty n] H Q := by
  rcases hl with (h1 | ⟨o, h1⟩) | ⟨o, its, m, h1, h2, h3⟩
  · exact ⟨_, _, _, _, b, rfl, .ty n, .base (.tup h1), kit_ty e, h⟩
  · exact ⟨_, _, _, _, b, rfl, .ty n, .fTuple h1, kit_ty e, h⟩
  · exact ⟨_, _, _, _, b, rfl, .ty n, .kTuple h1 h2, kit_ty e, h⟩
theorem w_isiLst {K : PySem.W.Frag} {a : Addr} {xs : List V} {n : String} {b : Bool} (hl : SqL K H a xs) (e : kitB "list" n = some b) (h : Q (.bl b) H) : rIsi K [.ref a, .ty n] H Q := by
  rcases hl with (h1 | ⟨o, h1⟩) | ⟨o, its, m, h1, h2, h3⟩
  · exact ⟨_, _, _, _, b, rfl, .ty n, .base (.lst h1), kit_ty e, h⟩
  · exact ⟨_, _, _, _, b, rfl, .ty n, .base (.frz h1), kit_ty e, h⟩
  · exact ⟨_, _, _, _, b, rfl, .ty n, .kList h1 h2, kit_ty e, h⟩
theorem w_callS {sp : Sp} {E : L2.St → XK} {t : TA} (h : t σ H fun vs H1 => sp vs H1 Q (E σ)) : tCallS sp E t σ H Q := h
theorem eqv_ints2 (a b c d : Int) : PyData.eqv (.tuple [.int a, .int b]) (.tuple [.int c, .int d]) = decide (a = c ∧ b = d) := by
  simp only [PyData.eqv, PyData.eqvAll, Bool.and_true]
  by_cases h : a = c <;> by_cases h2 : b = d <;> simp [h, h2]
theorem dp_ints2 {K : PySem.W.Frag} {t : Addr} {a b : Int} (h : SqT K H t [.int a, .int b]) : Dp K H (.ref t) (.tuple [.int a, .int b]) := .tup h (.cons (.int a) (.cons (.int b) .nil))
theorem w_eqPair {K : PySem.W.Frag} {t u : Addr} {a b c d : Int} (h1 : SqT K H t [.int a, .int b]) (h2 : SqT K H u [.int c, .int d]) (h : Q (.bl (decide (a = c ∧ b = d))) H) : rEqD K (.ref t) (.ref u) H Q :=
  ⟨_, _, dp_ints2 h1, dp_ints2 h2, rfl, rfl, by rw [eqv_ints2]; exact h⟩
theorem Same.tup {K : PySem.W.Frag} {H H' : Hp} {a : Addr} {xs : List V} (e : Same H H') (h : SqT K H a xs) : SqT K H' a xs := by
  rcases h with (h | ⟨o, h⟩) | h
  · exact .inl (.inl (e _ _ h))
  · exact .inl (.inr ⟨o, e _ _ h⟩)
  · exact .inr h
end
theorem same_new {H : Hp} {p : Addr} (h : H p = none) (o : HO) : Same H (upd H p o) := fun b u q => by rw [upd_ne (ne_of_none q h)]; exact q
theorem cut_take {xs : List V} {k : Int} (h0 : 0 ≤ k) (h : k ≤ (xs.length : Int)) : cutV xs none (some k) = xs.take k.toNat := by
  unfold cutV HT.sIx
  simp only
  rw [if_neg (by omega), List.drop_zero, Nat.sub_zero, Nat.min_eq_left (by omega)]
theorem cut_drop {xs : List V} {k : Int} (h0 : 0 ≤ k) (h : k ≤ (xs.length : Int)) : cutV xs (some k) none = xs.drop k.toNat := by
  unfold cutV HT.sIx
  simp only
  rw [if_neg (by omega), Nat.min_eq_left (by omega)]
  exact List.take_of_length_le (by rw [List.length_drop]; omega)
theorem atI2 (a b : V) : atI [a, b] 0 = some a ∧ atI [a, b] 1 = some b := ⟨rfl, rfl⟩
theorem atI_int {ns : List Int} {i : Int} (h0 : 0 ≤ i) (h : i < (ns.length : Int)) : atI (ns.map V.int) i = some (.int (ns.getD i.toNat 0)) := by
  have hk : i.toNat < ns.length := by omega
  have ek : i = ((i.toNat : Nat) : Int) := by omega
  have q : atI (ns.map V.int) ((i.toNat : Nat) : Int) = some (.int ns[i.toNat]) := atI_nat (by rw [List.getElem?_map, List.getElem?_eq_getElem hk] <;> rfl)
  rw [← ek] at q
  rw [q, List.getD_eq_getElem?_getD, List.getElem?_eq_getElem hk] <;> rfl
end Pm
namespace Pm
open PySem PySem.Spec PyProof.Rows L2
/-- item by item -/
def All2 {α β : Type} (R : α → β → Prop) : List α → List β → Prop
  | [], [] => True
  | x :: xs, y :: ys => R x y ∧ All2 R xs ys
  | _, _ => False
section
variable {α β : Type} {R S : α → β → Prop}
theorem All2.nil : All2 R [] [] := trivial
theorem All2.cons {x : α} {y : β} {xs : List α} {ys : List β} (h : R x y) (t : All2 R xs ys) : All2 R (x :: xs) (y :: ys) := ⟨h, t⟩
theorem All2.length : ∀ {xs : List α} {ys : List β}, All2 R xs ys → xs.length = ys.length
  | [], [], _ => rfl
  | _ :: _, _ :: _, h => by rw [List.length_cons, List.length_cons, h.2.length]
theorem All2.mono (f : ∀ x y, R x y → S x y) : ∀ {xs : List α} {ys : List β}, All2 R xs ys → All2 S xs ys
  | [], [], _ => trivial
  | _ :: _, _ :: _, h => ⟨f _ _ h.1, h.2.mono f⟩
theorem All2.get : ∀ {xs : List α} {ys : List β} {i : Nat} {x : α}, All2 R xs ys → xs[i]? = some x → ∃ y, ys[i]? = some y ∧ R x y
  | [], [], _, _, _, e => by simp at e
  | _ :: _, _ :: _, 0, _, h, e => by simp at e; subst e; exact ⟨_, rfl, h.1⟩
  | _ :: _, _ :: _, i + 1, x, h, e => by
    obtain ⟨y, e1, r⟩ := All2.get (i := i) (x := x) h.2 (by simpa using e)
    exact ⟨y, by simpa using e1, r⟩
theorem All2.get' : ∀ {xs : List α} {ys : List β} {i : Nat} {y : β}, All2 R xs ys → ys[i]? = some y → ∃ x, xs[i]? = some x ∧ R x y
  | [], [], _, _, _, e => by simp at e
  | _ :: _, _ :: _, 0, _, h, e => by simp at e; subst e; exact ⟨_, rfl, h.1⟩
  | _ :: _, _ :: _, i + 1, y, h, e => by
    obtain ⟨x, e1, r⟩ := All2.get' (i := i) (y := y) h.2 (by simpa using e)
    exact ⟨x, by simpa using e1, r⟩
theorem All2.append : ∀ {xs : List α} {ys : List β} {xs' : List α} {ys' : List β}, All2 R xs ys → All2 R xs' ys' → All2 R (xs ++ xs') (ys ++ ys')
  | [], [], _, _, _, h => h
  | _ :: _, _ :: _, _, _, h, h' => ⟨h.1, h.2.append h'⟩
theorem All2.snoc {xs : List α} {ys : List β} {x : α} {y : β} (h : All2 R xs ys) (r : R x y) : All2 R (xs ++ [x]) (ys ++ [y]) := h.append ⟨r, trivial⟩
theorem All2.take : ∀ {xs : List α} {ys : List β} (n : Nat), All2 R xs ys → All2 R (xs.take n) (ys.take n)
  | [], [], n, _ => by rw [List.take_nil, List.take_nil]; trivial
  | _ :: _, _ :: _, 0, _ => trivial
  | _ :: _, _ :: _, n + 1, h => ⟨h.1, h.2.take n⟩
theorem All2.drop : ∀ {xs : List α} {ys : List β} (n : Nat), All2 R xs ys → All2 R (xs.drop n) (ys.drop n)
  | [], [], n, _ => by rw [List.drop_nil, List.drop_nil]; trivial
  | _ :: _, _ :: _, 0, h => h
  | _ :: _, _ :: _, n + 1, h => h.2.drop n
theorem All2.set : ∀ {xs : List α} {ys : List β} (i : Nat) {x : α} {y : β}, All2 R xs ys → R x y → All2 R (xs.set i x) (ys.set i y)
  | [], [], _, _, _, _, _ => trivial
  | _ :: _, _ :: _, 0, _, _, h, r => ⟨r, h.2⟩
  | _ :: _, _ :: _, i + 1, _, _, h, r => ⟨h.1, h.2.set i r⟩
theorem All2.mem : ∀ {xs : List α} {ys : List β} {x : α}, All2 R xs ys → x ∈ xs → ∃ y, y ∈ ys ∧ R x y
  | [], [], _, _, e => by simp at e
  | a :: _, b :: _, x, h, e => by
    rcases List.mem_cons.mp e with e | e
    · subst e; exact ⟨b, List.mem_cons_self, h.1⟩
    · obtain ⟨y, e1, r⟩ := h.2.mem e
      exact ⟨y, List.mem_cons_of_mem _ e1, r⟩
end
/-- tuples stay -/
def Keeps (H H' : Hp) : Prop := ∀ t xs, H t = some (.tup xs) → H' t = some (.tup xs)
theorem Keeps.refl (H : Hp) : Keeps H H := fun _ _ h => h
theorem Keeps.trans {H H1 H2 : Hp} (a : Keeps H H1) (b : Keeps H1 H2) : Keeps H H2 := fun t xs h => b t xs (a t xs h)
theorem keeps {H H' : Hp} (s : Same H H') : Keeps H H' := fun _ _ h => s _ _ h
theorem keeps_lst {H : Hp} {a : Addr} {xs ys : List V} (h : H a = some (.lst xs)) : Keeps H (upd H a (.lst ys)) := fun t zs e => by
  rw [upd_ne (fun z => by subst z; rw [e] at h; cases h)]
  exact e
/-- all but the object at a stays -/
theorem same_but {H H' : Hp} {a : Addr} {o : HO} (h0 : H a = none) (s : Same H H') : Same H (upd H' a o) := fun b u e => by
  rw [upd_ne (fun z => by subst z; rw [h0] at e; cases e)]
  exact s b u e
abbrev IP := Int × Int
def Pr (H : Hp) (v : V) (p : IP) : Prop := ∃ t, v = .ref t ∧ H t = some (.tup [.int p.1, .int p.2])
abbrev Prs (H : Hp) : List V → List IP → Prop := All2 (Pr H)
theorem Pr.keep {H H' : Hp} (k : Keeps H H') {v : V} {p : IP} (h : Pr H v p) : Pr H' v p := by
  obtain ⟨t, e, ht⟩ := h
  exact ⟨t, e, k _ _ ht⟩
theorem prs_keep {H H' : Hp} (k : Keeps H H') {vs : List V} {ps : List IP} (h : Prs H vs ps) : Prs H' vs ps := h.mono fun _ _ r => r.keep k
/-- the pair at a value -/
def kOf (H : Hp) : V → IP
  | .ref t => match H t with
    | some (.tup [.int a, .int b]) => (a, b)
    | _ => (0, 0)
  | _ => (0, 0)
theorem Pr.k {H : Hp} {v : V} {p : IP} (h : Pr H v p) : kOf H v = p := by
  obtain ⟨t, rfl, ht⟩ := h
  show (match H t with | some (.tup [.int a, .int b]) => (a, b) | _ => (0, 0)) = p
  rw [ht]
theorem Pr.tup {K : PySem.W.Frag} {H : Hp} {t : Addr} {p : IP} (h : Pr H (.ref t) p) : SqT K H t [.int p.1, .int p.2] := by
  obtain ⟨u, e, hu⟩ := h
  cases e
  exact SqT.of hu
def pD (p : IP) : PyData := .tuple [.int p.1, .int p.2]
theorem eqv_pD (p q : IP) : PyData.eqv (pD p) (pD q) = decide (p = q) := by
  obtain ⟨a, b⟩ := p
  obtain ⟨c, d⟩ := q
  rw [show PyData.eqv (pD (a, b)) (pD (c, d)) = decide (a = c ∧ b = d) from eqv_ints2 a b c d]
  exact decide_eq_decide.mpr ⟨fun h => by rw [h.1, h.2], fun h => ⟨congrArg Prod.fst h, congrArg Prod.snd h⟩⟩
theorem lay_pD (p : IP) : (pD p).canLay0 = true := by simp [pD, PyData.canLay0, PyData.canLayAll0]
theorem depth_pD (p : IP) : (pD p).depth = 1 := by simp [pD, PyData.depth, PyData.depthAll]
theorem shaped_pD (p : IP) : SeqAt.shaped (pD p) = true := by
  show ((pD p).canLay0 && decide ((pD p).depth ≤ 64)) = true
  rw [lay_pD, depth_pD]
  rfl
def lexLe (p q : IP) : Bool := decide (p.1 < q.1 ∨ (p.1 = q.1 ∧ p.2 ≤ q.2))
abbrev Rising (ps : List IP) : Prop := ps.Pairwise fun p q => lexLe p q = true
def sortP (ps : List IP) : List IP := ps.mergeSort lexLe
theorem sortP_perm (ps : List IP) : (sortP ps).Perm ps := List.mergeSort_perm ps lexLe
theorem mem_sortP {p : IP} {ps : List IP} : p ∈ sortP ps ↔ p ∈ ps := (sortP_perm ps).mem_iff
/-- a list of pairs that is handed in -/
def PL (K : PySem.W.Frag) (H : Hp) (a : Addr) (ps : List IP) : Prop := ∃ vs, SqL K H a vs ∧ Prs H vs ps
theorem PL.same {K : PySem.W.Frag} {H H' : Hp} {a : Addr} {ps : List IP} (h : PL K H a ps) (s : Same H H') : PL K H' a ps := by
  obtain ⟨vs, h1, h2⟩ := h
  exact ⟨vs, s.seq h1, prs_keep (keeps s) h2⟩
section
variable {H : Hp} {Q : VK} {σ : L2.St} {g : TG} {tt : TT} {te : TE} {vs : List Nat} {β : Type} {R : Hp → V → β → Prop}
theorem put_next (mono : ∀ H H' v b, Keeps H H' → R H v b → R H' v b) {H0 H1 H4 : Hp} {D : Addr} {acc : List V} {bs : List β} {y : V} {b : β} {Pv : Hp → Prop} (hD : H0 D = none) (s1 : Same H0 H1) (hd : H1 D = some (.lst acc)) (ha : All2 (R H1) acc bs) (hz : bs.length < 1000000)
    (s4 : Same H1 H4) (hy : R H4 y b) (hp : ∀ H5 acc', Same H0 H5 → H5 D = some (.lst acc') → All2 (R H5) acc' (bs ++ [b]) → Pv H5) : LcPut D Pv y H4 := by
  refine w_put (s4 _ _ hd) (size_lt (by rw [ha.length]; omega)) (hp _ _ (same_but hD (s1.trans s4)) upd_same ?_)
  have k := keeps_lst (ys := acc ++ [y]) (s4 _ _ hd)
  exact (ha.mono fun _ _ r => mono _ _ _ _ k (mono _ _ _ _ (keeps s4) r)).snoc (mono _ _ _ _ k hy)
/-- [f(k) for k in range(n)] -/
theorem w_lcRm (mono : ∀ H H' v b, Keeps H H' → R H v b → R H' v b) {lo : Int} {n : Nat} (f : Nat → β) (hn : n < 1000000)
    (body : ∀ D i H1 (Nx : Hp → Prop), H D = none → i < n → Same H H1 → (∀ y H4, Same H1 H4 → R H4 y (f i) → LcPut D Nx y H4) → g (.int (lo + i)) (wipe σ vs) H1 (LcTurn tt te vs σ D Nx))
    (done : ∀ D H1 ws, H D = none → Same H H1 → H1 D = some (.lst ws) → All2 (R H1) ws ((List.range n).map f) → Q (.ref D) H1) : LcB g tt te vs σ Q (Itr lo n) H := by
  refine w_lcR fun D hD => ⟨fun i H1 => Same H H1 ∧ ∃ acc, H1 D = some (.lst acc) ∧ All2 (R H1) acc ((List.range i).map f), ⟨same_new hD _, [], upd_same, trivial⟩, ?_, ?_⟩
  · rintro i H1 hi ⟨s1, acc, hd, ha⟩
    refine body D i H1 _ hD hi s1 fun y H4 s4 hy => ?_
    refine put_next mono hD s1 hd ha (by rw [List.length_map, List.length_range]; omega) s4 hy fun H5 acc' s5 h5 a5 => ⟨s5, acc', h5, ?_⟩
    rw [List.range_succ, List.map_append]
    exact a5
  · rintro H1 ⟨s1, acc, hd, ha⟩
    exact done D H1 acc hD s1 hd ha
/-- [f(x) for x in xs if p(x)]: the items taken by a relation of their own -/
theorem w_lcLf (mono : ∀ H H' v b, Keeps H H' → R H v b → R H' v b) {K : PySem.W.Frag} {a : Addr} {xs : List V} {γ : Type} {S : Hp → V → γ → Prop} (monoS : ∀ H H' v b, Keeps H H' → S H v b → S H' v b) {cs : List γ} (hl : SqL K H a xs) (hx : All2 (S H) xs cs) (f : γ → β) (pr : γ → Bool) (hn : cs.length < 1000000)
    (body : ∀ D (x : V) (c : γ) H1 (Nx : Hp → Prop), H D = none → c ∈ cs → S H1 x c → Same H H1 → (∀ y H4, pr c = true → Same H1 H4 → R H4 y (f c) → LcPut D Nx y H4) → (∀ H4, pr c = false → Same H1 H4 → Nx H4) → g x (wipe σ vs) H1 (LcTurn tt te vs σ D Nx))
    (done : ∀ D H1 ws, H D = none → Same H H1 → H1 D = some (.lst ws) → All2 (R H1) ws ((cs.filter pr).map f) → Q (.ref D) H1) : LcB g tt te vs σ Q (Itl K a) H := by
  have hlen := hx.length
  refine w_lcL (xs := xs) fun D hD => ⟨fun i H1 => Same H H1 ∧ ∃ acc, H1 D = some (.lst acc) ∧ All2 (R H1) acc (((cs.take i).filter pr).map f), ⟨same_new hD _, [], upd_same, trivial⟩, ?_, ?_, ?_⟩
  · rintro i H1 _ ⟨s1, _⟩
    exact s1.seq hl
  · rintro i x H1 hi ⟨s1, acc, hd, ha⟩
    obtain ⟨c, hc, hs⟩ := hx.get hi
    have hlt : i < cs.length := (List.getElem?_eq_some_iff.mp hc).1
    have hle : (((cs.take i).filter pr).map f).length < 1000000 := by
      rw [List.length_map]
      have := List.length_filter_le pr (cs.take i)
      rw [List.length_take] at this
      omega
    have et : cs.take (i + 1) = cs.take i ++ [c] := by rw [List.take_add_one, hc] <;> rfl
    refine body D x c H1 _ hD (List.mem_of_getElem? hc) (monoS _ _ _ _ (keeps s1) hs) s1 (fun y H4 hp s4 hy => ?_) (fun H4 hp s4 => ?_)
    · refine put_next mono hD s1 hd ha hle s4 hy fun H5 acc' s5 h5 a5 => ⟨s5, acc', h5, ?_⟩
      rw [et, List.filter_append, List.map_append]
      have e1 : List.filter pr [c] = [c] := by simp [hp]
      rw [e1]
      exact a5
    · refine ⟨s1.trans s4, acc, s4 _ _ hd, ?_⟩
      have e1 : List.filter pr [c] = [] := by simp [hp]
      rw [et, List.filter_append, e1, List.append_nil]
      exact ha.mono fun _ _ r => mono _ _ _ _ (keeps s4) r
  · rintro H1 ⟨s1, acc, hd, ha⟩
    rw [hlen, List.take_length] at ha
    exact done D H1 acc hD s1 hd ha
end
/-- an int as an item -/
def In (_ : Hp) (v : V) (i : Int) : Prop := v = .int i
end Pm
namespace Pm
inductive Tr where
  | leaf
  | node (l r : Tr)
namespace Tr
def w : Tr → Nat
  | leaf => 1
  | node l r => l.w + r.w
theorem w_pos : ∀ t : Tr, 1 ≤ t.w
  | leaf => Nat.le_refl _
  | node l r => by have := l.w_pos; show 1 ≤ l.w + r.w; omega
/-- all ties -/
def all : Nat → Tr → List (Nat × Nat)
  | lo, leaf => [(lo, lo + 1)]
  | lo, node l r => (lo, lo + (l.w + r.w)) :: (l.all lo ++ r.all (lo + l.w))
/-- the ties of nodes -/
def inn : Nat → Tr → List (Nat × Nat)
  | _, leaf => []
  | lo, node l r => (lo, lo + (l.w + r.w)) :: (l.inn lo ++ r.inn (lo + l.w))
/-- the ropes of the whole -/
def ropes : Nat → Tr → List (Nat × Nat)
  | _, leaf => []
  | lo, node l r => l.inn lo ++ r.inn (lo + l.w)
theorem inn_node {lo : Nat} {t : Tr} (h : 2 ≤ t.w) : t.inn lo = (lo, lo + t.w) :: t.ropes lo := by
  cases t with
  | leaf => exact absurd h (by show ¬ 2 ≤ 1; omega)
  | node l r => rfl
theorem bd : ∀ {t : Tr} {lo : Nat} {p : Nat × Nat}, p ∈ t.all lo → lo ≤ p.1 ∧ p.1 < p.2 ∧ p.2 ≤ lo + t.w
  | leaf, lo, p, h => by
    rw [List.mem_singleton.mp h]
    exact ⟨Nat.le_refl _, Nat.lt_succ_self _, Nat.le_refl _⟩
  | node l r, lo, p, h => by
    have wl := l.w_pos
    have wr := r.w_pos
    show lo ≤ p.1 ∧ p.1 < p.2 ∧ p.2 ≤ lo + (l.w + r.w)
    rcases List.mem_cons.mp h with h | h
    · rw [h]; simp only; omega
    · rcases List.mem_append.mp h with h | h
      · have := bd h; omega
      · have := bd h; omega
theorem mem_node {l r : Tr} {lo : Nat} {p : Nat × Nat} : p ∈ (node l r).all lo ↔ p = (lo, lo + (l.w + r.w)) ∨ p ∈ l.all lo ∨ p ∈ r.all (lo + l.w) := by
  show p ∈ _ :: (_ ++ _) ↔ _
  rw [List.mem_cons, List.mem_append]
theorem inn_all : ∀ {t : Tr} {lo : Nat} {p : Nat × Nat}, p ∈ t.inn lo → p ∈ t.all lo
  | leaf, _, _, h => by cases h
  | node l r, lo, p, h => by
    rw [mem_node]
    rcases List.mem_cons.mp h with h | h
    · exact .inl h
    · rcases List.mem_append.mp h with h | h
      · exact .inr (.inl (inn_all h))
      · exact .inr (.inr (inn_all h))
/-- a tie is one of a node, or of two neighbours -/
theorem all_iff : ∀ {t : Tr} {lo : Nat} {p : Nat × Nat}, p ∈ t.all lo ↔ p ∈ t.inn lo ∨ (lo ≤ p.1 ∧ p.2 = p.1 + 1 ∧ p.2 ≤ lo + t.w)
  | leaf, lo, p => by
    show p ∈ [(lo, lo + 1)] ↔ p ∈ [] ∨ (lo ≤ p.1 ∧ p.2 = p.1 + 1 ∧ p.2 ≤ lo + 1)
    obtain ⟨a, b⟩ := p
    simp only [List.mem_singleton, Prod.mk.injEq, List.not_mem_nil, false_or]
    omega
  | node l r, lo, p => by
    have wl := l.w_pos
    have wr := r.w_pos
    rw [mem_node, all_iff (t := l), all_iff (t := r)]
    show _ ↔ p ∈ _ :: (_ ++ _) ∨ (lo ≤ p.1 ∧ p.2 = p.1 + 1 ∧ p.2 ≤ lo + (l.w + r.w))
    rw [List.mem_cons, List.mem_append]
    constructor
    · rintro (h | (h | h) | (h | h))
      · exact .inl (.inl h)
      · exact .inl (.inr (.inl h))
      · exact .inr (by omega)
      · exact .inl (.inr (.inr h))
      · exact .inr (by omega)
    · rintro ((h | h | h) | h)
      · exact .inl h
      · exact .inr (.inl (.inl h))
      · exact .inr (.inr (.inl h))
      · by_cases c : p.2 ≤ lo + l.w
        · exact .inr (.inl (.inr (by omega)))
        · exact .inr (.inr (.inr (by omega)))
/-- m makes a plot with (a, b) from outside -/
def Out (t : Tr) (lo a b m : Nat) : Prop := (m < a ∧ (m, a) ∈ t.all lo ∧ (m, b) ∈ t.all lo) ∨ (b < m ∧ (a, m) ∈ t.all lo ∧ (b, m) ∈ t.all lo)
end Tr
end Pm
namespace Pm
def tieOf (a b : Int) : IP := (min a b, max a b)
def castP (p : Nat × Nat) : IP := ((p.1 : Int), (p.2 : Int))
end Pm
namespace Pm
open PySem PySem.Spec PyProof.Rows L2
def sides0 (n : Nat) : List IP := ((List.range (n - 1)).map fun k : Nat => ((k : Int), (k : Int) + 1)) ++ [(0, (n : Int) - 1)]
def tiesL (n : Nat) (cut : List IP) : List IP := sortP (sides0 n ++ cut)
theorem mem_ties {n : Nat} {cut : List IP} {p : IP} : p ∈ tiesL n cut ↔ p ∈ sides0 n ∨ p ∈ cut := by rw [tiesL, mem_sortP, List.mem_append]
def isBeside (T : List IP) (a b : Int) (c : Nat) : Bool := decide (tieOf a c ∈ T) && decide (tieOf b c ∈ T)
def besideL (n : Nat) (T : List IP) (a b : Int) : List Int := ((List.range n).filter (isBeside T a b)).map fun c : Nat => (c : Int)
/-- a tracked list of pairs -/
def PLt (H : Hp) (a : Addr) (ps : List IP) : Prop := ∃ vs, H a = some (.lst vs) ∧ Prs H vs ps
theorem PLt.same {H H' : Hp} {a : Addr} {ps : List IP} (h : PLt H a ps) (s : Same H H') : PLt H' a ps := by
  obtain ⟨vs, h1, h2⟩ := h
  exact ⟨vs, s _ _ h1, prs_keep (keeps s) h2⟩
end Pm
namespace Pm
open PySem PySem.Spec PyProof.Rows L2
/-- cut is the cutting of the tree t -/
structure Cutting (n : Nat) (cut : List IP) (t : Tr) : Prop where
  w : t.w + 1 = n
  n3 : 3 ≤ n
  perm : cut.Perm ((t.ropes 0).map castP)
  rise : Rising cut
theorem mem_sides0 {n : Nat} {p : IP} (hn : 2 ≤ n) : p ∈ sides0 n ↔ (∃ k : Nat, k + 1 < n ∧ p = castP (k, k + 1)) ∨ p = castP (0, n - 1) := by
  unfold sides0
  rw [List.mem_append, List.mem_map, List.mem_singleton]
  constructor
  · rintro (⟨k, hk, rfl⟩ | rfl)
    · exact .inl ⟨k, by have := List.mem_range.mp hk; omega, by simp [castP]⟩
    · exact .inr (by simp only [castP]; congr 1; omega)
  · rintro (⟨k, hk, rfl⟩ | rfl)
    · exact .inl ⟨k, List.mem_range.mpr (by omega), by simp [castP]⟩
    · exact .inr (by simp only [castP]; congr 1; omega)
section
variable {n : Nat} {cut : List IP} {t : Tr}
theorem Cutting.mem (C : Cutting n cut t) {p : IP} : p ∈ cut ↔ ∃ q, q ∈ t.ropes 0 ∧ p = castP q := by
  rw [C.perm.mem_iff, List.mem_map]
  exact ⟨fun ⟨q, h, e⟩ => ⟨q, h, e.symm⟩, fun ⟨q, h, e⟩ => ⟨q, h, e.symm⟩⟩
theorem Cutting.w2 (C : Cutting n cut t) : 2 ≤ t.w := by have := C.w; have := C.n3; omega
theorem inn_iff {q : Nat × Nat} (h : 2 ≤ t.w) : q ∈ t.inn 0 ↔ q = (0, t.w) ∨ q ∈ t.ropes 0 := by
  rw [Tr.inn_node h, List.mem_cons, Nat.zero_add]
theorem Cutting.ties (C : Cutting n cut t) {p : IP} : p ∈ tiesL n cut ↔ ∃ q, q ∈ t.all 0 ∧ p = castP q := by
  have h2 := C.w2
  have hw := C.w
  rw [mem_ties, mem_sides0 (by omega), C.mem]
  constructor
  · rintro ((⟨k, hk, rfl⟩ | rfl) | ⟨q, hq, rfl⟩)
    · exact ⟨_, Tr.all_iff.mpr (.inr ⟨Nat.zero_le _, rfl, by simp only; omega⟩), rfl⟩
    · refine ⟨_, Tr.inn_all ((inn_iff h2).mpr (.inl rfl)), ?_⟩
      rw [← hw] <;> rfl
    · exact ⟨q, Tr.inn_all ((inn_iff h2).mpr (.inr hq)), rfl⟩
  · rintro ⟨q, hq, rfl⟩
    rcases Tr.all_iff.mp hq with h | ⟨_, h, h'⟩
    · rcases (inn_iff h2).mp h with rfl | h
      · refine .inl (.inr ?_)
        rw [← hw] <;> rfl
      · exact .inr ⟨q, h, rfl⟩
    · refine .inl (.inl ⟨q.1, by omega, ?_⟩)
      obtain ⟨a, b⟩ := q
      simp only at h
      rw [h]
end
end Pm
namespace Pm
namespace Tr
theorem noncross : ∀ {t : Tr} {lo : Nat} {p q : Nat × Nat}, p ∈ t.all lo → q ∈ t.all lo → ¬ (p.1 < q.1 ∧ q.1 < p.2 ∧ p.2 < q.2)
  | leaf, lo, p, q, hp, hq => by
    rw [List.mem_singleton.mp hp, List.mem_singleton.mp hq]
    simp only
    omega
  | node l r, lo, p, q, hp, hq => by
    have bp := bd hp
    have bq := bd hq
    have e : (node l r).w = l.w + r.w := rfl
    rw [e] at bp bq
    rcases mem_node.mp hp with h | h | h <;> rcases mem_node.mp hq with k | k | k
    · rw [h, k]; simp only; omega
    · rw [h]; simp only; omega
    · rw [h]; simp only; omega
    · rw [k]; simp only; omega
    · exact noncross h k
    · have := bd h; have := bd k; omega
    · rw [k]; simp only; omega
    · have := bd h; have := bd k; omega
    · exact noncross h k
/-- the tree turned at the rope (x, y), its ropes by a common rest R; m between, o outside -/
structure Flip (t t' : Tr) (lo x y m o : Nat) (R : List (Nat × Nat)) : Prop where
  w : t'.w = t.w
  old : (t.ropes lo).Perm ((x, y) :: R)
  new : (t'.ropes lo).Perm ((min m o, max m o) :: R)
  btw : x < m ∧ m < y
  out : Out t lo x y o
  am : (x, m) ∈ t.all lo
  mb : (m, y) ∈ t.all lo
end Tr
open PySem PySem.Spec PyProof.Rows L2
/-- the cutting behind a turning -/
def turnedL (n : Nat) (cut : List IP) (a b : Int) : List IP :=
  let e := besideL n (tiesL n cut) a b
  sortP (cut.filter (fun p => !decide (p = tieOf a b)) ++ [(e.getD 0 0, e.getD 1 0)])
structure Turning (n : Nat) (cut : List IP) (t t' : Tr) (x y m o : Nat) (R : List (Nat × Nat)) : Prop where
  F : Tr.Flip t t' 0 x y m o R
  bes : besideL n (tiesL n cut) x y = [((min m o : Nat) : Int), ((max m o : Nat) : Int)]
  out : o < x ∨ y < o
  on : o < n
  rest : (cut.filter (fun p => !decide (p = castP (x, y)))).Perm (R.map castP)
  cut' : Cutting n (turnedL n cut x y) t'
section
variable {n : Nat} {cut : List IP} {t t' : Tr} {x y m o : Nat} {R : List (Nat × Nat)}
/-- the new rope crosses the old one -/
theorem Turning.cross (C : Cutting n cut t) (U : Turning n cut t t' x y m o R) : (x < m ∧ m < y ∧ y < o ∧ min m o = m ∧ max m o = o) ∨ (o < x ∧ x < m ∧ m < y ∧ min m o = o ∧ max m o = m) := by
  have b := U.F.btw
  rcases U.out with h | h <;> omega
end
end Pm
namespace Pm
open PySem PySem.Spec PyProof.Rows L2
def crossP (a b c d : Int) : Prop := (c ≠ min a b ∧ c ≠ max a b ∧ d ≠ min a b ∧ d ≠ max a b) ∧ ¬ ((min a b < c ∧ c < max a b) ↔ (min a b < d ∧ d < max a b))
instance (a b c d : Int) : Decidable (crossP a b c d) := by unfold crossP; exact inferInstance
theorem cross_iff {a b c d : Int} (h1 : a < b) (h2 : c < d) : crossP a b c d ↔ (a < c ∧ c < b ∧ b < d) ∨ (c < a ∧ a < d ∧ d < b) := by
  unfold crossP
  rw [Int.min_eq_left (by omega), Int.max_eq_right (by omega)]
  omega
/-- ties of a cutting do not cross -/
theorem Cutting.nocross {n : Nat} {cut : List IP} {t : Tr} (C : Cutting n cut t) {p q : IP} (hp : p ∈ tiesL n cut) (hq : q ∈ tiesL n cut) : ¬ crossP p.1 p.2 q.1 q.2 := by
  obtain ⟨⟨a, b⟩, ha, rfl⟩ := C.ties.mp hp
  obtain ⟨⟨c, d⟩, hc, rfl⟩ := C.ties.mp hq
  have h1 := Tr.bd ha
  have h2 := Tr.bd hc
  simp only at h1 h2
  have n1 := Tr.noncross ha hc
  have n2 := Tr.noncross hc ha
  simp only at n1 n2
  simp only [castP]
  rw [cross_iff (by omega) (by omega)]
  omega
section
variable {n : Nat} {cut : List IP} {t t' : Tr} {x y m o : Nat} {R : List (Nat × Nat)}
theorem Turning.rope_mem (U : Turning n cut t t' x y m o R) : (x, y) ∈ t.ropes 0 := U.F.old.mem_iff.mpr List.mem_cons_self
theorem Turning.new_mem (U : Turning n cut t t' x y m o R) : (min m o, max m o) ∈ t'.ropes 0 := U.F.new.mem_iff.mpr List.mem_cons_self
theorem Turning.cutP (C : Cutting n cut t) (U : Turning n cut t t' x y m o R) : cut.Perm (castP (x, y) :: R.map castP) := C.perm.trans (U.F.old.map castP)
theorem Turning.newP (U : Turning n cut t t' x y m o R) : (turnedL n cut x y).Perm (castP (min m o, max m o) :: R.map castP) := U.cut'.perm.trans (U.F.new.map castP)
theorem Turning.len (C : Cutting n cut t) (U : Turning n cut t t' x y m o R) : (turnedL n cut x y).length = cut.length := by
  rw [U.newP.length_eq, (U.cutP C).length_eq] <;> rfl
theorem Turning.new_cross (C : Cutting n cut t) (U : Turning n cut t t' x y m o R) : crossP (castP (min m o, max m o)).1 (castP (min m o, max m o)).2 (castP (x, y)).1 (castP (x, y)).2 := by
  have c := U.cross C
  have b := U.F.btw
  simp only [castP]
  rw [cross_iff (by omega) (by omega)]
  omega
theorem Turning.new_notin (C : Cutting n cut t) (U : Turning n cut t t' x y m o R) : castP (min m o, max m o) ∉ tiesL n cut := fun h => by
  exact C.nocross h (mem_ties.mpr (.inr (C.mem.mpr ⟨_, U.rope_mem, rfl⟩))) (U.new_cross C)
theorem Turning.fresh (C : Cutting n cut t) (U : Turning n cut t t' x y m o R) : (turnedL n cut x y).filter (fun p => !decide (p ∈ cut)) = [castP (min m o, max m o)] := by
  have pp := U.newP.filter (fun p => !decide (p ∈ cut))
  rw [List.filter_cons_of_pos (by
    have : castP (min m o, max m o) ∉ cut := fun h => U.new_notin C (mem_ties.mpr (.inr h))
    simp [this])] at pp
  have e2 : (R.map castP).filter (fun p => !decide (p ∈ cut)) = [] := List.filter_eq_nil_iff.mpr (fun p hp => by
    have : p ∈ cut := (U.cutP C).mem_iff.mpr (List.mem_cons_of_mem _ hp)
    simp [this])
  rw [e2] at pp
  exact List.perm_singleton.mp pp
theorem Turning.keeps (C : Cutting n cut t) (U : Turning n cut t t' x y m o R) {p : IP} (hp : p ∈ cut) (hne : p ≠ castP (x, y)) : p ∈ turnedL n cut x y ∧ ¬ crossP p.1 p.2 (castP (min m o, max m o)).1 (castP (min m o, max m o)).2 := by
  have h1 : p ∈ turnedL n cut x y := by
    rcases List.mem_cons.mp ((U.cutP C).mem_iff.mp hp) with e | e
    · exact absurd e hne
    · exact U.newP.mem_iff.mpr (List.mem_cons_of_mem _ e)
  exact ⟨h1, U.cut'.nocross (mem_ties.mpr (.inr h1)) (mem_ties.mpr (.inr (U.cut'.mem.mpr ⟨_, U.new_mem, rfl⟩)))⟩
end
end Pm
namespace Pm
inductive ND where
  | i (n : Int)
  | t (xs : List ND)
namespace ND
mutual
def of : PySem.PyData → ND
  | .int n => .i n
  | .tuple xs => .t (ofL xs)
  | .list _ => .i 0
  | .dict _ => .i 0
  | .none => .i 0
  | .bool _ => .i 0
  | .str _ => .i 0
def ofL : List PySem.PyData → List ND
  | [] => []
  | x :: xs => of x :: ofL xs
end
end ND
open PySem PySem.Spec PyProof.Rows L2
end Pm
namespace Pm
open PySem PySem.Spec PyProof.Rows L2
theorem gcd_turn (x y : Nat) (hy : 0 < y) : Nat.gcd y (x % y) = Nat.gcd x y := by
  rw [Nat.gcd_comm x y, Nat.gcd_rec y x, Nat.gcd_comm]
theorem gcd_abs (a b : Int) : Nat.gcd (if a < 0 then -a else a).natAbs (if b < 0 then -b else b).natAbs = Int.gcd a b := by
  unfold Int.gcd
  have e : ∀ c : Int, (if c < 0 then -c else c).natAbs = c.natAbs := fun c => by split <;> omega
  rw [e, e]
theorem div_pos_num {a b : Int} (h : 0 < b) : a / ((Int.gcd a b : Nat) : Int) = (Rat.divInt a b).num ∧ b / ((Int.gcd a b : Nat) : Int) = ((Rat.divInt a b).den : Int) := by
  rw [Rat.num_divInt, Rat.den_divInt, if_neg (by omega), Int.sign_eq_one_of_pos h, Int.one_mul, Int.gcd_comm b a]
  refine ⟨rfl, ?_⟩
  rw [Int.natCast_ediv]
  congr 1
  omega
theorem gcd_le_right {a b : Int} (h : 0 < b) : ((Int.gcd a b : Nat) : Int) ≤ b := Int.gcd_le_right a h
theorem gcd_pos {a b : Int} (h : b ≠ 0) : 0 < ((Int.gcd a b : Nat) : Int) := by
  have := Int.gcd_pos_of_ne_zero_right a h
  omega
/-- the size of a fraction -/
def rb (r : Rat) (n : Nat) : Prop := r.num.natAbs < 2 ^ n ∧ r.den < 2 ^ n
theorem rb.mono {r : Rat} {n m : Nat} (h : rb r n) (k : n ≤ m) : rb r m :=
  ⟨Nat.lt_of_lt_of_le h.1 (Nat.pow_le_pow_right (by decide) k), Nat.lt_of_lt_of_le h.2 (Nat.pow_le_pow_right (by decide) k)⟩
theorem rb_div {a b : Int} {n : Nat} (hb : b ≠ 0) (h1 : a.natAbs < 2 ^ n) (h2 : b.natAbs < 2 ^ n) : rb (Rat.divInt a b) n := by
  have hg : 0 < Int.gcd b a := Int.gcd_pos_of_ne_zero_left a hb
  constructor
  · rw [Rat.num_divInt]
    refine Nat.lt_of_le_of_lt ?_ h1
    have e : (b.sign * a).natAbs ≤ a.natAbs := by
      rw [Int.natAbs_mul]
      have := Int.natAbs_sign_of_ne_zero hb
      rw [this, Nat.one_mul]
      exact Nat.le_refl _
    refine Nat.le_trans ?_ e
    exact Int.natAbs_ediv_le_natAbs _ _
  · rw [Rat.den_divInt, if_neg hb]
    exact Nat.lt_of_le_of_lt (Nat.div_le_self _ _) h2
theorem wide_add {i j : Int} {a b : Nat} (ha : i.natAbs < 2 ^ a) (hb : j.natAbs < 2 ^ a) : (i + j).natAbs < 2 ^ (a + 1) := by
  have := Int.natAbs_add_le i j
  rw [Nat.pow_succ]
  omega
theorem wide_sub {i j : Int} {a : Nat} (ha : i.natAbs < 2 ^ a) (hb : j.natAbs < 2 ^ a) : (i - j).natAbs < 2 ^ (a + 1) := by
  rw [Nat.pow_succ]
  omega
theorem den_ne (r : Rat) : (r.den : Int) ≠ 0 := by have := r.den_nz; omega
theorem divInt_self' (r : Rat) : Rat.divInt r.num r.den = r := Rat.num_divInt_den r
theorem plus_is (x y : Rat) : Rat.divInt (x.num * y.den + y.num * x.den) (x.den * y.den) = x + y := by
  rw [← Rat.divInt_add_divInt _ _ (den_ne x) (den_ne y), divInt_self', divInt_self']
theorem less_is (x y : Rat) : Rat.divInt (x.num * y.den - y.num * x.den) (x.den * y.den) = x - y := by
  rw [← Rat.divInt_sub_divInt _ _ (den_ne x) (den_ne y), divInt_self', divInt_self']
theorem times_is (x y : Rat) : Rat.divInt (x.num * y.num) (x.den * y.den) = x * y := by
  rw [← Rat.divInt_mul_divInt, divInt_self', divInt_self']
theorem rb_pos {r : Rat} {n : Nat} (h : rb r n) : 0 < n := by
  rcases Nat.eq_zero_or_pos n with z | z
  · subst z
    have := h.2
    have := r.den_nz
    omega
  · exact z
theorem rb_den {r : Rat} {n : Nat} (h : rb r n) : (r.den : Int).natAbs < 2 ^ n := by have := h.2; omega
theorem den_mul (x y : Rat) : (x.den : Int) * (y.den : Int) ≠ 0 := Int.mul_ne_zero (den_ne x) (den_ne y)
theorem rb_add {x y : Rat} {n m : Nat} (h : rb x n) (k : rb y m) : rb (x + y) (n + m + 1) := by
  rw [← plus_is]
  refine rb_div (den_mul x y) (wide_add (b := 0) (wide_lt h.1 (rb_den k)) ?_) ?_
  · rw [Nat.add_comm n m]; exact wide_lt k.1 (rb_den h)
  · exact Nat.lt_of_lt_of_le (wide_lt (rb_den h) (rb_den k)) (Nat.pow_le_pow_right (by decide) (by omega))
theorem rb_sub {x y : Rat} {n m : Nat} (h : rb x n) (k : rb y m) : rb (x - y) (n + m + 1) := by
  rw [← less_is]
  refine rb_div (den_mul x y) (wide_sub (wide_lt h.1 (rb_den k)) ?_) ?_
  · rw [Nat.add_comm n m]; exact wide_lt k.1 (rb_den h)
  · exact Nat.lt_of_lt_of_le (wide_lt (rb_den h) (rb_den k)) (Nat.pow_le_pow_right (by decide) (by omega))
theorem rb_mul {x y : Rat} {n m : Nat} (h : rb x n) (k : rb y m) : rb (x * y) (n + m) := by
  rw [← times_is]
  exact rb_div (den_mul x y) (wide_lt h.1 k.1) (wide_lt (rb_den h) (rb_den k))
/-- a new tuple that is the fraction r -/
def FrNew (H : Hp) (r : Rat) (Q : VK) : Prop := ∀ (t : Addr) (H' : Hp), Same H H' → H t = none → H' t = some (.tup [.int r.num, .int r.den]) → Q (.ref t) H'
end Pm
namespace Pm
structure V2 where
  p : Rat
  q : Rat
def det (a b : V2) : Rat := a.p * b.q - b.p * a.q
theorem det_self (a : V2) : det a a = 0 := by unfold det; grind
theorem rat_pos_of_mul {a b : Rat} (hb : 0 < b) (h : 0 < a * b) : 0 < a := by
  by_cases z : 0 < a
  · exact z
  · have z1 : a ≤ 0 := by grind
    have z2 : 0 ≤ -a := by grind
    have := Rat.mul_nonneg z2 (show (0 : Rat) ≤ b by grind)
    grind
theorem rat_div_pos {a b : Rat} (h : 0 < a) (k : 0 < b) : 0 < a / b := by
  refine rat_pos_of_mul k ?_
  have : a / b * b = a := by grind
  rw [this]; exact h
abbrev Len := Nat × Nat → Rat
namespace Tr
def Stood (t : Tr) (lo : Nat) (L : Len) (S : Nat → V2) : Prop := ∀ p ∈ t.all lo, det (S p.1) (S p.2) = L p
def Pos (t : Tr) (lo : Nat) (L : Len) : Prop := ∀ p ∈ t.all lo, 0 < L p
end Tr
structure Meas (n : Nat) (t : Tr) (L : Len) (D : Nat → Nat → Rat) : Prop where
  w : t.w + 1 = n
  pos : t.Pos 0 L
  ex : ∃ S, t.Stood 0 L S ∧ ∀ i k, i < n → k < n → D i k = det (S i) (S k)
section
variable {n : Nat} {t : Tr} {L : Len} {D : Nat → Nat → Rat}
theorem Meas.self (M : Meas n t L D) {i : Nat} (hi : i < n) : D i i = 0 := by
  obtain ⟨S, h1, h2⟩ := M.ex
  rw [h2 i i hi hi, det_self]
end
structure Bd (n : Nat) (D : Nat → Nat → Rat) (F : Nat) (B : Nat) : Prop where
  f0 : 0 < F
  fb : F < 2 ^ B
  all : ∀ i k, i < n → k < n → ∃ z : Int, D i k * F = z ∧ z.natAbs < 2 ^ B
theorem rat_of_mul {x : Rat} {F : Nat} {z : Int} (f0 : 0 < F) (h : x * F = z) : x = Rat.divInt z F := by
  rw [Rat.divInt_eq_div]
  have : (F : Rat) ≠ 0 := by
    intro e
    have : (F : Rat) = ((0 : Nat) : Rat) := by rw [e]; rfl
    have := Rat.natCast_inj.mp this
    omega
  have e2 : ((F : Int) : Rat) = (F : Rat) := rfl
  rw [e2, ← h]
  grind
theorem Bd.rb {n : Nat} {D : Nat → Nat → Rat} {F B : Nat} (h : Bd n D F B) {i k : Nat} (hi : i < n) (hk : k < n) : rb (D i k) B := by
  obtain ⟨z, h1, h2⟩ := h.all i k hi hk
  rw [rat_of_mul h.f0 h1]
  have := h.fb
  exact rb_div (by have := h.f0; omega) h2 (by omega)
end Pm
namespace Pm
open PySem PySem.Spec PyProof.Rows L2
/-- a pair as a key -/
def kk (p : IP) : List L2.Key := [.inl p.1, .inl p.2]
end Pm
namespace Pm
open PySem PySem.Spec PyProof.Rows L2
/-- a pair of numbers: tracked, or written in the top -/
def FrV (K : PySem.W.Frag) (H : Hp) (v : V) (p : IP) : Prop := ∃ t, v = .ref t ∧ (H t = some (.tup [.int p.1, .int p.2]) ∨ ∀ H', SqT K H' t [.int p.1, .int p.2])
section
variable {K : PySem.W.Frag} {H H' : Hp} {v : V} {p q : IP}
theorem FrV.keep (k : Keeps H H') (h : FrV K H v p) : FrV K H' v p := by
  obtain ⟨t, e, h | h⟩ := h
  · exact ⟨t, e, .inl (k _ _ h)⟩
  · exact ⟨t, e, .inr h⟩
theorem FrV.tup {t : Addr} (h : FrV K H (.ref t) p) : SqT K H t [.int p.1, .int p.2] := by
  obtain ⟨t, e, h | h⟩ := h
  · cases e; exact SqT.of h
  · cases e; exact h H
theorem FrV.of (h : Pr H v p) : FrV K H v p := by
  obtain ⟨t, e, h⟩ := h
  exact ⟨t, e, .inl h⟩
theorem frv_mono (H H' : Hp) (v : V) (p : IP) (k : Keeps H H') (h : FrV K H v p) : FrV K H' v p := h.keep k
theorem FrV.dp (h : FrV K H v p) : Dp K H v (pD p) := by
  obtain ⟨t, rfl, h⟩ := h
  exact .tup (FrV.tup ⟨t, rfl, h⟩) (.cons (.int _) (.cons (.int _) .nil))
end
theorem w_eqFr {K : PySem.W.Frag} {H : Hp} {Q : VK} {v u : V} {p q : IP} (h1 : FrV K H v p) (h2 : FrV K H u q) (h : Q (.bl (decide (p = q))) H) : rEqD K v u H Q :=
  ⟨_, _, h1.dp, h2.dp, shaped_pD _, shaped_pD _, by rw [eqv_pD]; exact h⟩
theorem w_neFr {K : PySem.W.Frag} {H : Hp} {Q : VK} {v u : V} {p q : IP} (h1 : FrV K H v p) (h2 : FrV K H u q) (h : Q (.bl (!decide (p = q))) H) : rNeD K v u H Q :=
  ⟨_, _, h1.dp, h2.dp, shaped_pD _, shaped_pD _, by rw [eqv_pD]; exact h⟩
/-- the fraction as a pair -/
def rp (r : Rat) : IP := (r.num, (r.den : Int))
theorem rp_inj {r s : Rat} (h : rp r = rp s) : r = s := by
  unfold rp at h
  injection h with h1 h2
  exact Rat.ext h1 (by omega)
def En (K : PySem.W.Frag) (H : Hp) (L : IP → IP) (e : List L2.Key × V) (k : IP) : Prop := e.1 = kk k ∧ FrV K H e.2 (L k)
/-- the dict at d: its keys in order, and what each holds -/
structure LD (K : PySem.W.Frag) (H : Hp) (d : Addr) (ks : List IP) (L : IP → IP) : Prop where
  nd : ks.Nodup
  ex : ∃ es, H d = some (.dT es) ∧ All2 (En K H L) es ks
section
variable {K : PySem.W.Frag} {H H' : Hp} {L : IP → IP}
theorem ens_keep (k : Keeps H H') {es : List (List L2.Key × V)} {ks : List IP} (h : All2 (En K H L) es ks) : All2 (En K H' L) es ks := h.mono fun _ _ q => ⟨q.1, q.2.keep k⟩
end
section
variable {K : PySem.W.Frag} {H H' : Hp} {d b : Addr} {ks : List IP} {L : IP → IP} {k : IP} {Q : VK} {nx : L2.St → Hp → Prop} {σ : L2.St}
theorem LD.same (h : LD K H d ks L) (s : Same H H') : LD K H' d ks L := by
  obtain ⟨n, es, h1, h2⟩ := h
  exact ⟨n, es, s _ _ h1, ens_keep (keeps s) h2⟩
theorem LD.keep {o : HO} (h : LD K H d ks L) (k : Keeps H H') (e : H' d = H d) : LD K H' d ks L := by
  obtain ⟨n, es, h1, h2⟩ := h
  exact ⟨n, es, by rw [e]; exact h1, ens_keep k h2⟩
end
end Pm
namespace Pm
open PySem PySem.Spec PyProof.Rows L2
theorem FrV.rat {K : PySem.W.Frag} {H : Hp} {t : Addr} {r : Rat} (h : FrV K H (.ref t) (rp r)) : SqT K H t [.int r.num, .int r.den] := h.tup
theorem frv_new {K : PySem.W.Frag} {H : Hp} {t : Addr} {r : Rat} (h : H t = some (.tup [.int r.num, .int r.den])) : FrV K H (.ref t) (rp r) := ⟨t, rfl, .inl h⟩
/-- a pair of fractions -/
def PrV (K : PySem.W.Frag) (H : Hp) (v : V) (s : V2) : Prop := ∃ t u w, v = .ref t ∧ H t = some (.tup [.ref u, .ref w]) ∧ FrV K H (.ref u) (rp s.p) ∧ FrV K H (.ref w) (rp s.q)
section
variable {K : PySem.W.Frag} {H H' : Hp}
theorem PrV.keep (k : Keeps H H') {v : V} {s : V2} (h : PrV K H v s) : PrV K H' v s := by
  obtain ⟨t, u, w, e, h1, h2, h3⟩ := h
  exact ⟨t, u, w, e, k _ _ h1, h2.keep k, h3.keep k⟩
theorem prv_mono (H H' : Hp) (v : V) (s : V2) (k : Keeps H H') (h : PrV K H v s) : PrV K H' v s := h.keep k
end
def SEn (K : PySem.W.Frag) (H : Hp) (S : Nat → V2) (e : L2.Key × V) (i : Nat) : Prop := e.1 = .inl (i : Int) ∧ PrV K H e.2 (S i)
structure SD (K : PySem.W.Frag) (H : Hp) (d : Addr) (ks : List Nat) (S : Nat → V2) : Prop where
  nd : ks.Nodup
  ex : ∃ es, H d = some (.dK es) ∧ All2 (SEn K H S) es ks
section
variable {K : PySem.W.Frag} {H H' : Hp} {S : Nat → V2}
theorem sens_keep (k : Keeps H H') {es : List (L2.Key × V)} {ks : List Nat} (h : All2 (SEn K H S) es ks) : All2 (SEn K H' S) es ks := h.mono fun _ _ q => ⟨q.1, q.2.keep k⟩
end
section
variable {K : PySem.W.Frag} {H H' : Hp} {d : Addr} {ks : List Nat} {S : Nat → V2} {k : Nat} {Q : VK} {nx : L2.St → Hp → Prop} {σ : L2.St}
theorem SD.same (h : SD K H d ks S) (s : Same H H') : SD K H' d ks S := by
  obtain ⟨n, es, h1, h2⟩ := h
  exact ⟨n, es, s _ _ h1, sens_keep (keeps s) h2⟩
end
theorem w_pairs {tk tv : TE} {r : List (TE × TE)} {σ : L2.St} {H : Hp} {R : List (V × V) → Hp → Prop} (h : tk σ H fun x H1 => tv σ H1 fun y H2 => tPairs r σ H2 fun ps H3 => R ((x, y) :: ps) H3) : tPairs ((tk, tv) :: r) σ H R := h
theorem w_pairs0 {σ : L2.St} {H : Hp} {R : List (V × V) → Hp → Prop} (h : R [] H) : tPairs [] σ H R := h
structure LenD (K : PySem.W.Frag) (H : Hp) (d : Addr) (t : Tr) (D : Nat → Nat → Rat) : Prop where
  ex : ∃ ks L, LD K H d ks L ∧ (∀ p, p ∈ ks ↔ ∃ q, q ∈ t.all 0 ∧ p = castP q) ∧ ∀ q ∈ t.all 0, L (castP q) = rp (D q.1 q.2)
theorem LenD.same {K : PySem.W.Frag} {H H' : Hp} {d : Addr} {t : Tr} {D : Nat → Nat → Rat} (h : LenD K H d t D) (s : Same H H') : LenD K H' d t D := by
  obtain ⟨ks, L, h1, h2⟩ := h
  exact ⟨ks, L, h1.same s, h2⟩
end Pm
namespace Pm
def vb (v : V2) (E B : Nat) : Prop := ∃ x y : Int, v.p * E = x ∧ v.q * E = y ∧ x.natAbs ≤ B ∧ y.natAbs ≤ B
theorem vb.mono {v : V2} {E B C : Nat} (h : vb v E B) (k : B ≤ C) : vb v E C := by
  obtain ⟨x, y, h1, h2, h3, h4⟩ := h
  exact ⟨x, y, h1, h2, by omega, by omega⟩
/-- a length above nought with a small top and bottom -/
def szd (r : Rat) (N M : Nat) : Prop := 0 < r ∧ r.num.natAbs ≤ N ∧ r.den ≤ M
theorem pos_num {r : Rat} (h : 0 < r) : 0 < r.num := by
  have h1 := Rat.num_nonneg.mpr (show 0 ≤ r by grind)
  have h2 : r.num ≠ 0 := fun z => by rw [Rat.num_eq_zero.mp z] at h; exact absurd h (by grind)
  omega
end Pm
namespace Pm
open PySem PySem.Spec PyProof.Rows L2
/-- a row: a list of pairs -/
def Row (K : PySem.W.Frag) (H : Hp) (a : Addr) (row : List IP) : Prop := ∃ vs, H a = some (.lst vs) ∧ All2 (FrV K H) vs row
structure Tb (K : PySem.W.Frag) (H : Hp) (l : Addr) (as : List Addr) (R : List (List IP)) : Prop where
  top : H l = some (.lst (as.map V.ref))
  nd : as.Nodup
  out : l ∉ as
  rows : All2 (Row K H) as R
section
variable {K : PySem.W.Frag} {H H' : Hp} {l : Addr} {as : List Addr} {R : List (List IP)}
theorem frvs_keep (k : Keeps H H') {vs : List V} {row : List IP} (h : All2 (FrV K H) vs row) : All2 (FrV K H') vs row := h.mono fun _ _ q => q.keep k
theorem Row.same {a : Addr} {row : List IP} (h : Row K H a row) (s : Same H H') : Row K H' a row := by
  obtain ⟨vs, h1, h2⟩ := h
  exact ⟨vs, s _ _ h1, frvs_keep (keeps s) h2⟩
theorem Row.keep {a : Addr} {row : List IP} (h : Row K H a row) (k : Keeps H H') (e : H' a = H a) : Row K H' a row := by
  obtain ⟨vs, h1, h2⟩ := h
  exact ⟨vs, by rw [e]; exact h1, frvs_keep k h2⟩
theorem Tb.same (h : Tb K H l as R) (s : Same H H') : Tb K H' l as R := ⟨s _ _ h.top, h.nd, h.out, h.rows.mono fun _ _ q => q.same s⟩
theorem Tb.len (h : Tb K H l as R) : as.length = R.length := h.rows.length
theorem nodup_get {α : Type} : ∀ {l : List α} {i j : Nat} {x : α}, l.Nodup → l[i]? = some x → l[j]? = some x → i = j
  | [], i, j, x, _, h, _ => by simp at h
  | y :: l, 0, 0, x, _, _, _ => rfl
  | y :: l, 0, j + 1, x, n, h, k => by
    simp only [List.getElem?_cons_zero, Option.some.injEq, List.getElem?_cons_succ] at h k
    subst h
    exact absurd (List.mem_of_getElem? k) (List.nodup_cons.mp n).1
  | y :: l, i + 1, 0, x, n, h, k => by
    simp only [List.getElem?_cons_zero, Option.some.injEq, List.getElem?_cons_succ] at h k
    subst k
    exact absurd (List.mem_of_getElem? h) (List.nodup_cons.mp n).1
  | y :: l, i + 1, j + 1, x, n, h, k => by
    simp only [List.getElem?_cons_succ] at h k
    rw [nodup_get (List.nodup_cons.mp n).2 h k]
theorem all2_of_get {α β : Type} {P : α → β → Prop} : ∀ {xs : List α} {ys : List β}, xs.length = ys.length → (∀ (i : Nat) (x : α) (y : β), xs[i]? = some x → ys[i]? = some y → P x y) → All2 P xs ys
  | [], [], _, _ => trivial
  | x :: xs, [], h, _ => by simp at h
  | [], y :: ys, h, _ => by simp at h
  | x :: xs, y :: ys, h, f => ⟨f 0 x y rfl rfl, all2_of_get (by simpa using h) fun i a b ha hb => f (i + 1) a b (by simpa using ha) (by simpa using hb)⟩
theorem Tb.row (h : Tb K H l as R) {i : Nat} {row : List IP} (e : R[i]? = some row) : ∃ a vs, as[i]? = some a ∧ H a = some (.lst vs) ∧ All2 (FrV K H) vs row := by
  obtain ⟨a, ha, vs, h1, h2⟩ := h.rows.get' e
  exact ⟨a, vs, ha, h1, h2⟩
/-- a place of a table set -/
theorem Tb.put (h : Tb K H l as R) {i k : Nat} {a : Addr} {vs : List V} {row : List IP} {v : V} {p : IP} (e : R[i]? = some row) (ha : as[i]? = some a) (hv : H a = some (.lst vs)) (hr : All2 (FrV K H) vs row) (fv : FrV K H v p) :
    Tb K (upd H a (.lst (vs.set k v))) l as (R.set i (row.set k p)) := by
  have kp : Keeps H (upd H a (.lst (vs.set k v))) := keeps_lst hv
  have ma : a ∈ as := List.mem_of_getElem? ha
  have nl : l ≠ a := fun z => h.out (by rw [z]; exact ma)
  refine ⟨by rw [upd_ne nl]; exact h.top, h.nd, h.out, all2_of_get (by rw [List.length_set]; exact h.len) fun j b r hb hrj => ?_⟩
  by_cases z : j = i
  · subst z
    rw [ha] at hb
    cases hb
    have el : j < R.length := (List.getElem?_eq_some_iff.mp e).1
    rw [List.getElem?_set_self el] at hrj
    cases hrj
    exact ⟨_, upd_same, frvs_keep kp (hr.set k fv)⟩
  · rw [List.getElem?_set_ne (fun q => z q.symm)] at hrj
    obtain ⟨r', hr', q⟩ := h.rows.get hb
    rw [hrj] at hr'
    cases hr'
    exact q.keep kp (upd_ne fun q : b = a => z (nodup_get h.nd hb (by rw [q]; exact ha)))
end
/-- a square of n rows -/
def mat (n : Nat) (g : Nat → Nat → IP) : List (List IP) := (List.range n).map fun i => (List.range n).map fun k => g i k
theorem mat_row {n i : Nat} {g : Nat → Nat → IP} (h : i < n) : (mat n g)[i]? = some ((List.range n).map fun k => g i k) := by
  unfold mat
  rw [List.getElem?_map, List.getElem?_range h]
  rfl
theorem mat_len (n : Nat) (g : Nat → Nat → IP) : (mat n g).length = n := by unfold mat; rw [List.length_map, List.length_range]
theorem mat_congr {n : Nat} {g g' : Nat → Nat → IP} (h : ∀ i k, i < n → k < n → g i k = g' i k) : mat n g = mat n g' := by
  unfold mat
  refine List.map_congr_left fun i hi => List.map_congr_left fun k hk => ?_
  exact h i k (List.mem_range.mp hi) (List.mem_range.mp hk)
theorem map_set_range {n k : Nat} {f : Nat → IP} {p : IP} : ((List.range n).map f).set k p = (List.range n).map fun j => if j = k then p else f j := by
  refine List.ext_getElem? fun j => ?_
  by_cases z : j < n
  · rw [List.getElem?_map, List.getElem?_range z]
    by_cases e : j = k
    · subst e
      rw [List.getElem?_set_self (by rw [List.length_map, List.length_range]; exact z)]
      simp
    · rw [List.getElem?_set_ne (fun q => e q.symm), List.getElem?_map, List.getElem?_range z]
      simp [e]
  · rw [List.getElem?_eq_none (by rw [List.length_set, List.length_map, List.length_range]; omega), List.getElem?_eq_none (by rw [List.length_map, List.length_range]; omega)]
theorem mat_set {n i k : Nat} {g : Nat → Nat → IP} {p : IP} (hi : i < n) : (mat n g).set i (((List.range n).map fun j => g i j).set k p) = mat n fun x y => if x = i ∧ y = k then p else g x y := by
  rw [map_set_range]
  refine List.ext_getElem? fun j => ?_
  by_cases z : j < n
  · rw [mat_row z]
    by_cases e : j = i
    · subst e
      rw [List.getElem?_set_self (by rw [mat_len]; exact z)]
      simp
    · rw [List.getElem?_set_ne (fun q => e q.symm), mat_row z]
      simp [e]
  · rw [List.getElem?_eq_none (by rw [List.length_set, mat_len]; omega), List.getElem?_eq_none (by rw [mat_len]; omega)]
section
variable {K : PySem.W.Frag} {H : Hp} {Q : VK} {l : Addr} {as : List Addr} {n i k : Nat} {g : Nat → Nat → IP}
/-- rows[i] -/
theorem w_tbRow (h : Tb K H l as (mat n g)) (hi : i < n) {j : Int} (ej : j = (i : Int)) (q : ∀ a vs, as[i]? = some a → H a = some (.lst vs) → All2 (FrV K H) vs ((List.range n).map fun k => g i k) → Q (.ref a) H) : rIxL K (.ref l) (.int j) H Q := by
  obtain ⟨a, vs, ha, h1, h2⟩ := h.row (mat_row hi)
  subst ej
  refine w_ixL (v := .ref a) (SqL.of h.top) (atI_nat ?_) (q a vs ha h1 h2)
  rw [List.getElem?_map, ha]; rfl
/-- row[k] -/
theorem w_rowAt {a : Addr} {vs : List V} {f : Nat → IP} (h1 : H a = some (.lst vs)) (h2 : All2 (FrV K H) vs ((List.range n).map f)) (hk : k < n) {j : Int} (ej : j = (k : Int)) (q : ∀ t, FrV K H (.ref t) (f k) → Q (.ref t) H) : rIxL K (.ref a) (.int j) H Q := by
  have e : ((List.range n).map f)[k]? = some (f k) := by rw [List.getElem?_map, List.getElem?_range hk]; rfl
  obtain ⟨v, hv, t, rfl, ht⟩ := h2.get' e
  subst ej
  exact w_ixL (v := .ref t) (SqL.of h1) (atI_nat hv) (q t ⟨t, rfl, ht⟩)
end
/-- a new table -/
def TbNew (K : PySem.W.Frag) (H : Hp) (R : List (List IP)) (Q : VK) : Prop := ∀ (l : Addr) (H' : Hp) (as : List Addr), Same H H' → H l = none → (∀ a ∈ as, H a = none) → Tb K H' l as R → Q (.ref l) H'
/-- the table of pairs -/
def sprd (S : Nat → V2) (i k : Nat) : IP := rp (if i = k then 0 else det (S (min i k)) (S (max i k)))
structure RowsAt (K : PySem.W.Frag) (H0 H : Hp) (D : Addr) (f : Nat → List IP) (i : Nat) (as : List Addr) : Prop where
  same : Same H0 H
  top : H D = some (.lst (as.map V.ref))
  nd : as.Nodup
  out : D ∉ as
  fresh : ∀ a ∈ as, H0 a = none
  rows : All2 (Row K H) as ((List.range i).map f)
theorem RowsAt.put {K : PySem.W.Frag} {H0 H1 H2 : Hp} {D r : Addr} {f : Nat → List IP} {i : Nat} {as : List Addr} (h : RowsAt K H0 H1 D f i as) (hD : H0 D = none) (s : Same H1 H2) (nr : H1 r = none) (hr : Row K H2 r (f i)) : RowsAt K H0 (upd H2 D (.lst (as.map V.ref ++ [.ref r]))) D f (i + 1) (as ++ [r]) := by
  have top2 := s _ _ h.top
  have kp : Keeps H2 (upd H2 D (.lst (as.map V.ref ++ [.ref r]))) := keeps_lst top2
  have nD : r ≠ D := (ne_of_none h.top nr).symm
  have na : r ∉ as := fun z => by
    obtain ⟨row, _, vs, e, _⟩ := h.rows.mem z
    rw [nr] at e
    cases e
  refine ⟨same_but hD (h.same.trans s), by rw [upd_same, List.map_append]; rfl, ?_, ?_, ?_, ?_⟩
  · rw [List.nodup_append]
    exact ⟨h.nd, by simp, fun a ha b hb => by rw [List.mem_singleton.mp hb]; rintro rfl; exact na ha⟩
  · intro z
    rcases List.mem_append.mp z with z | z
    · exact h.out z
    · exact nD (List.mem_singleton.mp z).symm
  · intro a ha
    rcases List.mem_append.mp ha with z | z
    · exact h.fresh a z
    · rw [List.mem_singleton.mp z]; exact h.same.free nr
  · rw [List.range_succ, List.map_append]
    refine All2.append ?_ ⟨hr.keep kp (upd_ne nD), trivial⟩
    refine all2_of_get (by have := h.rows.length; exact this) fun j b row hb hrow => ?_
    obtain ⟨row', e', q⟩ := h.rows.get hb
    rw [hrow] at e'
    cases e'
    have nb : b ≠ D := fun z => h.out (by rw [← z]; exact List.mem_of_getElem? hb)
    exact (q.same s).keep kp (upd_ne nb)
section
variable {K : PySem.W.Frag} {H : Hp} {Q : VK} {σ : L2.St} {vs : List Nat} {g : TG} {tt : TT} {te : TE}
theorem w_lcRowsL {a : Addr} {xs : List V} (hl : SqL K H a xs) (f : Nat → List IP) (hx : xs.length < 1000000)
    (step : ∀ D i x H1 Nx, H D = none → xs[i]? = some x → Same H H1 → (∀ r H2, Same H1 H2 → H1 r = none → Row K H2 r (f i) → LcPut D Nx (.ref r) H2) → g x (wipe σ vs) H1 (LcTurn tt te vs σ D Nx))
    (done : ∀ D H1 as, H D = none → Same H H1 → (∀ a ∈ as, H a = none) → Tb K H1 D as ((List.range xs.length).map f) → Q (.ref D) H1) : LcB g tt te vs σ Q (Itl K a) H := by
  refine w_lcL (xs := xs) fun D hD => ⟨fun i H1 => ∃ as, RowsAt K H H1 D f i as, ?_, ?_, ?_, ?_⟩
  · exact ⟨[], same_new hD _, upd_same, List.nodup_nil, List.not_mem_nil, (fun _ h => nomatch h), trivial⟩
  · rintro i H1 _ ⟨as, h⟩
    exact h.same.seq hl
  · rintro i x H1 hi ⟨as, h⟩
    refine step D i x H1 _ hD hi h.same fun r H2 s nr hr => ?_
    have la : as.length = i := by have := h.rows.length; rw [List.length_map, List.length_range] at this; exact this
    have li : i < xs.length := (List.getElem?_eq_some_iff.mp hi).1
    exact w_put (s _ _ h.top) (size_lt (by rw [List.length_map]; omega)) ⟨_, h.put hD s nr hr⟩
  · rintro H1 ⟨as, h⟩
    exact done D H1 as hD h.same h.fresh ⟨h.top, h.nd, h.out, h.rows⟩
theorem w_lcRowsR {lo : Int} {n : Nat} (f : Nat → List IP) (hx : n < 1000000)
    (step : ∀ D i H1 Nx, H D = none → i < n → Same H H1 → (∀ r H2, Same H1 H2 → H1 r = none → Row K H2 r (f i) → LcPut D Nx (.ref r) H2) → g (.int (lo + (i : Nat))) (wipe σ vs) H1 (LcTurn tt te vs σ D Nx))
    (done : ∀ D H1 as, H D = none → Same H H1 → (∀ a ∈ as, H a = none) → Tb K H1 D as ((List.range n).map f) → Q (.ref D) H1) : LcB g tt te vs σ Q (Itr lo n) H := by
  refine w_lcR fun D hD => ⟨fun i H1 => ∃ as, RowsAt K H H1 D f i as, ?_, ?_, ?_⟩
  · exact ⟨[], same_new hD _, upd_same, List.nodup_nil, List.not_mem_nil, (fun _ h => nomatch h), trivial⟩
  · rintro i H1 hi ⟨as, h⟩
    refine step D i H1 _ hD hi h.same fun r H2 s nr hr => ?_
    have la : as.length = i := by have := h.rows.length; rw [List.length_map, List.length_range] at this; exact this
    exact w_put (s _ _ h.top) (size_lt (by rw [List.length_map]; omega)) ⟨_, h.put hD s nr hr⟩
  · rintro H1 ⟨as, h⟩
    exact done D H1 as hD h.same h.fresh ⟨h.top, h.nd, h.out, h.rows⟩
end
/-- what is set once all pairs below k, and those of k with less than i, are -/
def fil (S : Nat → V2) (k i x y : Nat) : IP := rp (if x ≠ y ∧ (max x y < k ∨ (max x y = k ∧ min x y < i)) then det (S (min x y)) (S (max x y)) else 0)
theorem fil_zero (S : Nat → V2) (x y : Nat) : fil S 0 0 x y = rp 0 := by
  unfold fil
  rw [if_neg (by omega)]
theorem fil_next (S : Nat → V2) (k x y : Nat) : fil S k k x y = fil S (k + 1) 0 x y := by
  unfold fil
  congr 1
  by_cases h : x ≠ y ∧ (max x y < k ∨ (max x y = k ∧ min x y < k))
  · rw [if_pos h, if_pos (by omega)]
  · rw [if_neg h, if_neg (by omega)]
theorem fil_set (S : Nat → V2) {k i : Nat} (h : i < k) (x y : Nat) : (if x = k ∧ y = i then rp (det (S i) (S k)) else if x = i ∧ y = k then rp (det (S i) (S k)) else fil S k i x y) = fil S k (i + 1) x y := by
  unfold fil
  by_cases h1 : x = k ∧ y = i
  · obtain ⟨rfl, rfl⟩ := h1
    rw [if_pos ⟨rfl, rfl⟩, if_pos (by omega), Nat.min_eq_right (by omega), Nat.max_eq_left (by omega)]
  · rw [if_neg h1]
    by_cases h2 : x = i ∧ y = k
    · obtain ⟨rfl, rfl⟩ := h2
      rw [if_pos ⟨rfl, rfl⟩, if_pos (by omega), Nat.min_eq_left (by omega), Nat.max_eq_right (by omega)]
    · rw [if_neg h2]
      congr 1
      by_cases h3 : x ≠ y ∧ (max x y < k ∨ (max x y = k ∧ min x y < i))
      · rw [if_pos h3, if_pos (by omega)]
      · rw [if_neg h3, if_neg (by omega)]
theorem fil_all (S : Nat → V2) {n x y : Nat} (hx : x < n) (hy : y < n) : fil S n 0 x y = sprd S x y := by
  unfold fil sprd
  congr 1
  by_cases h : x = y
  · rw [if_pos h, if_neg (by omega)]
  · rw [if_neg h, if_pos (by omega)]
theorem row_set {K : PySem.W.Frag} {H : Hp} {l a : Addr} {as : List Addr} {n i k : Nat} {g : Nat → Nat → IP} {vs : List V} {v : V} {p : IP} (h : Tb K H l as (mat n g)) (hi : i < n) (ha : as[i]? = some a) (hv : H a = some (.lst vs)) (hr : All2 (FrV K H) vs ((List.range n).map fun k => g i k)) (fv : FrV K H v p) :
    Tb K (upd H a (.lst (vs.set k v))) l as (mat n fun x y => if x = i ∧ y = k then p else g x y) := by
  have q := h.put (k := k) (mat_row hi) ha hv hr fv
  rw [mat_set hi] at q
  exact q
end Pm
namespace Pm
open PySem PySem.Spec PyProof.Rows L2
def rNotN : R2 := fun x y H Q => y = .non ∧ Q (.bl (!decide (x = .non))) H
def rIsN : R2 := fun x y H Q => y = .non ∧ Q (.bl (decide (x = .non))) H
theorem op_notNK {X : Cx} : OpR X (compareOp .IsNot) rNotN := op_notN
theorem op_isNK {X : Cx} : OpR X (compareOp .Is) rIsN := op_isN
section
variable {H : Hp} {Q : VK} {a : Addr}
theorem w_notN_ref (h : Q (.bl true) H) : rNotN (.ref a) .non H Q := ⟨rfl, h⟩
theorem w_notN_non (h : Q (.bl false) H) : rNotN .non .non H Q := ⟨rfl, h⟩
theorem w_isN_non (h : Q (.bl true) H) : rIsN .non .non H Q := ⟨rfl, h⟩
end
end Pm
namespace Pm
/-- lengths between n posts -/
structure GoodT (n : Nat) (G : Nat → Nat → Rat) (B : Nat) : Prop where
  self : ∀ i, i < n → G i i = 0
  pos : ∀ i k, i < n → k < n → i ≠ k → 0 < G i k
  sym : ∀ i k, i < n → k < n → G i k = G k i
  rb : ∀ i k, i < n → k < n → rb (G i k) B
def Rule4 (G : Nat → Nat → Rat) (a b c d : Nat) : Prop := G a c * G b d = G a b * G c d + G b c * G a d
instance (G : Nat → Nat → Rat) (a b c d : Nat) : Decidable (Rule4 G a b c d) := by unfold Rule4; infer_instance
def lex4 (a b c d a' b' c' d' : Nat) : Prop := a < a' ∨ (a = a' ∧ (b < b' ∨ (b = b' ∧ (c < c' ∨ (c = c' ∧ d < d')))))
def in4 (n a b c d : Nat) : Prop := a < b ∧ b < c ∧ c < d ∧ d < n
def Least4 (P : Nat → Nat → Nat → Nat → Prop) (n : Nat) : Option (Nat × Nat × Nat × Nat) → Prop
  | none => ∀ a b c d, in4 n a b c d → P a b c d
  | some q => in4 n q.1 q.2.1 q.2.2.1 q.2.2.2 ∧ ¬ P q.1 q.2.1 q.2.2.1 q.2.2.2 ∧ ∀ a b c d, in4 n a b c d → lex4 a b c d q.1 q.2.1 q.2.2.1 q.2.2.2 → P a b c d
/-- what four posts are told as -/
def Four (K : PySem.W.Frag) (H : L2.Hp) (v : L2.V) : Option (Nat × Nat × Nat × Nat) → Prop
  | none => v = .non
  | some q => ∃ t, v = .ref t ∧ H t = some (.tup [.int (q.1 : Int), .int (q.2.1 : Int), .int (q.2.2.1 : Int), .int (q.2.2.2 : Int)])
end Pm
namespace Pm
open PySem PySem.Spec PyProof.Rows L2
/-- the class at C stands in the written part as an exception class over ValueError -/
def oexB (K : PySem.W.Frag) (C : Addr) : Bool := match K.lookup C with
  | some ⟨.type "type", _, .cls cd, sl⟩ => (match cd.mro, sl.toList with
    | .ref C' :: bm, [_, _, _, _, some (.builtin n), _] => C' == C && (n == "ValueError.__new__" && (!cd.hasDel && (cd.hasDict && PySem.HandSPX.refsVE bm)))
    | _, _ => false)
  | _ => false
theorem oexC_of {K : PySem.W.Frag} {C : Addr} (h : oexB K C = true) (sa : PySem.W.findIn K (.ref C) "__setattr__" = some (some (.builtin "object.__setattr__"))) (exC : PySem.W.subIn K (.ref C) (.type "BaseException") = some true)
    (tyC : PySem.W.typeIn K (.ref C) = some (.type "type")) (kC : PySem.W.keepIn K (.ref C) = true) : OexC K C := by
  refine ⟨?_, sa, exC, tyC, kC⟩
  unfold oexB at h
  split at h
  · rename_i dd cd sl ho
    split at h
    · rename_i C' bm k0 k1 k2 k3 n k5 hm hs
      simp only [Bool.and_eq_true, beq_iff_eq, Bool.not_eq_true'] at h
      obtain ⟨rfl, rfl, hdel, hd, hr⟩ := h
      obtain ⟨nm, bs, mro, ns, qn, hdd, sn, sub, ab, col, del⟩ := cd
      dsimp only at hm hdel hd
      subst hm hdel hd
      have hsl : sl = #[k0, k1, k2, k3, some (.builtin "ValueError.__new__"), k5] := by
        obtain ⟨l⟩ := sl
        simp only at hs
        rw [hs]
      subst hsl
      exact ⟨nm, qn, ns, bs, bm, sn, sub, ab, col, dd, k0, k1, k2, k3, k5, ho, hr⟩
    · cases h
  · cases h
/-- an __init__ that stores its one argument -/
def spXi (K : PySem.W.Frag) (f : Str) : Sp := fun vs H Q _ => ∃ (a C : Addr) (y : V), vs = [.ref a, y] ∧ OexC K C ∧ PySem.W.findIn K (.ref C) f = some none ∧ H a = some (exo a C none) ∧ ∀ dx, H dx = none → dx ≠ a → Q .non (upd (upd H dx (exd dx [(f, y)])) a (exo a C (some dx)))
/-- C(y) raised, C's __init__ storing y at f -/
theorem w_raiseXi {K : PySem.W.Frag} {H : Hp} {C : Addr} {f : Str} {y : V} {E : XK} (T : OexC K C) (nf : PySem.W.findIn K (.ref C) f = some none) (q : ∀ d H', Same H H' → H d = none → H' d = some (.xd [(f, y)]) → E (.ref C) (some d) H') {a : Addr} (ha : H a = none) :
    spXi K f (.ref a :: ([y] ++ [])) (upd H a (exo a C none)) (fun v H2 => v = .non ∧ ∃ (d : Addr) (fs : List (Str × V)), H2 a = some (exo a C (some d)) ∧ H2 d = some (exd d fs) ∧ H d = none ∧ E (.ref C) (some d) (upd (del H2 a) d (.xd fs))) (fun _ _ _ => False) := by
  refine ⟨a, C, y, rfl, T, nf, upd_same, fun dx hdx ne => ⟨rfl, dx, [(f, y)], upd_same, by rw [upd_ne ne, upd_same], by rw [upd_ne ne] at hdx; exact hdx, ?_⟩⟩
  rw [upd_ne ne] at hdx
  refine q _ _ (fun b u hb => ?_) hdx upd_same
  have b1 : b ≠ a := ne_of_none hb ha
  have b2 : b ≠ dx := ne_of_none hb hdx
  rw [upd_ne b2, del_ne b1, upd_ne b1, upd_ne b2, upd_ne b1]
  exact hb
end Pm
namespace Pm
open PySem PySem.Spec PyProof.Rows L2
def rowD (r : List IP) : PyData := .list (r.map pD)
def tabD (R : List (List IP)) : PyData := .list (R.map rowD)
section
variable {K : PySem.W.Frag} {H : Hp} {Q : VK} {l m : Addr} {as bs : List Addr} {R R' : List (List IP)}
theorem frvs_dp : ∀ {row : List IP}, ∀ {vs : List V}, All2 (FrV K H) vs row → DpAll K H vs (row.map pD)
  | [], [], _ => .nil
  | _ :: _, _ :: _, h => .cons h.1.dp (frvs_dp h.2)
  | [], _ :: _, h => nomatch h
  | _ :: _, [], h => nomatch h
theorem rows_dp : ∀ {R : List (List IP)} {as : List Addr}, All2 (Row K H) as R → DpAll K H (as.map V.ref) (R.map rowD)
  | [], [], _ => .nil
  | _ :: _, _ :: _, h => by
    obtain ⟨vs, h1, h2⟩ := h.1
    exact .cons (.lst (SqL.of h1) (frvs_dp h2)) (rows_dp h.2)
  | [], _ :: _, h => nomatch h
  | _ :: _, [], h => nomatch h
theorem Tb.dp (h : Tb K H l as R) : Dp K H (.ref l) (tabD R) := .lst (SqL.of h.top) (rows_dp h.rows)
end
end Pm
namespace Pm
open PySem PySem.Spec PyProof.Rows L2
/-- the Hook's facts, and Bools of one's own -/
def obsP (n : Nat) (fa : List He.Fa) (fn : List He.FnD) (ex : PySem.W.Frag → List Bool) (g : Addr → Option Obj) : He.Al :=
  ((He.obsE fa fn (He.frG g (He.asG g n))).1 && (ex (He.frG g (He.asG g n))).all id, (He.obsE fa fn (He.frG g (He.asG g n))).2)
/-- what the end leans on -/
structure SaysP (fa : List He.Fa) (fn : List He.FnD) (ex : PySem.W.Frag → List Bool) (K : PySem.W.Frag) : Prop where
  e : He.SaysE fa fn K
  x : (ex K).all id = true
theorem saysP_of {fa : List He.Fa} {fn : List He.FnD} {ex : PySem.W.Frag → List Bool} {K : PySem.W.Frag} (h : ((He.obsE fa fn K).1 && (ex K).all id, (He.obsE fa fn K).2) = He.valE fn) : SaysP fa fn ex K := by
  have h1 : ((He.obsE fa fn K).1 && (ex K).all id) = true := congrArg Prod.fst h
  have h2 : (He.obsE fa fn K).2 = (He.valE fn).2 := by have z := congrArg Prod.snd h; exact z
  obtain ⟨a, b⟩ := Bool.and_eq_true_iff.mp h1
  exact ⟨Prod.ext a h2, b⟩
def hookP (n : Nat) (fa : List He.Fa) (fn : List He.FnD) (ex : PySem.W.Frag → List Bool) : PySem.W.Hook where
  α := He.Al
  obs := fun s => obsP n fa fn ex s.heap.get?
  val := fun _ => He.valE fn
  says := fun _ h => ∃ K : PySem.W.Frag, K.In h ∧ SaysP fa fn ex K
  of := fun _ _ e => ⟨_, He.frG_in, saysP_of e⟩
  keeps := fun _ _ _ ⟨K, hK, c⟩ k => ⟨K, PySem.W.Frag.In.keeps hK k, c⟩
theorem obsP_eq {n : Nat} {fa : List He.Fa} {fn : List He.FnD} {ex : PySem.W.Frag → List Bool} {g : Addr → Option Obj} {s : Shared} (h : ∀ a, g a = s.heap.get? a) : obsP n fa fn ex g = (hookP n fa fn ex).obs s := by
  have e : g = s.heap.get? := funext h
  rw [e] <;> rfl
section
variable {fa : List He.Fa} {fn : List He.FnD} {ex : PySem.W.Frag → List Bool} {K : PySem.W.Frag}
theorem SaysP.b (c : SaysP fa fn ex K) (i : Nat) {b : Bool} (h : (ex K)[i]? = some b) : b = true := List.all_eq_true.mp c.x b (List.mem_of_getElem? h)
theorem SaysP.d (c : SaysP fa fn ex K) (i : Nat) {p : Prop} [Decidable p] (h : (ex K)[i]? = some (decide p)) : p := of_decide_eq_true (c.b i h)
/-- a def of the top -/
theorem SaysP.def_ {D : He.FnD} (c : SaysP fa fn ex K) (i : Nat) (h : fn[i]? = some D) : ∃ oc od osl kV doc pm an cdv ct, K.lookup (He.fAd K D.at_) = some ⟨oc, od, .func (PySem.W.fnOf D.name D.qual D.params D.body D.scope .none kV doc pm an cdv ct), osl⟩ ∧ PySem.W.codeIn K cdv D.qual = true := c.e.def_ i h
end
end Pm
local macro_rules | `(tactic| walk_at "s1") => `(tactic| with_reducible refine Pm.w_iteN0 ?_)
local macro_rules | `(tactic| walk_at "s1") => `(tactic| with_reducible refine Pm.w_iteN1 ?_)
local macro_rules | `(tactic| walk_at "s1") => `(tactic| with_reducible refine Pm.w_iteF ?_)
local macro_rules | `(tactic| walk_at "s1") => `(tactic| with_reducible refine Pm.w_iteT ?_)
local macro_rules | `(tactic| walk_at "s1") => `(tactic| with_reducible refine Pm.w_makeX ?_)
local macro_rules | `(tactic| walk_at "s1") => `(tactic| with_reducible refine Pm.w_make ?_)
local macro_rules | `(tactic| walk_at "s1") => `(tactic| with_reducible refine Pm.w_methX ?_)
local macro_rules | `(tactic| walk_at "s1") => `(tactic| with_reducible refine Pm.w_sfld ?_)
local macro_rules | `(tactic| walk_at "s1") => `(tactic| with_reducible refine Pm.w_nes ?_)
local macro_rules | `(tactic| walk_at "s1") => `(tactic| with_reducible refine Pm.w_yes ?_)
local macro_rules | `(tactic| walk_at "s1") => `(tactic| with_reducible refine Pm.w_partK ?_)
local macro_rules | `(tactic| walk_at "s1") => `(tactic| with_reducible refine Pm.w_part ?_)
local macro_rules | `(tactic| walk_at "s1") => `(tactic| with_reducible refine Pm.w_noPart ?_)
local macro_rules | `(tactic| walk_at "s1") => `(tactic| with_reducible refine Pm.w_sl ?_)
local macro_rules | `(tactic| walk_at "s1") => `(tactic| with_reducible refine Pm.w_int1 ?_)
local macro_rules | `(tactic| walk_at "s1") => `(tactic| with_reducible refine Pm.w_dget ?_)
local macro_rules | `(tactic| walk_at "s1") => `(tactic| with_reducible refine Pm.w_dnotin ?_)
local macro_rules | `(tactic| walk_at "s1") => `(tactic| with_reducible refine Pm.w_din ?_)
local macro_rules | `(tactic| walk_at "s1") => `(tactic| with_reducible refine Pm.w_pairs0 ?_)
local macro_rules | `(tactic| walk_at "s1") => `(tactic| with_reducible refine Pm.w_pairs ?_)
local macro_rules | `(tactic| walk_at "s1") => `(tactic| ((with_reducible refine Pm.w_rg2 ?_ ?_); (refine ⟨⟨?_, ?_⟩, ?_, ?_⟩ <;> omega)))
local macro_rules | `(tactic| walk_at "s1") => `(tactic| ((with_reducible refine Pm.w_rg1 ?_ ?_); (constructor <;> omega)))
local macro_rules | `(tactic| walk_at "s1") => `(tactic| with_reducible refine Pm.w_iRng2 ?_)
local macro_rules | `(tactic| walk_at "s1") => `(tactic| with_reducible refine Pm.w_iRng1 ?_)
local macro_rules | `(tactic| walk_at "s1") => `(tactic| with_reducible refine Pm.w_iTup ?_)
local macro_rules | `(tactic| walk_at "s1") => `(tactic| with_reducible refine Pm.w_bm0 ?_)
local macro_rules | `(tactic| walk_at "s1") => `(tactic| with_reducible refine Pm.w_bm ?_)
local macro_rules | `(tactic| walk_at "s1") => `(tactic| with_reducible refine Pm.w_abs ?_)
local macro_rules | `(tactic| walk_at "s1") => `(tactic| with_reducible refine Pm.w_min ?_)
local macro_rules | `(tactic| walk_at "s1") => `(tactic| with_reducible refine Pm.w_max ?_)
local macro_rules | `(tactic| walk_at "s1") => `(tactic| with_reducible refine Pm.w_par2 ?_)
local macro_rules | `(tactic| walk_at "s1") => `(tactic| with_reducible refine Pm.w_par ?_)
local macro_rules | `(tactic| walk_at "s1") => `(tactic| with_reducible refine Pm.w_blx ?_)
local macro_rules | `(tactic| walk_at "s1") => `(tactic| with_reducible refine Pm.w_chain3 ?_)
local macro_rules | `(tactic| walk_at "s1") => `(tactic| with_reducible refine Pm.w_chain ?_)
local macro_rules | `(tactic| walk_at "s1") => `(tactic| with_reducible refine Pm.w_ifE ?_)
local macro_rules | `(tactic| walk_at "s1") => `(tactic| with_reducible refine Pm.w_notV ?_)
local macro_rules | `(tactic| walk_at "s1") => `(tactic| with_reducible refine Pm.w_orV ?_)
local macro_rules | `(tactic| walk_at "s1") => `(tactic| with_reducible refine Pm.w_andV ?_)
local macro_rules | `(tactic| walk_at "s1") => `(tactic| with_reducible refine Pm.w_not ?_)
local macro_rules | `(tactic| walk_at "s1") => `(tactic| with_reducible refine Pm.w_and ?_)
local macro_rules | `(tactic| walk_at "s1") => `(tactic| with_reducible refine Pm.w_bl ?_)
local macro_rules | `(tactic| walk_at "s1") => `(tactic| with_reducible refine Pm.w_lst ?_)
local macro_rules | `(tactic| walk_at "s1") => `(tactic| with_reducible refine Pm.w_callS ?_)
local macro_rules | `(tactic| walk_at "s1") => `(tactic| with_reducible refine Pm.w_eqs ?_)
local macro_rules | `(tactic| walk_at "s1") => `(tactic| with_reducible refine Pm.w_neb ?_)
local macro_rules | `(tactic| walk_at "s1") => `(tactic| with_reducible refine Pm.w_eqb ?_)
local macro_rules | `(tactic| walk_at "s1") => `(tactic| with_reducible refine Pm.w_nei ?_)
local macro_rules | `(tactic| walk_at "s1") => `(tactic| with_reducible refine Pm.w_eqi ?_)
local macro_rules | `(tactic| walk_at "s1") => `(tactic| with_reducible refine Pm.w_u ?_)
local macro_rules | `(tactic| walk_at "s1") => `(tactic| with_reducible refine Pm.w_gnil ?_)
local macro_rules | `(tactic| walk_at "s1") => `(tactic| with_reducible refine Pm.w_gsub ?_)
local macro_rules | `(tactic| walk_at "s1") => `(tactic| with_reducible refine Pm.w_cont ?_)
local macro_rules | `(tactic| walk_at "s1") => `(tactic| with_reducible refine Pm.w_brk ?_)
local macro_rules | `(tactic| walk_at "s1") => `(tactic| with_reducible refine Pm.w_retN ?_)
local macro_rules | `(tactic| walk_at "s1") => `(tactic| with_reducible refine Pm.w_or ?_)
local macro_rules | `(tactic| walk_at "s1") => `(tactic| with_reducible refine Pm.w_un ?_)
local macro_rules | `(tactic| walk_at "s1") => `(tactic| with_reducible refine Pm.w_drop ?_)
local macro_rules | `(tactic| walk_at "s1") => `(tactic| with_reducible refine Pm.w_b ?_)
local macro_rules | `(tactic| walk_at "s1") => `(tactic| with_reducible refine Pm.w_iList ?_)
local macro_rules | `(tactic| walk_at "s1") => `(tactic| with_reducible refine Pm.w_meth ?_)
local macro_rules | `(tactic| walk_at "s1") => `(tactic| with_reducible refine Pm.w_for ?_)
local macro_rules | `(tactic| walk_at "s1") => `(tactic| with_reducible refine Pm.w_dput ?_)
local macro_rules | `(tactic| walk_at "s1") => `(tactic| with_reducible refine Pm.w_fld ?_)
local macro_rules | `(tactic| walk_at "s1") => `(tactic| with_reducible refine Pm.w_cb ?_)
local macro_rules | `(tactic| walk_at "s1") => `(tactic| with_reducible refine Pm.w_lc ?_)
local macro_rules | `(tactic| walk_at "s1") => `(tactic| with_reducible refine Pm.w_gcons ?_)
local macro_rules | `(tactic| walk_at "s1") => `(tactic| with_reducible refine Pm.w_test ?_)
local macro_rules | `(tactic| walk_at "s1") => `(tactic| with_reducible refine Pm.w_tup ?_)
local macro_rules | `(tactic| walk_at "s1") => `(tactic| ((with_reducible show Pm.LcTurn _ _ _ _ _ _ _ _); refine Pm.w_turn rfl ?_))
local macro_rules | `(tactic| walk_at "s1") => `(tactic| with_reducible refine Pm.w_next ?_)
local macro_rules | `(tactic| walk_at "s1") => `(tactic| with_reducible refine Pm.w_nil ?_)
local macro_rules | `(tactic| walk_at "s1") => `(tactic| ((with_reducible refine Pm.w_i ?_ ?_); (walk_at "side")))
local macro_rules | `(tactic| walk_at "s1") => `(tactic| with_reducible refine Pm.w_i0 ?_)
local macro_rules | `(tactic| walk_at "s1") => `(tactic| with_reducible refine Pm.w_call ?_)
local macro_rules | `(tactic| walk_at "s1") => `(tactic| with_reducible refine Pm.w_ret ?_)
local macro_rules | `(tactic| walk_at "s1") => `(tactic| with_reducible refine Pm.w_gname ?_)
local macro_rules | `(tactic| walk_at "s1") => `(tactic| with_reducible refine Pm.w_if ?_)
local macro_rules | `(tactic| walk_at "s1") => `(tactic| with_reducible refine Pm.w_asg ?_)
local macro_rules | `(tactic| walk_at "s1") => `(tactic| with_reducible refine Pm.w_c ?_)
local macro_rules | `(tactic| walk_at "s1") => `(tactic| with_reducible refine Pm.w_seq ?_)
local macro_rules | `(tactic| walk_at "s1") => `(tactic| with_reducible refine Pm.w_op ?_)
local macro_rules | `(tactic| walk_at "s1") => `(tactic| with_reducible refine Pm.w_cons ?_)
local macro_rules | `(tactic| walk_at "s1") => `(tactic| ((with_reducible show L2.tVar _ _ _ _); refine Pm.w_var rfl ?_))
local macro_rules | `(tactic| walk_at "side") => `(tactic| first | (refine Pm.w_mul1 ?_; constructor <;> omega) | (refine Pm.w_mul2 ?_; constructor <;> omega) | ((with_reducible show L2.CDiv _ _); refine ⟨?_, ?_⟩ <;> omega) | ((with_reducible show L2.CPow _ _); exact ⟨by decide, by decide, by decide⟩) | (show (0:Int) < _; omega))
local macro_rules | `(tactic| walk_at "st") => `(tactic| repeat (walk_at "s1"))
namespace Pm
open PySem PySem.Spec PyProof.Rows L2
def top (i : Nat) : Stmt := PySem.Challenge.pw_postmead_k29_tables_of_pairs.main.body.getD i (.Pass ⟨0, 0, 0, 0⟩)
abbrev s_measure : Stmt := top 9
abbrev N_measure : List Str := ["one", "other"]
theorem sc_measure : FnScope N_measure ["one", "other"] (defScope s_measure) := ⟨rfl, rfl, rfl, by decide +kernel, rfl, by decide +kernel, by decide +kernel⟩
abbrev s_lowest : Stmt := top 10
abbrev N_lowest : List Str := ["top", "bottom", "by"]
theorem sc_lowest : FnScope N_lowest ["top", "bottom"] (defScope s_lowest) := ⟨rfl, rfl, rfl, by decide +kernel, rfl, by decide +kernel, by decide +kernel⟩
abbrev s_plus : Stmt := top 11
abbrev N_plus : List Str := ["one", "other"]
theorem sc_plus : FnScope N_plus ["one", "other"] (defScope s_plus) := ⟨rfl, rfl, rfl, by decide +kernel, rfl, by decide +kernel, by decide +kernel⟩
abbrev s_less : Stmt := top 12
abbrev N_less : List Str := ["one", "other"]
theorem sc_less : FnScope N_less ["one", "other"] (defScope s_less) := ⟨rfl, rfl, rfl, by decide +kernel, rfl, by decide +kernel, by decide +kernel⟩
abbrev s_times : Stmt := top 13
abbrev N_times : List Str := ["one", "other"]
theorem sc_times : FnScope N_times ["one", "other"] (defScope s_times) := ⟨rfl, rfl, rfl, by decide +kernel, rfl, by decide +kernel, by decide +kernel⟩
abbrev s_is_part : Stmt := top 14
abbrev N_is_part : List Str := ["pair"]
theorem sc_is_part : FnScope N_is_part ["pair"] (defScope s_is_part) := ⟨rfl, rfl, rfl, by decide +kernel, rfl, by decide +kernel, by decide +kernel⟩
abbrev s_is_length : Stmt := top 15
abbrev N_is_length : List Str := ["pair"]
theorem sc_is_length : FnScope N_is_length ["pair"] (defScope s_is_length) := ⟨rfl, rfl, rfl, by decide +kernel, rfl, by decide +kernel, by decide +kernel⟩
abbrev s_spread : Stmt := top 17
abbrev N_spread : List Str := ["one", "other"]
theorem sc_spread : FnScope N_spread ["one", "other"] (defScope s_spread) := ⟨rfl, rfl, rfl, by decide +kernel, rfl, by decide +kernel, by decide +kernel⟩
abbrev s_table_of : Stmt := top 18
abbrev N_table_of : List Str := ["stood", "rows", "other", "one", "k", "i"]
theorem sc_table_of : FnScope N_table_of ["stood"] (defScope s_table_of) := ⟨rfl, rfl, rfl, by decide +kernel, rfl, by decide +kernel, by decide +kernel⟩
abbrev s_looked : Stmt := top 20
abbrev N_looked : List Str := ["table", "n", "row", "i", "k"]
theorem sc_looked : FnScope N_looked ["table"] (defScope s_looked) := ⟨rfl, rfl, rfl, by decide +kernel, rfl, by decide +kernel, by decide +kernel⟩
abbrev s_keeps : Stmt := top 21
abbrev N_keeps : List Str := ["table", "a", "b", "c", "d", "long", "one", "other"]
theorem sc_keeps : FnScope N_keeps ["table", "a", "b", "c", "d"] (defScope s_keeps) := ⟨rfl, rfl, rfl, by decide +kernel, rfl, by decide +kernel, by decide +kernel⟩
abbrev s_first_of : Stmt := top 22
abbrev N_first_of : List Str := ["table", "a", "b", "n", "c", "d"]
theorem sc_first_of : FnScope N_first_of ["table", "a", "b", "n"] (defScope s_first_of) := ⟨rfl, rfl, rfl, by decide +kernel, rfl, by decide +kernel, by decide +kernel⟩
abbrev s_broken : Stmt := top 23
abbrev N_broken : List Str := ["table", "n", "a", "b", "four"]
theorem sc_broken : FnScope N_broken ["table"] (defScope s_broken) := ⟨rfl, rfl, rfl, by decide +kernel, rfl, by decide +kernel, by decide +kernel⟩
abbrev s_of_pairs : Stmt := top 24
abbrev N_of_pairs : List Str := ["rows", "made", "i", "k"]
theorem sc_of_pairs : FnScope N_of_pairs ["rows"] (defScope s_of_pairs) := ⟨rfl, rfl, rfl, by decide +kernel, rfl, by decide +kernel, by decide +kernel⟩
abbrev s_law_flow : Stmt := top 26
abbrev N_law_flow : List Str := ["_law_script", "_law_many_here", "_law_great", "_law_row", "_law_k", "_law_cell", "_law_mixed"]
theorem sc_law_flow : FnScope N_law_flow ["_law_script", "_law_many_here"] (defScope s_law_flow) := ⟨rfl, rfl, rfl, by decide +kernel, rfl, by decide +kernel, by decide +kernel⟩
abbrev s_law_whole : Stmt := top 27
abbrev N_law_whole : List Str := ["_law_found"]
theorem sc_law_whole : FnScope N_law_whole ["_law_found"] (defScope s_law_whole) := ⟨rfl, rfl, rfl, by decide +kernel, rfl, by decide +kernel, by decide +kernel⟩
abbrev s_law_low : Stmt := top 28
abbrev N_law_low : List Str := ["_law_top", "_law_bottom", "_law_one", "_law_other"]
theorem sc_law_low : FnScope N_law_low ["_law_top", "_law_bottom"] (defScope s_law_low) := ⟨rfl, rfl, rfl, by decide +kernel, rfl, by decide +kernel, by decide +kernel⟩
abbrev s_law_add : Stmt := top 29
abbrev N_law_add : List Str := ["_law_one", "_law_other"]
theorem sc_law_add : FnScope N_law_add ["_law_one", "_law_other"] (defScope s_law_add) := ⟨rfl, rfl, rfl, by decide +kernel, rfl, by decide +kernel, by decide +kernel⟩
abbrev s_law_mul : Stmt := top 30
abbrev N_law_mul : List Str := ["_law_one", "_law_other"]
theorem sc_law_mul : FnScope N_law_mul ["_law_one", "_law_other"] (defScope s_law_mul) := ⟨rfl, rfl, rfl, by decide +kernel, rfl, by decide +kernel, by decide +kernel⟩
abbrev s_law_part : Stmt := top 31
abbrev N_law_part : List Str := ["_law_found"]
theorem sc_law_part : FnScope N_law_part ["_law_found"] (defScope s_law_part) := ⟨rfl, rfl, rfl, by decide +kernel, rfl, by decide +kernel, by decide +kernel⟩
abbrev s_law_size : Stmt := top 32
abbrev N_law_size : List Str := ["_law_one"]
theorem sc_law_size : FnScope N_law_size ["_law_one"] (defScope s_law_size) := ⟨rfl, rfl, rfl, by decide +kernel, rfl, by decide +kernel, by decide +kernel⟩
abbrev s_law_many : Stmt := top 33
abbrev N_law_many : List Str := ["_law_row"]
theorem sc_law_many : FnScope N_law_many ["_law_row"] (defScope s_law_many) := ⟨rfl, rfl, rfl, by decide +kernel, rfl, by decide +kernel, by decide +kernel⟩
abbrev s_law_spread : Stmt := top 34
abbrev N_law_spread : List Str := ["_law_one", "_law_other", "_law_back"]
theorem sc_law_spread : FnScope N_law_spread ["_law_one", "_law_other"] (defScope s_law_spread) := ⟨rfl, rfl, rfl, by decide +kernel, rfl, by decide +kernel, by decide +kernel⟩
abbrev s_law_tuple : Stmt := top 35
abbrev N_law_tuple : List Str := ["_law_found", "_law_many_here", "_law_one"]
theorem sc_law_tuple : FnScope N_law_tuple ["_law_found", "_law_many_here"] (defScope s_law_tuple) := ⟨rfl, rfl, rfl, by decide +kernel, rfl, by decide +kernel, by decide +kernel⟩
abbrev s_law_parts : Stmt := top 36
abbrev N_law_parts : List Str := ["_law_found", "_law_due", "_law_k"]
theorem sc_law_parts : FnScope N_law_parts ["_law_found", "_law_due"] (defScope s_law_parts) := ⟨rfl, rfl, rfl, by decide +kernel, rfl, by decide +kernel, by decide +kernel⟩
abbrev s_law_table : Stmt := top 37
abbrev N_law_table : List Str := ["_law_found", "_law_due", "_law_k"]
theorem sc_law_table : FnScope N_law_table ["_law_found", "_law_due"] (defScope s_law_table) := ⟨rfl, rfl, rfl, by decide +kernel, rfl, by decide +kernel, by decide +kernel⟩
abbrev s_law_drawn : Stmt := top 38
abbrev N_law_drawn : List Str := ["_law_n", "_law_row", "_law_way", "_law_rows", "_law_slope", "_law_k", "_law_first", "_law_one"]
theorem sc_law_drawn : FnScope N_law_drawn ["_law_n", "_law_row", "_law_way"] (defScope s_law_drawn) := ⟨rfl, rfl, rfl, by decide +kernel, rfl, by decide +kernel, by decide +kernel⟩
abbrev s_law_bad : Stmt := top 39
abbrev N_law_bad : List Str := ["_law_rows", "_law_i", "_law_k"]
theorem sc_law_bad : FnScope N_law_bad ["_law_rows"] (defScope s_law_bad) := ⟨rfl, rfl, rfl, by decide +kernel, rfl, by decide +kernel, by decide +kernel⟩
abbrev s_law : Stmt := top 40
abbrev N_law : List Str := ["_law_script", "_law_row", "_law_n", "_law_rows", "_law_at", "_law_k", "_law_bad_here", "_law_handed", "_law_found", "_law_two", "_law_refused", "e", "_law_due", "_law_i"]
theorem sc_law : FnScope N_law ["_law_script"] (defScope s_law) := ⟨rfl, rfl, rfl, by decide +kernel, rfl, by decide +kernel, by decide +kernel⟩
abbrev s_BadPairs___init__ : Stmt := inClass (top 4) 0
abbrev N_BadPairs___init__ : List Str := ["self", "two"]
theorem sc_BadPairs___init__ : FnScope N_BadPairs___init__ ["self", "two"] (defScope s_BadPairs___init__) := ⟨rfl, rfl, rfl, by decide +kernel, rfl, by decide +kernel, by decide +kernel⟩
structure DefAt (K : PySem.W.Frag) (mg : Str → Option Value) (nm qn : Str) (st : Stmt) (ps : List Str) : Type where
  a : Addr
  fd : FuncData
  F : Fun K nm qn st a fd
  g : mg nm = some (.ref a)
  b : Binds K fd ps []
structure XMethAt (K : PySem.W.Frag) (C : Addr) (nm qn : Str) (st : Stmt) (ps : List Str) : Type where
  a : Addr
  fd : FuncData
  F : Fun K nm qn st a fd
  iC : PySem.W.findIn K (.ref C) nm = some (some (.ref a))
  tI : PySem.W.typeIn K (.ref a) = some (.type "function")
  b : Binds K fd ps []
structure XiAt (K : PySem.W.Frag) (mg : Str → Option Value) (nm : Str) : Type where
  c : Addr
  g : mg nm = some (.ref c)
  o : OexC K c
  xf : XfC K c
  k : PySem.W.keepIn K (.ref c) = true
  b : PySem.W.subIn K (.ref c) (.type "BaseException") = some true
  t : PySem.W.typeIn K (.ref c) = some (.type "type")
  i : PySem.W.isClsIn K c = true
  z : PySem.W.subIn K (.ref c) (.ref c) = some true
structure ExAt (K : PySem.W.Frag) (mg : Str → Option Value) (nm : Str) : Type where
  c : Addr
  g : mg nm = some (.ref c)
  x : PySem.W.excIn K c [.type "ValueError", .type "Exception", .type "BaseException", .type "object"] "ValueError.__new__" = true
  k : PySem.W.keepIn K (.ref c) = true
  b : PySem.W.subIn K (.ref c) (.type "BaseException") = some true
  t : PySem.W.typeIn K (.ref c) = some (.type "type")
  i : PySem.W.isClsIn K c = true
  z : PySem.W.subIn K (.ref c) (.ref c) = some true
/-- what the top has written -/
structure Tx (K : PySem.W.Frag) (mg : Str → Option Value) : Type where
  e_BadPairs : XiAt K mg "BadPairs"
  d_measure : DefAt K mg "measure" "measure" s_measure ["one", "other"]
  d_lowest : DefAt K mg "lowest" "lowest" s_lowest ["top", "bottom"]
  d_plus : DefAt K mg "plus" "plus" s_plus ["one", "other"]
  d_less : DefAt K mg "less" "less" s_less ["one", "other"]
  d_times : DefAt K mg "times" "times" s_times ["one", "other"]
  d_is_part : DefAt K mg "is_part" "is_part" s_is_part ["pair"]
  d_is_length : DefAt K mg "is_length" "is_length" s_is_length ["pair"]
  d_spread : DefAt K mg "spread" "spread" s_spread ["one", "other"]
  d_table_of : DefAt K mg "table_of" "table_of" s_table_of ["stood"]
  d_looked : DefAt K mg "looked" "looked" s_looked ["table"]
  d_keeps : DefAt K mg "keeps" "keeps" s_keeps ["table", "a", "b", "c", "d"]
  d_first_of : DefAt K mg "first_of" "first_of" s_first_of ["table", "a", "b", "n"]
  d_broken : DefAt K mg "broken" "broken" s_broken ["table"]
  d_of_pairs : DefAt K mg "of_pairs" "of_pairs" s_of_pairs ["rows"]
  d_law_flow : DefAt K mg "_law_flow" "_law_flow" s_law_flow ["_law_script", "_law_many_here"]
  d_law_whole : DefAt K mg "_law_whole" "_law_whole" s_law_whole ["_law_found"]
  d_law_low : DefAt K mg "_law_low" "_law_low" s_law_low ["_law_top", "_law_bottom"]
  d_law_add : DefAt K mg "_law_add" "_law_add" s_law_add ["_law_one", "_law_other"]
  d_law_mul : DefAt K mg "_law_mul" "_law_mul" s_law_mul ["_law_one", "_law_other"]
  d_law_part : DefAt K mg "_law_part" "_law_part" s_law_part ["_law_found"]
  d_law_size : DefAt K mg "_law_size" "_law_size" s_law_size ["_law_one"]
  d_law_many : DefAt K mg "_law_many" "_law_many" s_law_many ["_law_row"]
  d_law_spread : DefAt K mg "_law_spread" "_law_spread" s_law_spread ["_law_one", "_law_other"]
  d_law_tuple : DefAt K mg "_law_tuple" "_law_tuple" s_law_tuple ["_law_found", "_law_many_here"]
  d_law_parts : DefAt K mg "_law_parts" "_law_parts" s_law_parts ["_law_found", "_law_due"]
  d_law_table : DefAt K mg "_law_table" "_law_table" s_law_table ["_law_found", "_law_due"]
  d_law_drawn : DefAt K mg "_law_drawn" "_law_drawn" s_law_drawn ["_law_n", "_law_row", "_law_way"]
  d_law_bad : DefAt K mg "_law_bad" "_law_bad" s_law_bad ["_law_rows"]
  d_law : DefAt K mg "law" "law" s_law ["_law_script"]
  d_BadPairs___init__ : XMethAt K e_BadPairs.c "__init__" "BadPairs.__init__" s_BadPairs___init__ ["self", "two"]
  m_abs : mg "abs" = none
  m_len : mg "len" = none
  m_range : mg "range" = none
  m_isinstance : mg "isinstance" = none
  m_int : mg "int" = none
  m_bool : mg "bool" = none
  m_tuple : mg "tuple" = none
  m_list : mg "list" = none
  m_min : mg "min" = none
  m_max : mg "max" = none
  e_NoFraction : ExAt K mg "NoFraction"
  e_BadTable : ExAt K mg "BadTable"
  nf_BadPairs_two : PySem.W.findIn K (.ref e_BadPairs.c) "two" = some none
  c_NOUGHT : Addr
  g_NOUGHT : mg "NOUGHT" = some (.ref c_NOUGHT)
  r_NOUGHT : RelV (.ref c_NOUGHT) (.ref c_NOUGHT)
  v_NOUGHT : ∀ H, SqT K H c_NOUGHT [.int 0, .int 1]
  u_FEWEST : Value
  g_FEWEST : mg "FEWEST" = some u_FEWEST
  r_FEWEST : RelV (.int 3) u_FEWEST
  u_MOST : Value
  g_MOST : mg "MOST" = some u_MOST
  r_MOST : RelV (.int 12) u_MOST
  ex1_BadPairs : PySem.W.findIn K (.ref e_BadPairs.c) "__getattribute__" = some (some (.builtin "BaseException.__getattribute__"))
  ex2_BadPairs : PySem.W.findIn K (.ref e_BadPairs.c) "__getattr__" = some none
  ex3_BadPairs : PySem.W.hasDictIn K e_BadPairs.c = true
  ex4_BadPairs : PySem.W.findIn K (.ref e_BadPairs.c) "__class__" = some (some (.builtin "object.__class__"))
  ex5_BadPairs : PySem.W.specialIn K (.builtin "object.__class__") "__get__" = some (some (.builtin "getset_descriptor.__get__"))
  ex6_BadPairs : PySem.W.takesIn K (.builtin "object.__class__") = some true
  ex7_BadPairs : PySem.W.mroIn K e_BadPairs.c (.type "object") = some true
  kit_BadPairs_BadPairs : PySem.W.kitOne K (.ref e_BadPairs.c) (.ref e_BadPairs.c) = some true
  exm_BadPairs_BadPairs : PySem.W.exmOne K (.ref e_BadPairs.c) (.ref e_BadPairs.c) = some true
abbrev Tx.a_measure {K : PySem.W.Frag} {mg : Str → Option Value} (T : Tx K mg) : Addr := T.d_measure.a
abbrev Tx.fd_measure {K : PySem.W.Frag} {mg : Str → Option Value} (T : Tx K mg) : FuncData := T.d_measure.fd
theorem Tx.F_measure {K : PySem.W.Frag} {mg : Str → Option Value} (T : Tx K mg) : Fun K "measure" "measure" s_measure T.a_measure T.fd_measure := T.d_measure.F
theorem Tx.g_measure {K : PySem.W.Frag} {mg : Str → Option Value} (T : Tx K mg) : mg "measure" = some (.ref T.a_measure) := T.d_measure.g
theorem Tx.b_measure {K : PySem.W.Frag} {mg : Str → Option Value} (T : Tx K mg) : Binds K T.fd_measure ["one", "other"] [] := T.d_measure.b
abbrev Tx.a_lowest {K : PySem.W.Frag} {mg : Str → Option Value} (T : Tx K mg) : Addr := T.d_lowest.a
abbrev Tx.fd_lowest {K : PySem.W.Frag} {mg : Str → Option Value} (T : Tx K mg) : FuncData := T.d_lowest.fd
theorem Tx.F_lowest {K : PySem.W.Frag} {mg : Str → Option Value} (T : Tx K mg) : Fun K "lowest" "lowest" s_lowest T.a_lowest T.fd_lowest := T.d_lowest.F
theorem Tx.g_lowest {K : PySem.W.Frag} {mg : Str → Option Value} (T : Tx K mg) : mg "lowest" = some (.ref T.a_lowest) := T.d_lowest.g
theorem Tx.b_lowest {K : PySem.W.Frag} {mg : Str → Option Value} (T : Tx K mg) : Binds K T.fd_lowest ["top", "bottom"] [] := T.d_lowest.b
abbrev Tx.a_plus {K : PySem.W.Frag} {mg : Str → Option Value} (T : Tx K mg) : Addr := T.d_plus.a
abbrev Tx.fd_plus {K : PySem.W.Frag} {mg : Str → Option Value} (T : Tx K mg) : FuncData := T.d_plus.fd
theorem Tx.F_plus {K : PySem.W.Frag} {mg : Str → Option Value} (T : Tx K mg) : Fun K "plus" "plus" s_plus T.a_plus T.fd_plus := T.d_plus.F
theorem Tx.g_plus {K : PySem.W.Frag} {mg : Str → Option Value} (T : Tx K mg) : mg "plus" = some (.ref T.a_plus) := T.d_plus.g
theorem Tx.b_plus {K : PySem.W.Frag} {mg : Str → Option Value} (T : Tx K mg) : Binds K T.fd_plus ["one", "other"] [] := T.d_plus.b
abbrev Tx.a_less {K : PySem.W.Frag} {mg : Str → Option Value} (T : Tx K mg) : Addr := T.d_less.a
abbrev Tx.fd_less {K : PySem.W.Frag} {mg : Str → Option Value} (T : Tx K mg) : FuncData := T.d_less.fd
theorem Tx.F_less {K : PySem.W.Frag} {mg : Str → Option Value} (T : Tx K mg) : Fun K "less" "less" s_less T.a_less T.fd_less := T.d_less.F
theorem Tx.g_less {K : PySem.W.Frag} {mg : Str → Option Value} (T : Tx K mg) : mg "less" = some (.ref T.a_less) := T.d_less.g
theorem Tx.b_less {K : PySem.W.Frag} {mg : Str → Option Value} (T : Tx K mg) : Binds K T.fd_less ["one", "other"] [] := T.d_less.b
abbrev Tx.a_times {K : PySem.W.Frag} {mg : Str → Option Value} (T : Tx K mg) : Addr := T.d_times.a
abbrev Tx.fd_times {K : PySem.W.Frag} {mg : Str → Option Value} (T : Tx K mg) : FuncData := T.d_times.fd
theorem Tx.F_times {K : PySem.W.Frag} {mg : Str → Option Value} (T : Tx K mg) : Fun K "times" "times" s_times T.a_times T.fd_times := T.d_times.F
theorem Tx.g_times {K : PySem.W.Frag} {mg : Str → Option Value} (T : Tx K mg) : mg "times" = some (.ref T.a_times) := T.d_times.g
theorem Tx.b_times {K : PySem.W.Frag} {mg : Str → Option Value} (T : Tx K mg) : Binds K T.fd_times ["one", "other"] [] := T.d_times.b
abbrev Tx.a_is_part {K : PySem.W.Frag} {mg : Str → Option Value} (T : Tx K mg) : Addr := T.d_is_part.a
abbrev Tx.fd_is_part {K : PySem.W.Frag} {mg : Str → Option Value} (T : Tx K mg) : FuncData := T.d_is_part.fd
theorem Tx.F_is_part {K : PySem.W.Frag} {mg : Str → Option Value} (T : Tx K mg) : Fun K "is_part" "is_part" s_is_part T.a_is_part T.fd_is_part := T.d_is_part.F
theorem Tx.g_is_part {K : PySem.W.Frag} {mg : Str → Option Value} (T : Tx K mg) : mg "is_part" = some (.ref T.a_is_part) := T.d_is_part.g
theorem Tx.b_is_part {K : PySem.W.Frag} {mg : Str → Option Value} (T : Tx K mg) : Binds K T.fd_is_part ["pair"] [] := T.d_is_part.b
abbrev Tx.a_is_length {K : PySem.W.Frag} {mg : Str → Option Value} (T : Tx K mg) : Addr := T.d_is_length.a
abbrev Tx.fd_is_length {K : PySem.W.Frag} {mg : Str → Option Value} (T : Tx K mg) : FuncData := T.d_is_length.fd
theorem Tx.F_is_length {K : PySem.W.Frag} {mg : Str → Option Value} (T : Tx K mg) : Fun K "is_length" "is_length" s_is_length T.a_is_length T.fd_is_length := T.d_is_length.F
theorem Tx.g_is_length {K : PySem.W.Frag} {mg : Str → Option Value} (T : Tx K mg) : mg "is_length" = some (.ref T.a_is_length) := T.d_is_length.g
theorem Tx.b_is_length {K : PySem.W.Frag} {mg : Str → Option Value} (T : Tx K mg) : Binds K T.fd_is_length ["pair"] [] := T.d_is_length.b
abbrev Tx.a_spread {K : PySem.W.Frag} {mg : Str → Option Value} (T : Tx K mg) : Addr := T.d_spread.a
abbrev Tx.fd_spread {K : PySem.W.Frag} {mg : Str → Option Value} (T : Tx K mg) : FuncData := T.d_spread.fd
theorem Tx.F_spread {K : PySem.W.Frag} {mg : Str → Option Value} (T : Tx K mg) : Fun K "spread" "spread" s_spread T.a_spread T.fd_spread := T.d_spread.F
theorem Tx.g_spread {K : PySem.W.Frag} {mg : Str → Option Value} (T : Tx K mg) : mg "spread" = some (.ref T.a_spread) := T.d_spread.g
theorem Tx.b_spread {K : PySem.W.Frag} {mg : Str → Option Value} (T : Tx K mg) : Binds K T.fd_spread ["one", "other"] [] := T.d_spread.b
abbrev Tx.a_table_of {K : PySem.W.Frag} {mg : Str → Option Value} (T : Tx K mg) : Addr := T.d_table_of.a
abbrev Tx.fd_table_of {K : PySem.W.Frag} {mg : Str → Option Value} (T : Tx K mg) : FuncData := T.d_table_of.fd
theorem Tx.F_table_of {K : PySem.W.Frag} {mg : Str → Option Value} (T : Tx K mg) : Fun K "table_of" "table_of" s_table_of T.a_table_of T.fd_table_of := T.d_table_of.F
theorem Tx.g_table_of {K : PySem.W.Frag} {mg : Str → Option Value} (T : Tx K mg) : mg "table_of" = some (.ref T.a_table_of) := T.d_table_of.g
theorem Tx.b_table_of {K : PySem.W.Frag} {mg : Str → Option Value} (T : Tx K mg) : Binds K T.fd_table_of ["stood"] [] := T.d_table_of.b
abbrev Tx.a_looked {K : PySem.W.Frag} {mg : Str → Option Value} (T : Tx K mg) : Addr := T.d_looked.a
abbrev Tx.fd_looked {K : PySem.W.Frag} {mg : Str → Option Value} (T : Tx K mg) : FuncData := T.d_looked.fd
theorem Tx.F_looked {K : PySem.W.Frag} {mg : Str → Option Value} (T : Tx K mg) : Fun K "looked" "looked" s_looked T.a_looked T.fd_looked := T.d_looked.F
theorem Tx.g_looked {K : PySem.W.Frag} {mg : Str → Option Value} (T : Tx K mg) : mg "looked" = some (.ref T.a_looked) := T.d_looked.g
theorem Tx.b_looked {K : PySem.W.Frag} {mg : Str → Option Value} (T : Tx K mg) : Binds K T.fd_looked ["table"] [] := T.d_looked.b
abbrev Tx.a_keeps {K : PySem.W.Frag} {mg : Str → Option Value} (T : Tx K mg) : Addr := T.d_keeps.a
abbrev Tx.fd_keeps {K : PySem.W.Frag} {mg : Str → Option Value} (T : Tx K mg) : FuncData := T.d_keeps.fd
theorem Tx.F_keeps {K : PySem.W.Frag} {mg : Str → Option Value} (T : Tx K mg) : Fun K "keeps" "keeps" s_keeps T.a_keeps T.fd_keeps := T.d_keeps.F
theorem Tx.g_keeps {K : PySem.W.Frag} {mg : Str → Option Value} (T : Tx K mg) : mg "keeps" = some (.ref T.a_keeps) := T.d_keeps.g
theorem Tx.b_keeps {K : PySem.W.Frag} {mg : Str → Option Value} (T : Tx K mg) : Binds K T.fd_keeps ["table", "a", "b", "c", "d"] [] := T.d_keeps.b
abbrev Tx.a_first_of {K : PySem.W.Frag} {mg : Str → Option Value} (T : Tx K mg) : Addr := T.d_first_of.a
abbrev Tx.fd_first_of {K : PySem.W.Frag} {mg : Str → Option Value} (T : Tx K mg) : FuncData := T.d_first_of.fd
theorem Tx.F_first_of {K : PySem.W.Frag} {mg : Str → Option Value} (T : Tx K mg) : Fun K "first_of" "first_of" s_first_of T.a_first_of T.fd_first_of := T.d_first_of.F
theorem Tx.g_first_of {K : PySem.W.Frag} {mg : Str → Option Value} (T : Tx K mg) : mg "first_of" = some (.ref T.a_first_of) := T.d_first_of.g
theorem Tx.b_first_of {K : PySem.W.Frag} {mg : Str → Option Value} (T : Tx K mg) : Binds K T.fd_first_of ["table", "a", "b", "n"] [] := T.d_first_of.b
abbrev Tx.a_broken {K : PySem.W.Frag} {mg : Str → Option Value} (T : Tx K mg) : Addr := T.d_broken.a
abbrev Tx.fd_broken {K : PySem.W.Frag} {mg : Str → Option Value} (T : Tx K mg) : FuncData := T.d_broken.fd
theorem Tx.F_broken {K : PySem.W.Frag} {mg : Str → Option Value} (T : Tx K mg) : Fun K "broken" "broken" s_broken T.a_broken T.fd_broken := T.d_broken.F
theorem Tx.g_broken {K : PySem.W.Frag} {mg : Str → Option Value} (T : Tx K mg) : mg "broken" = some (.ref T.a_broken) := T.d_broken.g
theorem Tx.b_broken {K : PySem.W.Frag} {mg : Str → Option Value} (T : Tx K mg) : Binds K T.fd_broken ["table"] [] := T.d_broken.b
abbrev Tx.a_of_pairs {K : PySem.W.Frag} {mg : Str → Option Value} (T : Tx K mg) : Addr := T.d_of_pairs.a
abbrev Tx.fd_of_pairs {K : PySem.W.Frag} {mg : Str → Option Value} (T : Tx K mg) : FuncData := T.d_of_pairs.fd
theorem Tx.F_of_pairs {K : PySem.W.Frag} {mg : Str → Option Value} (T : Tx K mg) : Fun K "of_pairs" "of_pairs" s_of_pairs T.a_of_pairs T.fd_of_pairs := T.d_of_pairs.F
theorem Tx.g_of_pairs {K : PySem.W.Frag} {mg : Str → Option Value} (T : Tx K mg) : mg "of_pairs" = some (.ref T.a_of_pairs) := T.d_of_pairs.g
theorem Tx.b_of_pairs {K : PySem.W.Frag} {mg : Str → Option Value} (T : Tx K mg) : Binds K T.fd_of_pairs ["rows"] [] := T.d_of_pairs.b
abbrev Tx.a_law_flow {K : PySem.W.Frag} {mg : Str → Option Value} (T : Tx K mg) : Addr := T.d_law_flow.a
abbrev Tx.fd_law_flow {K : PySem.W.Frag} {mg : Str → Option Value} (T : Tx K mg) : FuncData := T.d_law_flow.fd
theorem Tx.F_law_flow {K : PySem.W.Frag} {mg : Str → Option Value} (T : Tx K mg) : Fun K "_law_flow" "_law_flow" s_law_flow T.a_law_flow T.fd_law_flow := T.d_law_flow.F
theorem Tx.g_law_flow {K : PySem.W.Frag} {mg : Str → Option Value} (T : Tx K mg) : mg "_law_flow" = some (.ref T.a_law_flow) := T.d_law_flow.g
theorem Tx.b_law_flow {K : PySem.W.Frag} {mg : Str → Option Value} (T : Tx K mg) : Binds K T.fd_law_flow ["_law_script", "_law_many_here"] [] := T.d_law_flow.b
abbrev Tx.a_law_whole {K : PySem.W.Frag} {mg : Str → Option Value} (T : Tx K mg) : Addr := T.d_law_whole.a
abbrev Tx.fd_law_whole {K : PySem.W.Frag} {mg : Str → Option Value} (T : Tx K mg) : FuncData := T.d_law_whole.fd
theorem Tx.F_law_whole {K : PySem.W.Frag} {mg : Str → Option Value} (T : Tx K mg) : Fun K "_law_whole" "_law_whole" s_law_whole T.a_law_whole T.fd_law_whole := T.d_law_whole.F
theorem Tx.g_law_whole {K : PySem.W.Frag} {mg : Str → Option Value} (T : Tx K mg) : mg "_law_whole" = some (.ref T.a_law_whole) := T.d_law_whole.g
theorem Tx.b_law_whole {K : PySem.W.Frag} {mg : Str → Option Value} (T : Tx K mg) : Binds K T.fd_law_whole ["_law_found"] [] := T.d_law_whole.b
abbrev Tx.a_law_low {K : PySem.W.Frag} {mg : Str → Option Value} (T : Tx K mg) : Addr := T.d_law_low.a
abbrev Tx.fd_law_low {K : PySem.W.Frag} {mg : Str → Option Value} (T : Tx K mg) : FuncData := T.d_law_low.fd
theorem Tx.F_law_low {K : PySem.W.Frag} {mg : Str → Option Value} (T : Tx K mg) : Fun K "_law_low" "_law_low" s_law_low T.a_law_low T.fd_law_low := T.d_law_low.F
theorem Tx.g_law_low {K : PySem.W.Frag} {mg : Str → Option Value} (T : Tx K mg) : mg "_law_low" = some (.ref T.a_law_low) := T.d_law_low.g
theorem Tx.b_law_low {K : PySem.W.Frag} {mg : Str → Option Value} (T : Tx K mg) : Binds K T.fd_law_low ["_law_top", "_law_bottom"] [] := T.d_law_low.b
abbrev Tx.a_law_add {K : PySem.W.Frag} {mg : Str → Option Value} (T : Tx K mg) : Addr := T.d_law_add.a
abbrev Tx.fd_law_add {K : PySem.W.Frag} {mg : Str → Option Value} (T : Tx K mg) : FuncData := T.d_law_add.fd
theorem Tx.F_law_add {K : PySem.W.Frag} {mg : Str → Option Value} (T : Tx K mg) : Fun K "_law_add" "_law_add" s_law_add T.a_law_add T.fd_law_add := T.d_law_add.F
theorem Tx.g_law_add {K : PySem.W.Frag} {mg : Str → Option Value} (T : Tx K mg) : mg "_law_add" = some (.ref T.a_law_add) := T.d_law_add.g
theorem Tx.b_law_add {K : PySem.W.Frag} {mg : Str → Option Value} (T : Tx K mg) : Binds K T.fd_law_add ["_law_one", "_law_other"] [] := T.d_law_add.b
abbrev Tx.a_law_mul {K : PySem.W.Frag} {mg : Str → Option Value} (T : Tx K mg) : Addr := T.d_law_mul.a
abbrev Tx.fd_law_mul {K : PySem.W.Frag} {mg : Str → Option Value} (T : Tx K mg) : FuncData := T.d_law_mul.fd
theorem Tx.F_law_mul {K : PySem.W.Frag} {mg : Str → Option Value} (T : Tx K mg) : Fun K "_law_mul" "_law_mul" s_law_mul T.a_law_mul T.fd_law_mul := T.d_law_mul.F
theorem Tx.g_law_mul {K : PySem.W.Frag} {mg : Str → Option Value} (T : Tx K mg) : mg "_law_mul" = some (.ref T.a_law_mul) := T.d_law_mul.g
theorem Tx.b_law_mul {K : PySem.W.Frag} {mg : Str → Option Value} (T : Tx K mg) : Binds K T.fd_law_mul ["_law_one", "_law_other"] [] := T.d_law_mul.b
abbrev Tx.a_law_part {K : PySem.W.Frag} {mg : Str → Option Value} (T : Tx K mg) : Addr := T.d_law_part.a
abbrev Tx.fd_law_part {K : PySem.W.Frag} {mg : Str → Option Value} (T : Tx K mg) : FuncData := T.d_law_part.fd
theorem Tx.F_law_part {K : PySem.W.Frag} {mg : Str → Option Value} (T : Tx K mg) : Fun K "_law_part" "_law_part" s_law_part T.a_law_part T.fd_law_part := T.d_law_part.F
theorem Tx.g_law_part {K : PySem.W.Frag} {mg : Str → Option Value} (T : Tx K mg) : mg "_law_part" = some (.ref T.a_law_part) := T.d_law_part.g
theorem Tx.b_law_part {K : PySem.W.Frag} {mg : Str → Option Value} (T : Tx K mg) : Binds K T.fd_law_part ["_law_found"] [] := T.d_law_part.b
abbrev Tx.a_law_size {K : PySem.W.Frag} {mg : Str → Option Value} (T : Tx K mg) : Addr := T.d_law_size.a
abbrev Tx.fd_law_size {K : PySem.W.Frag} {mg : Str → Option Value} (T : Tx K mg) : FuncData := T.d_law_size.fd
theorem Tx.F_law_size {K : PySem.W.Frag} {mg : Str → Option Value} (T : Tx K mg) : Fun K "_law_size" "_law_size" s_law_size T.a_law_size T.fd_law_size := T.d_law_size.F
theorem Tx.g_law_size {K : PySem.W.Frag} {mg : Str → Option Value} (T : Tx K mg) : mg "_law_size" = some (.ref T.a_law_size) := T.d_law_size.g
theorem Tx.b_law_size {K : PySem.W.Frag} {mg : Str → Option Value} (T : Tx K mg) : Binds K T.fd_law_size ["_law_one"] [] := T.d_law_size.b
abbrev Tx.a_law_many {K : PySem.W.Frag} {mg : Str → Option Value} (T : Tx K mg) : Addr := T.d_law_many.a
abbrev Tx.fd_law_many {K : PySem.W.Frag} {mg : Str → Option Value} (T : Tx K mg) : FuncData := T.d_law_many.fd
theorem Tx.F_law_many {K : PySem.W.Frag} {mg : Str → Option Value} (T : Tx K mg) : Fun K "_law_many" "_law_many" s_law_many T.a_law_many T.fd_law_many := T.d_law_many.F
theorem Tx.g_law_many {K : PySem.W.Frag} {mg : Str → Option Value} (T : Tx K mg) : mg "_law_many" = some (.ref T.a_law_many) := T.d_law_many.g
theorem Tx.b_law_many {K : PySem.W.Frag} {mg : Str → Option Value} (T : Tx K mg) : Binds K T.fd_law_many ["_law_row"] [] := T.d_law_many.b
abbrev Tx.a_law_spread {K : PySem.W.Frag} {mg : Str → Option Value} (T : Tx K mg) : Addr := T.d_law_spread.a
abbrev Tx.fd_law_spread {K : PySem.W.Frag} {mg : Str → Option Value} (T : Tx K mg) : FuncData := T.d_law_spread.fd
theorem Tx.F_law_spread {K : PySem.W.Frag} {mg : Str → Option Value} (T : Tx K mg) : Fun K "_law_spread" "_law_spread" s_law_spread T.a_law_spread T.fd_law_spread := T.d_law_spread.F
theorem Tx.g_law_spread {K : PySem.W.Frag} {mg : Str → Option Value} (T : Tx K mg) : mg "_law_spread" = some (.ref T.a_law_spread) := T.d_law_spread.g
theorem Tx.b_law_spread {K : PySem.W.Frag} {mg : Str → Option Value} (T : Tx K mg) : Binds K T.fd_law_spread ["_law_one", "_law_other"] [] := T.d_law_spread.b
abbrev Tx.a_law_tuple {K : PySem.W.Frag} {mg : Str → Option Value} (T : Tx K mg) : Addr := T.d_law_tuple.a
abbrev Tx.fd_law_tuple {K : PySem.W.Frag} {mg : Str → Option Value} (T : Tx K mg) : FuncData := T.d_law_tuple.fd
theorem Tx.F_law_tuple {K : PySem.W.Frag} {mg : Str → Option Value} (T : Tx K mg) : Fun K "_law_tuple" "_law_tuple" s_law_tuple T.a_law_tuple T.fd_law_tuple := T.d_law_tuple.F
theorem Tx.g_law_tuple {K : PySem.W.Frag} {mg : Str → Option Value} (T : Tx K mg) : mg "_law_tuple" = some (.ref T.a_law_tuple) := T.d_law_tuple.g
theorem Tx.b_law_tuple {K : PySem.W.Frag} {mg : Str → Option Value} (T : Tx K mg) : Binds K T.fd_law_tuple ["_law_found", "_law_many_here"] [] := T.d_law_tuple.b
abbrev Tx.a_law_parts {K : PySem.W.Frag} {mg : Str → Option Value} (T : Tx K mg) : Addr := T.d_law_parts.a
abbrev Tx.fd_law_parts {K : PySem.W.Frag} {mg : Str → Option Value} (T : Tx K mg) : FuncData := T.d_law_parts.fd
theorem Tx.F_law_parts {K : PySem.W.Frag} {mg : Str → Option Value} (T : Tx K mg) : Fun K "_law_parts" "_law_parts" s_law_parts T.a_law_parts T.fd_law_parts := T.d_law_parts.F
theorem Tx.g_law_parts {K : PySem.W.Frag} {mg : Str → Option Value} (T : Tx K mg) : mg "_law_parts" = some (.ref T.a_law_parts) := T.d_law_parts.g
theorem Tx.b_law_parts {K : PySem.W.Frag} {mg : Str → Option Value} (T : Tx K mg) : Binds K T.fd_law_parts ["_law_found", "_law_due"] [] := T.d_law_parts.b
abbrev Tx.a_law_table {K : PySem.W.Frag} {mg : Str → Option Value} (T : Tx K mg) : Addr := T.d_law_table.a
abbrev Tx.fd_law_table {K : PySem.W.Frag} {mg : Str → Option Value} (T : Tx K mg) : FuncData := T.d_law_table.fd
theorem Tx.F_law_table {K : PySem.W.Frag} {mg : Str → Option Value} (T : Tx K mg) : Fun K "_law_table" "_law_table" s_law_table T.a_law_table T.fd_law_table := T.d_law_table.F
theorem Tx.g_law_table {K : PySem.W.Frag} {mg : Str → Option Value} (T : Tx K mg) : mg "_law_table" = some (.ref T.a_law_table) := T.d_law_table.g
theorem Tx.b_law_table {K : PySem.W.Frag} {mg : Str → Option Value} (T : Tx K mg) : Binds K T.fd_law_table ["_law_found", "_law_due"] [] := T.d_law_table.b
abbrev Tx.a_law_drawn {K : PySem.W.Frag} {mg : Str → Option Value} (T : Tx K mg) : Addr := T.d_law_drawn.a
abbrev Tx.fd_law_drawn {K : PySem.W.Frag} {mg : Str → Option Value} (T : Tx K mg) : FuncData := T.d_law_drawn.fd
theorem Tx.F_law_drawn {K : PySem.W.Frag} {mg : Str → Option Value} (T : Tx K mg) : Fun K "_law_drawn" "_law_drawn" s_law_drawn T.a_law_drawn T.fd_law_drawn := T.d_law_drawn.F
theorem Tx.g_law_drawn {K : PySem.W.Frag} {mg : Str → Option Value} (T : Tx K mg) : mg "_law_drawn" = some (.ref T.a_law_drawn) := T.d_law_drawn.g
theorem Tx.b_law_drawn {K : PySem.W.Frag} {mg : Str → Option Value} (T : Tx K mg) : Binds K T.fd_law_drawn ["_law_n", "_law_row", "_law_way"] [] := T.d_law_drawn.b
abbrev Tx.a_law_bad {K : PySem.W.Frag} {mg : Str → Option Value} (T : Tx K mg) : Addr := T.d_law_bad.a
abbrev Tx.fd_law_bad {K : PySem.W.Frag} {mg : Str → Option Value} (T : Tx K mg) : FuncData := T.d_law_bad.fd
theorem Tx.F_law_bad {K : PySem.W.Frag} {mg : Str → Option Value} (T : Tx K mg) : Fun K "_law_bad" "_law_bad" s_law_bad T.a_law_bad T.fd_law_bad := T.d_law_bad.F
theorem Tx.g_law_bad {K : PySem.W.Frag} {mg : Str → Option Value} (T : Tx K mg) : mg "_law_bad" = some (.ref T.a_law_bad) := T.d_law_bad.g
theorem Tx.b_law_bad {K : PySem.W.Frag} {mg : Str → Option Value} (T : Tx K mg) : Binds K T.fd_law_bad ["_law_rows"] [] := T.d_law_bad.b
abbrev Tx.a_law {K : PySem.W.Frag} {mg : Str → Option Value} (T : Tx K mg) : Addr := T.d_law.a
abbrev Tx.fd_law {K : PySem.W.Frag} {mg : Str → Option Value} (T : Tx K mg) : FuncData := T.d_law.fd
theorem Tx.F_law {K : PySem.W.Frag} {mg : Str → Option Value} (T : Tx K mg) : Fun K "law" "law" s_law T.a_law T.fd_law := T.d_law.F
theorem Tx.g_law {K : PySem.W.Frag} {mg : Str → Option Value} (T : Tx K mg) : mg "law" = some (.ref T.a_law) := T.d_law.g
abbrev Tx.c_BadPairs {K : PySem.W.Frag} {mg : Str → Option Value} (T : Tx K mg) : Addr := T.e_BadPairs.c
theorem Tx.iC_BadPairs___init__ {K : PySem.W.Frag} {mg : Str → Option Value} (T : Tx K mg) : PySem.W.findIn K (.ref T.c_BadPairs) "__init__" = some (some (.ref T.d_BadPairs___init__.a)) := T.d_BadPairs___init__.iC
theorem Tx.tI_BadPairs___init__ {K : PySem.W.Frag} {mg : Str → Option Value} (T : Tx K mg) : PySem.W.typeIn K (.ref T.d_BadPairs___init__.a) = some (.type "function") := T.d_BadPairs___init__.tI
abbrev Tx.a_BadPairs___init__ {K : PySem.W.Frag} {mg : Str → Option Value} (T : Tx K mg) : Addr := T.d_BadPairs___init__.a
abbrev Tx.fd_BadPairs___init__ {K : PySem.W.Frag} {mg : Str → Option Value} (T : Tx K mg) : FuncData := T.d_BadPairs___init__.fd
theorem Tx.F_BadPairs___init__ {K : PySem.W.Frag} {mg : Str → Option Value} (T : Tx K mg) : Fun K "__init__" "BadPairs.__init__" s_BadPairs___init__ T.a_BadPairs___init__ T.fd_BadPairs___init__ := T.d_BadPairs___init__.F
theorem Tx.b_BadPairs___init__ {K : PySem.W.Frag} {mg : Str → Option Value} (T : Tx K mg) : Binds K T.fd_BadPairs___init__ ["self", "two"] [] := T.d_BadPairs___init__.b
abbrev Tx.c_NoFraction {K : PySem.W.Frag} {mg : Str → Option Value} (T : Tx K mg) : Addr := T.e_NoFraction.c
theorem Tx.g_NoFraction {K : PySem.W.Frag} {mg : Str → Option Value} (T : Tx K mg) : mg "NoFraction" = some (.ref T.c_NoFraction) := T.e_NoFraction.g
theorem Tx.x_NoFraction {K : PySem.W.Frag} {mg : Str → Option Value} (T : Tx K mg) : PySem.W.excIn K T.c_NoFraction [.type "ValueError", .type "Exception", .type "BaseException", .type "object"] "ValueError.__new__" = true := T.e_NoFraction.x
theorem Tx.k_NoFraction {K : PySem.W.Frag} {mg : Str → Option Value} (T : Tx K mg) : PySem.W.keepIn K (.ref T.c_NoFraction) = true := T.e_NoFraction.k
theorem Tx.b_NoFraction {K : PySem.W.Frag} {mg : Str → Option Value} (T : Tx K mg) : PySem.W.subIn K (.ref T.c_NoFraction) (.type "BaseException") = some true := T.e_NoFraction.b
theorem Tx.t_NoFraction {K : PySem.W.Frag} {mg : Str → Option Value} (T : Tx K mg) : PySem.W.typeIn K (.ref T.c_NoFraction) = some (.type "type") := T.e_NoFraction.t
abbrev Tx.c_BadTable {K : PySem.W.Frag} {mg : Str → Option Value} (T : Tx K mg) : Addr := T.e_BadTable.c
theorem Tx.g_BadTable {K : PySem.W.Frag} {mg : Str → Option Value} (T : Tx K mg) : mg "BadTable" = some (.ref T.c_BadTable) := T.e_BadTable.g
theorem Tx.x_BadTable {K : PySem.W.Frag} {mg : Str → Option Value} (T : Tx K mg) : PySem.W.excIn K T.c_BadTable [.type "ValueError", .type "Exception", .type "BaseException", .type "object"] "ValueError.__new__" = true := T.e_BadTable.x
theorem Tx.k_BadTable {K : PySem.W.Frag} {mg : Str → Option Value} (T : Tx K mg) : PySem.W.keepIn K (.ref T.c_BadTable) = true := T.e_BadTable.k
theorem Tx.b_BadTable {K : PySem.W.Frag} {mg : Str → Option Value} (T : Tx K mg) : PySem.W.subIn K (.ref T.c_BadTable) (.type "BaseException") = some true := T.e_BadTable.b
theorem Tx.t_BadTable {K : PySem.W.Frag} {mg : Str → Option Value} (T : Tx K mg) : PySem.W.typeIn K (.ref T.c_BadTable) = some (.type "type") := T.e_BadTable.t
theorem Tx.g_BadPairs {K : PySem.W.Frag} {mg : Str → Option Value} (T : Tx K mg) : mg "BadPairs" = some (.ref T.c_BadPairs) := T.e_BadPairs.g
theorem Tx.o_BadPairs {K : PySem.W.Frag} {mg : Str → Option Value} (T : Tx K mg) : OexC K T.c_BadPairs := T.e_BadPairs.o
theorem Tx.xf_BadPairs {K : PySem.W.Frag} {mg : Str → Option Value} (T : Tx K mg) : XfC K T.c_BadPairs := T.e_BadPairs.xf
def spFlow (K : PySem.W.Frag) : Sp := fun vs H Q _ => ∃ (a : Addr) (ns : List Int) (m : Nat), vs = [.ref a, .int m] ∧ SqL K H a (ns.map V.int) ∧ m ≤ 100000 ∧
  ∀ (row : List Int) (H' : Hp) (p : Addr), row.length = m → (∀ x ∈ row, 0 ≤ x ∧ x < 1000000) → Same H H' → H p = none → H' p = some (.lst (row.map V.int)) → Q (.ref p) H'
theorem flow_more {row : List Int} {x : Int} (h : ∀ x ∈ row, 0 ≤ x ∧ x < 1000000) (h0 : 0 ≤ x) (h1 : x < 1000000) : ∀ y ∈ row ++ [x], 0 ≤ y ∧ y < 1000000 := fun y hy => by
  rcases List.mem_append.mp hy with q | q
  · exact h y q
  · rw [List.mem_singleton.mp q]; exact ⟨h0, h1⟩
section
variable {P : Program} {w : World} {K : PySem.W.Frag} {mg : Str → Option Value} {base : Heap}
theorem ok_law_flow (T : Tx K mg) : FnOk P w K mg base CX0 1 T.a_law_flow T.fd_law_flow ["_law_script", "_law_many_here"] (spFlow K) := by
  refine T.F_law_flow.ok sc_law_flow (fun vs H Q E h => ?_) (fun cdv A outer s H vs Q E hr h => ?_)
  · obtain ⟨a, ns, m, rfl, _⟩ := h
    rfl
  obtain ⟨a, ns, m, rfl, hS, hm, q⟩ := h
  refine ⟨_, (pss_cons (ps_set (i := 2) sc_law_flow.nd rfl (.inl rfl) (pe_int))
      (C8.pss_cut (ps_if (PW.pt (pw_and (pt_cmpR op_gt (pe_callB (c_len (K := K)) (by rfl) T.m_len PySem.boot_len (pa_cons (pv 0) pa_nil)) (pe_int) (nomark _)) (pw_and1 (pt_cmpR op_ge (pe_callB c_abs (by rfl) T.m_abs (by decide +kernel) (pa_cons (pe_ix (ix_listK (K := K)) (pv 0) (pe_int) (fun _ _ => rfl)) pa_nil)) (pe_op op_pow (pe_int) (pe_int)) (nomark _))))) (pss_one (ps_set (i := 2) sc_law_flow.nd rfl (.inl rfl) (pe_op op_sub (pe_callB c_abs (by rfl) T.m_abs (by decide +kernel) (pa_cons (pe_ix (ix_listK (K := K)) (pv 0) (pe_int) (fun _ _ => rfl)) pa_nil)) (pe_op op_pow (pe_int) (pe_int))))) pss_nil)
      (pss_cons (ps_set (i := 3) sc_law_flow.nd rfl (.inl rfl) (pe_lst pa_nil))
      (pss_cons (ps_for PassesOwn.never rfl (pi_range1 (by rfl) T.m_range (pa_cons (pv 1) pa_nil)) (pg_name (i := 4) sc_law_flow.nd rfl (.inl rfl)) (pss_one (ps_if (pt_cmpR op_gt (pv 2) (pe_int) (nomark _)) (pss_cons (ps_expr (k_bm (K := K) (pe_bm PySem.F.plainAttrs_list PySem.F.slot_list_append PySem.F.type_list_append mt_append (pv 3) (pa_cons (pe_op op_mod (pv 2) (pe_int)) pa_nil))))
      (pss_one (ps_set (i := 2) sc_law_flow.nd rfl (.inl rfl) (pe_op op_fdiv (pv 2) (pe_int))))) (pss_cons (ps_set (i := 5) sc_law_flow.nd rfl (.inl rfl) (pe_op op_add (pv 4) (pe_int)))
      (C8.pss_cut (ps_if (pt_cmpR op_gt (pe_callB (c_len (K := K)) (by rfl) T.m_len PySem.boot_len (pa_cons (pv 0) pa_nil)) (pe_int) (nomark _)) (pss_one (ps_set (i := 5) sc_law_flow.nd rfl (.inl rfl) (pe_ix (ix_listK (K := K)) (pv 0) (pe_op op_mod (pv 4) (pe_callB (c_len (K := K)) (by rfl) T.m_len PySem.boot_len (pa_cons (pv 0) pa_nil))) (fun _ _ => rfl)))) pss_nil)
      (pss_cons (ps_set (i := 6) sc_law_flow.nd rfl (.inl rfl) (pe_op op_mod (pe_op op_add (pe_op op_add (pe_op op_mul (pv 5) (pe_int)) (pe_op op_mul (pv 4) (pe_int))) (pe_int)) (pe_int)))
      (pss_cons (ps_set (i := 6) sc_law_flow.nd rfl (.inl rfl) (pe_op op_mod (pe_op op_add (pe_op op_add (pe_op op_mul (pv 6) (pe_int)) (pe_op op_mul (pv 4) (pe_int))) (pe_callB (c_len (K := K)) (by rfl) T.m_len PySem.boot_len (pa_cons (pv 0) pa_nil))) (pe_int)))
      (pss_one (ps_expr (k_bm (K := K) (pe_bm PySem.F.plainAttrs_list PySem.F.slot_list_append PySem.F.type_list_append mt_append (pv 3) (pa_cons (pe_op op_mod (pe_op op_fdiv (pv 6) (pe_int)) (pe_int)) pa_nil))))))))))))
      (pss_one (ps_ret (pv 3))))))), ?_⟩
  walk_at "st"
  have hl : (ns.map V.int).length = ns.length := List.length_map _
  refine Pm.w_cut (fun σ' H' => ∃ g : Int, σ' = [some (.ref a), some (.int m), some (.int g), none, none, none, none] ∧ H' = H) ?_ ?_
  · walk_at "st"
    refine Pm.w_len (.inl hS) ?_
    walk_at "st"
    refine Pm.w_ite (fun c => ?_) (fun c => ?_)
    · rw [hl] at c
      walk_at "st"
      refine Pm.w_ixL hS (atI_int (by omega) (by omega)) ?_
      walk_at "st"
      refine Pm.w_ite (fun c => ?_) (fun c => ?_)
      · walk_at "st"
        refine Pm.w_ixL hS (atI_int (by omega) (by omega)) ?_
        walk_at "st"
        exact ⟨_, rfl, rfl⟩
      · walk_at "st"
        exact ⟨_, rfl, rfl⟩
    · walk_at "st"
      exact ⟨_, rfl, rfl⟩
  rintro σ H' ⟨g, rfl, rfl⟩
  walk_at "st"
  refine Pm.w_newL (fun p hp => ?_)
  walk_at "st"
  rw [Int.toNat_natCast]
  refine Pm.w_forR (fun i σ H2 => ∃ (g : Int) (row : List Int) (x4 x5 x6 : Option V), σ = [some (.ref a), some (.int m), some (.int g), some (.ref p), x4, x5, x6] ∧
    row.length = i ∧ (∀ x ∈ row, 0 ≤ x ∧ x < 1000000) ∧ H2 = upd H' p (.lst (row.map V.int))) ?_ ?_ ?_
  · exact ⟨g, [], none, none, none, rfl, rfl, fun x hx => absurd hx (List.not_mem_nil), rfl⟩
  · rintro i σ H2 hi ⟨g, row, x4, x5, x6, rfl, hrow, hb, rfl⟩
    have hS2 : SqL K (upd H' p (.lst (row.map V.int))) a (ns.map V.int) := (same_new hp _).seq hS
    have hz : (row.map V.int).length < sizeLine := by rw [List.length_map]; exact size_lt (by omega)
    have fin : ∀ x : Int, upd (upd H' p (.lst (row.map V.int))) p (.lst (row.map V.int ++ [.int x])) = upd H' p (.lst ((row ++ [x]).map V.int)) := fun x => by rw [upd_upd, List.map_append] <;> rfl
    walk_at "st"
    refine Pm.w_ite (fun c => ?_) (fun c => ?_)
    · walk_at "st"
      refine ⟨.inl ⟨rfl, _, SqL.of upd_same⟩, ?_⟩
      walk_at "st"
      refine Pm.w_append upd_same hz ?_
      walk_at "st"
      refine ⟨_, row ++ [g % 1000000], _, _, _, rfl, by rw [List.length_append, hrow] <;> rfl, flow_more hb (by omega) (by omega), fin _⟩
    · walk_at "st"
      refine Pm.w_cut (fun σ' H3 => ∃ cell : Int, σ' = [some (.ref a), some (.int m), some (.int g), some (.ref p), some (.int (0 + (i : Nat))), some (.int cell), x6] ∧ H3 = upd H' p (.lst (row.map V.int))) ?_ ?_
      · walk_at "st"
        refine Pm.w_len (.inl hS2) ?_
        walk_at "st"
        refine Pm.w_ite (fun c => ?_) (fun c => ?_)
        · rw [hl] at c
          walk_at "st"
          refine Pm.w_len (.inl hS2) ?_
          rw [hl]
          walk_at "st"
          refine Pm.w_ixL hS2 (atI_int (Int.emod_nonneg _ (by omega)) (Int.emod_lt_of_pos _ (by omega))) ?_
          walk_at "st"
          exact ⟨_, rfl, rfl⟩
        · walk_at "st"
          exact ⟨_, rfl, rfl⟩
      · rintro σ H3 ⟨cell, rfl, rfl⟩
        walk_at "st"
        refine Pm.w_len (.inl hS2) ?_
        walk_at "st"
        refine ⟨.inl ⟨rfl, _, SqL.of upd_same⟩, ?_⟩
        walk_at "st"
        refine Pm.w_append upd_same hz ?_
        walk_at "st"
        refine ⟨_, row ++ [_], _, _, _, rfl, by rw [List.length_append, hrow] <;> rfl, flow_more hb (Int.emod_nonneg _ (by decide)) (Int.emod_lt_of_pos _ (by decide)), fin _⟩
  · rintro σ H2 ⟨g, row, x4, x5, x6, rfl, hrow, hb, rfl⟩
    walk_at "st"
    exact q row _ p hrow hb (same_new hp _) hp upd_same
end
section
variable {P : Program} {w : World} {K : PySem.W.Frag} {mg : Str → Option Value} {base : Heap}
def spWhole : Sp := fun vs H Q _ => ∃ i : Int, vs = [.int i] ∧ Q (.bl true) H
theorem ok_law_whole (T : Tx K mg) : FnOk P w K mg base CX0 1 T.a_law_whole T.fd_law_whole ["_law_found"] spWhole := by
  refine T.F_law_whole.ok sc_law_whole (fun vs H Q E h => ?_) (fun cdv A outer s H vs Q E hr h => ?_)
  · obtain ⟨i, rfl, _⟩ := h
    rfl
  obtain ⟨i, rfl, q⟩ := h
  refine ⟨_, (pss_one (ps_ret ((pe_and (pe_callB (call_isK (K := K)) (by rfl) T.m_isinstance (by decide +kernel) (pa_cons (pv 0) (pa_cons (pe_bltn (v := .ty "int") (by rfl) T.m_int (by decide +kernel) rfl) pa_nil))) (pe_one (pe_not (pe_callB (call_isK (K := K)) (by rfl) T.m_isinstance (by decide +kernel) (pa_cons (pv 0) (pa_cons (pe_bltn (v := .ty "bool") (by rfl) T.m_bool (by decide +kernel) rfl) pa_nil))))))))), ?_⟩
  walk_at "st"
  refine Pm.w_isiInt (b := true) (by decide +kernel) ?_
  walk_at "st"
  refine Pm.w_isiInt (b := false) (by decide +kernel) ?_
  walk_at "st"
  exact q
end
section
variable {P : Program} {w : World} {K : PySem.W.Frag} {mg : Str → Option Value} {base : Heap}
def spMany (K : PySem.W.Frag) : Sp := fun vs H Q _ => ∃ (r : Addr) (row : List Int), vs = [.ref r] ∧ SqL K H r (row.map V.int) ∧ 2 ≤ row.length ∧ ∀ n : Nat, 3 ≤ n → n ≤ 12 → Q (.int n) H
theorem ok_law_many (T : Tx K mg) : FnOk P w K mg base CX0 1 T.a_law_many T.fd_law_many ["_law_row"] (spMany K) := by
  refine T.F_law_many.ok sc_law_many (fun vs H Q E h => ?_) (fun cdv A outer s H vs Q E hr h => ?_)
  · obtain ⟨r, row, rfl, _⟩ := h
    rfl
  obtain ⟨r, row, rfl, hR, hn, q⟩ := h
  have q' : ∀ n : Int, 3 ≤ n → n ≤ 12 → Q (.int n) H := fun n h1 h2 => by
    have e : n = (n.toNat : Int) := by omega
    rw [e]
    exact q _ (by omega) (by omega)
  refine ⟨_, (pss_cons (ps_if (pt_cmpR op_eq (pe_op op_mod (pe_ix (ix_listK (K := K)) (pv 0) (pe_int) (fun _ _ => rfl)) (pe_int)) (pe_int) (nomark _)) (pss_one (ps_ret (pe_op op_add (pe_int) (pe_op op_mod (pe_ix (ix_listK (K := K)) (pv 0) (pe_int) (fun _ _ => rfl)) (pe_int))))) pss_nil)
      (pss_one (ps_ret (pe_op op_add (pe_int) (pe_op op_mod (pe_ix (ix_listK (K := K)) (pv 0) (pe_int) (fun _ _ => rfl)) (pe_int)))))), ?_⟩
  walk_at "st"
  refine Pm.w_ixL hR (atI_int (by omega) (by omega)) ?_
  walk_at "st"
  refine Pm.w_ite (fun e => ?_) (fun e => ?_)
  · walk_at "st"
    refine Pm.w_ixL hR (atI_int (by omega) (by omega)) ?_
    walk_at "st"
    exact q' _ (by omega) (by omega)
  · walk_at "st"
    refine Pm.w_ixL hR (atI_int (by omega) (by omega)) ?_
    walk_at "st"
    exact q' _ (by omega) (by omega)
end
section
variable {P : Program} {w : World} {K : PySem.W.Frag} {mg : Str → Option Value} {base : Heap}
def spMeasure : Sp := fun vs H Q _ => ∃ a b : Int, vs = [.int a, .int b] ∧ Q (.int ((Int.gcd a b : Nat) : Int)) H
theorem ok_measure (T : Tx K mg) : FnOk P w K mg base CX0 1 T.a_measure T.fd_measure ["one", "other"] spMeasure := by
  refine T.F_measure.ok sc_measure (fun vs H Q E h => ?_) (fun cdv A outer s H vs Q E hr h => ?_)
  · obtain ⟨a, b, rfl, _⟩ := h
    rfl
  obtain ⟨a, b, rfl, q⟩ := h
  refine ⟨_, (pss_cons (ps_set (i := 0) sc_measure.nd rfl (.inl rfl) (pe_callB c_abs (by rfl) T.m_abs (by decide +kernel) (pa_cons (pv 0) pa_nil)))
      (pss_cons (ps_set (i := 1) sc_measure.nd rfl (.inl rfl) (pe_callB c_abs (by rfl) T.m_abs (by decide +kernel) (pa_cons (pv 1) pa_nil)))
      (pss_cons (ps_while PassesOwn.never (pt_cmpR op_gt (pv 1) (pe_int) (nomark _)) (pss_one (ps_par (i := 0) (j := 1) (by rfl) sc_measure.nd rfl rfl (by decide) rfl rfl (pa_cons (pv 1) (pa_cons (pe_op op_mod (pv 0) (pv 1)) pa_nil)) (by rfl))))
      (pss_one (ps_ret (pv 0)))))), ?_⟩
  walk_at "st"
  refine Pm.w_while (fun m σ H' => ∃ x y : Nat, σ = [some (.int x), some (.int y)] ∧ m = y ∧ Nat.gcd x y = Int.gcd a b ∧ H' = H) _ ⟨(if a < 0 then -a else a).natAbs, (if b < 0 then -b else b).natAbs, ?_, rfl, gcd_abs a b, rfl⟩ ?_
  · have e : ∀ c : Int, (if c < 0 then -c else c) = (((if c < 0 then -c else c).natAbs : Nat) : Int) := fun c => by split <;> omega
    show [some (V.int (if a < 0 then -a else a)), some (V.int (if b < 0 then -b else b))] = _
    rw [← e a, ← e b]
  · rintro m σ H' ⟨x, y, rfl, rfl, hg, rfl⟩
    walk_at "st"
    refine Pm.w_wh (fun c => ?_) (fun c => ?_)
    · walk_at "st"
      exact ⟨_, Nat.mod_lt x (by omega), m, x % m, rfl, rfl, by rw [gcd_turn x m (by omega)]; exact hg, rfl⟩
    · have e : m = 0 := by omega
      subst e
      rw [Nat.gcd_zero_right] at hg
      rw [hg]
      walk_at "st"
      exact q
def spLowest (C : Addr) : Sp := fun vs H Q E => ∃ (a b : Int) (n : Nat), vs = [.int a, .int b] ∧ b.natAbs < 2 ^ n ∧ n ≤ 9000 ∧ (b = 0 → E (.ref C) none H) ∧ (b ≠ 0 → FrNew H (Rat.divInt a b) Q)
theorem ok_lowest (T : Tx K mg) : FnOk P w K mg base (L2.CX P w) 2 T.a_lowest T.fd_lowest ["top", "bottom"] (spLowest T.c_NoFraction) := by
  refine T.F_lowest.okX sc_lowest (fun vs H Q E h => ?_) (fun cdv A outer s H vs Q E hr h => ?_)
  · obtain ⟨a, b, n, rfl, _⟩ := h
    rfl
  obtain ⟨a, b, n, rfl, hn, hn9, hE, q⟩ := h
  refine ⟨_, (pss_cons (ps_if (pt_cmpR op_eq (pv 1) (pe_int) (nomark _)) (pss_one (ps_raise rfl (takes_of rfl rfl rfl rfl) (pmk_own PySem.F.excBase_ValueError T.x_NoFraction T.g_NoFraction T.k_NoFraction (raises_own T.b_NoFraction T.t_NoFraction) rfl))) pss_nil)
      (C8.pss_cut (ps_if (pt_cmpR op_lt (pv 1) (pe_int) (nomark _)) (pss_cons (ps_set (i := 0) sc_lowest.nd rfl (.inl rfl) (pe_un un_neg (pv 0)))
      (pss_one (ps_set (i := 1) sc_lowest.nd rfl (.inl rfl) (pe_un un_neg (pv 1))))) pss_nil)
      (pss_cons (ps_set (i := 2) sc_lowest.nd rfl (.inl rfl) (pe_call (ok_measure T) (hr.mono (by decide)) (by rfl) T.g_measure T.F_measure.kp T.b_measure .nil pass0 (pa_cons (pv 0) (pa_cons (pv 1) pa_nil))))
      (pss_one (ps_ret (pe_tup (pa_cons (pe_op op_fdivW (pv 0) (pv 2)) (pa_cons (pe_op op_fdivW (pv 1) (pv 2)) pa_nil)))))))), ?_⟩
  walk_at "st"
  refine Pm.w_ite (fun c => ?_) (fun c => ?_)
  · exact hE c
  · walk_at "st"
    refine Pm.w_cut (fun σ' H' => ∃ a' b' : Int, σ' = [some (.int a'), some (.int b'), none] ∧ H' = H ∧ 0 < b' ∧ b'.natAbs < 2 ^ n ∧ Rat.divInt a' b' = Rat.divInt a b) ?_ ?_
    · walk_at "st"
      refine Pm.w_ite (fun d => ?_) (fun d => ?_)
      · walk_at "st"
        exact ⟨-a, -b, rfl, rfl, by omega, by omega, Rat.neg_divInt_neg a b⟩
      · walk_at "st"
        exact ⟨a, b, rfl, rfl, by omega, hn, rfl⟩
    · rintro σ H' ⟨a', b', rfl, rfl, hb, hn, e⟩
      have g0 : 0 < ((Int.gcd a' b' : Nat) : Int) := gcd_pos (by omega)
      have g1 := gcd_le_right (a := a') hb
      have n0 : 0 < n := by
        rcases Nat.eq_zero_or_pos n with z | z
        · subst z
          exact absurd hn (by omega)
        · exact z
      have hd : ∀ i : Int, CDivW i ((Int.gcd a' b' : Nat) : Int) := fun i => wide_div g0 (Nat.lt_of_le_of_lt (by omega) hn) n0 hn9
      walk_at "st"
      refine ⟨a', b', rfl, ?_⟩
      walk_at "st"
      refine Pm.w_i (hd _) ?_
      walk_at "st"
      refine Pm.w_i (hd _) ?_
      walk_at "st"
      refine Pm.w_newT (fun t ht => ?_)
      have z := div_pos_num (a := a') hb
      rw [z.1, z.2, e]
      exact q c t _ (same_new ht _) ht upd_same
end
section
variable {P : Program} {w : World} {K : PySem.W.Frag} {mg : Str → Option Value} {base : Heap}
def spPlus (K : PySem.W.Frag) : Sp := fun vs H Q _ => ∃ (t u : Addr) (x y : Rat) (n m : Nat), vs = [.ref t, .ref u] ∧ SqT K H t [.int x.num, .int x.den] ∧ SqT K H u [.int y.num, .int y.den] ∧ rb x n ∧ rb y m ∧ n + m ≤ 9000 ∧ FrNew H (x + y) Q
theorem ok_plus (T : Tx K mg) : FnOk P w K mg base CX0 3 T.a_plus T.fd_plus ["one", "other"] (spPlus K) := by
  refine T.F_plus.ok sc_plus (fun vs H Q E h => ?_) (fun cdv A outer s H vs Q E hr h => ?_)
  · obtain ⟨t, u, x, y, n, m, rfl, _⟩ := h
    rfl
  obtain ⟨t, u, x, y, n, m, rfl, ht, hu, bx, byy, hnm, q⟩ := h
  refine ⟨_, (pss_one (ps_ret (pe_call (ok_lowest T) (hr.mono (by decide)) (by rfl) T.g_lowest T.F_lowest.kp T.b_lowest .nil passL (pa_cons (pe_op op_add (pe_op op_mulW (pe_ix (ix_tupK (K := K)) (pv 0) (pe_int) (fun _ _ => rfl)) (pe_ix (ix_tupK (K := K)) (pv 1) (pe_int) (fun _ _ => rfl))) (pe_op op_mulW (pe_ix (ix_tupK (K := K)) (pv 1) (pe_int) (fun _ _ => rfl)) (pe_ix (ix_tupK (K := K)) (pv 0) (pe_int) (fun _ _ => rfl)))) (pa_cons (pe_op op_mulW (pe_ix (ix_tupK (K := K)) (pv 0) (pe_int) (fun _ _ => rfl)) (pe_ix (ix_tupK (K := K)) (pv 1) (pe_int) (fun _ _ => rfl))) pa_nil))))), ?_⟩
  have n0 := rb_pos bx
  have m0 := rb_pos byy
  walk_at "st"
  refine Pm.w_ixT ht (atI2 _ _).1 ?_
  walk_at "st"
  refine Pm.w_ixT hu (atI2 _ _).2 ?_
  walk_at "st"
  refine Pm.w_i (wide_mul bx.1 (rb_den byy) n0 m0 (by omega)) ?_
  walk_at "st"
  refine Pm.w_ixT hu (atI2 _ _).1 ?_
  walk_at "st"
  refine Pm.w_ixT ht (atI2 _ _).2 ?_
  walk_at "st"
  refine Pm.w_i (wide_mul byy.1 (rb_den bx) m0 n0 (by omega)) ?_
  walk_at "st"
  refine Pm.w_ixT ht (atI2 _ _).2 ?_
  walk_at "st"
  refine Pm.w_ixT hu (atI2 _ _).2 ?_
  walk_at "st"
  refine Pm.w_i (wide_mul (rb_den bx) (rb_den byy) n0 m0 (by omega)) ?_
  walk_at "st"
  refine ⟨_, _, n + m, rfl, wide_lt (rb_den bx) (rb_den byy), hnm, fun z => absurd z (den_mul x y), fun _ => ?_⟩
  rw [plus_is]
  exact q
end
section
variable {P : Program} {w : World} {K : PySem.W.Frag} {mg : Str → Option Value} {base : Heap}
def spLess (K : PySem.W.Frag) : Sp := fun vs H Q _ => ∃ (t u : Addr) (x y : Rat) (n m : Nat), vs = [.ref t, .ref u] ∧ SqT K H t [.int x.num, .int x.den] ∧ SqT K H u [.int y.num, .int y.den] ∧ rb x n ∧ rb y m ∧ n + m ≤ 9000 ∧ FrNew H (x - y) Q
theorem ok_less (T : Tx K mg) : FnOk P w K mg base CX0 3 T.a_less T.fd_less ["one", "other"] (spLess K) := by
  refine T.F_less.ok sc_less (fun vs H Q E h => ?_) (fun cdv A outer s H vs Q E hr h => ?_)
  · obtain ⟨t, u, x, y, n, m, rfl, _⟩ := h
    rfl
  obtain ⟨t, u, x, y, n, m, rfl, ht, hu, bx, byy, hnm, q⟩ := h
  refine ⟨_, (pss_one (ps_ret (pe_call (ok_lowest T) (hr.mono (by decide)) (by rfl) T.g_lowest T.F_lowest.kp T.b_lowest .nil passL (pa_cons (pe_op op_sub (pe_op op_mulW (pe_ix (ix_tupK (K := K)) (pv 0) (pe_int) (fun _ _ => rfl)) (pe_ix (ix_tupK (K := K)) (pv 1) (pe_int) (fun _ _ => rfl))) (pe_op op_mulW (pe_ix (ix_tupK (K := K)) (pv 1) (pe_int) (fun _ _ => rfl)) (pe_ix (ix_tupK (K := K)) (pv 0) (pe_int) (fun _ _ => rfl)))) (pa_cons (pe_op op_mulW (pe_ix (ix_tupK (K := K)) (pv 0) (pe_int) (fun _ _ => rfl)) (pe_ix (ix_tupK (K := K)) (pv 1) (pe_int) (fun _ _ => rfl))) pa_nil))))), ?_⟩
  have n0 := rb_pos bx
  have m0 := rb_pos byy
  walk_at "st"
  refine Pm.w_ixT ht (atI2 _ _).1 ?_
  walk_at "st"
  refine Pm.w_ixT hu (atI2 _ _).2 ?_
  walk_at "st"
  refine Pm.w_i (wide_mul bx.1 (rb_den byy) n0 m0 (by omega)) ?_
  walk_at "st"
  refine Pm.w_ixT hu (atI2 _ _).1 ?_
  walk_at "st"
  refine Pm.w_ixT ht (atI2 _ _).2 ?_
  walk_at "st"
  refine Pm.w_i (wide_mul byy.1 (rb_den bx) m0 n0 (by omega)) ?_
  walk_at "st"
  refine Pm.w_ixT ht (atI2 _ _).2 ?_
  walk_at "st"
  refine Pm.w_ixT hu (atI2 _ _).2 ?_
  walk_at "st"
  refine Pm.w_i (wide_mul (rb_den bx) (rb_den byy) n0 m0 (by omega)) ?_
  walk_at "st"
  refine ⟨_, _, n + m, rfl, wide_lt (rb_den bx) (rb_den byy), hnm, fun z => absurd z (den_mul x y), fun _ => ?_⟩
  rw [less_is]
  exact q
end
section
variable {P : Program} {w : World} {K : PySem.W.Frag} {mg : Str → Option Value} {base : Heap}
def spTimes (K : PySem.W.Frag) : Sp := fun vs H Q _ => ∃ (t u : Addr) (x y : Rat) (n m : Nat), vs = [.ref t, .ref u] ∧ SqT K H t [.int x.num, .int x.den] ∧ SqT K H u [.int y.num, .int y.den] ∧ rb x n ∧ rb y m ∧ n + m ≤ 9000 ∧ FrNew H (x * y) Q
theorem ok_times (T : Tx K mg) : FnOk P w K mg base CX0 3 T.a_times T.fd_times ["one", "other"] (spTimes K) := by
  refine T.F_times.ok sc_times (fun vs H Q E h => ?_) (fun cdv A outer s H vs Q E hr h => ?_)
  · obtain ⟨t, u, x, y, n, m, rfl, _⟩ := h
    rfl
  obtain ⟨t, u, x, y, n, m, rfl, ht, hu, bx, byy, hnm, q⟩ := h
  refine ⟨_, (pss_one (ps_ret (pe_call (ok_lowest T) (hr.mono (by decide)) (by rfl) T.g_lowest T.F_lowest.kp T.b_lowest .nil passL (pa_cons (pe_op op_mulW (pe_ix (ix_tupK (K := K)) (pv 0) (pe_int) (fun _ _ => rfl)) (pe_ix (ix_tupK (K := K)) (pv 1) (pe_int) (fun _ _ => rfl))) (pa_cons (pe_op op_mulW (pe_ix (ix_tupK (K := K)) (pv 0) (pe_int) (fun _ _ => rfl)) (pe_ix (ix_tupK (K := K)) (pv 1) (pe_int) (fun _ _ => rfl))) pa_nil))))), ?_⟩
  have n0 := rb_pos bx
  have m0 := rb_pos byy
  walk_at "st"
  refine Pm.w_ixT ht (atI2 _ _).1 ?_
  walk_at "st"
  refine Pm.w_ixT hu (atI2 _ _).1 ?_
  walk_at "st"
  refine Pm.w_i (wide_mul bx.1 byy.1 n0 m0 (by omega)) ?_
  walk_at "st"
  refine Pm.w_ixT ht (atI2 _ _).2 ?_
  walk_at "st"
  refine Pm.w_ixT hu (atI2 _ _).2 ?_
  walk_at "st"
  refine Pm.w_i (wide_mul (rb_den bx) (rb_den byy) n0 m0 (by omega)) ?_
  walk_at "st"
  refine ⟨_, _, n + m, rfl, wide_lt (rb_den bx) (rb_den byy), hnm, fun z => absurd z (den_mul x y), fun _ => ?_⟩
  rw [times_is]
  exact q
end
def spSpread (K : PySem.W.Frag) : Sp := fun vs H Q _ => ∃ (x y : Addr) (s r : V2) (n : Nat), vs = [.ref x, .ref y] ∧ PrV K H (.ref x) s ∧ PrV K H (.ref y) r ∧ rb s.p n ∧ rb s.q n ∧ rb r.p n ∧ rb r.q n ∧ 4 * n ≤ 9000 ∧ FrNew H (det s r) Q
section
variable {P : Program} {w : World} {K : PySem.W.Frag} {mg : Str → Option Value} {base : Heap}
theorem ok_spread (T : Tx K mg) : FnOk P w K mg base CX0 4 T.a_spread T.fd_spread ["one", "other"] (spSpread K) := by
  refine T.F_spread.ok sc_spread (fun vs H Q E h => ?_) (fun cdv A outer s H vs Q E hr h => ?_)
  · obtain ⟨x, y, s, r, n, rfl, _⟩ := h
    rfl
  obtain ⟨x, y, s, r, n, rfl, hx, hy, b1, b2, b3, b4, hn, q⟩ := h
  refine ⟨_, (pss_one (ps_ret (pe_call (ok_less T) (hr.mono (by decide)) (by rfl) T.g_less T.F_less.kp T.b_less .nil pass0 (pa_cons (pe_call (ok_times T) (hr.mono (by decide)) (by rfl) T.g_times T.F_times.kp T.b_times .nil pass0 (pa_cons (pe_ix (ix_tupK (K := K)) (pv 0) (pe_int) (fun _ _ => rfl)) (pa_cons (pe_ix (ix_tupK (K := K)) (pv 1) (pe_int) (fun _ _ => rfl)) pa_nil))) (pa_cons (pe_call (ok_times T) (hr.mono (by decide)) (by rfl) T.g_times T.F_times.kp T.b_times .nil pass0 (pa_cons (pe_ix (ix_tupK (K := K)) (pv 1) (pe_int) (fun _ _ => rfl)) (pa_cons (pe_ix (ix_tupK (K := K)) (pv 0) (pe_int) (fun _ _ => rfl)) pa_nil))) pa_nil))))), ?_⟩
  obtain ⟨_, x1, x2, ex, hxt, hx1, hx2⟩ := hx
  cases ex
  obtain ⟨_, y1, y2, ey, hyt, hy1, hy2⟩ := hy
  cases ey
  walk_at "st"
  refine Pm.w_ixT (SqT.of hxt) (atI2 _ _).1 ?_
  walk_at "st"
  refine Pm.w_ixT (SqT.of hyt) (atI2 _ _).2 ?_
  walk_at "st"
  refine ⟨_, _, _, _, n, n, rfl, hx1.rat, hy2.rat, b1, b4, by omega, fun u H1 s1 nu hu => ?_⟩
  have k1 := keeps s1
  walk_at "st"
  refine Pm.w_ixT (SqT.of (s1 _ _ hyt)) (atI2 _ _).1 ?_
  walk_at "st"
  refine Pm.w_ixT (SqT.of (s1 _ _ hxt)) (atI2 _ _).2 ?_
  walk_at "st"
  refine ⟨_, _, _, _, n, n, rfl, (hy1.keep k1).rat, (hx2.keep k1).rat, b3, b2, by omega, fun u2 H2 s2 nu2 hu2 => ?_⟩
  walk_at "st"
  refine ⟨_, _, _, _, n + n, n + n, rfl, SqT.of (s2 _ _ hu), SqT.of hu2, rb_mul b1 b4, rb_mul b3 b2, by omega, fun v H3 s3 nv hv => ?_⟩
  exact q v H3 ((s1.trans s2).trans s3) ((s1.trans s2).free nv) hv
end
section
variable {P : Program} {w : World} {K : PySem.W.Frag} {mg : Str → Option Value} {base : Heap}
def spTableOf (K : PySem.W.Frag) : Sp := fun vs H Q _ => ∃ (l : Addr) (n : Nat) (ws : List V) (S : Nat → V2) (B : Nat), vs = [.ref l] ∧ n ≤ 1000 ∧ SqL K H l ws ∧ All2 (PrV K H) ws ((List.range n).map S) ∧ (∀ i, i < n → rb (S i).p B ∧ rb (S i).q B) ∧ 4 * B ≤ 9000 ∧ TbNew K H (mat n (sprd S)) Q
theorem ok_table_of (T : Tx K mg) : FnOk P w K mg base CX0 5 T.a_table_of T.fd_table_of ["stood"] (spTableOf K) := by
  refine T.F_table_of.ok sc_table_of (fun vs H Q E h => ?_) (fun cdv A outer s H vs Q E hr h => ?_)
  · obtain ⟨l, n, ws, S, B, rfl, _⟩ := h
    rfl
  obtain ⟨l, n, ws, S, B, rfl, n2, hl, ha, hS, hB, q⟩ := h
  have wl := ha.length
  rw [List.length_map, List.length_range] at wl
  have h0T : ∀ H', FrV K H' (.ref T.c_NOUGHT) (rp 0) := fun H' => ⟨_, rfl, .inr T.v_NOUGHT⟩
  have pr : ∀ {H1 : Hp} {i : Nat}, Same H H1 → i < n → ∃ u, ws[i]? = some (.ref u) ∧ PrV K H1 (.ref u) (S i) := fun {H1 i} s1 hi => by
    obtain ⟨v, hv, r⟩ := ha.get' (i := i) (y := S i) (by rw [List.getElem?_map, List.getElem?_range hi]; rfl)
    obtain ⟨t, u, w, rfl, r'⟩ := r.keep (keeps s1)
    exact ⟨t, hv, t, u, w, rfl, r'⟩
  refine ⟨_, (pss_cons (ps_setLc (i := 1) (own := [("one", 3)]) (g := gName 3) (tt := tYes) rfl sc_table_of.nd rfl rfl (sw_true rfl rfl rfl (by decide +kernel)) (k_il (K := K) (pi_list (pv 0))) (blkOk_by (N := N_table_of) (sc := defScope s_table_of) (by decide +kernel)) (fun _ _ _ _ _ => (pg_name (i := 3) sc_table_of.nd rfl (.inl rfl))) (fun _ _ _ _ _ => pts_nil) (fun _ _ _ _ _ => (pe_lc (own := [("other", 2)]) (g := gName 2) (tt := tYes) rfl sc_table_of.nd (k_il (K := K) (pi_list (pv 0))) (blkOk_by (N := N_table_of) (by with_unfolding_all rfl)) (fun _ _ _ _ _ => (pg_name (i := 2) sc_table_of.nd rfl (.inl rfl))) (fun _ _ _ _ _ => pts_nil) (fun _ _ _ _ _ => (pe_glob (by rfl) T.g_NOUGHT T.r_NOUGHT)))))
      (pss_cons (ps_for PassesOwn.never rfl (pi_range1 (by rfl) T.m_range (pa_cons (pe_callB (c_len (K := K)) (by rfl) T.m_len PySem.boot_len (pa_cons (pv 0) pa_nil)) pa_nil)) (pg_name (i := 4) sc_table_of.nd rfl (.inl rfl)) (pss_one (ps_for PassesOwn.never rfl (pi_range1 (by rfl) T.m_range (pa_cons (pv 4) pa_nil)) (pg_name (i := 5) sc_table_of.nd rfl (.inl rfl)) (pss_cons (ps_asg (pe_call (ok_spread T) (hr.mono (by decide)) (by rfl) T.g_spread T.F_spread.kp T.b_spread .nil pass0 (pa_cons (pe_ix (ix_listK (K := K)) (pv 0) (pv 5) (fun _ _ => rfl)) (pa_cons (pe_ix (ix_listK (K := K)) (pv 0) (pv 4) (fun _ _ => rfl)) pa_nil))) (pg_sub (pe_ix (ix_listK (K := K)) (pv 1) (pv 5) (fun _ _ => rfl)) (pv 4) set_list))
      (pss_one (ps_asg (pe_ix (ix_listK (K := K)) (pe_ix (ix_listK (K := K)) (pv 1) (pv 5) (fun _ _ => rfl)) (pv 4) (fun _ _ => rfl)) (pg_sub (pe_ix (ix_listK (K := K)) (pv 1) (pv 4) (fun _ _ => rfl)) (pv 5) set_list)))))))
      (pss_one (ps_ret (pv 1))))), ?_⟩
  walk_at "st"
  refine Pm.w_rdL hl ?_
  refine w_lcRowsL hl (fun i => (List.range n).map fun _ => rp 0) (by omega) (fun D i x H1 Nx hD hi s1 put => ?_) (fun D H1 as hD s1 fr hT => ?_)
  · walk_at "st"
    refine Pm.w_rdL (s1.seq hl) ?_
    refine Pm.w_lcLf (R := FrV K) frv_mono (S := PrV K) prv_mono (s1.seq hl) (ha.mono fun _ _ r => r.keep (keeps s1)) (fun _ => rp 0) (fun _ => true) (by rw [List.length_map, List.length_range]; omega) (fun D2 x2 p2 H2 Nx2 hD2 hm2 hs2 s2 put2 skip2 => ?_) (fun D2 H2 ws2 hD2 s2 hd2 ha2 => ?_)
    · walk_at "st"
      exact put2 _ _ rfl (Same.refl _) (h0T _)
    · rw [List.filter_eq_self.mpr (fun _ _ => rfl), List.map_map] at ha2
      exact put D2 H2 s2 hD2 ⟨ws2, hd2, ha2⟩
  rw [wl] at hT
  have e0 : ((List.range n).map fun i => (List.range n).map fun _ => rp 0) = mat n (fil S 0 0) := mat_congr (g := fun _ _ => rp 0) fun i k _ _ => (fil_zero S i k).symm
  rw [e0] at hT
  walk_at "st"
  refine Pm.w_lenL (s1.seq hl) ?_
  walk_at "st"
  rw [wl, Int.toNat_natCast]
  refine Pm.w_forR (fun k σ H2 => ∃ x y, σ = [some (.ref l), some (.ref D), none, none, x, y] ∧ Same H H2 ∧ Tb K H2 D as (mat n (fil S k 0))) ⟨_, _, rfl, s1, hT⟩ ?_ ?_
  · rintro k σ H2 hk ⟨x, y, rfl, s2, hT2⟩
    walk_at "st"
    rw [show (0 + (k : Int)).toNat = k by omega]
    refine Pm.w_forR (fun i σ H3 => ∃ y, σ = [some (.ref l), some (.ref D), none, none, some (.int (k : Int)), y] ∧ Same H H3 ∧ Tb K H3 D as (mat n (fil S k i))) ⟨y, by rw [Int.zero_add]; rfl, s2, hT2⟩ ?_ ?_
    · rintro i σ H3 hi ⟨y, rfl, s3, hT3⟩
      obtain ⟨u1, hu1, p1⟩ := pr s3 (show i < n by omega)
      obtain ⟨u2, hu2, p2⟩ := pr s3 hk
      walk_at "st"
      rw [Int.zero_add]
      refine Pm.w_ixL (s3.seq hl) (atI_nat hu1) ?_
      walk_at "st"
      refine Pm.w_ixL (s3.seq hl) (atI_nat hu2) ?_
      walk_at "st"
      refine ⟨_, _, _, _, B, rfl, p1, p2, (hS i (by omega)).1, (hS i (by omega)).2, (hS k hk).1, (hS k hk).2, hB, fun v H4 s4 nv hv => ?_⟩
      have hT4 := hT3.same s4
      have fv : FrV K H4 (.ref v) (rp (det (S i) (S k))) := frv_new hv
      walk_at "st"
      refine w_tbRow hT4 (show i < n by omega) rfl (fun a vs hai hva hra => ?_)
      have hvl := hra.length
      rw [List.length_map, List.length_range] at hvl
      walk_at "st"
      refine Pm.w_setL hva (by omega) (by omega) ?_
      rw [Int.toNat_natCast]
      have hT5 := row_set (k := k) hT4 (show i < n by omega) hai hva hra fv
      have aas : a ∈ as := List.mem_of_getElem? hai
      have s5 : Same H (upd H4 a (.lst (vs.set k (.ref v)))) := same_but (fr a aas) (s3.trans s4)
      generalize upd H4 a (.lst (vs.set k (.ref v))) = H5 at hT5 s5
      walk_at "st"
      refine w_tbRow hT5 (show i < n by omega) rfl (fun a2 vs2 hai2 hva2 hra2 => ?_)
      walk_at "st"
      refine w_rowAt hva2 hra2 hk rfl (fun t ht => ?_)
      rw [if_pos ⟨rfl, rfl⟩] at ht
      walk_at "st"
      refine w_tbRow hT5 hk rfl (fun a3 vs3 hai3 hva3 hra3 => ?_)
      have hvl3 := hra3.length
      rw [List.length_map, List.length_range] at hvl3
      walk_at "st"
      refine Pm.w_setL hva3 (by omega) (by omega) ?_
      rw [Int.toNat_natCast]
      have hT6 := row_set (k := i) hT5 hk hai3 hva3 hra3 ht
      refine ⟨_, rfl, same_but (fr a3 (List.mem_of_getElem? hai3)) s5, ?_⟩
      rw [mat_congr (g' := fil S k (i + 1)) fun x y _ _ => fil_set S hi x y] at hT6
      exact hT6
    · rintro σ H3 ⟨y, rfl, s3, hT3⟩
      rw [mat_congr (g' := fil S (k + 1) 0) fun x y _ _ => fil_next S k x y] at hT3
      exact ⟨_, _, rfl, s3, hT3⟩
  · rintro σ H2 ⟨x, y, rfl, s2, hT2⟩
    rw [mat_congr (g' := sprd S) fun x y hx hy => fil_all S hx hy] at hT2
    walk_at "st"
    exact q D H2 as s2 hD fr hT2
end
section
variable {P : Program} {w : World} {K : PySem.W.Frag} {mg : Str → Option Value} {base : Heap}
def partOk (p : IP) : Prop := 0 < p.2 ∧ Int.gcd p.1 p.2 = 1
def lenOk (p : IP) : Prop := partOk p ∧ 0 < p.1
instance (p : IP) : Decidable (partOk p) := by unfold partOk; infer_instance
instance (p : IP) : Decidable (lenOk p) := by unfold lenOk; infer_instance
def spIsPart (K : PySem.W.Frag) : Sp := fun vs H Q _ => ∃ (t : Addr) (p : IP), vs = [.ref t] ∧ FrV K H (.ref t) p ∧ Q (.bl (decide (partOk p))) H
theorem ok_is_part (T : Tx K mg) : FnOk P w K mg base CX0 2 T.a_is_part T.fd_is_part ["pair"] (spIsPart K) := by
  refine T.F_is_part.ok sc_is_part (fun vs H Q E h => ?_) (fun cdv A outer s H vs Q E hr h => ?_)
  · obtain ⟨t, p, rfl, _⟩ := h
    rfl
  obtain ⟨t, p, rfl, ht, q⟩ := h
  refine ⟨_, (pss_cons (ps_if (PW.pt (pw_or (pt_cmpR op_ne (pe_callB (c_len (K := K)) (by rfl) T.m_len PySem.boot_len (pa_cons (pv 0) pa_nil)) (pe_int) (nomark _)) (pw_or1 (pt_cmpR op_le (pe_ix (ix_tupK (K := K)) (pv 0) (pe_int) (fun _ _ => rfl)) (pe_int) (nomark _))))) (pss_one (ps_ret (pe_bl))) pss_nil)
      (pss_one (ps_ret (pe_cmpR op_eq (pe_call (ok_measure T) (hr.mono (by decide)) (by rfl) T.g_measure T.F_measure.kp T.b_measure .nil pass0 (pa_cons (pe_ix (ix_tupK (K := K)) (pv 0) (pe_int) (fun _ _ => rfl)) (pa_cons (pe_ix (ix_tupK (K := K)) (pv 0) (pe_int) (fun _ _ => rfl)) pa_nil))) (pe_int) (nomark _))))), ?_⟩
  walk_at "st"
  refine Pm.w_lenT ht.tup ?_
  walk_at "st"
  refine Pm.w_iteN (fun z => absurd rfl z) (fun _ => ?_)
  walk_at "st"
  refine Pm.w_ixT ht.tup (atI2 _ _).2 ?_
  walk_at "st"
  refine Pm.w_ite (fun z => ?_) (fun z => ?_)
  · walk_at "st"
    rw [decide_eq_false (show ¬ partOk p from fun k => by have := k.1; omega)] at q
    exact q
  · walk_at "st"
    refine Pm.w_ixT ht.tup (atI2 _ _).1 ?_
    walk_at "st"
    refine Pm.w_ixT ht.tup (atI2 _ _).2 ?_
    walk_at "st"
    refine ⟨_, _, rfl, ?_⟩
    walk_at "st"
    rw [show decide (((Int.gcd p.1 p.2 : Nat) : Int) = 1) = decide (partOk p) from decide_eq_decide.mpr ⟨fun k => ⟨by omega, by omega⟩, fun k => by have := k.2; omega⟩]
    exact q
def spIsLength (K : PySem.W.Frag) : Sp := fun vs H Q _ => ∃ (t : Addr) (p : IP), vs = [.ref t] ∧ FrV K H (.ref t) p ∧ Q (.bl (decide (lenOk p))) H
theorem ok_is_length (T : Tx K mg) : FnOk P w K mg base CX0 3 T.a_is_length T.fd_is_length ["pair"] (spIsLength K) := by
  refine T.F_is_length.ok sc_is_length (fun vs H Q E h => ?_) (fun cdv A outer s H vs Q E hr h => ?_)
  · obtain ⟨t, p, rfl, _⟩ := h
    rfl
  obtain ⟨t, p, rfl, ht, q⟩ := h
  refine ⟨_, (pss_one (ps_ret ((pe_and (pe_call (ok_is_part T) (hr.mono (by decide)) (by rfl) T.g_is_part T.F_is_part.kp T.b_is_part .nil pass0 (pa_cons (pv 0) pa_nil)) (pe_one (pe_cmpR op_gt (pe_ix (ix_tupK (K := K)) (pv 0) (pe_int) (fun _ _ => rfl)) (pe_int) (nomark _))))))), ?_⟩
  walk_at "st"
  refine ⟨t, p, rfl, ht, ?_⟩
  walk_at "st"
  refine Pm.w_ite (fun z => ?_) (fun z => ?_)
  · walk_at "st"
    refine Pm.w_ixT ht.tup (atI2 _ _).1 ?_
    walk_at "st"
    rw [show decide (p.1 > 0) = decide (lenOk p) from decide_eq_decide.mpr ⟨fun k => ⟨z, k⟩, fun k => k.2⟩]
    exact q
  · walk_at "st"
    rw [decide_eq_false (show ¬ lenOk p from fun k => z k.1)] at q
    exact q
end
section
variable {P : Program} {w : World} {K : PySem.W.Frag} {mg : Str → Option Value} {base : Heap}
/-- a table, as it is handed in -/
structure TabOk (R : List (List IP)) : Prop where
  len : 3 ≤ R.length ∧ R.length ≤ 12
  rows : ∀ r ∈ R, r.length = R.length
  self : ∀ i, i < R.length → (R.getD i []).getD i (0, 0) = (0, 1)
  two : ∀ i k, i < R.length → k < i → lenOk ((R.getD i []).getD k (0, 0)) ∧ (R.getD i []).getD k (0, 0) = (R.getD k []).getD i (0, 0)
theorem w_tbAt {H : Hp} {Q : VK} {l : Addr} {as : List Addr} {R : List (List IP)} {i : Nat} (h : Tb K H l as R) (hi : i < R.length) (q : ∀ a vs, as[i]? = some a → H a = some (.lst vs) → All2 (FrV K H) vs (R.getD i []) → Q (.ref a) H) : rIxL K (.ref l) (.int (i : Int)) H Q := by
  have e : R[i]? = some (R.getD i []) := by rw [List.getD_eq_getElem?_getD, List.getElem?_eq_getElem hi]; rfl
  obtain ⟨a, vs, ha, h1, h2⟩ := h.row e
  refine w_ixL (v := .ref a) (SqL.of h.top) (atI_nat ?_) (q a vs ha h1 h2)
  rw [List.getElem?_map, ha]; rfl
theorem w_rwAt {H : Hp} {Q : VK} {a : Addr} {vs : List V} {row : List IP} {k : Nat} (h1 : H a = some (.lst vs)) (h2 : All2 (FrV K H) vs row) (hk : k < row.length) (q : ∀ t, FrV K H (.ref t) (row.getD k (0, 0)) → Q (.ref t) H) : rIxL K (.ref a) (.int (k : Int)) H Q := by
  have e : row[k]? = some (row.getD k (0, 0)) := by rw [List.getD_eq_getElem?_getD, List.getElem?_eq_getElem hk]; rfl
  obtain ⟨v, hv, t, rfl, ht⟩ := h2.get' e
  exact w_ixL (v := .ref t) (SqL.of h1) (atI_nat hv) (q t ⟨t, rfl, ht⟩)
def spLooked (K : PySem.W.Frag) (C : Addr) : Sp := fun vs H Q E => ∃ (l : Addr) (as : List Addr) (R : List (List IP)), vs = [.ref l] ∧ Tb K H l as R ∧ (¬ TabOk R → E (.ref C) none H) ∧ (TabOk R → Q (.int R.length) H)
theorem ok_looked (T : Tx K mg) : FnOk P w K mg base (L2.CX P w) 4 T.a_looked T.fd_looked ["table"] (spLooked K T.c_BadTable) := by
  refine T.F_looked.okX sc_looked (fun vs H Q E h => ?_) (fun cdv A outer s H vs Q E hr h => ?_)
  · obtain ⟨l, as, R, rfl, _⟩ := h
    rfl
  obtain ⟨l, as, R, rfl, hT, hE, q⟩ := h
  have al := hT.len
  refine ⟨_, (pss_cons (ps_set (i := 1) sc_looked.nd rfl (.inl rfl) (pe_callB (c_len (K := K)) (by rfl) T.m_len PySem.boot_len (pa_cons (pv 0) pa_nil)))
      (pss_cons (ps_if (PW.pt (pw_or (pt_cmpR op_lt (pv 1) (pe_glob (by rfl) T.g_FEWEST T.r_FEWEST) (nomark _)) (pw_or1 (pt_cmpR op_gt (pv 1) (pe_glob (by rfl) T.g_MOST T.r_MOST) (nomark _))))) (pss_one (ps_raise rfl (takes_of rfl rfl rfl rfl) (pmk_own PySem.F.excBase_ValueError T.x_BadTable T.g_BadTable T.k_BadTable (raises_own T.b_BadTable T.t_BadTable) rfl))) pss_nil)
      (pss_cons (ps_for (passes_of rfl) rfl (k_il (K := K) (pi_list (pv 0))) (pg_name (i := 2) sc_looked.nd rfl (.inl rfl)) (pss_one (ps_if (pt_cmpR op_ne (pe_callB (c_len (K := K)) (by rfl) T.m_len PySem.boot_len (pa_cons (pv 2) pa_nil)) (pv 1) (nomark _)) (pss_one (ps_raise rfl (takes_of rfl rfl rfl rfl) (pmk_own PySem.F.excBase_ValueError T.x_BadTable T.g_BadTable T.k_BadTable (raises_own T.b_BadTable T.t_BadTable) rfl))) pss_nil)))
      (pss_cons (ps_for (passes_of rfl) rfl (pi_range1 (by rfl) T.m_range (pa_cons (pv 1) pa_nil)) (pg_name (i := 3) sc_looked.nd rfl (.inl rfl)) (pss_cons (ps_if (pt_cmpR (op_neDK (K := K) hr.units) (pe_ix (ix_listK (K := K)) (pe_ix (ix_listK (K := K)) (pv 0) (pv 3) (fun _ _ => rfl)) (pv 3) (fun _ _ => rfl)) (pe_glob (by rfl) T.g_NOUGHT T.r_NOUGHT) (nomark _)) (pss_one (ps_raise rfl (takes_of rfl rfl rfl rfl) (pmk_own PySem.F.excBase_ValueError T.x_BadTable T.g_BadTable T.k_BadTable (raises_own T.b_BadTable T.t_BadTable) rfl))) pss_nil)
      (pss_one (ps_for (passes_of rfl) rfl (pi_range1 (by rfl) T.m_range (pa_cons (pv 3) pa_nil)) (pg_name (i := 4) sc_looked.nd rfl (.inl rfl)) (pss_one (ps_if (PW.pt (pw_or (pt_not (pt_val (pe_call (ok_is_length T) (hr.mono (by decide)) (by rfl) T.g_is_length T.F_is_length.kp T.b_is_length .nil pass0 (pa_cons (pe_ix (ix_listK (K := K)) (pe_ix (ix_listK (K := K)) (pv 0) (pv 3) (fun _ _ => rfl)) (pv 4) (fun _ _ => rfl)) pa_nil)))) (pw_or1 (pt_cmpR (op_neDK (K := K) hr.units) (pe_ix (ix_listK (K := K)) (pe_ix (ix_listK (K := K)) (pv 0) (pv 3) (fun _ _ => rfl)) (pv 4) (fun _ _ => rfl)) (pe_ix (ix_listK (K := K)) (pe_ix (ix_listK (K := K)) (pv 0) (pv 4) (fun _ _ => rfl)) (pv 3) (fun _ _ => rfl)) (nomark _))))) (pss_one (ps_raise rfl (takes_of rfl rfl rfl rfl) (pmk_own PySem.F.excBase_ValueError T.x_BadTable T.g_BadTable T.k_BadTable (raises_own T.b_BadTable T.t_BadTable) rfl))) pss_nil))))))
      (pss_one (ps_ret (pv 1))))))), ?_⟩
  walk_at "st"
  refine Pm.w_lenL (SqL.of hT.top) ?_
  rw [List.length_map, al]
  walk_at "st"
  refine Pm.w_ite (fun z => hE (fun k => by have := k.len; omega)) (fun z1 => ?_)
  walk_at "st"
  refine Pm.w_ite (fun z => hE (fun k => by have := k.len; omega)) (fun z2 => ?_)
  walk_at "st"
  refine Pm.w_rdL (SqL.of hT.top) ?_
  refine Pm.w_forL (xs := as.map V.ref) (fun i σ H' => ∃ x, σ = [some (.ref l), some (.int R.length), x, none, none] ∧ H' = H ∧ ∀ r ∈ R.take i, r.length = R.length) ⟨_, rfl, rfl, fun r h => by rw [List.take_zero] at h; exact nomatch h⟩ (fun i σ H' _ ⟨x, _, e, _⟩ => by rw [e]; exact SqL.of hT.top) ?_ ?_
  · rintro i v σ H' hi ⟨x, rfl, rfl, hrow⟩
    rw [List.getElem?_map] at hi
    obtain ⟨a, ha, rfl⟩ := Option.map_eq_some_iff.mp hi
    obtain ⟨row, hrw, vs, hv, hA⟩ := hT.rows.get ha
    have mrow := List.mem_of_getElem? hrw
    walk_at "st"
    refine Pm.w_lenL (SqL.of hv) ?_
    rw [hA.length]
    walk_at "st"
    refine Pm.w_iteN (fun z => hE (fun k => z (by rw [k.rows row mrow]))) (fun z => ?_)
    walk_at "st"
    refine ⟨_, rfl, rfl, fun r hr => ?_⟩
    rw [List.take_add_one, hrw] at hr
    rcases List.mem_append.mp hr with h | h
    · exact hrow r h
    · rw [List.mem_singleton.mp h]; omega
  · rintro σ H' ⟨x, rfl, rfl, hrow⟩
    rw [List.length_map, al, List.take_length] at hrow
    have rl : ∀ i, i < R.length → (R.getD i []).length = R.length := fun i hi => hrow _ (by rw [List.getD_eq_getElem?_getD, List.getElem?_eq_getElem hi]; exact List.getElem_mem hi)
    walk_at "st"
    rw [Int.toNat_natCast]
    refine Pm.w_forR (fun i σ H2 => ∃ y z, σ = [some (.ref l), some (.int R.length), _, y, z] ∧ H2 = H' ∧ ∀ j, j < i → (R.getD j []).getD j (0, 0) = (0, 1) ∧ ∀ k, k < j → lenOk ((R.getD j []).getD k (0, 0)) ∧ (R.getD j []).getD k (0, 0) = (R.getD k []).getD j (0, 0)) ⟨_, _, rfl, rfl, fun j hj => absurd hj (by omega)⟩ ?_ ?_
    · rintro i σ H2 hi ⟨y, z, rfl, rfl, ih⟩
      walk_at "st"
      rw [Int.zero_add]
      refine w_tbAt hT hi (fun a vs ha hv hA => ?_)
      walk_at "st"
      refine w_rwAt hv hA (by rw [rl i hi]; exact hi) (fun u hu => ?_)
      walk_at "st"
      refine w_neFr (p := (R.getD i []).getD i (0, 0)) (q := (0, 1)) hu ⟨_, rfl, .inr T.v_NOUGHT⟩ ?_
      walk_at "st"
      refine Pm.w_iteN (fun z => hE (fun k => z (k.self i hi))) (fun z0 => ?_)
      walk_at "st"
      rw [Int.toNat_natCast]
      refine Pm.w_forR (fun k σ H3 => ∃ z, σ = [some (.ref l), some (.int R.length), _, some (.int (i : Int)), z] ∧ H3 = H2 ∧ ∀ j, j < k → lenOk ((R.getD i []).getD j (0, 0)) ∧ (R.getD i []).getD j (0, 0) = (R.getD j []).getD i (0, 0)) ⟨_, rfl, rfl, fun j hj => absurd hj (by omega)⟩ ?_ ?_
      · rintro k σ H3 hk ⟨z, rfl, rfl, ih2⟩
        walk_at "st"
        rw [Int.zero_add]
        refine w_tbAt hT hi (fun a1 vs1 ha1 hv1 hA1 => ?_)
        walk_at "st"
        refine w_rwAt hv1 hA1 (by rw [rl i hi]; omega) (fun u1 hu1 => ?_)
        walk_at "st"
        refine ⟨u1, _, rfl, hu1, ?_⟩
        walk_at "st"
        refine Pm.w_iteN (fun z => hE (fun kk => z (kk.two i k hi hk).1)) (fun z1 => ?_)
        walk_at "st"
        refine w_tbAt hT hi (fun a2 vs2 ha2 hv2 hA2 => ?_)
        walk_at "st"
        refine w_rwAt hv2 hA2 (by rw [rl i hi]; omega) (fun u2 hu2 => ?_)
        walk_at "st"
        refine w_tbAt hT (show k < R.length by omega) (fun a3 vs3 ha3 hv3 hA3 => ?_)
        walk_at "st"
        refine w_rwAt hv3 hA3 (by rw [rl k (by omega)]; omega) (fun u3 hu3 => ?_)
        walk_at "st"
        refine w_neFr hu2 hu3 ?_
        walk_at "st"
        refine Pm.w_iteN (fun z => hE (fun kk => z (kk.two i k hi hk).2)) (fun z2 => ?_)
        walk_at "st"
        refine ⟨_, rfl, rfl, fun j hj => ?_⟩
        rcases Nat.lt_or_ge j k with c | c
        · exact ih2 j c
        · rw [show j = k by omega]; exact ⟨z1, z2⟩
      · rintro σ H3 ⟨z, rfl, rfl, ih2⟩
        refine ⟨_, _, rfl, rfl, fun j hj => ?_⟩
        rcases Nat.lt_or_ge j i with c | c
        · exact ih j c
        · rw [show j = i by omega]; exact ⟨z0, ih2⟩
    · rintro σ H2 ⟨y, z, rfl, rfl, ih⟩
      walk_at "st"
      exact q ⟨⟨by omega, by omega⟩, hrow, fun i hi => (ih i hi).1, fun i k hi hk => (ih i hi).2 k hk⟩
theorem good_tab {n B : Nat} {G : Nat → Nat → Rat} (n3 : 3 ≤ n) (n12 : n ≤ 12) (g : GoodT n G B) : TabOk (mat n fun i k => rp (G i k)) := by
  have at2 : ∀ i k, i < n → k < n → ((mat n fun i k => rp (G i k)).getD i []).getD k (0, 0) = rp (G i k) := fun i k hi hk => by
    have e : (mat n fun i k => rp (G i k)).getD i [] = (List.range n).map fun k => rp (G i k) := by rw [List.getD_eq_getElem?_getD, mat_row hi]; rfl
    rw [e, List.getD_eq_getElem?_getD, List.getElem?_map, List.getElem?_range hk]
    rfl
  refine ⟨by rw [mat_len]; exact ⟨n3, n12⟩, fun r hr => ?_, fun i hi => ?_, fun i k hi hk => ?_⟩
  · unfold mat at hr
    obtain ⟨i, _, rfl⟩ := List.mem_map.mp hr
    rw [mat_len, List.length_map, List.length_range]
  · rw [mat_len] at hi
    rw [at2 i i hi hi, g.self i hi]
    rfl
  · rw [mat_len] at hi
    rw [at2 i k hi (by omega), at2 k i (by omega) hi, g.sym k i (by omega) hi]
    refine ⟨⟨⟨?_, ?_⟩, ?_⟩, rfl⟩
    · have := (G i k).den_nz
      show (0 : Int) < ((G i k).den : Int)
      omega
    · exact (G i k).reduced
    · exact pos_num (g.pos i k hi (by omega) (by omega))
def spKeeps (K : PySem.W.Frag) : Sp := fun vs H Q _ => ∃ (l : Addr) (as : List Addr) (n B a b c d : Nat) (G : Nat → Nat → Rat), vs = [.ref l, .int a, .int b, .int c, .int d] ∧ Tb K H l as (mat n fun i k => rp (G i k)) ∧ in4 n a b c d ∧ (∀ i k, i < n → k < n → rb (G i k) B) ∧ 4 * B ≤ 9000 ∧ ∀ H', Same H H' → Q (.bl (decide (Rule4 G a b c d))) H'
theorem ok_keeps (T : Tx K mg) : FnOk P w K mg base CX0 4 T.a_keeps T.fd_keeps ["table", "a", "b", "c", "d"] (spKeeps K) := by
  refine T.F_keeps.ok sc_keeps (fun vs H Q E h => ?_) (fun cdv A outer s H vs Q E hr h => ?_)
  · obtain ⟨l, as, n, B, a, b, c, d, G, rfl, _⟩ := h
    rfl
  obtain ⟨l, as, n, B, a, b, c, d, G, rfl, hT, ⟨ab, bc, cd, dn⟩, hb, hB, q⟩ := h
  refine ⟨_, (pss_cons (ps_set (i := 5) sc_keeps.nd rfl (.inl rfl) (pe_call (ok_times T) (hr.mono (by decide)) (by rfl) T.g_times T.F_times.kp T.b_times .nil pass0 (pa_cons (pe_ix (ix_listK (K := K)) (pe_ix (ix_listK (K := K)) (pv 0) (pv 1) (fun _ _ => rfl)) (pv 3) (fun _ _ => rfl)) (pa_cons (pe_ix (ix_listK (K := K)) (pe_ix (ix_listK (K := K)) (pv 0) (pv 2) (fun _ _ => rfl)) (pv 4) (fun _ _ => rfl)) pa_nil))))
      (pss_cons (ps_set (i := 6) sc_keeps.nd rfl (.inl rfl) (pe_call (ok_times T) (hr.mono (by decide)) (by rfl) T.g_times T.F_times.kp T.b_times .nil pass0 (pa_cons (pe_ix (ix_listK (K := K)) (pe_ix (ix_listK (K := K)) (pv 0) (pv 1) (fun _ _ => rfl)) (pv 2) (fun _ _ => rfl)) (pa_cons (pe_ix (ix_listK (K := K)) (pe_ix (ix_listK (K := K)) (pv 0) (pv 3) (fun _ _ => rfl)) (pv 4) (fun _ _ => rfl)) pa_nil))))
      (pss_cons (ps_set (i := 7) sc_keeps.nd rfl (.inl rfl) (pe_call (ok_times T) (hr.mono (by decide)) (by rfl) T.g_times T.F_times.kp T.b_times .nil pass0 (pa_cons (pe_ix (ix_listK (K := K)) (pe_ix (ix_listK (K := K)) (pv 0) (pv 2) (fun _ _ => rfl)) (pv 3) (fun _ _ => rfl)) (pa_cons (pe_ix (ix_listK (K := K)) (pe_ix (ix_listK (K := K)) (pv 0) (pv 1) (fun _ _ => rfl)) (pv 4) (fun _ _ => rfl)) pa_nil))))
      (pss_one (ps_ret (pe_cmpR (op_eqDK (K := K) hr.units) (pv 5) (pe_call (ok_plus T) (hr.mono (by decide)) (by rfl) T.g_plus T.F_plus.kp T.b_plus .nil pass0 (pa_cons (pv 6) (pa_cons (pv 7) pa_nil))) (nomark _))))))), ?_⟩
  walk_at "st"
  refine w_tbRow hT (show a < n by omega) rfl (fun a1 v1 _ r1 g1 => ?_)
  walk_at "st"
  refine w_rowAt r1 g1 (show c < n by omega) rfl (fun u1 hu1 => ?_)
  walk_at "st"
  refine w_tbRow hT (show b < n by omega) rfl (fun a2 v2 _ r2 g2 => ?_)
  walk_at "st"
  refine w_rowAt r2 g2 (show d < n by omega) rfl (fun u2 hu2 => ?_)
  walk_at "st"
  refine ⟨_, _, _, _, B, B, rfl, hu1.rat, hu2.rat, hb _ _ (by omega) (by omega), hb _ _ (by omega) (by omega), by omega, fun x1 H1 s1 n1 h1 => ?_⟩
  have hT1 := hT.same s1
  walk_at "st"
  refine w_tbRow hT1 (show a < n by omega) rfl (fun a3 v3 _ r3 g3 => ?_)
  walk_at "st"
  refine w_rowAt r3 g3 (show b < n by omega) rfl (fun u3 hu3 => ?_)
  walk_at "st"
  refine w_tbRow hT1 (show c < n by omega) rfl (fun a4 v4 _ r4 g4 => ?_)
  walk_at "st"
  refine w_rowAt r4 g4 (show d < n by omega) rfl (fun u4 hu4 => ?_)
  walk_at "st"
  refine ⟨_, _, _, _, B, B, rfl, hu3.rat, hu4.rat, hb _ _ (by omega) (by omega), hb _ _ (by omega) (by omega), by omega, fun x2 H2 s2 n2 h2 => ?_⟩
  have hT2 := hT1.same s2
  walk_at "st"
  refine w_tbRow hT2 (show b < n by omega) rfl (fun a5 v5 _ r5 g5 => ?_)
  walk_at "st"
  refine w_rowAt r5 g5 (show c < n by omega) rfl (fun u5 hu5 => ?_)
  walk_at "st"
  refine w_tbRow hT2 (show a < n by omega) rfl (fun a6 v6 _ r6 g6 => ?_)
  walk_at "st"
  refine w_rowAt r6 g6 (show d < n by omega) rfl (fun u6 hu6 => ?_)
  walk_at "st"
  refine ⟨_, _, _, _, B, B, rfl, hu5.rat, hu6.rat, hb _ _ (by omega) (by omega), hb _ _ (by omega) (by omega), by omega, fun x3 H3 s3 n3 h3 => ?_⟩
  walk_at "st"
  refine ⟨_, _, _, _, B + B, B + B, rfl, SqT.of (s3 _ _ h2), SqT.of h3, rb_mul (hb _ _ (by omega) (by omega)) (hb _ _ (by omega) (by omega)), rb_mul (hb _ _ (by omega) (by omega)) (hb _ _ (by omega) (by omega)), by omega, fun x4 H4 s4 n4 h4 => ?_⟩
  have sA := (s1.trans s2).trans (s3.trans s4)
  refine w_eqFr (frv_new ((s2.trans (s3.trans s4)) _ _ h1)) (frv_new h4) ?_
  rw [show decide (rp (G a c * G b d) = rp (G a b * G c d + G b c * G a d)) = decide (Rule4 G a b c d) from decide_eq_decide.mpr ⟨fun k => rp_inj k, fun k => by unfold Rule4 at k; rw [k]⟩]
  exact q _ sA
/-- what is told of four posts of a table -/
def FourNew (K : PySem.W.Frag) (H : Hp) (P : Option (Nat × Nat × Nat × Nat) → Prop) (Q : VK) : Prop := ∀ (v : V) (H' : Hp) (o : Option (Nat × Nat × Nat × Nat)), Same H H' → P o → Four K H' v o → Q v H'
def Least2 (G : Nat → Nat → Rat) (n a b : Nat) : Option (Nat × Nat × Nat × Nat) → Prop
  | none => ∀ c d, in4 n a b c d → Rule4 G a b c d
  | some q => q.1 = a ∧ q.2.1 = b ∧ in4 n a b q.2.2.1 q.2.2.2 ∧ ¬ Rule4 G a b q.2.2.1 q.2.2.2 ∧ ∀ c d, in4 n a b c d → (c < q.2.2.1 ∨ (c = q.2.2.1 ∧ d < q.2.2.2)) → Rule4 G a b c d
def spFirstOf (K : PySem.W.Frag) : Sp := fun vs H Q _ => ∃ (l : Addr) (as : List Addr) (n B a b : Nat) (G : Nat → Nat → Rat), vs = [.ref l, .int a, .int b, .int n] ∧ n ≤ 1000 ∧ Tb K H l as (mat n fun i k => rp (G i k)) ∧ a < b ∧ b < n ∧ (∀ i k, i < n → k < n → rb (G i k) B) ∧ 4 * B ≤ 9000 ∧ FourNew K H (Least2 G n a b) Q
theorem ok_first_of (T : Tx K mg) : FnOk P w K mg base CX0 5 T.a_first_of T.fd_first_of ["table", "a", "b", "n"] (spFirstOf K) := by
  refine T.F_first_of.ok sc_first_of (fun vs H Q E h => ?_) (fun cdv A outer s H vs Q E hr h => ?_)
  · obtain ⟨l, as, n, B, a, b, G, rfl, _⟩ := h
    rfl
  obtain ⟨l, as, n, B, a, b, G, rfl, n2, hT, ab, bn, hb, hB, q⟩ := h
  refine ⟨_, (pss_cons (ps_for PassesOwn.never rfl (pi_range2 (by rfl) T.m_range (pa_cons (pe_op op_add (pv 2) (pe_int)) (pa_cons (pv 3) pa_nil))) (pg_name (i := 4) sc_first_of.nd rfl (.inl rfl)) (pss_one (ps_for PassesOwn.never rfl (pi_range2 (by rfl) T.m_range (pa_cons (pe_op op_add (pv 4) (pe_int)) (pa_cons (pv 3) pa_nil))) (pg_name (i := 5) sc_first_of.nd rfl (.inl rfl)) (pss_one (ps_if (pt_not (pt_val (pe_call (ok_keeps T) (hr.mono (by decide)) (by rfl) T.g_keeps T.F_keeps.kp T.b_keeps .nil pass0 (pa_cons (pv 0) (pa_cons (pv 1) (pa_cons (pv 2) (pa_cons (pv 4) (pa_cons (pv 5) pa_nil)))))))) (pss_one (ps_ret (pe_tup (pa_cons (pv 1) (pa_cons (pv 2) (pa_cons (pv 4) (pa_cons (pv 5) pa_nil))))))) pss_nil)))))
      (pss_one (ps_ret (pe_non)))), ?_⟩
  walk_at "st"
  refine Pm.w_forR (fun i σ H1 => ∃ x y, σ = [some (.ref l), some (.int a), some (.int b), some (.int n), x, y] ∧ Same H H1 ∧ ∀ c d, in4 n a b c d → c < b + 1 + i → Rule4 G a b c d) ⟨_, _, rfl, Same.refl _, fun c d h z => by unfold in4 at h; omega⟩ ?_ ?_
  · rintro i σ H1 hi ⟨x, y, rfl, s1, ih⟩
    have ec : (b : Int) + 1 + (i : Int) = ((b + 1 + i : Nat) : Int) := by omega
    generalize hc : b + 1 + i = c at ec ih
    rw [ec]
    have cn : c < n := by omega
    walk_at "st"
    refine Pm.w_forR (fun j σ H2 => ∃ y, σ = [some (.ref l), some (.int a), some (.int b), some (.int n), some (.int (c : Int)), y] ∧ Same H H2 ∧ ∀ d, in4 n a b c d → d < c + 1 + j → Rule4 G a b c d) ⟨_, rfl, s1, fun d h z => by unfold in4 at h; omega⟩ ?_ ?_
    · rintro j σ H2 hj ⟨y, rfl, s2, ih2⟩
      have ed : (c : Int) + 1 + (j : Int) = ((c + 1 + j : Nat) : Int) := by omega
      generalize hd : c + 1 + j = d at ed ih2
      rw [ed]
      have dn : d < n := by omega
      have i4 : in4 n a b c d := ⟨ab, by omega, by omega, dn⟩
      walk_at "st"
      refine ⟨l, as, n, B, a, b, c, d, G, rfl, hT.same s2, i4, hb, hB, fun H3 s3 => ?_⟩
      walk_at "st"
      refine Pm.w_iteN (fun z => ?_) (fun z => ?_)
      · walk_at "st"
        refine Pm.w_newT (fun t ht => ?_)
        refine q _ _ (some (a, b, c, d)) (s2.trans (s3.trans (same_new ht _))) ⟨rfl, rfl, i4, z, fun c' d' h' z' => ?_⟩ ⟨t, rfl, upd_same⟩
        rcases z' with z' | ⟨rfl, z'⟩
        · exact ih c' d' h' z'
        · exact ih2 d' h' z'
      · walk_at "st"
        refine ⟨_, rfl, s2.trans s3, fun d' h' z' => ?_⟩
        by_cases e : d' < d
        · exact ih2 d' h' e
        · rw [show d' = d by omega]; exact z
    · rintro σ H2 ⟨y, rfl, s2, ih2⟩
      refine ⟨_, _, rfl, s2, fun c' d' h' z' => ?_⟩
      by_cases e : c' < c
      · exact ih c' d' h' e
      · have e2 : c' = c := by omega
        subst e2
        refine ih2 d' h' ?_
        have := h'.2.2.2
        omega
  · rintro σ H1 ⟨x, y, rfl, s1, ih⟩
    walk_at "st"
    refine q _ _ none s1 (fun c d h => ih c d h ?_) rfl
    have := h.2.2
    omega
def spBroken (K : PySem.W.Frag) (C : Addr) : Sp := fun vs H Q E => ∃ (l : Addr) (as : List Addr) (R : List (List IP)), vs = [.ref l] ∧ Tb K H l as R ∧ (¬ TabOk R → E (.ref C) none H) ∧ (TabOk R → ∃ (n B : Nat) (G : Nat → Nat → Rat), R = (mat n fun i k => rp (G i k)) ∧ (∀ i k, i < n → k < n → rb (G i k) B) ∧ 4 * B ≤ 9000 ∧ FourNew K H (Least4 (Rule4 G) n) Q)
theorem ok_broken (T : Tx K mg) : FnOk P w K mg base (L2.CX P w) 6 T.a_broken T.fd_broken ["table"] (spBroken K T.c_BadTable) := by
  refine T.F_broken.okX sc_broken (fun vs H Q E h => ?_) (fun cdv A outer s H vs Q E hr h => ?_)
  · obtain ⟨l, as, R, rfl, _⟩ := h
    rfl
  obtain ⟨l, as, R, rfl, hT, hE, q⟩ := h
  refine ⟨_, (pss_cons (ps_set (i := 1) sc_broken.nd rfl (.inl rfl) (pe_call (ok_looked T) (hr.mono (by decide)) (by rfl) T.g_looked T.F_looked.kp T.b_looked .nil (passes_call (takes_of rfl rfl rfl rfl) (fun _ _ _ _ h => h)) (pa_cons (pv 0) pa_nil)))
      (pss_cons (ps_for (passes_of rfl) rfl (pi_range1 (by rfl) T.m_range (pa_cons (pv 1) pa_nil)) (pg_name (i := 2) sc_broken.nd rfl (.inl rfl)) (pss_one (ps_for (passes_of rfl) rfl (pi_range2 (by rfl) T.m_range (pa_cons (pe_op op_add (pv 2) (pe_int)) (pa_cons (pv 1) pa_nil))) (pg_name (i := 3) sc_broken.nd rfl (.inl rfl)) (pss_cons (ps_set (i := 4) sc_broken.nd rfl (.inl rfl) (pe_call (ok_first_of T) (hr.mono (by decide)) (by rfl) T.g_first_of T.F_first_of.kp T.b_first_of .nil pass0 (pa_cons (pv 0) (pa_cons (pv 2) (pa_cons (pv 3) (pa_cons (pv 1) pa_nil))))))
      (pss_one (ps_if (pt_cmpR op_notNK (pv 4) (pe_non) (nomark _)) (pss_one (ps_ret (pv 4))) pss_nil))))))
      (pss_one (ps_ret (pe_non))))), ?_⟩
  walk_at "st"
  refine ⟨l, as, R, rfl, hT, hE, fun ok => ?_⟩
  obtain ⟨n, B, G, rfl, hb, hB, q⟩ := q ok
  have okl := ok.len
  rw [mat_len] at okl ⊢
  walk_at "st"
  rw [Int.toNat_natCast]
  refine Pm.w_forR (fun i σ H1 => ∃ x y z, σ = [some (.ref l), some (.int n), x, y, z] ∧ Same H H1 ∧ ∀ a b c d, in4 n a b c d → a < i → Rule4 G a b c d) ⟨_, _, _, rfl, Same.refl _, fun a b c d _ z => absurd z (by omega)⟩ ?_ ?_
  · rintro a σ H1 hi ⟨x, y, z, rfl, s1, ih⟩
    walk_at "st"
    rw [Int.zero_add]
    refine Pm.w_forR (fun j σ H2 => ∃ y z, σ = [some (.ref l), some (.int n), some (.int (a : Int)), y, z] ∧ Same H H2 ∧ ∀ b c d, in4 n a b c d → b < a + 1 + j → Rule4 G a b c d) ⟨_, _, rfl, s1, fun b c d h z => by unfold in4 at h; omega⟩ ?_ ?_
    · rintro j σ H2 hj ⟨y, z, rfl, s2, ih2⟩
      have eb : (a : Int) + 1 + (j : Int) = ((a + 1 + j : Nat) : Int) := by omega
      generalize hbb : a + 1 + j = b at eb ih2
      rw [eb]
      have bn : b < n := by omega
      walk_at "st"
      refine ⟨l, as, n, B, a, b, G, rfl, by omega, hT.same s2, by omega, bn, hb, hB, fun v H3 o s3 hl hf => ?_⟩
      walk_at "st"
      match o, hl, hf with
      | none, hl, hf =>
        have hf : v = .non := hf
        subst hf
        refine Pm.w_notN_non ?_
        walk_at "st"
        refine ⟨_, _, rfl, s2.trans s3, fun b' c' d' h' z' => ?_⟩
        by_cases e : b' < b
        · exact ih2 b' c' d' h' e
        · have e2 : b' = b := by omega
          subst e2
          exact hl c' d' h'
      | some (a1, b1, c1, d1), ⟨e1, e2, i4, nr, le⟩, ⟨t, et, ht⟩ =>
        simp only at e1 e2 i4 nr le
        subst et e1 e2
        refine Pm.w_notN_ref ?_
        walk_at "st"
        refine q _ _ (some (a1, b1, c1, d1)) (s2.trans s3) ⟨i4, nr, fun a' b' c' d' h' z' => ?_⟩ ⟨t, rfl, ht⟩
        unfold lex4 at z'
        simp only at z'
        by_cases c1' : a' < a1
        · exact ih a' b' c' d' h' c1'
        · have e3 : a' = a1 := by omega
          subst e3
          by_cases c2' : b' < b1
          · exact ih2 b' c' d' h' c2'
          · have e4 : b' = b1 := by omega
            subst e4
            exact le c' d' h' (by omega)
    · rintro σ H2 ⟨y, z, rfl, s2, ih2⟩
      refine ⟨_, _, _, rfl, s2, fun a' b' c' d' h' z' => ?_⟩
      by_cases e : a' < a
      · exact ih a' b' c' d' h' e
      · have e2 : a' = a := by omega
        subst e2
        refine ih2 b' c' d' h' ?_
        have := h'.2
        unfold in4 at h'
        omega
  · rintro σ H1 ⟨x, y, z, rfl, s1, ih⟩
    walk_at "st"
    refine q _ _ none s1 (fun a b c d h => ih a b c d h ?_) rfl
    unfold in4 at h
    omega
end
section
variable {P : Program} {w : World} {K : PySem.W.Frag} {mg : Str → Option Value} {base : Heap}
theorem ok_BadPairs___init__ (T : Tx K mg) : FnOk P w K mg base CX0 1 T.a_BadPairs___init__ T.fd_BadPairs___init__ ["self", "two"] (spXi K "two") := by
  refine T.F_BadPairs___init__.ok sc_BadPairs___init__ (fun vs H Q E h => ?_) (fun cdv A outer s H vs Q E hr h => ?_)
  · obtain ⟨a, C, y, rfl, _⟩ := h
    rfl
  obtain ⟨a, C, y, rfl, hT, hn, ha, q⟩ := h
  refine ⟨_, (pss_one (ps_ost (pv 0) (pv 1))), ?_⟩
  exact ⟨y, rfl, .ref a, rfl, a, C, rfl, hT, hn, .inl ⟨ha, fun dx hdx ne => q dx hdx ne⟩⟩
/-- the least two whose length is not above nought -/
def LeastB (S : Nat → V2) (n : Nat) : Option (Nat × Nat) → Prop
  | none => ∀ i k, i < k → k < n → 0 < det (S i) (S k)
  | some p => p.1 < p.2 ∧ p.2 < n ∧ ¬ 0 < det (S p.1) (S p.2) ∧ ∀ i k, i < k → k < n → (i < p.1 ∨ (i = p.1 ∧ k < p.2)) → 0 < det (S i) (S k)
theorem leastB_uniq {S : Nat → V2} {n : Nat} : ∀ {q q' : Option (Nat × Nat)}, LeastB S n q → LeastB S n q' → q = q'
  | none, none, _, _ => rfl
  | none, some _, h, h' => absurd (h _ _ h'.1 h'.2.1) h'.2.2.1
  | some _, none, h, h' => absurd (h' _ _ h.1 h.2.1) h.2.2.1
  | some (a, b), some (a', b'), h, h' => by
    have n1 : ¬ (a < a' ∨ (a = a' ∧ b < b')) := fun z => h.2.2.1 (h'.2.2.2 _ _ h.1 h.2.1 z)
    have n2 : ¬ (a' < a ∨ (a' = a ∧ b' < b)) := fun z => h'.2.2.1 (h.2.2.2 _ _ h'.1 h'.2.1 z)
    have e1 : a = a' := by omega
    have e2 : b = b' := by omega
    rw [e1, e2]
theorem num_le (r : Rat) : r.num ≤ 0 ↔ ¬ 0 < r := by
  constructor
  · intro h z
    have := pos_num z
    omega
  · intro h
    rcases Int.lt_or_le 0 r.num with z | z
    · exact absurd ((Rat.lt_iff 0 r).mpr (by simpa using z)) h
    · exact z
/-- pairs by number in a list -/
def PrL (K : PySem.W.Frag) (H : Hp) (l : Addr) (n : Nat) (S : Nat → V2) : Prop := ∃ ws, H l = some (.lst ws) ∧ All2 (PrV K H) ws ((List.range n).map S)
theorem PrL.same {H H' : Hp} {l : Addr} {n : Nat} {S : Nat → V2} (h : PrL K H l n S) (s : Same H H') : PrL K H' l n S := by
  obtain ⟨ws, h1, h2⟩ := h
  exact ⟨ws, s _ _ h1, h2.mono fun _ _ r => r.keep (keeps s)⟩
theorem PrL.at_ {H : Hp} {l : Addr} {n : Nat} {S : Nat → V2} (h : PrL K H l n S) {i : Nat} (hi : i < n) : ∃ ws t, H l = some (.lst ws) ∧ ws[i]? = some (.ref t) ∧ PrV K H (.ref t) (S i) := by
  obtain ⟨ws, h1, h2⟩ := h
  obtain ⟨v, hv, t, u, w, rfl, r⟩ := h2.get' (i := i) (y := S i) (by rw [List.getElem?_map, List.getElem?_range hi]; rfl)
  exact ⟨ws, t, h1, hv, t, u, w, rfl, r⟩
theorem PrL.len {H : Hp} {l : Addr} {n : Nat} {S : Nat → V2} (h : PrL K H l n S) : ∃ ws, H l = some (.lst ws) ∧ ws.length = n := by
  obtain ⟨ws, h1, h2⟩ := h
  exact ⟨ws, h1, by have := h2.length; rw [List.length_map, List.length_range] at this; exact this⟩
def spOfPairs (K : PySem.W.Frag) (D : Addr) : Sp := fun vs H Q E => ∃ (l : Addr) (n : Nat) (S : Nat → V2) (B : Nat), vs = [.ref l] ∧ n ≤ 1000 ∧ PrL K H l n S ∧ (∀ i, i < n → rb (S i).p B ∧ rb (S i).q B) ∧ 4 * B ≤ 9000 ∧
  (∀ a b t dd H1 H', LeastB S n (some (a, b)) → Same H H1 → H1 t = some (.tup [.int (a : Int), .int (b : Int)]) → Same H1 H' → H' dd = some (.xd [("two", .ref t)]) → E (.ref D) (some dd) H') ∧
  (LeastB S n none → TbNew K H (mat n (sprd S)) Q)
theorem ok_of_pairs (T : Tx K mg) : FnOk P w K mg base (L2.CX P w) 6 T.a_of_pairs T.fd_of_pairs ["rows"] (spOfPairs K T.c_BadPairs) := by
  refine T.F_of_pairs.okX sc_of_pairs (fun vs H Q E h => ?_) (fun cdv A outer s H vs Q E hr h => ?_)
  · obtain ⟨l, n, S, B, rfl, _⟩ := h
    rfl
  obtain ⟨l, n, S, B, rfl, n2, hL, hS, hB, qE, q⟩ := h
  refine ⟨_, (pss_cons (ps_set (i := 1) sc_of_pairs.nd rfl (.inl rfl) (pe_call (ok_table_of T) (hr.mono (by decide)) (by rfl) T.g_table_of T.F_table_of.kp T.b_table_of .nil pass0 (pa_cons (pv 0) pa_nil)))
      (pss_cons (ps_for (passes_of rfl) rfl (pi_range1 (by rfl) T.m_range (pa_cons (pe_callB (c_len (K := K)) (by rfl) T.m_len PySem.boot_len (pa_cons (pv 0) pa_nil)) pa_nil)) (pg_name (i := 2) sc_of_pairs.nd rfl (.inl rfl)) (pss_one (ps_for (passes_of rfl) rfl (pi_range2 (by rfl) T.m_range (pa_cons (pe_op op_add (pv 2) (pe_int)) (pa_cons (pe_callB (c_len (K := K)) (by rfl) T.m_len PySem.boot_len (pa_cons (pv 0) pa_nil)) pa_nil))) (pg_name (i := 3) sc_of_pairs.nd rfl (.inl rfl)) (pss_one (ps_if (pt_cmpR op_le (pe_ix (ix_tupK (K := K)) (pe_ix (ix_listK (K := K)) (pe_ix (ix_listK (K := K)) (pv 1) (pv 2) (fun _ _ => rfl)) (pv 3) (fun _ _ => rfl)) (pe_int) (fun _ _ => rfl)) (pe_int) (nomark _)) (pss_one (ps_raise rfl (takes_of rfl rfl rfl rfl) (pmk_oex T.o_BadPairs T.iC_BadPairs___init__ T.tI_BadPairs___init__ (ok_BadPairs___init__ T) (hr.mono (by decide)) T.b_BadPairs___init__ .nil pass0 (by rfl) T.g_BadPairs (pa_cons (pe_tup (pa_cons (pv 2) (pa_cons (pv 3) pa_nil))) pa_nil)))) pss_nil)))))
      (pss_one (ps_ret (pv 1))))), ?_⟩
  walk_at "st"
  obtain ⟨ws, hl, ha⟩ := id hL
  refine ⟨l, n, ws, S, B, rfl, n2, SqL.of hl, ha, hS, hB, fun m H1 as s1 nm frm hT => ?_⟩
  obtain ⟨ws1, hl1, wl1⟩ := (hL.same s1).len
  walk_at "st"
  refine Pm.w_lenL (SqL.of hl1) ?_
  walk_at "st"
  rw [wl1, Int.toNat_natCast]
  refine Pm.w_forR (fun i σ H2 => ∃ x y, σ = [some (.ref l), some (.ref m), x, y] ∧ H2 = H1 ∧ ∀ a b, a < b → b < n → a < i → 0 < det (S a) (S b)) ⟨_, _, rfl, rfl, fun a b _ _ z => absurd z (by omega)⟩ ?_ ?_
  · rintro i σ H2 hi ⟨x, y, rfl, rfl, ih⟩
    walk_at "st"
    refine Pm.w_lenL (SqL.of hl1) ?_
    walk_at "st"
    rw [wl1, Int.zero_add, show ((n : Int) - ((i : Int) + 1)).toNat = n - (i + 1) by omega]
    refine Pm.w_forR (fun j σ H3 => ∃ y, σ = [some (.ref l), some (.ref m), some (.int (i : Int)), y] ∧ H3 = H2 ∧ ∀ b, i < b → b < n → b < i + 1 + j → 0 < det (S i) (S b)) ⟨_, rfl, rfl, fun b _ _ z => by omega⟩ ?_ ?_
    · rintro j σ H3 hj ⟨y, rfl, rfl, ih2⟩
      have ek : (i : Int) + 1 + (j : Int) = ((i + 1 + j : Nat) : Int) := by omega
      rw [ek]
      generalize hk : i + 1 + j = k at *
      have kn : k < n := by omega
      walk_at "st"
      refine w_tbRow hT hi rfl (fun a1 v1 _ r1 g1 => ?_)
      walk_at "st"
      refine w_rowAt r1 g1 kn rfl (fun u1 hu1 => ?_)
      have e1 : sprd S i k = rp (det (S i) (S k)) := by
        unfold sprd
        rw [if_neg (by omega), Nat.min_eq_left (by omega), Nat.max_eq_right (by omega)]
      rw [e1] at hu1
      walk_at "st"
      refine Pm.w_ixT hu1.tup (atI2 _ _).1 ?_
      walk_at "st"
      refine Pm.w_ite (fun z => ?_) (fun z => ?_)
      · walk_at "st"
        unfold tMkO
        walk_at "st"
        refine Pm.w_newT (fun t ht => ?_)
        walk_at "st"
        refine ⟨(by decide : (1 : Nat) ≤ 1000), fun x hx => ?_⟩
        have s4 := same_new ht (.tup [.int (i : Int), .int (k : Int)])
        exact w_raiseXi T.o_BadPairs T.nf_BadPairs_two (fun dd H' s2 hdd h' => qE i k t dd _ H' ⟨by omega, kn, (num_le _).mp z, fun a b hab hb lx => by
          rcases lx with lx | ⟨rfl, lx⟩
          · exact ih a b hab hb lx
          · exact ih2 b hab hb lx⟩ (s1.trans s4) upd_same s2 h') hx
      · walk_at "st"
        have pz : 0 < det (S i) (S k) := by
          rcases Classical.em (0 < det (S i) (S k)) with c | c
          · exact c
          · exact absurd ((num_le _).mpr c) z
        refine ⟨_, rfl, rfl, fun b h1 h2 h3 => ?_⟩
        by_cases e : b < k
        · exact ih2 b h1 h2 e
        · rw [show b = k by omega]; exact pz
    · rintro σ H3 ⟨y, rfl, rfl, ih2⟩
      refine ⟨_, _, rfl, rfl, fun a b hab hb hai => ?_⟩
      by_cases e : a < i
      · exact ih a b hab hb e
      · have e2 : a = i := by omega
        subst e2
        exact ih2 b hab hb (by omega)
  · rintro σ H2 ⟨x, y, rfl, rfl, ih⟩
    walk_at "st"
    exact q (fun a b hab hb => ih a b hab hb (by omega)) m _ as s1 nm frm hT
end
section
variable {P : Program} {w : World} {K : PySem.W.Frag} {mg : Str → Option Value} {base : Heap}
def spLow : Sp := fun vs H Q _ => ∃ (a b : Int) (n : Nat), vs = [.int a, .int b] ∧ b ≠ 0 ∧ b.natAbs < 2 ^ n ∧ n ≤ 9000 ∧ FrNew H (Rat.divInt a b) Q
theorem ok_law_low (T : Tx K mg) : FnOk P w K mg base CX0 1 T.a_law_low T.fd_law_low ["_law_top", "_law_bottom"] spLow := by
  refine T.F_law_low.ok sc_law_low (fun vs H Q E h => ?_) (fun cdv A outer s H vs Q E hr h => ?_)
  · obtain ⟨a, b, n, rfl, _⟩ := h
    rfl
  obtain ⟨a, b, n, rfl, hb, hn, hn9, q⟩ := h
  refine ⟨_, (pss_cons (ps_set (i := 2) sc_law_low.nd rfl (.inl rfl) (pe_callB c_abs (by rfl) T.m_abs (by decide +kernel) (pa_cons (pv 0) pa_nil)))
      (pss_cons (ps_set (i := 3) sc_law_low.nd rfl (.inl rfl) (pe_callB c_abs (by rfl) T.m_abs (by decide +kernel) (pa_cons (pv 1) pa_nil)))
      (pss_cons (ps_while PassesOwn.never (pt_cmpR op_gt (pv 3) (pe_int) (nomark _)) (pss_one (ps_par (i := 2) (j := 3) (by rfl) sc_law_low.nd rfl rfl (by decide) rfl rfl (pa_cons (pv 3) (pa_cons (pe_op op_mod (pv 2) (pv 3)) pa_nil)) (by rfl))))
      (C8.pss_cut (ps_if (pt_cmpR op_lt (pv 1) (pe_int) (nomark _)) (pss_cons (ps_set (i := 0) sc_law_low.nd rfl (.inl rfl) (pe_un un_neg (pv 0)))
      (pss_one (ps_set (i := 1) sc_law_low.nd rfl (.inl rfl) (pe_un un_neg (pv 1))))) pss_nil)
      (pss_one (ps_ret (pe_tup (pa_cons (pe_op op_fdivW (pv 0) (pv 2)) (pa_cons (pe_op op_fdivW (pv 1) (pv 2)) pa_nil))))))))), ?_⟩
  walk_at "st"
  refine Pm.w_while (fun m σ H' => ∃ x y : Nat, σ = [some (.int a), some (.int b), some (.int x), some (.int y)] ∧ m = y ∧ Nat.gcd x y = Int.gcd a b ∧ H' = H) _ ⟨(if a < 0 then -a else a).natAbs, (if b < 0 then -b else b).natAbs, ?_, rfl, gcd_abs a b, rfl⟩ ?_
  · have e : ∀ c : Int, (if c < 0 then -c else c) = (((if c < 0 then -c else c).natAbs : Nat) : Int) := fun c => by split <;> omega
    show [some (V.int a), some (V.int b), some (V.int (if a < 0 then -a else a)), some (V.int (if b < 0 then -b else b))] = _
    rw [← e a, ← e b]
  · rintro m σ H' ⟨x, y, rfl, rfl, hg, rfl⟩
    walk_at "st"
    refine Pm.w_wh (fun c => ?_) (fun c => ?_)
    · walk_at "st"
      exact ⟨_, Nat.mod_lt x (by omega), m, x % m, rfl, rfl, by rw [gcd_turn x m (by omega)]; exact hg, rfl⟩
    · have e : m = 0 := by omega
      subst e
      rw [Nat.gcd_zero_right] at hg
      subst hg
      refine Pm.w_cut (fun σ' H2 => ∃ a' b' : Int, σ' = [some (.int a'), some (.int b'), some (.int ((Int.gcd a b : Nat) : Int)), some (.int ((0 : Nat) : Int))] ∧ H2 = H' ∧ Int.gcd a' b' = Int.gcd a b ∧ 0 < b' ∧ b'.natAbs < 2 ^ n ∧ Rat.divInt a' b' = Rat.divInt a b) ?_ ?_
      · walk_at "st"
        refine Pm.w_ite (fun d => ?_) (fun d => ?_)
        · walk_at "st"
          exact ⟨-a, -b, rfl, rfl, by rw [Int.gcd_neg, Int.neg_gcd], by omega, by omega, Rat.neg_divInt_neg a b⟩
        · walk_at "st"
          exact ⟨a, b, rfl, rfl, rfl, by omega, hn, rfl⟩
      · rintro σ H2 ⟨a', b', rfl, rfl, eg, hb', hn, e⟩
        rw [← eg]
        have g0 : 0 < ((Int.gcd a' b' : Nat) : Int) := gcd_pos (by omega)
        have g1 := gcd_le_right (a := a') hb'
        have n0 : 0 < n := by
          rcases Nat.eq_zero_or_pos n with z | z
          · subst z
            exact absurd hn (by omega)
          · exact z
        have hd : ∀ i : Int, CDivW i ((Int.gcd a' b' : Nat) : Int) := fun i => wide_div g0 (Nat.lt_of_le_of_lt (by omega) hn) n0 hn9
        walk_at "st"
        refine Pm.w_i (hd _) ?_
        walk_at "st"
        refine Pm.w_i (hd _) ?_
        walk_at "st"
        refine Pm.w_newT (fun t ht => ?_)
        have z := div_pos_num (a := a') hb'
        rw [z.1, z.2, e]
        exact q t _ (same_new ht _) ht upd_same
end
section
variable {P : Program} {w : World} {K : PySem.W.Frag} {mg : Str → Option Value} {base : Heap}
def spPart (K : PySem.W.Frag) : Sp := fun vs H Q _ => ∃ (t : Addr) (r : Rat) (n : Nat), vs = [.ref t] ∧ SqT K H t [.int r.num, .int r.den] ∧ r.den < 2 ^ n ∧ n ≤ 9000 ∧ ∀ H', Same H H' → Q (.bl true) H'
theorem ok_law_part (T : Tx K mg) : FnOk P w K mg base CX0 2 T.a_law_part T.fd_law_part ["_law_found"] (spPart K) := by
  refine T.F_law_part.ok sc_law_part (fun vs H Q E h => ?_) (fun cdv A outer s H vs Q E hr h => ?_)
  · obtain ⟨t, r, n, rfl, _⟩ := h
    rfl
  obtain ⟨t, r, n, rfl, ht, hn, hn9, q⟩ := h
  refine ⟨_, (pss_cons (ps_if (PW.pt (pw_or (pt_not (pt_val (pe_callB (call_isK (K := K)) (by rfl) T.m_isinstance (by decide +kernel) (pa_cons (pv 0) (pa_cons (pe_bltn (v := .ty "tuple") (by rfl) T.m_tuple (by decide +kernel) rfl) pa_nil))))) (pw_or1 (pt_cmpR op_ne (pe_callB (c_len (K := K)) (by rfl) T.m_len PySem.boot_len (pa_cons (pv 0) pa_nil)) (pe_int) (nomark _))))) (pss_one (ps_ret (pe_bl))) pss_nil)
      (pss_cons (ps_if (PW.pt (pw_or (pt_not (pt_val (pe_call (ok_law_whole T) (hr.mono (by decide)) (by rfl) T.g_law_whole T.F_law_whole.kp T.b_law_whole .nil pass0 (pa_cons (pe_ix (ix_tupK (K := K)) (pv 0) (pe_int) (fun _ _ => rfl)) pa_nil)))) (pw_or (pt_not (pt_val (pe_call (ok_law_whole T) (hr.mono (by decide)) (by rfl) T.g_law_whole T.F_law_whole.kp T.b_law_whole .nil pass0 (pa_cons (pe_ix (ix_tupK (K := K)) (pv 0) (pe_int) (fun _ _ => rfl)) pa_nil)))) (pw_or1 (pt_cmpR op_le (pe_ix (ix_tupK (K := K)) (pv 0) (pe_int) (fun _ _ => rfl)) (pe_int) (nomark _)))))) (pss_one (ps_ret (pe_bl))) pss_nil)
      (pss_one (ps_ret (pe_cmpR (op_eqDK (K := K) hr.units) (pe_call (ok_law_low T) (hr.mono (by decide)) (by rfl) T.g_law_low T.F_law_low.kp T.b_law_low .nil pass0 (pa_cons (pe_ix (ix_tupK (K := K)) (pv 0) (pe_int) (fun _ _ => rfl)) (pa_cons (pe_ix (ix_tupK (K := K)) (pv 0) (pe_int) (fun _ _ => rfl)) pa_nil))) (pv 0) (nomark _)))))), ?_⟩
  have rd := r.den_nz
  walk_at "st"
  refine Pm.w_isiTup ht (b := true) (by decide +kernel) ?_
  walk_at "st"
  refine Pm.w_lenT ht ?_
  walk_at "st"
  refine Pm.w_iteN (fun z => absurd rfl z) (fun _ => ?_)
  walk_at "st"
  refine Pm.w_ixT ht (atI2 _ _).1 ?_
  walk_at "st"
  refine ⟨_, rfl, ?_⟩
  walk_at "st"
  refine Pm.w_ixT ht (atI2 _ _).2 ?_
  walk_at "st"
  refine ⟨_, rfl, ?_⟩
  walk_at "st"
  refine Pm.w_ixT ht (atI2 _ _).2 ?_
  walk_at "st"
  refine Pm.w_ite (fun z => absurd z (by omega)) (fun _ => ?_)
  walk_at "st"
  refine Pm.w_ixT ht (atI2 _ _).1 ?_
  walk_at "st"
  refine Pm.w_ixT ht (atI2 _ _).2 ?_
  walk_at "st"
  refine ⟨_, _, n, rfl, den_ne r, by omega, hn9, fun u H' s1 nu hu => ?_⟩
  walk_at "st"
  refine Pm.w_eqPair (SqT.of hu) (Same.tup s1 ht) ?_
  rw [divInt_self', decide_eq_true ⟨rfl, rfl⟩]
  exact q H' s1
end
section
variable {P : Program} {w : World} {K : PySem.W.Frag} {mg : Str → Option Value} {base : Heap}
def spLAdd (K : PySem.W.Frag) : Sp := fun vs H Q _ => ∃ (t u : Addr) (x y : Rat) (n m : Nat), vs = [.ref t, .ref u] ∧ FrV K H (.ref t) (rp x) ∧ FrV K H (.ref u) (rp y) ∧ rb x n ∧ rb y m ∧ n + m ≤ 9000 ∧ FrNew H (x + y) Q
theorem ok_law_add (T : Tx K mg) : FnOk P w K mg base CX0 2 T.a_law_add T.fd_law_add ["_law_one", "_law_other"] (spLAdd K) := by
  refine T.F_law_add.ok sc_law_add (fun vs H Q E h => ?_) (fun cdv A outer s H vs Q E hr h => ?_)
  · obtain ⟨t, u, x, y, n, m, rfl, _⟩ := h
    rfl
  obtain ⟨t, u, x, y, n, m, rfl, ht, hu, bx, byy, hnm, q⟩ := h
  refine ⟨_, (pss_one (ps_ret (pe_call (ok_law_low T) (hr.mono (by decide)) (by rfl) T.g_law_low T.F_law_low.kp T.b_law_low .nil pass0 (pa_cons (pe_op op_add (pe_op op_mulW (pe_ix (ix_tupK (K := K)) (pv 0) (pe_int) (fun _ _ => rfl)) (pe_ix (ix_tupK (K := K)) (pv 1) (pe_int) (fun _ _ => rfl))) (pe_op op_mulW (pe_ix (ix_tupK (K := K)) (pv 1) (pe_int) (fun _ _ => rfl)) (pe_ix (ix_tupK (K := K)) (pv 0) (pe_int) (fun _ _ => rfl)))) (pa_cons (pe_op op_mulW (pe_ix (ix_tupK (K := K)) (pv 0) (pe_int) (fun _ _ => rfl)) (pe_ix (ix_tupK (K := K)) (pv 1) (pe_int) (fun _ _ => rfl))) pa_nil))))), ?_⟩
  have n0 := rb_pos bx
  have m0 := rb_pos byy
  walk_at "st"
  refine Pm.w_ixT ht.rat (atI2 _ _).1 ?_
  walk_at "st"
  refine Pm.w_ixT hu.rat (atI2 _ _).2 ?_
  walk_at "st"
  refine Pm.w_i (wide_mul bx.1 (rb_den byy) n0 m0 (by omega)) ?_
  walk_at "st"
  refine Pm.w_ixT hu.rat (atI2 _ _).1 ?_
  walk_at "st"
  refine Pm.w_ixT ht.rat (atI2 _ _).2 ?_
  walk_at "st"
  refine Pm.w_i (wide_mul byy.1 (rb_den bx) m0 n0 (by omega)) ?_
  walk_at "st"
  refine Pm.w_ixT ht.rat (atI2 _ _).2 ?_
  walk_at "st"
  refine Pm.w_ixT hu.rat (atI2 _ _).2 ?_
  walk_at "st"
  refine Pm.w_i (wide_mul (rb_den bx) (rb_den byy) n0 m0 (by omega)) ?_
  walk_at "st"
  refine ⟨_, _, n + m, rfl, den_mul x y, wide_lt (rb_den bx) (rb_den byy), hnm, ?_⟩
  rw [plus_is]
  exact q
def spLMul (K : PySem.W.Frag) : Sp := fun vs H Q _ => ∃ (t u : Addr) (x y : Rat) (n m : Nat), vs = [.ref t, .ref u] ∧ FrV K H (.ref t) (rp x) ∧ FrV K H (.ref u) (rp y) ∧ rb x n ∧ rb y m ∧ n + m ≤ 9000 ∧ FrNew H (x * y) Q
theorem ok_law_mul (T : Tx K mg) : FnOk P w K mg base CX0 2 T.a_law_mul T.fd_law_mul ["_law_one", "_law_other"] (spLMul K) := by
  refine T.F_law_mul.ok sc_law_mul (fun vs H Q E h => ?_) (fun cdv A outer s H vs Q E hr h => ?_)
  · obtain ⟨t, u, x, y, n, m, rfl, _⟩ := h
    rfl
  obtain ⟨t, u, x, y, n, m, rfl, ht, hu, bx, byy, hnm, q⟩ := h
  refine ⟨_, (pss_one (ps_ret (pe_call (ok_law_low T) (hr.mono (by decide)) (by rfl) T.g_law_low T.F_law_low.kp T.b_law_low .nil pass0 (pa_cons (pe_op op_mulW (pe_ix (ix_tupK (K := K)) (pv 0) (pe_int) (fun _ _ => rfl)) (pe_ix (ix_tupK (K := K)) (pv 1) (pe_int) (fun _ _ => rfl))) (pa_cons (pe_op op_mulW (pe_ix (ix_tupK (K := K)) (pv 0) (pe_int) (fun _ _ => rfl)) (pe_ix (ix_tupK (K := K)) (pv 1) (pe_int) (fun _ _ => rfl))) pa_nil))))), ?_⟩
  have n0 := rb_pos bx
  have m0 := rb_pos byy
  walk_at "st"
  refine Pm.w_ixT ht.rat (atI2 _ _).1 ?_
  walk_at "st"
  refine Pm.w_ixT hu.rat (atI2 _ _).1 ?_
  walk_at "st"
  refine Pm.w_i (wide_mul bx.1 byy.1 n0 m0 (by omega)) ?_
  walk_at "st"
  refine Pm.w_ixT ht.rat (atI2 _ _).2 ?_
  walk_at "st"
  refine Pm.w_ixT hu.rat (atI2 _ _).2 ?_
  walk_at "st"
  refine Pm.w_i (wide_mul (rb_den bx) (rb_den byy) n0 m0 (by omega)) ?_
  walk_at "st"
  refine ⟨_, _, n + m, rfl, den_mul x y, wide_lt (rb_den bx) (rb_den byy), hnm, ?_⟩
  rw [times_is]
  exact q
end
section
variable {P : Program} {w : World} {K : PySem.W.Frag} {mg : Str → Option Value} {base : Heap}
def spSize : Sp := fun vs H Q _ => ∃ x : Int, vs = [.int x] ∧ 0 ≤ x ∧ ∀ r : Rat, szd r 1024 128 → FrNew H r Q
theorem szd_div {a b : Int} {N M : Nat} (ha : 1 ≤ a ∧ a ≤ N) (hb : 1 ≤ b ∧ b ≤ M) : szd (Rat.divInt a b) N M := by
  have e := div_pos_num (a := a) (b := b) (by omega)
  have g : (0 : Int) < ((Int.gcd a b : Nat) : Int) := gcd_pos (by omega)
  have n1 : (Rat.divInt a b).num ≤ a := by
    rw [← e.1]
    exact Int.ediv_le_self _ (by omega)
  have d1 : ((Rat.divInt a b).den : Int) ≤ b := by
    rw [← e.2]
    exact Int.ediv_le_self _ (by omega)
  have p : 0 < Rat.divInt a b := by
    rw [Rat.divInt_eq_div]
    refine rat_div_pos ?_ ?_
    · exact Rat.intCast_pos.mpr (by omega)
    · exact Rat.intCast_pos.mpr (by omega)
  have := pos_num p
  exact ⟨p, by omega, by omega⟩
theorem ok_law_size (T : Tx K mg) : FnOk P w K mg base CX0 2 T.a_law_size T.fd_law_size ["_law_one"] spSize := by
  refine T.F_law_size.ok sc_law_size (fun vs H Q E h => ?_) (fun cdv A outer s H vs Q E hr h => ?_)
  · obtain ⟨x, rfl, _⟩ := h
    rfl
  obtain ⟨x, rfl, x0, q⟩ := h
  refine ⟨_, (pss_cons (ps_if (pt_cmpR op_eq (pe_op op_mod (pv 0) (pe_int)) (pe_int) (nomark _)) (pss_one (ps_ret (pe_call (ok_law_low T) (hr.mono (by decide)) (by rfl) T.g_law_low T.F_law_low.kp T.b_law_low .nil pass0 (pa_cons (pe_op op_add (pe_int) (pe_op op_mod (pe_op op_fdiv (pv 0) (pe_int)) (pe_int))) (pa_cons (pe_op op_add (pe_int) (pe_op op_mod (pe_op op_fdiv (pv 0) (pe_int)) (pe_int))) pa_nil))))) pss_nil)
      (pss_one (ps_ret (pe_call (ok_law_low T) (hr.mono (by decide)) (by rfl) T.g_law_low T.F_law_low.kp T.b_law_low .nil pass0 (pa_cons (pe_op op_add (pe_int) (pe_op op_mod (pv 0) (pe_int))) (pa_cons (pe_op op_add (pe_int) (pe_op op_mod (pe_op op_fdiv (pv 0) (pe_int)) (pe_int))) pa_nil)))))), ?_⟩
  walk_at "st"
  refine Pm.w_ite (fun e => ?_) (fun e => ?_)
  · walk_at "st"
    refine ⟨_, _, 8, rfl, by omega, by omega, by decide, q _ (szd_div ?_ ?_)⟩
    · constructor <;> omega
    · constructor <;> omega
  · walk_at "st"
    refine ⟨_, _, 8, rfl, by omega, by omega, by decide, q _ (szd_div ?_ ?_)⟩
    · constructor <;> omega
    · constructor <;> omega
end
section
variable {P : Program} {w : World} {K : PySem.W.Frag} {mg : Str → Option Value} {base : Heap}
theorem rb_neg {x : Rat} {n : Nat} (h : rb x n) : rb (-x) n := by
  unfold rb at h ⊢
  rw [Rat.neg_num, Rat.neg_den, Int.natAbs_neg]
  exact h
theorem ok_law_spread (T : Tx K mg) : FnOk P w K mg base CX0 3 T.a_law_spread T.fd_law_spread ["_law_one", "_law_other"] (spSpread K) := by
  refine T.F_law_spread.ok sc_law_spread (fun vs H Q E h => ?_) (fun cdv A outer s H vs Q E hr h => ?_)
  · obtain ⟨x, y, s, r, n, rfl, _⟩ := h
    rfl
  obtain ⟨x, y, s, r, n, rfl, hx, hy, b1, b2, b3, b4, hn, q⟩ := h
  refine ⟨_, (pss_cons (ps_set (i := 2) sc_law_spread.nd rfl (.inl rfl) (pe_call (ok_law_mul T) (hr.mono (by decide)) (by rfl) T.g_law_mul T.F_law_mul.kp T.b_law_mul .nil pass0 (pa_cons (pe_ix (ix_tupK (K := K)) (pv 1) (pe_int) (fun _ _ => rfl)) (pa_cons (pe_ix (ix_tupK (K := K)) (pv 0) (pe_int) (fun _ _ => rfl)) pa_nil))))
      (pss_one (ps_ret (pe_call (ok_law_add T) (hr.mono (by decide)) (by rfl) T.g_law_add T.F_law_add.kp T.b_law_add .nil pass0 (pa_cons (pe_call (ok_law_mul T) (hr.mono (by decide)) (by rfl) T.g_law_mul T.F_law_mul.kp T.b_law_mul .nil pass0 (pa_cons (pe_ix (ix_tupK (K := K)) (pv 0) (pe_int) (fun _ _ => rfl)) (pa_cons (pe_ix (ix_tupK (K := K)) (pv 1) (pe_int) (fun _ _ => rfl)) pa_nil))) (pa_cons (pe_tup (pa_cons (pe_un un_neg (pe_ix (ix_tupK (K := K)) (pv 2) (pe_int) (fun _ _ => rfl))) (pa_cons (pe_ix (ix_tupK (K := K)) (pv 2) (pe_int) (fun _ _ => rfl)) pa_nil))) pa_nil)))))), ?_⟩
  obtain ⟨_, x1, x2, ex, hxt, hx1, hx2⟩ := hx
  cases ex
  obtain ⟨_, y1, y2, ey, hyt, hy1, hy2⟩ := hy
  cases ey
  walk_at "st"
  refine Pm.w_ixT (SqT.of hyt) (atI2 _ _).1 ?_
  walk_at "st"
  refine Pm.w_ixT (SqT.of hxt) (atI2 _ _).2 ?_
  walk_at "st"
  refine ⟨_, _, _, _, n, n, rfl, hy1, hx2, b3, b2, by omega, fun u H1 s1 nu hu => ?_⟩
  have k1 := keeps s1
  walk_at "st"
  refine Pm.w_ixT (SqT.of (s1 _ _ hxt)) (atI2 _ _).1 ?_
  walk_at "st"
  refine Pm.w_ixT (SqT.of (s1 _ _ hyt)) (atI2 _ _).2 ?_
  walk_at "st"
  refine ⟨_, _, _, _, n, n, rfl, hx1.keep k1, hy2.keep k1, b1, b4, by omega, fun u2 H2 s2 nu2 hu2 => ?_⟩
  walk_at "st"
  refine Pm.w_ixT (SqT.of (s2 _ _ hu)) (atI2 _ _).1 ?_
  walk_at "st"
  refine Pm.w_ixT (SqT.of (s2 _ _ hu)) (atI2 _ _).2 ?_
  walk_at "st"
  refine Pm.w_newT (fun v3 hv3 => ?_)
  have s3 := same_new hv3 (.tup [.int (-(r.p * s.q).num), .int ((r.p * s.q).den : Int)])
  have f3 : FrV K (upd H2 v3 (.tup [.int (-(r.p * s.q).num), .int ((r.p * s.q).den : Int)])) (.ref v3) (rp (-(r.p * s.q))) := frv_new (by rw [Rat.neg_num, Rat.neg_den]; exact upd_same)
  walk_at "st"
  refine ⟨_, _, _, _, n + n, n + n, rfl, frv_new (s3 _ _ hu2), f3, rb_mul b1 b4, rb_neg (rb_mul b3 b2), by omega, fun v H4 s4 nv hv => ?_⟩
  have s04 := (s1.trans s2).trans s3
  have e : s.p * r.q + -(r.p * s.q) = det s r := by unfold det; grind
  rw [e] at hv
  exact q v H4 (s04.trans s4) (s04.free nv) hv
end
section
variable {P : Program} {w : World} {K : PySem.W.Frag} {mg : Str → Option Value} {base : Heap}
def spTuple (K : PySem.W.Frag) : Sp := fun vs H Q _ => ∃ (t : Addr) (ns : List Int), vs = [.ref t, .int ns.length] ∧ SqT K H t (ns.map V.int) ∧ Q (.bl true) H
theorem ok_law_tuple (T : Tx K mg) : FnOk P w K mg base CX0 2 T.a_law_tuple T.fd_law_tuple ["_law_found", "_law_many_here"] (spTuple K) := by
  refine T.F_law_tuple.ok sc_law_tuple (fun vs H Q E h => ?_) (fun cdv A outer s H vs Q E hr h => ?_)
  · obtain ⟨t, ns, rfl, _⟩ := h
    rfl
  obtain ⟨t, ns, rfl, ht, q⟩ := h
  refine ⟨_, (pss_cons (ps_if (PW.pt (pw_or (pt_not (pt_val (pe_callB (call_isK (K := K)) (by rfl) T.m_isinstance (by decide +kernel) (pa_cons (pv 0) (pa_cons (pe_bltn (v := .ty "tuple") (by rfl) T.m_tuple (by decide +kernel) rfl) pa_nil))))) (pw_or1 (pt_cmpR op_ne (pe_callB (c_len (K := K)) (by rfl) T.m_len PySem.boot_len (pa_cons (pv 0) pa_nil)) (pv 1) (nomark _))))) (pss_one (ps_ret (pe_bl))) pss_nil)
      (pss_cons (ps_for PassesOwn.never rfl (k_it (K := K) (pi_tup (pv 0))) (pg_name (i := 2) sc_law_tuple.nd rfl (.inl rfl)) (pss_one (ps_if (pt_not (pt_val (pe_call (ok_law_whole T) (hr.mono (by decide)) (by rfl) T.g_law_whole T.F_law_whole.kp T.b_law_whole .nil pass0 (pa_cons (pv 2) pa_nil)))) (pss_one (ps_ret (pe_bl))) pss_nil)))
      (pss_one (ps_ret (pe_bl))))), ?_⟩
  walk_at "st"
  refine Pm.w_isiTup ht (b := true) (by decide +kernel) ?_
  walk_at "st"
  refine Pm.w_lenT ht ?_
  walk_at "st"
  refine Pm.w_iteN (fun z => absurd (by rw [List.length_map]) z) (fun _ => ?_)
  walk_at "st"
  refine Pm.w_rdT ht ?_
  refine Pm.w_forT (xs := ns.map V.int) (fun i σ H' => ∃ x, σ = [some (.ref t), some (.int ns.length), x] ∧ H' = H) ⟨_, rfl, rfl⟩ (fun i σ H' _ ⟨x, _, e⟩ => by rw [e]; exact ht) ?_ ?_
  · rintro i x σ H' hi ⟨y, rfl, rfl⟩
    rw [List.getElem?_map] at hi
    obtain ⟨k, _, rfl⟩ := Option.map_eq_some_iff.mp hi
    walk_at "st"
    refine ⟨_, rfl, ?_⟩
    walk_at "st"
    exact ⟨_, rfl, rfl⟩
  · rintro σ H' ⟨x, rfl, rfl⟩
    walk_at "st"
    exact q
end
section
variable {P : Program} {w : World} {K : PySem.W.Frag} {mg : Str → Option Value} {base : Heap}
def spLParts (K : PySem.W.Frag) : Sp := fun vs H Q _ => ∃ (f d : Addr) (rs : List Rat) (B : Nat), vs = [.ref f, .ref d] ∧ Row K H f (rs.map rp) ∧ Row K H d (rs.map rp) ∧ rs.length ≤ 1000 ∧ (∀ r ∈ rs, rb r B) ∧ B ≤ 9000 ∧ ∀ H', Same H H' → Q (.bl true) H'
theorem ok_law_parts (T : Tx K mg) : FnOk P w K mg base CX0 3 T.a_law_parts T.fd_law_parts ["_law_found", "_law_due"] (spLParts K) := by
  refine T.F_law_parts.ok sc_law_parts (fun vs H Q E h => ?_) (fun cdv A outer s H vs Q E hr h => ?_)
  · obtain ⟨f, d, rs, B, rfl, _⟩ := h
    rfl
  obtain ⟨f, d, rs, B, rfl, ⟨fv, hf, af⟩, ⟨dv, hd, ad⟩, hl, hb, hB, q⟩ := h
  have l1 := af.length
  have l2 := ad.length
  rw [List.length_map] at l1 l2
  refine ⟨_, (pss_cons (ps_if (PW.pt (pw_or (pt_not (pt_val (pe_callB (call_isK (K := K)) (by rfl) T.m_isinstance (by decide +kernel) (pa_cons (pv 0) (pa_cons (pe_bltn (v := .ty "list") (by rfl) T.m_list (by decide +kernel) rfl) pa_nil))))) (pw_or1 (pt_cmpR op_ne (pe_callB (c_len (K := K)) (by rfl) T.m_len PySem.boot_len (pa_cons (pv 0) pa_nil)) (pe_callB (c_len (K := K)) (by rfl) T.m_len PySem.boot_len (pa_cons (pv 1) pa_nil)) (nomark _))))) (pss_one (ps_ret (pe_bl))) pss_nil)
      (pss_cons (ps_for PassesOwn.never rfl (pi_range1 (by rfl) T.m_range (pa_cons (pe_callB (c_len (K := K)) (by rfl) T.m_len PySem.boot_len (pa_cons (pv 1) pa_nil)) pa_nil)) (pg_name (i := 2) sc_law_parts.nd rfl (.inl rfl)) (pss_one (ps_if (PW.pt (pw_or (pt_not (pt_val (pe_call (ok_law_part T) (hr.mono (by decide)) (by rfl) T.g_law_part T.F_law_part.kp T.b_law_part .nil pass0 (pa_cons (pe_ix (ix_listK (K := K)) (pv 0) (pv 2) (fun _ _ => rfl)) pa_nil)))) (pw_or1 (pt_cmpR (op_neDK (K := K) hr.units) (pe_ix (ix_listK (K := K)) (pv 0) (pv 2) (fun _ _ => rfl)) (pe_ix (ix_listK (K := K)) (pv 1) (pv 2) (fun _ _ => rfl)) (nomark _))))) (pss_one (ps_ret (pe_bl))) pss_nil)))
      (pss_one (ps_ret (pe_bl))))), ?_⟩
  walk_at "st"
  refine Pm.w_isiLst (SqL.of hf) (b := true) (by decide +kernel) ?_
  walk_at "st"
  refine Pm.w_lenL (SqL.of hf) ?_
  walk_at "st"
  refine Pm.w_lenL (SqL.of hd) ?_
  walk_at "st"
  refine Pm.w_iteN (fun z => absurd (by rw [l1, l2]) z) (fun _ => ?_)
  walk_at "st"
  refine Pm.w_lenL (SqL.of hd) ?_
  walk_at "st"
  rw [l2, Int.toNat_natCast]
  refine Pm.w_forR (fun i σ H1 => ∃ x, σ = [some (.ref f), some (.ref d), x] ∧ Same H H1) ⟨_, rfl, Same.refl _⟩ ?_ ?_
  · rintro i σ H1 hi ⟨x, rfl, s1⟩
    have er : (rs.map rp)[i]? = some (rp rs[i]) := by rw [List.getElem?_map, List.getElem?_eq_getElem hi]; rfl
    obtain ⟨v1, hv1, t1, rfl, h1⟩ := af.get' er
    obtain ⟨v2, hv2, t2, rfl, h2⟩ := ad.get' er
    have f1 : FrV K H (.ref t1) (rp rs[i]) := ⟨t1, rfl, h1⟩
    have f2 : FrV K H (.ref t2) (rp rs[i]) := ⟨t2, rfl, h2⟩
    have bi := hb _ (List.getElem_mem hi)
    walk_at "st"
    rw [Int.zero_add]
    refine Pm.w_ixL (SqL.of (s1 _ _ hf)) (atI_nat hv1) ?_
    walk_at "st"
    refine ⟨_, _, B, rfl, (f1.keep (keeps s1)).rat, bi.2, hB, fun H2 s2 => ?_⟩
    have s12 := s1.trans s2
    walk_at "st"
    refine Pm.w_ixL (SqL.of (s12 _ _ hf)) (atI_nat hv1) ?_
    walk_at "st"
    refine Pm.w_ixL (SqL.of (s12 _ _ hd)) (atI_nat hv2) ?_
    walk_at "st"
    refine w_neFr (f1.keep (keeps s12)) (f2.keep (keeps s12)) ?_
    rw [decide_eq_true rfl]
    walk_at "st"
    exact ⟨_, rfl, s12⟩
  · rintro σ H1 ⟨x, rfl, s1⟩
    walk_at "st"
    exact q _ s1
end
section
variable {P : Program} {w : World} {K : PySem.W.Frag} {mg : Str → Option Value} {base : Heap}
/-- a square of fractions -/
def spLTable (K : PySem.W.Frag) : Sp := fun vs H Q _ => ∃ (f d : Addr) (fa da : List Addr) (R : List (List Rat)) (B : Nat), vs = [.ref f, .ref d] ∧ Tb K H f fa (R.map (·.map rp)) ∧ Tb K H d da (R.map (·.map rp)) ∧ R.length ≤ 1000 ∧ (∀ r ∈ R, r.length ≤ 1000 ∧ ∀ x ∈ r, rb x B) ∧ B ≤ 9000 ∧ ∀ H', Same H H' → Q (.bl true) H'
theorem ok_law_table (T : Tx K mg) : FnOk P w K mg base CX0 4 T.a_law_table T.fd_law_table ["_law_found", "_law_due"] (spLTable K) := by
  refine T.F_law_table.ok sc_law_table (fun vs H Q E h => ?_) (fun cdv A outer s H vs Q E hr h => ?_)
  · obtain ⟨f, d, fa, da, R, B, rfl, _⟩ := h
    rfl
  obtain ⟨f, d, fa, da, R, B, rfl, hf, hd, hl, hb, hB, q⟩ := h
  have l1 := hf.len
  have l2 := hd.len
  rw [List.length_map] at l1 l2
  refine ⟨_, (pss_cons (ps_if (PW.pt (pw_or (pt_not (pt_val (pe_callB (call_isK (K := K)) (by rfl) T.m_isinstance (by decide +kernel) (pa_cons (pv 0) (pa_cons (pe_bltn (v := .ty "list") (by rfl) T.m_list (by decide +kernel) rfl) pa_nil))))) (pw_or1 (pt_cmpR op_ne (pe_callB (c_len (K := K)) (by rfl) T.m_len PySem.boot_len (pa_cons (pv 0) pa_nil)) (pe_callB (c_len (K := K)) (by rfl) T.m_len PySem.boot_len (pa_cons (pv 1) pa_nil)) (nomark _))))) (pss_one (ps_ret (pe_bl))) pss_nil)
      (pss_cons (ps_for PassesOwn.never rfl (pi_range1 (by rfl) T.m_range (pa_cons (pe_callB (c_len (K := K)) (by rfl) T.m_len PySem.boot_len (pa_cons (pv 1) pa_nil)) pa_nil)) (pg_name (i := 2) sc_law_table.nd rfl (.inl rfl)) (pss_one (ps_if (pt_not (pt_val (pe_call (ok_law_parts T) (hr.mono (by decide)) (by rfl) T.g_law_parts T.F_law_parts.kp T.b_law_parts .nil pass0 (pa_cons (pe_ix (ix_listK (K := K)) (pv 0) (pv 2) (fun _ _ => rfl)) (pa_cons (pe_ix (ix_listK (K := K)) (pv 1) (pv 2) (fun _ _ => rfl)) pa_nil))))) (pss_one (ps_ret (pe_bl))) pss_nil)))
      (pss_one (ps_ret (pe_bl))))), ?_⟩
  walk_at "st"
  refine Pm.w_isiLst (SqL.of hf.top) (b := true) (by decide +kernel) ?_
  walk_at "st"
  refine Pm.w_lenL (SqL.of hf.top) ?_
  walk_at "st"
  refine Pm.w_lenL (SqL.of hd.top) ?_
  walk_at "st"
  refine Pm.w_iteN (fun z => absurd (by rw [List.length_map, List.length_map, l1, l2]) z) (fun _ => ?_)
  walk_at "st"
  refine Pm.w_lenL (SqL.of hd.top) ?_
  rw [List.length_map, l2]
  walk_at "st"
  rw [Int.toNat_natCast]
  refine Pm.w_forR (fun i σ H1 => ∃ x, σ = [some (.ref f), some (.ref d), x] ∧ Same H H1) ⟨_, rfl, Same.refl _⟩ ?_ ?_
  · rintro i σ H1 hi ⟨x, rfl, s1⟩
    have er : (R.map (·.map rp))[i]? = some (R[i].map rp) := by rw [List.getElem?_map, List.getElem?_eq_getElem hi]; rfl
    obtain ⟨a1, v1, ha1, r1⟩ := hf.row er
    obtain ⟨a2, v2, ha2, r2⟩ := hd.row er
    have bi := hb _ (List.getElem_mem hi)
    walk_at "st"
    rw [Int.zero_add]
    refine Pm.w_ixL (SqL.of (s1 _ _ hf.top)) (v := .ref a1) (atI_nat (by rw [List.getElem?_map, ha1]; rfl)) ?_
    walk_at "st"
    refine Pm.w_ixL (SqL.of (s1 _ _ hd.top)) (v := .ref a2) (atI_nat (by rw [List.getElem?_map, ha2]; rfl)) ?_
    walk_at "st"
    refine ⟨_, _, _, B, rfl, Row.same ⟨v1, r1⟩ s1, Row.same ⟨v2, r2⟩ s1, bi.1, bi.2, hB, fun H2 s2 => ?_⟩
    walk_at "st"
    exact ⟨_, rfl, s1.trans s2⟩
  · rintro σ H1 ⟨x, rfl, s1⟩
    walk_at "st"
    exact q _ s1
end
theorem mat_rat (n : Nat) (g : Nat → Nat → Rat) : mat n (fun i k => rp (g i k)) = ((List.range n).map fun i => (List.range n).map fun k => g i k).map (·.map rp) := by
  unfold mat
  rw [List.map_map]
  refine List.map_congr_left fun i _ => ?_
  show _ = List.map rp (List.map _ _)
  rw [List.map_map]
  rfl
theorem rows_bd {n B : Nat} {g : Nat → Nat → Rat} (hn : n ≤ 1000) (h : ∀ i k, i < n → k < n → rb (g i k) B) : ((List.range n).map fun i => (List.range n).map fun k => g i k).length ≤ 1000 ∧ ∀ r ∈ ((List.range n).map fun i => (List.range n).map fun k => g i k), r.length ≤ 1000 ∧ ∀ x ∈ r, rb x B := by
  refine ⟨by rw [List.length_map, List.length_range]; exact hn, fun r hr => ?_⟩
  obtain ⟨i, hi, rfl⟩ := List.mem_map.mp hr
  refine ⟨by rw [List.length_map, List.length_range]; exact hn, fun x hx => ?_⟩
  obtain ⟨k, hk, rfl⟩ := List.mem_map.mp hx
  exact h i k (List.mem_range.mp hi) (List.mem_range.mp hk)
theorem szd_rb {r : Rat} (h : szd r 1024 128) : rb r 11 := by
  obtain ⟨_, h1, h2⟩ := h
  exact ⟨by omega, by omega⟩
section
variable {P : Program} {w : World} {K : PySem.W.Frag} {mg : Str → Option Value} {base : Heap}
theorem rp_int (x : Int) : rp (x : Rat) = (x, 1) := by unfold rp; rw [Rat.num_intCast, Rat.den_intCast]; rfl
theorem rb_int {x : Int} {n : Nat} (h : x.natAbs < 2 ^ n) (hn : 1 ≤ n) : rb (x : Rat) n := by
  refine ⟨by rw [Rat.num_intCast]; exact h, ?_⟩
  rw [Rat.den_intCast]
  exact Nat.one_lt_two_pow (by omega)
def spDrawn (K : PySem.W.Frag) : Sp := fun vs H Q _ => ∃ (n : Nat) (r : Addr) (row : List Int) (way : Int), vs = [.int n, .ref r, .int way] ∧ n ≤ 12 ∧ SqL K H r (row.map V.int) ∧ 25 ≤ row.length ∧ (∀ x ∈ row, 0 ≤ x ∧ x < 1000000) ∧
  ∀ (l : Addr) (H' : Hp) (S : Nat → V2), Same H H' → H l = none → PrL K H' l n S → (∀ i, i < n → rb (S i).p 341 ∧ rb (S i).q 341) → Q (.ref l) H'
theorem ok_law_drawn (T : Tx K mg) : FnOk P w K mg base CX0 4 T.a_law_drawn T.fd_law_drawn ["_law_n", "_law_row", "_law_way"] (spDrawn K) := by
  refine T.F_law_drawn.ok sc_law_drawn (fun vs H Q E h => ?_) (fun cdv A outer s H vs Q E hr h => ?_)
  · obtain ⟨n, r, row, way, rfl, _⟩ := h
    rfl
  obtain ⟨n, r, row, way, rfl, n12, hR, hrow, hb, q⟩ := h
  refine ⟨_, (pss_cons (ps_set (i := 3) sc_law_drawn.nd rfl (.inl rfl) (pe_lst pa_nil))
      (pss_cons (ps_set (i := 4) sc_law_drawn.nd rfl (.inl rfl) (pe_tup (pa_cons (pe_op op_sub (pe_op op_mod (pe_ix (ix_listK (K := K)) (pv 1) (pe_int) (fun _ _ => rfl)) (pe_int)) (pe_int)) (pa_cons (pe_int) pa_nil))))
      (pss_cons (ps_for PassesOwn.never rfl (pi_range1 (by rfl) T.m_range (pa_cons (pv 0) pa_nil)) (pg_name (i := 5) sc_law_drawn.nd rfl (.inl rfl)) (pss_cons (ps_set (i := 4) sc_law_drawn.nd rfl (.inl rfl) (pe_call (ok_law_add T) (hr.mono (by decide)) (by rfl) T.g_law_add T.F_law_add.kp T.b_law_add .nil pass0 (pa_cons (pv 4) (pa_cons (pe_call (ok_law_size T) (hr.mono (by decide)) (by rfl) T.g_law_size T.F_law_size.kp T.b_law_size .nil pass0 (pa_cons (pe_ix (ix_listK (K := K)) (pv 1) (pe_op op_add (pe_int) (pv 5)) (fun _ _ => rfl)) pa_nil)) pa_nil))))
      (pss_cons (ps_set (i := 6) sc_law_drawn.nd rfl (.inl rfl) (pe_call (ok_law_size T) (hr.mono (by decide)) (by rfl) T.g_law_size T.F_law_size.kp T.b_law_size .nil pass0 (pa_cons (pe_ix (ix_listK (K := K)) (pv 1) (pe_op op_add (pe_int) (pv 5)) (fun _ _ => rfl)) pa_nil)))
      (pss_one (ps_expr (k_bm (K := K) (pe_bm PySem.F.plainAttrs_list PySem.F.slot_list_append PySem.F.type_list_append mt_append (pv 3) (pa_cons (pe_tup (pa_cons (pv 6) (pa_cons (pe_call (ok_law_mul T) (hr.mono (by decide)) (by rfl) T.g_law_mul T.F_law_mul.kp T.b_law_mul .nil pass0 (pa_cons (pv 6) (pa_cons (pv 4) pa_nil))) pa_nil))) pa_nil))))))))
      (C8.pss_cut (ps_if (pt_cmpR op_eq (pv 2) (pe_int) (nomark _)) (pss_one (ps_setLc (i := 3) (own := [("_law_one", 7)]) (g := gName 7) (tt := tYes) rfl sc_law_drawn.nd rfl rfl (sw_true rfl rfl rfl (by decide +kernel)) (k_il (K := K) (pi_list (pv 3))) (blkOk_by (N := N_law_drawn) (sc := defScope s_law_drawn) (by decide +kernel)) (fun _ _ _ _ _ => (pg_name (i := 7) sc_law_drawn.nd rfl (.inl rfl))) (fun _ _ _ _ _ => pts_nil) (fun _ _ _ _ _ => (pe_tup (pa_cons (pe_tup (pa_cons (pe_un un_neg (pe_ix (ix_tupK (K := K)) (pe_ix (ix_tupK (K := K)) (pv 7) (pe_int) (fun _ _ => rfl)) (pe_int) (fun _ _ => rfl))) (pa_cons (pe_ix (ix_tupK (K := K)) (pe_ix (ix_tupK (K := K)) (pv 7) (pe_int) (fun _ _ => rfl)) (pe_int) (fun _ _ => rfl)) pa_nil))) (pa_cons (pe_ix (ix_tupK (K := K)) (pv 7) (pe_int) (fun _ _ => rfl)) pa_nil)))))) pss_nil)
      (C8.pss_cut (ps_if (pt_cmpR op_eq (pv 2) (pe_int) (nomark _)) (pss_one (ps_setLc (i := 3) (own := [("_law_one", 7)]) (g := gName 7) (tt := tYes) rfl sc_law_drawn.nd rfl rfl (sw_true rfl rfl rfl (by decide +kernel)) (k_il (K := K) (pi_list (pv 3))) (blkOk_by (N := N_law_drawn) (sc := defScope s_law_drawn) (by decide +kernel)) (fun _ _ _ _ _ => (pg_name (i := 7) sc_law_drawn.nd rfl (.inl rfl))) (fun _ _ _ _ _ => pts_nil) (fun _ _ _ _ _ => (pe_tup (pa_cons (pe_call (ok_law_add T) (hr.mono (by decide)) (by rfl) T.g_law_add T.F_law_add.kp T.b_law_add .nil pass0 (pa_cons (pe_ix (ix_tupK (K := K)) (pv 7) (pe_int) (fun _ _ => rfl)) (pa_cons (pe_ix (ix_tupK (K := K)) (pv 7) (pe_int) (fun _ _ => rfl)) pa_nil))) (pa_cons (pe_ix (ix_tupK (K := K)) (pv 7) (pe_int) (fun _ _ => rfl)) pa_nil)))))) pss_nil)
      (pss_one (ps_ret (pv 3)))))))), ?_⟩
  walk_at "st"
  refine Pm.w_newL (fun l hl => ?_)
  have s1 := same_new hl (.lst [])
  have hl1 : upd H l (.lst []) l = some (.lst []) := upd_same
  generalize upd H l (.lst []) = H1 at *
  walk_at "st"
  refine Pm.w_ixL (s1.seq hR) (atI_int (by omega) (by omega)) ?_
  walk_at "st"
  refine Pm.w_newT (fun t ht => ?_)
  have s2 := same_new ht (.tup [.int (row.getD (0 : Int).toNat 0 % 21 - 10), .int 1])
  generalize hx0 : row.getD (0 : Int).toNat 0 % 21 - 10 = x0 at *
  have f0 : FrV K (upd H1 t (.tup [.int x0, .int 1])) (.ref t) (rp (x0 : Rat)) := ⟨t, rfl, .inl (by rw [rp_int]; exact upd_same)⟩
  have b0 : rb (x0 : Rat) 5 := rb_int (by show _ < 32; omega) (by decide)
  have hl2 := s2 _ _ hl1
  have sH := s1.trans s2
  generalize upd H1 t (.tup [.int x0, .int 1]) = H2 at *
  walk_at "st"
  rw [Int.toNat_natCast]
  refine Pm.w_forR (fun i σ H3 => ∃ (y z : Option V) (u : Addr) (sl : Rat) (ws : List V) (S : Nat → V2), σ = [some (.int n), some (.ref r), some (.int way), some (.ref l), some (.ref u), y, z, none] ∧ Same H H3 ∧ H3 l = some (.lst ws) ∧ All2 (PrV K H3) ws ((List.range i).map S) ∧ FrV K H3 (.ref u) (rp sl) ∧ rb sl (5 + 12 * i) ∧ ∀ j, j < i → rb (S j).p 170 ∧ rb (S j).q 170) ⟨_, _, t, x0, [], fun _ => ⟨0, 0⟩, rfl, sH, hl2, trivial, f0, b0, fun j hj => absurd hj (by omega)⟩ ?_ ?_
  · rintro i σ H3 hi ⟨y, z, u, sl, ws, S, rfl, s3, h3, A3, fu, bs, bS⟩
    have hR3 := s3.seq hR
    walk_at "st"
    rw [Int.zero_add]
    refine Pm.w_ixL hR3 (atI_int (by omega) (by omega)) ?_
    walk_at "st"
    have rpos : ∀ j : Int, 0 ≤ j → j < row.length → 0 ≤ row.getD j.toNat 0 := fun j h0 h1 => by
      rw [List.getD_eq_getElem?_getD, List.getElem?_eq_getElem (show j.toNat < row.length by omega)]
      exact (hb _ (List.getElem_mem _)).1
    refine ⟨_, rfl, rpos _ (by omega) (by omega), fun r1 hr1 t1 H4 s4 nt1 ht1 => ?_⟩
    have b1 := szd_rb hr1
    walk_at "st"
    refine ⟨_, _, _, _, 5 + 12 * i, 11, rfl, fu.keep (keeps s4), frv_new ht1, bs, b1, by omega, fun t2 H5 s5 nt2 ht2 => ?_⟩
    walk_at "st"
    refine Pm.w_ixL ((s4.trans s5).seq hR3) (atI_int (by omega) (by omega)) ?_
    walk_at "st"
    refine ⟨_, rfl, rpos _ (by omega) (by omega), fun r2 hr2 t3 H6 s6 nt3 ht3 => ?_⟩
    have b2 := szd_rb hr2
    have bsl := rb_add bs b1
    walk_at "st"
    refine ⟨.inl ⟨rfl, _, SqL.of ((s4.trans (s5.trans s6)) _ _ h3)⟩, ?_⟩
    walk_at "st"
    refine ⟨_, _, _, _, 11, 5 + 12 * i + 11 + 1, rfl, frv_new ht3, (frv_new ht2).keep (keeps s6), b2, bsl, by omega, fun t4 H7 s7 nt4 ht4 => ?_⟩
    walk_at "st"
    refine Pm.w_newT (fun t5 ht5 => ?_)
    have s8 := same_new ht5 (.tup [.ref t3, .ref t4])
    have hh : (upd H7 t5 (.tup [.ref t3, .ref t4])) l = some (.lst ws) := (s4.trans (s5.trans (s6.trans (s7.trans s8)))) _ _ h3
    have kp : Keeps (upd H7 t5 (.tup [.ref t3, .ref t4])) (upd (upd H7 t5 (.tup [.ref t3, .ref t4])) l (.lst (ws ++ [.ref t5]))) := keeps_lst hh
    have n5 : t5 ≠ l := (ne_of_none ((s4.trans (s5.trans (s6.trans s7))) _ _ h3) ht5).symm
    have wl := A3.length
    rw [List.length_map, List.length_range] at wl
    walk_at "st"
    refine Pm.w_append hh (size_lt (by omega)) ?_
    walk_at "st"
    refine ⟨_, _, t2, sl + r1, _, fun j => if j = i then ⟨r2, r2 * (sl + r1)⟩ else S j, rfl, same_but hl (s3.trans (s4.trans (s5.trans (s6.trans (s7.trans s8))))), upd_same, ?_, (frv_new ht2).keep ((keeps (s6.trans (s7.trans s8))).trans kp), bsl.mono (by omega), fun j hj => ?_⟩
    · rw [List.range_succ, List.map_append]
      have e1 : (List.range i).map (fun j => if j = i then (⟨r2, r2 * (sl + r1)⟩ : V2) else S j) = (List.range i).map S := List.map_congr_left fun j hj => by rw [if_neg (by have := List.mem_range.mp hj; omega)]
      rw [e1]
      refine (A3.mono fun _ _ r => r.keep ((keeps (s4.trans (s5.trans (s6.trans (s7.trans s8))))).trans kp)).append ⟨⟨t5, t3, t4, rfl, by rw [upd_ne n5]; exact upd_same, ?_, ?_⟩, trivial⟩
      · show FrV K _ (.ref t3) (rp (if i = i then (⟨r2, r2 * (sl + r1)⟩ : V2) else S i).p)
        rw [if_pos rfl]
        exact (frv_new ht3).keep ((keeps (s7.trans s8)).trans kp)
      · show FrV K _ (.ref t4) (rp (if i = i then (⟨r2, r2 * (sl + r1)⟩ : V2) else S i).q)
        rw [if_pos rfl]
        exact (frv_new ht4).keep ((keeps s8).trans kp)
    · show rb (if j = i then (⟨r2, r2 * (sl + r1)⟩ : V2) else S j).p 170 ∧ rb (if j = i then (⟨r2, r2 * (sl + r1)⟩ : V2) else S j).q 170
      by_cases e : j = i
      · rw [if_pos e]
        exact ⟨b2.mono (by decide), (rb_mul b2 bsl).mono (by omega)⟩
      · rw [if_neg e]
        exact bS j (by omega)
  rintro σ H3 ⟨y, z, u, sl, ws, S, rfl, s3, h3, A3, fu, bs, bS⟩
  have hPL : PrL K H3 l n S := ⟨ws, h3, A3⟩
  walk_at "st"
  refine Pm.w_cut (fun σ' H' => ∃ l' S', σ' = [some (.int n), some (.ref r), some (.int way), some (.ref l'), some (.ref u), y, z, none] ∧ Same H H' ∧ H l' = none ∧ PrL K H' l' n S' ∧ ∀ j, j < n → rb (S' j).p 170 ∧ rb (S' j).q 170) ?_ ?_
  · walk_at "st"
    refine Pm.w_ite (fun e => ?_) (fun e => ?_)
    · walk_at "st"
      refine Pm.w_rdL (SqL.of h3) ?_
      refine Pm.w_lcLf (R := PrV K) prv_mono (S := PrV K) prv_mono (SqL.of h3) A3 (fun s : V2 => (⟨-s.q, s.p⟩ : V2)) (fun _ => true) (by rw [List.length_map, List.length_range]; omega) (fun D x c H4 Nx hD hc hx s4 put skip => ?_) (fun D H4 ws2 hD s4 hd hA => ?_)
      · obtain ⟨t, a, b, rfl, ht, ha, hb'⟩ := id hx
        walk_at "st"
        refine Pm.w_ixT (SqT.of ht) rfl ?_
        walk_at "st"
        refine Pm.w_ixT hb'.tup (atI2 _ _).1 ?_
        walk_at "st"
        refine Pm.w_ixT (SqT.of ht) rfl ?_
        walk_at "st"
        refine Pm.w_ixT hb'.tup (atI2 _ _).2 ?_
        walk_at "st"
        refine Pm.w_newT (fun t1 ht1 => ?_)
        have s5 := same_new ht1 (.tup [.int (-c.q.num), .int (c.q.den : Int)])
        have f5 : FrV K (upd H4 t1 (.tup [.int (-c.q.num), .int (c.q.den : Int)])) (.ref t1) (rp (-c.q)) := frv_new (by rw [Rat.neg_num, Rat.neg_den]; exact upd_same)
        have ht5 := s5 _ _ ht
        have ha5 := ha.keep (keeps s5)
        walk_at "st"
        refine Pm.w_ixT (SqT.of ht5) rfl ?_
        walk_at "st"
        refine Pm.w_newT (fun t2 ht2 => ?_)
        have s6 := same_new ht2 (.tup [.ref t1, .ref a])
        exact put _ _ rfl (s5.trans s6) ⟨t2, t1, a, rfl, upd_same, f5.keep (keeps s6), ha5.keep (keeps s6)⟩
      · rw [List.filter_eq_self.mpr (fun _ _ => rfl), List.map_map] at hA
        walk_at "st"
        exact ⟨D, fun j => ⟨-(S j).q, (S j).p⟩, rfl, s3.trans s4, s3.free hD, ⟨ws2, hd, hA⟩, fun j hj => ⟨rb_neg (bS j hj).2, (bS j hj).1⟩⟩
    · walk_at "st"
      exact ⟨l, S, rfl, s3, hl, hPL, bS⟩
  clear hPL A3 h3 bS
  rintro σ H4 ⟨l4, S4, rfl, s4, n4, ⟨ws, h3, A3⟩, bS⟩
  have hPL : PrL K H4 l4 n S4 := ⟨ws, h3, A3⟩
  walk_at "st"
  refine Pm.w_cut (fun σ' H' => ∃ l' S', σ' = [some (.int n), some (.ref r), some (.int way), some (.ref l'), some (.ref u), y, z, none] ∧ Same H H' ∧ H l' = none ∧ PrL K H' l' n S' ∧ ∀ j, j < n → rb (S' j).p 341 ∧ rb (S' j).q 341) ?_ ?_
  · walk_at "st"
    refine Pm.w_ite (fun e => ?_) (fun e => ?_)
    · walk_at "st"
      refine Pm.w_rdL (SqL.of h3) ?_
      refine Pm.w_lcLf (R := PrV K) prv_mono (S := PrV K) prv_mono (SqL.of h3) A3 (fun s : V2 => (⟨s.p + s.q, s.q⟩ : V2)) (fun _ => true) (by rw [List.length_map, List.length_range]; omega) (fun D x c H5 Nx hD hc hx s5 put skip => ?_) (fun D H5 ws2 hD s5 hd hA => ?_)
      · obtain ⟨i, hi, rfl⟩ := List.mem_map.mp hc
        obtain ⟨t, a, b, rfl, ht, ha, hb'⟩ := id hx
        have bi := bS i (List.mem_range.mp hi)
        walk_at "st"
        refine Pm.w_ixT (SqT.of ht) rfl ?_
        walk_at "st"
        refine Pm.w_ixT (SqT.of ht) rfl ?_
        walk_at "st"
        refine ⟨_, _, _, _, 170, 170, rfl, ha, hb', bi.1, bi.2, by decide, fun t1 H6 s6 nt1 ht1 => ?_⟩
        walk_at "st"
        refine Pm.w_ixT (SqT.of (s6 _ _ ht)) rfl ?_
        walk_at "st"
        refine Pm.w_newT (fun t2 ht2 => ?_)
        have s7 := same_new ht2 (.tup [.ref t1, .ref b])
        exact put _ _ rfl (s6.trans s7) ⟨t2, t1, b, rfl, upd_same, (frv_new ht1).keep (keeps s7), hb'.keep (keeps (s6.trans s7))⟩
      · rw [List.filter_eq_self.mpr (fun _ _ => rfl), List.map_map] at hA
        walk_at "st"
        exact ⟨D, fun j => ⟨(S4 j).p + (S4 j).q, (S4 j).q⟩, rfl, s4.trans s5, s4.free hD, ⟨ws2, hd, hA⟩, fun j hj => ⟨(rb_add (bS j hj).1 (bS j hj).2).mono (by decide), (bS j hj).2.mono (by decide)⟩⟩
    · walk_at "st"
      exact ⟨l4, S4, rfl, s4, n4, hPL, fun j hj => ⟨(bS j hj).1.mono (by decide), (bS j hj).2.mono (by decide)⟩⟩
  rintro σ H5 ⟨l5, S5, rfl, s5, n5, hP5, bS5⟩
  walk_at "st"
  exact q l5 H5 S5 s5 n5 hP5 bS5
/-- the least two whose spread is not above nought -/
def spBad (K : PySem.W.Frag) : Sp := fun vs H Q _ => ∃ (l : Addr) (n : Nat) (S : Nat → V2) (B : Nat), vs = [.ref l] ∧ n ≤ 1000 ∧ PrL K H l n S ∧ (∀ i, i < n → rb (S i).p B ∧ rb (S i).q B) ∧ 4 * B ≤ 9000 ∧
  (∀ a b t H', LeastB S n (some (a, b)) → Same H H' → H' t = some (.tup [.int (a : Int), .int (b : Int)]) → Q (.ref t) H') ∧ (LeastB S n none → ∀ H', Same H H' → Q .non H')
theorem ok_law_bad (T : Tx K mg) : FnOk P w K mg base CX0 5 T.a_law_bad T.fd_law_bad ["_law_rows"] (spBad K) := by
  refine T.F_law_bad.ok sc_law_bad (fun vs H Q E h => ?_) (fun cdv A outer s H vs Q E hr h => ?_)
  · obtain ⟨l, n, S, B, rfl, _⟩ := h
    rfl
  obtain ⟨l, n, S, B, rfl, n2, hL, hS, hB, qE, q⟩ := h
  refine ⟨_, (pss_cons (ps_for PassesOwn.never rfl (pi_range1 (by rfl) T.m_range (pa_cons (pe_callB (c_len (K := K)) (by rfl) T.m_len PySem.boot_len (pa_cons (pv 0) pa_nil)) pa_nil)) (pg_name (i := 1) sc_law_bad.nd rfl (.inl rfl)) (pss_one (ps_for PassesOwn.never rfl (pi_range2 (by rfl) T.m_range (pa_cons (pe_op op_add (pv 1) (pe_int)) (pa_cons (pe_callB (c_len (K := K)) (by rfl) T.m_len PySem.boot_len (pa_cons (pv 0) pa_nil)) pa_nil))) (pg_name (i := 2) sc_law_bad.nd rfl (.inl rfl)) (pss_one (ps_if (pt_cmpR op_le (pe_ix (ix_tupK (K := K)) (pe_call (ok_law_spread T) (hr.mono (by decide)) (by rfl) T.g_law_spread T.F_law_spread.kp T.b_law_spread .nil pass0 (pa_cons (pe_ix (ix_listK (K := K)) (pv 0) (pv 1) (fun _ _ => rfl)) (pa_cons (pe_ix (ix_listK (K := K)) (pv 0) (pv 2) (fun _ _ => rfl)) pa_nil))) (pe_int) (fun _ _ => rfl)) (pe_int) (nomark _)) (pss_one (ps_ret (pe_tup (pa_cons (pv 1) (pa_cons (pv 2) pa_nil))))) pss_nil)))))
      (pss_one (ps_ret (pe_non)))), ?_⟩
  obtain ⟨ws1, hl1, wl1⟩ := hL.len
  walk_at "st"
  refine Pm.w_lenL (SqL.of hl1) ?_
  walk_at "st"
  rw [wl1, Int.toNat_natCast]
  refine Pm.w_forR (fun i σ H2 => ∃ x y, σ = [some (.ref l), x, y] ∧ Same H H2 ∧ ∀ a b, a < b → b < n → a < i → 0 < det (S a) (S b)) ⟨_, _, rfl, Same.refl _, fun a b _ _ z => absurd z (by omega)⟩ ?_ ?_
  · rintro i σ H2 hi ⟨x, y, rfl, s2, ih⟩
    walk_at "st"
    refine Pm.w_lenL (SqL.of (s2 _ _ hl1)) ?_
    walk_at "st"
    rw [wl1, Int.zero_add, show ((n : Int) - ((i : Int) + 1)).toNat = n - (i + 1) by omega]
    refine Pm.w_forR (fun j σ H3 => ∃ y, σ = [some (.ref l), some (.int (i : Int)), y] ∧ Same H H3 ∧ ∀ b, i < b → b < n → b < i + 1 + j → 0 < det (S i) (S b)) ⟨_, rfl, s2, fun b _ _ z => by omega⟩ ?_ ?_
    · rintro j σ H3 hj ⟨y, rfl, s3, ih2⟩
      have ek : (i : Int) + 1 + (j : Int) = ((i + 1 + j : Nat) : Int) := by omega
      rw [ek]
      generalize hk : i + 1 + j = k at *
      have kn : k < n := by omega
      have hL3 := hL.same s3
      obtain ⟨wsA, t1, hA, e1, p1⟩ := hL3.at_ hi
      obtain ⟨wsB, t2, hB', e2, p2⟩ := hL3.at_ kn
      walk_at "st"
      refine Pm.w_ixL (SqL.of hA) (atI_nat e1) ?_
      walk_at "st"
      refine Pm.w_ixL (SqL.of hB') (atI_nat e2) ?_
      walk_at "st"
      refine ⟨_, _, _, _, B, rfl, p1, p2, (hS i hi).1, (hS i hi).2, (hS k kn).1, (hS k kn).2, hB, fun v H4 s4 nv hv => ?_⟩
      walk_at "st"
      refine Pm.w_ixT (SqT.of hv) (atI2 _ _).1 ?_
      walk_at "st"
      refine Pm.w_ite (fun z => ?_) (fun z => ?_)
      · walk_at "st"
        refine Pm.w_newT (fun t ht => ?_)
        exact qE i k t _ ⟨by omega, kn, (num_le _).mp z, fun a b hab hb lx => by
          rcases lx with lx | ⟨rfl, lx⟩
          · exact ih a b hab hb lx
          · exact ih2 b hab hb lx⟩ (s3.trans (s4.trans (same_new ht _))) upd_same
      · walk_at "st"
        have pz : 0 < det (S i) (S k) := by
          rcases Classical.em (0 < det (S i) (S k)) with c | c
          · exact c
          · exact absurd ((num_le _).mpr c) z
        refine ⟨_, rfl, s3.trans s4, fun b h1 h2 h3 => ?_⟩
        by_cases e : b < k
        · exact ih2 b h1 h2 e
        · rw [show b = k by omega]; exact pz
    · rintro σ H3 ⟨y, rfl, s3, ih2⟩
      refine ⟨_, _, rfl, s3, fun a b hab hb hai => ?_⟩
      by_cases e : a < i
      · exact ih a b hab hb e
      · have e2 : a = i := by omega
        subst e2
        exact ih2 b hab hb (by omega)
  · rintro σ H2 ⟨x, y, rfl, s2, ih⟩
    walk_at "st"
    exact q (fun a b hab hb => ih a b hab hb (by omega)) H2 s2
end
section
variable {P : Program} {w : World} {K : PySem.W.Frag} {mg : Str → Option Value} {base : Heap}
def prvD (s : V2) : PyData := .tuple [pD (rp s.p), pD (rp s.q)]
theorem prv_dp {H : Hp} {v : V} {s : V2} (h : PrV K H v s) : Dp K H v (prvD s) := by
  obtain ⟨t, u, w, rfl, h1, h2, h3⟩ := h
  exact .tup (SqT.of h1) (.cons h2.dp (.cons h3.dp .nil))
theorem prvs_dp {H : Hp} : ∀ {vs : List V} {ss : List V2}, All2 (PrV K H) vs ss → DpAll K H vs (ss.map prvD)
  | [], [], _ => .nil
  | _ :: _, _ :: _, h => .cons (prv_dp h.1) (prvs_dp h.2)
  | [], _ :: _, h => nomatch h
  | _ :: _, [], h => nomatch h
theorem lays_prv : ∀ ss : List V2, PyData.canLayAll0 (ss.map prvD) = true
  | [] => rfl
  | s :: ss => by
    rw [List.map_cons, PyData.canLayAll0, lays_prv ss, Bool.and_true]
    simp only [prvD, PyData.canLay0, PyData.canLayAll0, lay_pD, Bool.and_true]
theorem depths_prv : ∀ ss : List V2, PyData.depthAll (ss.map prvD) ≤ 2
  | [] => by simp [PyData.depthAll]
  | s :: ss => by
    have h := depths_prv ss
    have h1 := depth_pD (rp s.p)
    have h2 := depth_pD (rp s.q)
    rw [List.map_cons, PyData.depthAll]
    simp only [prvD, PyData.depth, PyData.depthAll]
    omega
theorem shaped_prv (ss : List V2) : SeqAt.shaped (.list (ss.map prvD)) = true := by
  have h1 := depths_prv ss
  show (PyData.canLay0 (.list (ss.map prvD)) && decide (PyData.depth (.list (ss.map prvD)) ≤ 64)) = true
  rw [Bool.and_eq_true]
  refine ⟨?_, decide_eq_true ?_⟩
  · rw [PyData.canLay0]
    exact lays_prv ss
  · simp only [PyData.depth]
    omega
theorem w_nePrL {H : Hp} {Q : VK} {l m : Addr} {n : Nat} {S : Nat → V2} (h1 : PrL K H l n S) (h2 : PrL K H m n S) (h : Q (.bl false) H) : rNeD K (.ref l) (.ref m) H Q := by
  obtain ⟨v1, a1, b1⟩ := h1
  obtain ⟨v2, a2, b2⟩ := h2
  refine ⟨_, _, .lst (SqL.of a1) (prvs_dp b1), .lst (SqL.of a2) (prvs_dp b2), shaped_prv _, shaped_prv _, ?_⟩
  rw [SeqAt.eqv_refl _ (by rw [PyData.canLay0]; exact lays_prv _)]
  exact h
/-- the lengths that pairs make -/
def prG (S : Nat → V2) (i k : Nat) : Rat := if i = k then 0 else det (S (min i k)) (S (max i k))
theorem prG_good {n B : Nat} {S : Nat → V2} (hb : ∀ i, i < n → rb (S i).p B ∧ rb (S i).q B) (hp : LeastB S n none) (b0 : 1 ≤ B) : GoodT n (prG S) (4 * B + 1) := by
  refine ⟨fun i _ => if_pos rfl, fun i k hi hk ne => ?_, fun i k _ _ => ?_, fun i k hi hk => ?_⟩
  · unfold prG
    rw [if_neg ne]
    exact hp _ _ (by omega) (by omega)
  · unfold prG
    by_cases e : i = k
    · rw [if_pos e, if_pos e.symm]
    · rw [if_neg e, if_neg (fun z => e z.symm), Nat.min_comm, Nat.max_comm]
  · unfold prG
    split
    · exact (show rb (0 : Rat) 1 from ⟨by decide, by decide⟩).mono (by omega)
    · have b1 := hb (min i k) (by omega)
      have b2 := hb (max i k) (by omega)
      exact (rb_sub (rb_mul b1.1 b2.2) (rb_mul b2.1 b1.2)).mono (by omega)
theorem prG_rule (S : Nat → V2) {n a b c d : Nat} (h : in4 n a b c d) : Rule4 (prG S) a b c d := by
  obtain ⟨h1, h2, h3, h4⟩ := h
  have up : ∀ i k, i < k → prG S i k = det (S i) (S k) := fun i k h => by unfold prG; rw [if_neg (by omega), Nat.min_eq_left (by omega), Nat.max_eq_right (by omega)]
  unfold Rule4
  rw [up a c (by omega), up b d (by omega), up a b h1, up c d h3, up b c h2, up a d (by omega)]
  unfold det
  grind
def spLaw (K : PySem.W.Frag) : Sp := fun vs H Q _ => ∃ (a : Addr) (ns : List Int), vs = [.ref a] ∧ SqL K H a (ns.map V.int) ∧ ns.length ≤ 63 ∧ ∀ H', Q (.bl true) H'
theorem ok_law (T : Tx K mg) : FnOk P w K mg base CX0 9 T.a_law T.fd_law ["_law_script"] (spLaw K) := by
  refine T.F_law.ok sc_law (fun vs H Q E h => ?_) (fun cdv A outer s H vs Q E hr h => ?_)
  · obtain ⟨a, ns, rfl, _⟩ := h
    rfl
  obtain ⟨sc, ns, rfl, hS, hl, q⟩ := h
  refine ⟨_, (pss_cons (ps_set (i := 1) sc_law.nd rfl (.inr rfl) (pe_call (ok_law_flow T) (hr.mono (by decide)) (by rfl) T.g_law_flow T.F_law_flow.kp T.b_law_flow .nil pass0 (pa_cons (pv 0) (pa_cons (pe_int) pa_nil))))
      (pss_cons (ps_set (i := 2) sc_law.nd rfl (.inr rfl) (pe_call (ok_law_many T) (hr.mono (by decide)) (by rfl) T.g_law_many T.F_law_many.kp T.b_law_many .nil pass0 (pa_cons (pv 1) pa_nil)))
      (pss_cons (ps_set (i := 3) sc_law.nd rfl (.inr rfl) (pe_call (ok_law_drawn T) (hr.mono (by decide)) (by rfl) T.g_law_drawn T.F_law_drawn.kp T.b_law_drawn .nil pass0 (pa_cons (pv 2) (pa_cons (pe_slice (sl_listK (K := K)) (pv 1) (po_some (pe_int)) po_none) (pa_cons (pe_op op_mod (pe_op op_fdiv (pe_ix (ix_listK (K := K)) (pv 1) (pe_int) (fun _ _ => rfl)) (pe_int)) (pe_int)) pa_nil)))))
      (C8.pss_cut (ps_if (pt_cmpR op_eq (pe_op op_mod (pe_ix (ix_listK (K := K)) (pv 1) (pe_int) (fun _ _ => rfl)) (pe_int)) (pe_int) (nomark _)) (pss_cons (ps_set (i := 4) sc_law.nd rfl (.inl rfl) (pe_op op_mod (pe_ix (ix_listK (K := K)) (pv 1) (pe_int) (fun _ _ => rfl)) (pv 2)))
      (pss_one (ps_set (i := 3) sc_law.nd rfl (.inr rfl) (pe_op op_cat (pe_op op_cat (pe_slice (sl_listK (K := K)) (pv 3) po_none (po_some (pv 4))) (pe_lst (pa_cons (pe_tup (pa_cons (pe_tup (pa_cons (pe_op op_sub (pe_op op_mod (pe_ix (ix_listK (K := K)) (pv 1) (pe_int) (fun _ _ => rfl)) (pe_int)) (pe_int)) (pa_cons (pe_int) pa_nil))) (pa_cons (pe_call (ok_law_low T) (hr.mono (by decide)) (by rfl) T.g_law_low T.F_law_low.kp T.b_law_low .nil pass0 (pa_cons (pe_op op_sub (pe_op op_mod (pe_op op_fdiv (pe_ix (ix_listK (K := K)) (pv 1) (pe_int) (fun _ _ => rfl)) (pe_int)) (pe_int)) (pe_int)) (pa_cons (pe_int) pa_nil))) pa_nil))) pa_nil))) (pe_slice (sl_listK (K := K)) (pv 3) (po_some (pe_op op_add (pv 4) (pe_int))) po_none))))) pss_nil)
      (C8.pss_cut (ps_if (PW.pt (pw_and (pt_cmpR op_eq (pe_op op_mod (pe_ix (ix_listK (K := K)) (pv 1) (pe_int) (fun _ _ => rfl)) (pe_int)) (pe_int) (nomark _)) (pw_and1 (pt_cmpR op_eq (pe_op op_mod (pe_ix (ix_listK (K := K)) (pv 1) (pe_int) (fun _ _ => rfl)) (pe_int)) (pe_int) (nomark _))))) (pss_one (ps_set (i := 3) sc_law.nd rfl (.inr rfl) (pe_lc (own := [("_law_k", 5)]) (g := gName 5) (tt := tYes) rfl sc_law.nd (pi_range1 (by rfl) T.m_range (pa_cons (pv 2) pa_nil)) (blkOk_by (N := N_law) (sc := defScope s_law) (by decide +kernel)) (fun _ _ _ _ _ => (pg_name (i := 5) sc_law.nd rfl (.inl rfl))) (fun _ _ _ _ _ => pts_nil) (fun _ _ _ _ _ => (pe_tup (pa_cons (pe_tup (pa_cons (pe_op op_sub (pe_op op_mod (pe_ix (ix_listK (K := K)) (pv 1) (pe_op op_add (pe_int) (pv 5)) (fun _ _ => rfl)) (pe_int)) (pe_int)) (pa_cons (pe_int) pa_nil))) (pa_cons (pe_tup (pa_cons (pe_op op_sub (pe_op op_mod (pe_op op_fdiv (pe_ix (ix_listK (K := K)) (pv 1) (pe_op op_add (pe_int) (pv 5)) (fun _ _ => rfl)) (pe_int)) (pe_int)) (pe_int)) (pa_cons (pe_int) pa_nil))) pa_nil))))))) pss_nil)
      (pss_cons (ps_set (i := 6) sc_law.nd rfl (.inl rfl) (pe_call (ok_law_bad T) (hr.mono (by decide)) (by rfl) T.g_law_bad T.F_law_bad.kp T.b_law_bad .nil pass0 (pa_cons (pv 3) pa_nil)))
      (pss_cons (ps_set (i := 7) sc_law.nd rfl (.inl rfl) (pe_callTy (c_listOf (K := K)) (by rfl) T.m_list (by decide +kernel) (pa_cons (pv 3) pa_nil)))
      (pss_cons (ps_set (i := 8) sc_law.nd rfl (.inl rfl) (pe_non))
      (pss_cons (ps_set (i := 9) sc_law.nd rfl (.inl rfl) (pe_non))
      (pss_cons (ps_set (i := 10) sc_law.nd rfl (.inl rfl) (pe_bl))
      (pss_cons (ps_try_as (i := 11) rfl rfl sc_law.nd rfl rfl ⟨rfl, by decide, .inl T.g_BadPairs⟩ takes0 (fun W pn xe tk _ => (pss_one (ps_set (i := 8) sc_law.nd rfl (.inl rfl) (by exact (pe_callS (ok_of_pairs T) (hr.mono (by decide)) (by rfl) T.g_of_pairs T.F_of_pairs.kp T.b_of_pairs (fun q => passAt tk q) (by exact (pa_cons (pv 7) pa_nil))))))) (fun a oe cls d pn hz hf => (pss_cons (ps_set (i := 10) sc_law.nd rfl (.inl rfl) (pe_bl))
      (pss_one (ps_set (i := 9) sc_law.nd rfl (.inl rfl) (pe_xf T.xf_BadPairs T.nf_BadPairs_two hz hf (pv 11) rfl))))))
      (pss_cons (ps_if (PW.pt (pw_or (pt_cmpR op_ne (pv 10) (pe_cmpR op_notNK (pv 6) (pe_non) (nomark _)) (nomark _)) (pw_or1 (pt_cmpR (op_neDK (K := K) hr.units) (pv 7) (pv 3) (nomark _))))) (pss_one (ps_ret (pe_bl))) pss_nil)
      (pss_cons (ps_if (pt_val (pv 10)) (pss_one (ps_ret ((pe_and (pe_call (ok_law_tuple T) (hr.mono (by decide)) (by rfl) T.g_law_tuple T.F_law_tuple.kp T.b_law_tuple .nil pass0 (pa_cons (pv 9) (pa_cons (pe_int) pa_nil))) (pe_one (pe_cmpR (op_eqDK (K := K) hr.units) (pv 9) (pv 6) (nomark _))))))) pss_nil)
      (pss_cons (ps_setLc (i := 12) (own := [("_law_i", 13)]) (g := gName 13) (tt := tYes) rfl sc_law.nd rfl rfl (sw_true rfl rfl rfl (by decide +kernel)) (pi_range1 (by rfl) T.m_range (pa_cons (pv 2) pa_nil)) (blkOk_by (N := N_law) (sc := defScope s_law) (by decide +kernel)) (fun _ _ _ _ _ => (pg_name (i := 13) sc_law.nd rfl (.inr rfl))) (fun _ _ _ _ _ => pts_nil) (fun _ _ _ _ _ => (pe_lc (own := [("_law_k", 5)]) (g := gName 5) (tt := tYes) rfl sc_law.nd (pi_range1 (by rfl) T.m_range (pa_cons (pv 2) pa_nil)) (blkOk_by (N := N_law) (by with_unfolding_all rfl)) (fun _ _ _ _ _ => (pg_name (i := 5) sc_law.nd rfl (.inl rfl))) (fun _ _ _ _ _ => pts_nil) (fun _ _ _ _ _ => (pe_call (ok_law_spread T) (hr.mono (by decide)) (by rfl) T.g_law_spread T.F_law_spread.kp T.b_law_spread .nil pass0 (pa_cons (pe_ix (ix_listK (K := K)) (pv 3) (pe_callB (c_min rfl) (by rfl) T.m_min (by decide +kernel) (pa_cons (pv 13) (pa_cons (pv 5) pa_nil))) (fun _ _ => rfl)) (pa_cons (pe_ix (ix_listK (K := K)) (pv 3) (pe_callB (c_max rfl) (by rfl) T.m_max (by decide +kernel) (pa_cons (pv 13) (pa_cons (pv 5) pa_nil))) (fun _ _ => rfl)) pa_nil)))))))
      (pss_one (ps_ret ((pe_and (pe_call (ok_law_table T) (hr.mono (by decide)) (by rfl) T.g_law_table T.F_law_table.kp T.b_law_table .nil pass0 (pa_cons (pv 8) (pa_cons (pv 12) pa_nil))) (pe_one (pe_cmpR op_isNK (pe_call (ok_broken T) (hr.mono (by decide)) (by rfl) T.g_broken T.F_broken.kp T.b_broken .nil passL (pa_cons (pv 8) pa_nil)) (pe_non) (nomark _))))))))))))))))))))), ?_⟩
  walk_at "st"
  refine ⟨sc, ns, 44, rfl, hS, by decide, fun row H1 r hrow hb s1 nr hr1 => ?_⟩
  have hR : SqL K H1 r (row.map V.int) := SqL.of hr1
  walk_at "st"
  refine ⟨r, row, rfl, hR, by omega, fun n n3 n12 => ?_⟩
  walk_at "st"
  refine Pm.w_slL hR (fun p1 hp1 => ?_)
  rw [cut_drop (by decide) (by rw [List.length_map, hrow]; decide), ← List.map_drop]
  have s2 := same_new hp1 (.lst ((row.drop (5 : Int).toNat).map V.int))
  walk_at "st"
  refine Pm.w_ixL (s2.seq hR) (atI_int (by omega) (by omega)) ?_
  walk_at "st"
  refine ⟨n, p1, row.drop (5 : Int).toNat, _, rfl, n12, SqL.of upd_same, by rw [List.length_drop, hrow]; decide, fun x hx => hb x (List.mem_of_mem_drop hx), fun l H3 S s3 nl hP bS => ?_⟩
  have s13 := s2.trans s3
  have hR3 := s13.seq hR
  walk_at "st"
  refine Pm.w_cut (fun σ' H' => ∃ l' x S', σ' = [some (.ref sc), some (.ref r), some (.int n), some (.ref l'), x, none, none, none, none, none, none, none, none, none] ∧ Same H1 H' ∧ PrL K H' l' n S' ∧ ∀ j, j < n → rb (S' j).p 341 ∧ rb (S' j).q 341) ?_ ?_
  · walk_at "st"
    refine Pm.w_ixL hR3 (atI_int (by omega) (by omega)) ?_
    walk_at "st"
    refine Pm.w_ite (fun e => ?_) (fun e => ?_)
    · walk_at "st"
      refine Pm.w_ixL hR3 (atI_int (by omega) (by omega)) ?_
      walk_at "st"
      obtain ⟨ws, hw, hA⟩ := id hP
      have wl := hA.length
      rw [List.length_map, List.length_range] at wl
      have m0 := Int.emod_nonneg (row.getD (3 : Int).toNat 0) (show (n : Int) ≠ 0 by omega)
      have m1 := Int.emod_lt_of_pos (row.getD (3 : Int).toNat 0) (show (0 : Int) < n by omega)
      obtain ⟨at_, hat⟩ : ∃ a : Nat, row.getD (3 : Int).toNat 0 % (n : Int) = (a : Int) := ⟨(row.getD (3 : Int).toNat 0 % (n : Int)).toNat, by omega⟩
      rw [hat] at m0 m1 ⊢
      have an : at_ < n := by omega
      refine Pm.w_slL (SqL.of hw) (fun p4 hp4 => ?_)
      rw [cut_take (by omega) (by omega), Int.toNat_natCast]
      have s4 := same_new hp4 (.lst (ws.take at_))
      have c4 := upd_same (H := H3) (a := p4) (o := (.lst (ws.take at_) : HO))
      have hA4 := hA.mono fun _ _ r => r.keep (K := K) (keeps s4)
      have hw4 := s4 _ _ hw
      have s14 := s13.trans s4
      generalize upd H3 p4 (.lst (ws.take at_)) = H4 at *
      walk_at "st"
      refine Pm.w_ixL (s14.seq hR) (atI_int (by omega) (by omega)) ?_
      walk_at "st"
      generalize hx : row.getD (4 : Int).toNat 0 % 9 - 4 = x
      refine Pm.w_newT (fun t5 ht5 => ?_)
      have s5 := same_new ht5 (.tup [.int x, .int 1])
      have f5 : FrV K (upd H4 t5 (.tup [.int x, .int 1])) (.ref t5) (rp (x : Rat)) := ⟨t5, rfl, .inl (by rw [rp_int]; exact upd_same)⟩
      have s15 := s14.trans s5
      have c5 := s5 _ _ c4
      have hA5 := hA4.mono fun _ _ r => r.keep (K := K) (keeps s5)
      have hw5 := s5 _ _ hw4
      generalize upd H4 t5 (.tup [.int x, .int 1]) = H5 at *
      walk_at "st"
      refine Pm.w_ixL (s15.seq hR) (atI_int (by omega) (by omega)) ?_
      walk_at "st"
      generalize hy : row.getD (4 : Int).toNat 0 / 9 % 9 - 4 = y
      refine ⟨y, 3, 2, rfl, by decide, by decide, by decide, fun t6 H6 s6 nt6 ht6 => ?_⟩
      walk_at "st"
      refine Pm.w_newT (fun t7 ht7 => ?_)
      have s7 := same_new ht7 (.tup [.ref t5, .ref t6])
      have pv : PrV K (upd H6 t7 (.tup [.ref t5, .ref t6])) (.ref t7) ⟨(x : Rat), Rat.divInt y 3⟩ := ⟨t7, t5, t6, rfl, upd_same, f5.keep (keeps (s6.trans s7)), (frv_new ht6).keep (keeps s7)⟩
      have s17 := s15.trans (s6.trans s7)
      have c7 := (s6.trans s7) _ _ c5
      have hA7 := hA5.mono fun _ _ r => r.keep (K := K) (keeps (s6.trans s7))
      have hw7 := (s6.trans s7) _ _ hw5
      generalize upd H6 t7 (.tup [.ref t5, .ref t6]) = H7 at *
      walk_at "st"
      refine Pm.w_newL (fun p8 hp8 => ?_)
      have s8 := same_new hp8 (.lst [.ref t7])
      refine Pm.w_cat (s8 _ _ c7) upd_same (size_ok (by rw [List.length_take, List.length_singleton]; omega)) (fun p9 hp9 => ?_)
      have s9 := same_new hp9 (.lst (ws.take at_ ++ [.ref t7]))
      have c9 := upd_same (H := upd H7 p8 (.lst [.ref t7])) (a := p9) (o := (.lst (ws.take at_ ++ [.ref t7]) : HO))
      have hw9 := (s8.trans s9) _ _ hw7
      have pv9 := pv.keep (keeps (s8.trans s9))
      have hA9 := hA7.mono fun _ _ r => r.keep (K := K) (keeps (s8.trans s9))
      have s19 := s17.trans (s8.trans s9)
      generalize upd (upd H7 p8 (.lst [.ref t7])) p9 (.lst (ws.take at_ ++ [.ref t7])) = H9 at *
      walk_at "st"
      refine Pm.w_slL (SqL.of hw9) (fun p10 hp10 => ?_)
      rw [cut_drop (by omega) (by omega), show ((at_ : Int) + 1).toNat = at_ + 1 by omega]
      have s10 := same_new hp10 (.lst (ws.drop (at_ + 1)))
      refine Pm.w_cat (s10 _ _ c9) upd_same (size_ok (by rw [List.length_append, List.length_take, List.length_singleton, List.length_drop]; omega)) (fun p11 hp11 => ?_)
      have s11 := same_new hp11 (.lst (ws.take at_ ++ [.ref t7] ++ ws.drop (at_ + 1)))
      walk_at "st"
      refine ⟨p11, _, fun j => if j = at_ then ⟨(x : Rat), Rat.divInt y 3⟩ else S j, rfl, s19.trans (s10.trans s11), ⟨_, upd_same, ?_⟩, fun j hj => ?_⟩
      · have e : (List.range n).map (fun j => if j = at_ then (⟨(x : Rat), Rat.divInt y 3⟩ : V2) else S j) = ((List.range n).map S).take at_ ++ [⟨(x : Rat), Rat.divInt y 3⟩] ++ ((List.range n).map S).drop (at_ + 1) := by
          refine List.ext_getElem? fun j => ?_
          have lt : (((List.range n).map S).take at_).length = at_ := by rw [List.length_take, List.length_map, List.length_range]; omega
          by_cases z : j < n
          · rw [List.getElem?_map, List.getElem?_range z]
            by_cases z1 : j < at_
            · rw [List.append_assoc, List.getElem?_append_left (by omega), List.getElem?_take_of_lt z1, List.getElem?_map, List.getElem?_range z]
              show some (if j = at_ then _ else S j) = some (S j)
              rw [if_neg (by omega)]
            · by_cases z2 : j = at_
              · subst z2
                rw [List.append_assoc, List.getElem?_append_right (by omega), lt, Nat.sub_self]
                show some (if j = j then _ else S j) = _
                rw [if_pos rfl]; rfl
              · rw [List.getElem?_append_right (by rw [List.length_append, lt, List.length_singleton]; omega), List.length_append, lt, List.length_singleton, List.getElem?_drop, show at_ + 1 + (j - (at_ + 1)) = j by omega, List.getElem?_map, List.getElem?_range z]
                show some (if j = at_ then _ else S j) = some (S j)
                rw [if_neg z2]
          · rw [List.getElem?_eq_none (by rw [List.length_map, List.length_range]; omega), List.getElem?_eq_none (by rw [List.length_append, List.length_append, lt, List.length_singleton, List.length_drop, List.length_map, List.length_range]; omega)]
        rw [e]
        have hF := hA9.mono fun _ _ r => r.keep (K := K) (keeps (s10.trans s11))
        exact ((hF.take at_).append (xs' := [.ref t7]) (ys' := [⟨(x : Rat), Rat.divInt y 3⟩]) ⟨pv9.keep (keeps (s10.trans s11)), trivial⟩).append (hF.drop (at_ + 1))
      · show rb (if j = at_ then (⟨(x : Rat), Rat.divInt y 3⟩ : V2) else S j).p 341 ∧ rb (if j = at_ then (⟨(x : Rat), Rat.divInt y 3⟩ : V2) else S j).q 341
        by_cases e : j = at_
        · rw [if_pos e]
          exact ⟨(rb_int (n := 3) (by show _ < 8; omega) (by decide)).mono (by decide), (rb_div (n := 3) (by decide) (by show _ < 8; omega) (by decide)).mono (by decide)⟩
        · rw [if_neg e]
          exact bS j hj
    · walk_at "st"
      exact ⟨l, _, S, rfl, s13, hP, bS⟩
  clear s13 hR3 hP bS s3
  rintro σ H4 ⟨l, x4, S, rfl, s4, hP, bS⟩
  have hR4 := s4.seq hR
  walk_at "st"
  refine Pm.w_cut (fun σ' H' => ∃ l' S', σ' = [some (.ref sc), some (.ref r), some (.int n), some (.ref l'), x4, none, none, none, none, none, none, none, none, none] ∧ Same H1 H' ∧ PrL K H' l' n S' ∧ ∀ j, j < n → rb (S' j).p 341 ∧ rb (S' j).q 341) ?_ ?_
  · walk_at "st"
    refine Pm.w_ixL hR4 (atI_int (by omega) (by omega)) ?_
    walk_at "st"
    have skip : ∃ l' S', ([some (.ref sc), some (.ref r), some (.int n), some (.ref l), x4, none, none, none, none, none, none, none, none, none] : L2.St) = [some (.ref sc), some (.ref r), some (.int n), some (.ref l'), x4, none, none, none, none, none, none, none, none, none] ∧ Same H1 H4 ∧ PrL K H4 l' n S' ∧ ∀ j, j < n → rb (S' j).p 341 ∧ rb (S' j).q 341 := ⟨l, S, rfl, s4, hP, bS⟩
    refine Pm.w_ite (fun e => ?_) (fun e => ?_)
    · walk_at "st"
      refine Pm.w_ixL hR4 (atI_int (by omega) (by omega)) ?_
      walk_at "st"
      refine Pm.w_ite (fun e2 => ?_) (fun e2 => ?_)
      · walk_at "st"
        rw [Int.toNat_natCast]
        refine Pm.w_lcRm (R := PrV K) prv_mono (fun k : Nat => (⟨((row.getD (30 + k) 0 % 7 - 3 : Int) : Rat), ((row.getD (30 + k) 0 / 7 % 7 - 3 : Int) : Rat)⟩ : V2)) (by omega) (fun D i H5 Nx hD hi s5 put => ?_) (fun D H5 ws hD s5 hd hA => ?_)
        · have hR5 := s5.seq hR4
          walk_at "st"
          rw [Int.zero_add]
          refine Pm.w_ixL hR5 (atI_int (by omega) (by omega)) ?_
          rw [show ((30 : Int) + (i : Int)).toNat = 30 + i by omega]
          walk_at "st"
          generalize hx : row.getD (30 + i) 0 % 7 - 3 = x
          refine Pm.w_newT (fun t5 ht5 => ?_)
          have s6 := same_new ht5 (.tup [.int x, .int 1])
          walk_at "st"
          refine Pm.w_ixL (s6.seq hR5) (atI_int (by omega) (by omega)) ?_
          rw [show ((30 : Int) + (i : Int)).toNat = 30 + i by omega]
          walk_at "st"
          generalize hy : row.getD (30 + i) 0 / 7 % 7 - 3 = y
          refine Pm.w_newT (fun t6 ht6 => ?_)
          have s7 := same_new ht6 (.tup [.int y, .int 1])
          walk_at "st"
          refine Pm.w_newT (fun t7 ht7 => ?_)
          have s8 := same_new ht7 (.tup [.ref t5, .ref t6])
          refine put _ _ (s6.trans (s7.trans s8)) ⟨t7, t5, t6, rfl, upd_same, ⟨t5, rfl, .inl ?_⟩, ⟨t6, rfl, .inl ?_⟩⟩
          · show _ = some (HO.tup [.int (rp ((row.getD (30 + i) 0 % 7 - 3 : Int) : Rat)).1, .int (rp ((row.getD (30 + i) 0 % 7 - 3 : Int) : Rat)).2])
            rw [hx, rp_int]
            exact (s7.trans s8) _ _ upd_same
          · show _ = some (HO.tup [.int (rp ((row.getD (30 + i) 0 / 7 % 7 - 3 : Int) : Rat)).1, .int (rp ((row.getD (30 + i) 0 / 7 % 7 - 3 : Int) : Rat)).2])
            rw [hy, rp_int]
            exact s8 _ _ upd_same
        · walk_at "st"
          exact ⟨D, _, rfl, s4.trans s5, ⟨ws, hd, hA⟩, fun j hj => ⟨(rb_int (n := 3) (by show _ < 8; omega) (by decide)).mono (by decide), (rb_int (n := 3) (by show _ < 8; omega) (by decide)).mono (by decide)⟩⟩
      · walk_at "st"
        exact skip
    · walk_at "st"
      exact skip
  clear hR4 hP bS s4
  rintro σ H5 ⟨l, S, rfl, s5, hP, bS⟩
  walk_at "st"
  refine ⟨l, n, S, 341, rfl, by omega, hP, bS, by decide, fun a b t H6 lo s6 ht => ?_, fun lo H6 s6 => ?_⟩
  all_goals walk_at "st"
  · obtain ⟨ws6, hw6, hA6⟩ := hP.same s6
    refine Pm.w_listOf (SqL.of hw6) (fun g hg => ?_)
    have s7 := same_new hg (.lst ws6)
    have hP7 := (hP.same s6).same s7
    have hg7 : PrL K (upd H6 g (.lst ws6)) g n S := ⟨ws6, upd_same, hA6.mono fun _ _ r => r.keep (keeps s7)⟩
    have ht7 := s7 _ _ ht
    generalize upd H6 g (.lst ws6) = H7 at *
    walk_at "st"
    refine ⟨g, n, S, 341, rfl, by omega, hg7, bS, by decide, fun a2 b2 t2 dd H8 H9 lo2 s8 ht8 s9 hx => ?_, fun lo2 => absurd (leastB_uniq lo lo2) (by simp)⟩
    have eo := leastB_uniq lo lo2
    cases eo
    refine ⟨true, T.exm_BadPairs_BadPairs, fun _ x hx2 => ?_, fun z => Bool.noConfusion z⟩
    walk_at "st"
    refine ⟨_, rfl, rfl, rfl, dd, _, _, rfl, hx, rfl, ?_⟩
    walk_at "st"
    refine Pm.w_notN_ref ?_
    walk_at "st"
    rw [show (!((true : Bool) == true)) = false from rfl]
    walk_at "st"
    refine w_nePrL ((hg7.same s8).same s9) ((hP7.same s8).same s9) ?_
    walk_at "st"
    have h1 := s9 _ _ ht8
    have h2 := (s8.trans s9) _ _ ht7
    refine ⟨t2, [(a : Int), (b : Int)], rfl, SqT.of h1, ?_⟩
    walk_at "st"
    refine Pm.w_eqPair (SqT.of h1) (SqT.of h2) ?_
    rw [decide_eq_true ⟨rfl, rfl⟩]
    exact q _
  · obtain ⟨ws6, hw6, hA6⟩ := hP.same s6
    refine Pm.w_listOf (SqL.of hw6) (fun g hg => ?_)
    have s7 := same_new hg (.lst ws6)
    have hP7 := (hP.same s6).same s7
    have hg7 : PrL K (upd H6 g (.lst ws6)) g n S := ⟨ws6, upd_same, hA6.mono fun _ _ r => r.keep (keeps s7)⟩
    generalize upd H6 g (.lst ws6) = H7 at *
    walk_at "st"
    refine ⟨g, n, S, 341, rfl, by omega, hg7, bS, by decide, fun a2 b2 t2 dd H8 H9 lo2 s8 ht8 s9 hx => absurd (leastB_uniq lo lo2) (by simp), fun lo2 => ?_⟩
    intro m H8 as s8 nm frm hT
    walk_at "st"
    refine Pm.w_notN_non ?_
    walk_at "st"
    rw [show (!((false : Bool) == false)) = false from rfl]
    walk_at "st"
    refine w_nePrL (hg7.same s8) (hP7.same s8) ?_
    walk_at "st"
    rw [Int.toNat_natCast]
    have hP8 := hP7.same s8
    refine w_lcRowsR (K := K) (fun i => (List.range n).map fun k => rp (prG S i k)) (by omega) (fun D i H9 Nx hD hi s9 put => ?_) (fun D H9 das hD s9 fr9 hTD => ?_)
    · walk_at "st"
      rw [Int.toNat_natCast]
      refine Pm.w_lcRm (R := FrV K) frv_mono (fun k : Nat => rp (prG S i k)) (by omega) (fun D2 k H10 Nx2 hD2 hk s10 put2 => ?_) (fun D2 H10 ws hD2 s10 hd2 hA2 => ?_)
      · have hP10 := (hP8.same s9).same s10
        have mn : min ((0 : Int) + (i : Int)) (0 + (k : Int)) = ((min i k : Nat) : Int) := by omega
        have mx : max ((0 : Int) + (i : Int)) (0 + (k : Int)) = ((max i k : Nat) : Int) := by omega
        obtain ⟨wsA, t1, hA1, e1, p1⟩ := hP10.at_ (i := min i k) (by omega)
        obtain ⟨wsB, t2, hB1, e2, p2⟩ := hP10.at_ (i := max i k) (by omega)
        walk_at "st"
        rw [mn]
        refine Pm.w_ixL (SqL.of hA1) (atI_nat e1) ?_
        walk_at "st"
        rw [mx]
        refine Pm.w_ixL (SqL.of hB1) (atI_nat e2) ?_
        walk_at "st"
        have bA := bS (min i k) (by omega)
        have bB := bS (max i k) (by omega)
        refine ⟨_, _, _, _, 341, rfl, p1, p2, bA.1, bA.2, bB.1, bB.2, by decide, fun v H11 s11 nv hv => ?_⟩
        refine put2 _ _ s11 ?_
        have e3 : prG S i k = det (S (min i k)) (S (max i k)) := by
          unfold prG
          split
          · rename_i e
            subst e
            unfold det
            grind
          · rfl
        rw [e3]
        exact frv_new hv
      · exact put D2 H10 s10 hD2 ⟨ws, hd2, hA2⟩
    have gG := prG_good bS lo2 (by decide)
    obtain ⟨bd1, bd2⟩ := rows_bd (n := n) (B := 4 * 341 + 1) (g := prG S) (by omega) gG.rb
    have hT9 := hT.same s9
    have hT9' : Tb K H9 m as (mat n fun i k => rp (prG S i k)) := hT9
    have hTD' : Tb K H9 D das (mat n fun i k => rp (prG S i k)) := hTD
    walk_at "st"
    refine ⟨m, D, as, das, _, 4 * 341 + 1, rfl, by rw [← mat_rat]; exact hT9', by rw [← mat_rat]; exact hTD', bd1, bd2, by decide, fun H10 s10 => ?_⟩
    walk_at "st"
    refine ⟨m, as, _, rfl, hT9'.same s10, fun z => absurd (good_tab n3 n12 gG) z, fun _ => ⟨n, 4 * 341 + 1, prG S, rfl, gG.rb, by decide, fun v H11 o s11 lo11 hv => ?_⟩⟩
    have hn : o = none := by
      cases o with
      | none => rfl
      | some q4 => exact absurd (prG_rule S lo11.1) lo11.2.1
    subst hn
    have hv : v = .non := hv
    subst hv
    walk_at "st"
    refine Pm.w_isN_non ?_
    exact q _
end
def D_measure : He.FnD := ⟨("measure", none), "measure", "measure", defArgs s_measure, defBody s_measure, defScope s_measure⟩
def D_lowest : He.FnD := ⟨("lowest", none), "lowest", "lowest", defArgs s_lowest, defBody s_lowest, defScope s_lowest⟩
def D_plus : He.FnD := ⟨("plus", none), "plus", "plus", defArgs s_plus, defBody s_plus, defScope s_plus⟩
def D_less : He.FnD := ⟨("less", none), "less", "less", defArgs s_less, defBody s_less, defScope s_less⟩
def D_times : He.FnD := ⟨("times", none), "times", "times", defArgs s_times, defBody s_times, defScope s_times⟩
def D_is_part : He.FnD := ⟨("is_part", none), "is_part", "is_part", defArgs s_is_part, defBody s_is_part, defScope s_is_part⟩
def D_is_length : He.FnD := ⟨("is_length", none), "is_length", "is_length", defArgs s_is_length, defBody s_is_length, defScope s_is_length⟩
def D_spread : He.FnD := ⟨("spread", none), "spread", "spread", defArgs s_spread, defBody s_spread, defScope s_spread⟩
def D_table_of : He.FnD := ⟨("table_of", none), "table_of", "table_of", defArgs s_table_of, defBody s_table_of, defScope s_table_of⟩
def D_looked : He.FnD := ⟨("looked", none), "looked", "looked", defArgs s_looked, defBody s_looked, defScope s_looked⟩
def D_keeps : He.FnD := ⟨("keeps", none), "keeps", "keeps", defArgs s_keeps, defBody s_keeps, defScope s_keeps⟩
def D_first_of : He.FnD := ⟨("first_of", none), "first_of", "first_of", defArgs s_first_of, defBody s_first_of, defScope s_first_of⟩
def D_broken : He.FnD := ⟨("broken", none), "broken", "broken", defArgs s_broken, defBody s_broken, defScope s_broken⟩
def D_of_pairs : He.FnD := ⟨("of_pairs", none), "of_pairs", "of_pairs", defArgs s_of_pairs, defBody s_of_pairs, defScope s_of_pairs⟩
def D_law_flow : He.FnD := ⟨("_law_flow", none), "_law_flow", "_law_flow", defArgs s_law_flow, defBody s_law_flow, defScope s_law_flow⟩
def D_law_whole : He.FnD := ⟨("_law_whole", none), "_law_whole", "_law_whole", defArgs s_law_whole, defBody s_law_whole, defScope s_law_whole⟩
def D_law_low : He.FnD := ⟨("_law_low", none), "_law_low", "_law_low", defArgs s_law_low, defBody s_law_low, defScope s_law_low⟩
def D_law_add : He.FnD := ⟨("_law_add", none), "_law_add", "_law_add", defArgs s_law_add, defBody s_law_add, defScope s_law_add⟩
def D_law_mul : He.FnD := ⟨("_law_mul", none), "_law_mul", "_law_mul", defArgs s_law_mul, defBody s_law_mul, defScope s_law_mul⟩
def D_law_part : He.FnD := ⟨("_law_part", none), "_law_part", "_law_part", defArgs s_law_part, defBody s_law_part, defScope s_law_part⟩
def D_law_size : He.FnD := ⟨("_law_size", none), "_law_size", "_law_size", defArgs s_law_size, defBody s_law_size, defScope s_law_size⟩
def D_law_many : He.FnD := ⟨("_law_many", none), "_law_many", "_law_many", defArgs s_law_many, defBody s_law_many, defScope s_law_many⟩
def D_law_spread : He.FnD := ⟨("_law_spread", none), "_law_spread", "_law_spread", defArgs s_law_spread, defBody s_law_spread, defScope s_law_spread⟩
def D_law_tuple : He.FnD := ⟨("_law_tuple", none), "_law_tuple", "_law_tuple", defArgs s_law_tuple, defBody s_law_tuple, defScope s_law_tuple⟩
def D_law_parts : He.FnD := ⟨("_law_parts", none), "_law_parts", "_law_parts", defArgs s_law_parts, defBody s_law_parts, defScope s_law_parts⟩
def D_law_table : He.FnD := ⟨("_law_table", none), "_law_table", "_law_table", defArgs s_law_table, defBody s_law_table, defScope s_law_table⟩
def D_law_drawn : He.FnD := ⟨("_law_drawn", none), "_law_drawn", "_law_drawn", defArgs s_law_drawn, defBody s_law_drawn, defScope s_law_drawn⟩
def D_law_bad : He.FnD := ⟨("_law_bad", none), "_law_bad", "_law_bad", defArgs s_law_bad, defBody s_law_bad, defScope s_law_bad⟩
def D_law : He.FnD := ⟨("law", none), "law", "law", defArgs s_law, defBody s_law, defScope s_law⟩
def D_BadPairs___init__ : He.FnD := ⟨("BadPairs", some "__init__"), "__init__", "BadPairs.__init__", defArgs s_BadPairs___init__, defBody s_BadPairs___init__, defScope s_BadPairs___init__⟩
def hfn : List He.FnD := [D_measure, D_lowest, D_plus, D_less, D_times, D_is_part, D_is_length, D_spread, D_table_of, D_looked, D_keeps, D_first_of, D_broken, D_of_pairs, D_law_flow, D_law_whole, D_law_low, D_law_add, D_law_mul, D_law_part, D_law_size, D_law_many, D_law_spread, D_law_tuple, D_law_parts, D_law_table, D_law_drawn, D_law_bad, D_law, D_BadPairs___init__]
def hfa : List He.Fa := [.glo "NoFraction",
  .exc "NoFraction",
  .glo "BadTable",
  .exc "BadTable",
  .glo "BadPairs",
  .keep "BadPairs",
  .keep "measure",
  .glo "measure",
  .keep "lowest",
  .glo "lowest",
  .keep "plus",
  .glo "plus",
  .keep "less",
  .glo "less",
  .keep "times",
  .glo "times",
  .keep "is_part",
  .glo "is_part",
  .keep "is_length",
  .glo "is_length",
  .keep "spread",
  .glo "spread",
  .keep "table_of",
  .glo "table_of",
  .keep "looked",
  .glo "looked",
  .keep "keeps",
  .glo "keeps",
  .keep "first_of",
  .glo "first_of",
  .keep "broken",
  .glo "broken",
  .keep "of_pairs",
  .glo "of_pairs",
  .keep "_law_flow",
  .glo "_law_flow",
  .keep "_law_whole",
  .glo "_law_whole",
  .keep "_law_low",
  .glo "_law_low",
  .keep "_law_add",
  .glo "_law_add",
  .keep "_law_mul",
  .glo "_law_mul",
  .keep "_law_part",
  .glo "_law_part",
  .keep "_law_size",
  .glo "_law_size",
  .keep "_law_many",
  .glo "_law_many",
  .keep "_law_spread",
  .glo "_law_spread",
  .keep "_law_tuple",
  .glo "_law_tuple",
  .keep "_law_parts",
  .glo "_law_parts",
  .keep "_law_table",
  .glo "_law_table",
  .keep "_law_drawn",
  .glo "_law_drawn",
  .keep "_law_bad",
  .glo "_law_bad",
  .keep "law",
  .glo "law",
  .free "abs",
  .free "len",
  .free "range",
  .free "isinstance",
  .free "int",
  .free "bool",
  .free "tuple",
  .free "list",
  .free "min",
  .free "max",
  .glo "NOUGHT",
  .int "FEWEST" (3),
  .int "MOST" (12)]
def hex (K : PySem.W.Frag) : List Bool := [PySem.W.isClsIn K (He.ga K "NoFraction"),
  decide (PySem.W.subIn K (.ref (He.ga K "NoFraction")) (.ref (He.ga K "NoFraction")) = some true),
  PySem.W.isClsIn K (He.ga K "BadTable"),
  decide (PySem.W.subIn K (.ref (He.ga K "BadTable")) (.ref (He.ga K "BadTable")) = some true),
  oexB K (He.ga K "BadPairs"),
  decide (PySem.W.findIn K (.ref (He.ga K "BadPairs")) "__setattr__" = some (some (.builtin "object.__setattr__"))),
  decide (PySem.W.subIn K (.ref (He.ga K "BadPairs")) (.type "BaseException") = some true),
  decide (PySem.W.typeIn K (.ref (He.ga K "BadPairs")) = some (.type "type")),
  xfB K (He.ga K "BadPairs"),
  decide (PySem.W.subIn K (.ref (He.ga K "BadPairs")) (.type "BaseException") = some true),
  decide (PySem.W.typeIn K (.ref (He.ga K "BadPairs")) = some (.type "type")),
  PySem.W.isClsIn K (He.ga K "BadPairs"),
  decide (PySem.W.subIn K (.ref (He.ga K "BadPairs")) (.ref (He.ga K "BadPairs")) = some true),
  PySem.W.keepIn K (.ref (He.ma K (He.ga K "BadPairs") "__init__")),
  He.eqO (PySem.W.findIn K (.ref (He.ga K "BadPairs")) "__init__") (some (some (.ref (He.ma K (He.ga K "BadPairs") "__init__")))),
  decide (PySem.W.typeIn K (.ref (He.ma K (He.ga K "BadPairs") "__init__")) = some (.type "function")),
  decide (PySem.W.findIn K (.ref (He.ga K "BadPairs")) "two" = some none),
  He.tupB K "NOUGHT" [.int (0), .int (1)],
  decide (PySem.W.findIn K (.ref (He.ga K "BadPairs")) "__getattribute__" = some (some (.builtin "BaseException.__getattribute__"))),
  decide (PySem.W.findIn K (.ref (He.ga K "BadPairs")) "__getattr__" = some none),
  decide (PySem.W.hasDictIn K (He.ga K "BadPairs") = true),
  decide (PySem.W.findIn K (.ref (He.ga K "BadPairs")) "__class__" = some (some (.builtin "object.__class__"))),
  decide (PySem.W.specialIn K (.builtin "object.__class__") "__get__" = some (some (.builtin "getset_descriptor.__get__"))),
  decide (PySem.W.takesIn K (.builtin "object.__class__") = some true),
  decide (PySem.W.mroIn K (He.ga K "BadPairs") (.type "object") = some true),
  decide (PySem.W.kitOne K (.ref (He.ga K "BadPairs")) (.ref (He.ga K "BadPairs")) = some true),
  decide (PySem.W.exmOne K (.ref (He.ga K "BadPairs")) (.ref (He.ga K "BadPairs")) = some true)]
def loose0 : List Str := [("MeadError" : Str), ("NoFraction" : Str), ("BadTable" : Str), ("BadPairs" : Str), ("FEWEST" : Str), ("MOST" : Str), ("NOUGHT" : Str), ("measure" : Str), ("lowest" : Str), ("plus" : Str), ("less" : Str), ("times" : Str), ("is_part" : Str), ("is_length" : Str), ("spread" : Str), ("table_of" : Str), ("looked" : Str), ("keeps" : Str), ("first_of" : Str), ("broken" : Str), ("of_pairs" : Str), ("_law_flow" : Str), ("_law_whole" : Str), ("_law_low" : Str), ("_law_add" : Str), ("_law_mul" : Str), ("_law_part" : Str), ("_law_size" : Str), ("_law_many" : Str), ("_law_spread" : Str), ("_law_tuple" : Str), ("_law_parts" : Str), ("_law_table" : Str), ("_law_drawn" : Str), ("_law_bad" : Str)]
def looseA : List Str := loose0
abbrev hRow : PySem.W.OpenRow := PySem.W.OpenLaw.row PySem.Challenge.rw_postmead_k29_tables_of_pairs
abbrev hHook : PySem.W.Hook := hookP 5 hfa hfn hex
def hOb (s : PySem.W.SharedT) : He.Al := obsP 5 hfa hfn hex (HandSHeadRun.getT s)
theorem hOb_eq (s : PySem.W.SharedT) : hOb s = hHook.obs s.abs := obsP_eq (HandSHeadRun.getT_eq s)
theorem hRun (w : World) : HandSHeadRun.RunEq hRow (PySem.W.view hRow.prog [40]) hHook hOb 40000 looseA w := by
  intro os
  kernel_rfl
theorem qe_NoFraction {K : PySem.W.Frag} {h : Heap} {mg : Str → Option Value} (X : K.In h) (G : h.Ns mainGlobals mg) (c : SaysP hfa hfn hex K) : Nonempty { e : ExAt K mg "NoFraction" // e.c = (He.ga K "NoFraction") } := ⟨⟨{ c := _, g := He.glo_ok X G (c.e.fact 0 (f := .glo "NoFraction") rfl), x := (He.exc_ok (c.e.fact 1 (f := .exc "NoFraction") rfl)).1, k := (He.exc_ok (c.e.fact 1 (f := .exc "NoFraction") rfl)).2.1, b := (He.exc_ok (c.e.fact 1 (f := .exc "NoFraction") rfl)).2.2.1, t := (He.exc_ok (c.e.fact 1 (f := .exc "NoFraction") rfl)).2.2.2, i := (c.b 0 (b := PySem.W.isClsIn K (He.ga K "NoFraction")) rfl), z := (c.d 1 (p := PySem.W.subIn K (.ref (He.ga K "NoFraction")) (.ref (He.ga K "NoFraction")) = some true) rfl) }, rfl⟩⟩
theorem qe_BadTable {K : PySem.W.Frag} {h : Heap} {mg : Str → Option Value} (X : K.In h) (G : h.Ns mainGlobals mg) (c : SaysP hfa hfn hex K) : Nonempty { e : ExAt K mg "BadTable" // e.c = (He.ga K "BadTable") } := ⟨⟨{ c := _, g := He.glo_ok X G (c.e.fact 2 (f := .glo "BadTable") rfl), x := (He.exc_ok (c.e.fact 3 (f := .exc "BadTable") rfl)).1, k := (He.exc_ok (c.e.fact 3 (f := .exc "BadTable") rfl)).2.1, b := (He.exc_ok (c.e.fact 3 (f := .exc "BadTable") rfl)).2.2.1, t := (He.exc_ok (c.e.fact 3 (f := .exc "BadTable") rfl)).2.2.2, i := (c.b 2 (b := PySem.W.isClsIn K (He.ga K "BadTable")) rfl), z := (c.d 3 (p := PySem.W.subIn K (.ref (He.ga K "BadTable")) (.ref (He.ga K "BadTable")) = some true) rfl) }, rfl⟩⟩
theorem qe_BadPairs {K : PySem.W.Frag} {h : Heap} {mg : Str → Option Value} (X : K.In h) (G : h.Ns mainGlobals mg) (c : SaysP hfa hfn hex K) : Nonempty { e : XiAt K mg "BadPairs" // e.c = (He.ga K "BadPairs") } := ⟨⟨{ c := _, g := He.glo_ok X G (c.e.fact 4 (f := .glo "BadPairs") rfl), o := oexC_of (c.b 4 (b := oexB K (He.ga K "BadPairs")) rfl) (c.d 5 (p := PySem.W.findIn K (.ref (He.ga K "BadPairs")) "__setattr__" = some (some (.builtin "object.__setattr__"))) rfl) (c.d 6 (p := PySem.W.subIn K (.ref (He.ga K "BadPairs")) (.type "BaseException") = some true) rfl) (c.d 7 (p := PySem.W.typeIn K (.ref (He.ga K "BadPairs")) = some (.type "type")) rfl) (c.e.fact 5 (f := .keep "BadPairs") rfl), xf := xfB_ok (c.b 8 (b := xfB K (He.ga K "BadPairs")) rfl), k := (c.e.fact 5 (f := .keep "BadPairs") rfl), b := (c.d 9 (p := PySem.W.subIn K (.ref (He.ga K "BadPairs")) (.type "BaseException") = some true) rfl), t := (c.d 10 (p := PySem.W.typeIn K (.ref (He.ga K "BadPairs")) = some (.type "type")) rfl), i := (c.b 11 (b := PySem.W.isClsIn K (He.ga K "BadPairs")) rfl), z := (c.d 12 (p := PySem.W.subIn K (.ref (He.ga K "BadPairs")) (.ref (He.ga K "BadPairs")) = some true) rfl) }, rfl⟩⟩
theorem qd_measure {K : PySem.W.Frag} {h : Heap} {mg : Str → Option Value} (X : K.In h) (G : h.Ns mainGlobals mg) (c : SaysP hfa hfn hex K) : Nonempty (DefAt K mg "measure" "measure" s_measure ["one", "other"]) := by
  obtain ⟨oc, od, osl, kV, dc, pm, an, cd, ct, l, cc⟩ := c.def_ 0 (D := D_measure) rfl
  have F := fun_mk (st := s_measure) l cc (c.e.fact 6 (f := .keep "measure") rfl)
  exact ⟨{ a := _, fd := _, F := F, g := He.glo_ok X G (c.e.fact 7 (f := .glo "measure") rfl), b := F.binds (ps := ["one", "other"]) fun _ _ _ _ _ _ us hl => match us, hl with | [_, _], _ => rfl }⟩
theorem qd_lowest {K : PySem.W.Frag} {h : Heap} {mg : Str → Option Value} (X : K.In h) (G : h.Ns mainGlobals mg) (c : SaysP hfa hfn hex K) : Nonempty (DefAt K mg "lowest" "lowest" s_lowest ["top", "bottom"]) := by
  obtain ⟨oc, od, osl, kV, dc, pm, an, cd, ct, l, cc⟩ := c.def_ 1 (D := D_lowest) rfl
  have F := fun_mk (st := s_lowest) l cc (c.e.fact 8 (f := .keep "lowest") rfl)
  exact ⟨{ a := _, fd := _, F := F, g := He.glo_ok X G (c.e.fact 9 (f := .glo "lowest") rfl), b := F.binds (ps := ["top", "bottom"]) fun _ _ _ _ _ _ us hl => match us, hl with | [_, _], _ => rfl }⟩
theorem qd_plus {K : PySem.W.Frag} {h : Heap} {mg : Str → Option Value} (X : K.In h) (G : h.Ns mainGlobals mg) (c : SaysP hfa hfn hex K) : Nonempty (DefAt K mg "plus" "plus" s_plus ["one", "other"]) := by
  obtain ⟨oc, od, osl, kV, dc, pm, an, cd, ct, l, cc⟩ := c.def_ 2 (D := D_plus) rfl
  have F := fun_mk (st := s_plus) l cc (c.e.fact 10 (f := .keep "plus") rfl)
  exact ⟨{ a := _, fd := _, F := F, g := He.glo_ok X G (c.e.fact 11 (f := .glo "plus") rfl), b := F.binds (ps := ["one", "other"]) fun _ _ _ _ _ _ us hl => match us, hl with | [_, _], _ => rfl }⟩
theorem qd_less {K : PySem.W.Frag} {h : Heap} {mg : Str → Option Value} (X : K.In h) (G : h.Ns mainGlobals mg) (c : SaysP hfa hfn hex K) : Nonempty (DefAt K mg "less" "less" s_less ["one", "other"]) := by
  obtain ⟨oc, od, osl, kV, dc, pm, an, cd, ct, l, cc⟩ := c.def_ 3 (D := D_less) rfl
  have F := fun_mk (st := s_less) l cc (c.e.fact 12 (f := .keep "less") rfl)
  exact ⟨{ a := _, fd := _, F := F, g := He.glo_ok X G (c.e.fact 13 (f := .glo "less") rfl), b := F.binds (ps := ["one", "other"]) fun _ _ _ _ _ _ us hl => match us, hl with | [_, _], _ => rfl }⟩
theorem qd_times {K : PySem.W.Frag} {h : Heap} {mg : Str → Option Value} (X : K.In h) (G : h.Ns mainGlobals mg) (c : SaysP hfa hfn hex K) : Nonempty (DefAt K mg "times" "times" s_times ["one", "other"]) := by
  obtain ⟨oc, od, osl, kV, dc, pm, an, cd, ct, l, cc⟩ := c.def_ 4 (D := D_times) rfl
  have F := fun_mk (st := s_times) l cc (c.e.fact 14 (f := .keep "times") rfl)
  exact ⟨{ a := _, fd := _, F := F, g := He.glo_ok X G (c.e.fact 15 (f := .glo "times") rfl), b := F.binds (ps := ["one", "other"]) fun _ _ _ _ _ _ us hl => match us, hl with | [_, _], _ => rfl }⟩
theorem qd_is_part {K : PySem.W.Frag} {h : Heap} {mg : Str → Option Value} (X : K.In h) (G : h.Ns mainGlobals mg) (c : SaysP hfa hfn hex K) : Nonempty (DefAt K mg "is_part" "is_part" s_is_part ["pair"]) := by
  obtain ⟨oc, od, osl, kV, dc, pm, an, cd, ct, l, cc⟩ := c.def_ 5 (D := D_is_part) rfl
  have F := fun_mk (st := s_is_part) l cc (c.e.fact 16 (f := .keep "is_part") rfl)
  exact ⟨{ a := _, fd := _, F := F, g := He.glo_ok X G (c.e.fact 17 (f := .glo "is_part") rfl), b := F.binds (ps := ["pair"]) fun _ _ _ _ _ _ us hl => match us, hl with | [_], _ => rfl }⟩
theorem qd_is_length {K : PySem.W.Frag} {h : Heap} {mg : Str → Option Value} (X : K.In h) (G : h.Ns mainGlobals mg) (c : SaysP hfa hfn hex K) : Nonempty (DefAt K mg "is_length" "is_length" s_is_length ["pair"]) := by
  obtain ⟨oc, od, osl, kV, dc, pm, an, cd, ct, l, cc⟩ := c.def_ 6 (D := D_is_length) rfl
  have F := fun_mk (st := s_is_length) l cc (c.e.fact 18 (f := .keep "is_length") rfl)
  exact ⟨{ a := _, fd := _, F := F, g := He.glo_ok X G (c.e.fact 19 (f := .glo "is_length") rfl), b := F.binds (ps := ["pair"]) fun _ _ _ _ _ _ us hl => match us, hl with | [_], _ => rfl }⟩
theorem qd_spread {K : PySem.W.Frag} {h : Heap} {mg : Str → Option Value} (X : K.In h) (G : h.Ns mainGlobals mg) (c : SaysP hfa hfn hex K) : Nonempty (DefAt K mg "spread" "spread" s_spread ["one", "other"]) := by
  obtain ⟨oc, od, osl, kV, dc, pm, an, cd, ct, l, cc⟩ := c.def_ 7 (D := D_spread) rfl
  have F := fun_mk (st := s_spread) l cc (c.e.fact 20 (f := .keep "spread") rfl)
  exact ⟨{ a := _, fd := _, F := F, g := He.glo_ok X G (c.e.fact 21 (f := .glo "spread") rfl), b := F.binds (ps := ["one", "other"]) fun _ _ _ _ _ _ us hl => match us, hl with | [_, _], _ => rfl }⟩
theorem qd_table_of {K : PySem.W.Frag} {h : Heap} {mg : Str → Option Value} (X : K.In h) (G : h.Ns mainGlobals mg) (c : SaysP hfa hfn hex K) : Nonempty (DefAt K mg "table_of" "table_of" s_table_of ["stood"]) := by
  obtain ⟨oc, od, osl, kV, dc, pm, an, cd, ct, l, cc⟩ := c.def_ 8 (D := D_table_of) rfl
  have F := fun_mk (st := s_table_of) l cc (c.e.fact 22 (f := .keep "table_of") rfl)
  exact ⟨{ a := _, fd := _, F := F, g := He.glo_ok X G (c.e.fact 23 (f := .glo "table_of") rfl), b := F.binds (ps := ["stood"]) fun _ _ _ _ _ _ us hl => match us, hl with | [_], _ => rfl }⟩
theorem qd_looked {K : PySem.W.Frag} {h : Heap} {mg : Str → Option Value} (X : K.In h) (G : h.Ns mainGlobals mg) (c : SaysP hfa hfn hex K) : Nonempty (DefAt K mg "looked" "looked" s_looked ["table"]) := by
  obtain ⟨oc, od, osl, kV, dc, pm, an, cd, ct, l, cc⟩ := c.def_ 9 (D := D_looked) rfl
  have F := fun_mk (st := s_looked) l cc (c.e.fact 24 (f := .keep "looked") rfl)
  exact ⟨{ a := _, fd := _, F := F, g := He.glo_ok X G (c.e.fact 25 (f := .glo "looked") rfl), b := F.binds (ps := ["table"]) fun _ _ _ _ _ _ us hl => match us, hl with | [_], _ => rfl }⟩
theorem qd_keeps {K : PySem.W.Frag} {h : Heap} {mg : Str → Option Value} (X : K.In h) (G : h.Ns mainGlobals mg) (c : SaysP hfa hfn hex K) : Nonempty (DefAt K mg "keeps" "keeps" s_keeps ["table", "a", "b", "c", "d"]) := by
  obtain ⟨oc, od, osl, kV, dc, pm, an, cd, ct, l, cc⟩ := c.def_ 10 (D := D_keeps) rfl
  have F := fun_mk (st := s_keeps) l cc (c.e.fact 26 (f := .keep "keeps") rfl)
  exact ⟨{ a := _, fd := _, F := F, g := He.glo_ok X G (c.e.fact 27 (f := .glo "keeps") rfl), b := F.binds (ps := ["table", "a", "b", "c", "d"]) fun _ _ _ _ _ _ us hl => match us, hl with | [_, _, _, _, _], _ => rfl }⟩
theorem qd_first_of {K : PySem.W.Frag} {h : Heap} {mg : Str → Option Value} (X : K.In h) (G : h.Ns mainGlobals mg) (c : SaysP hfa hfn hex K) : Nonempty (DefAt K mg "first_of" "first_of" s_first_of ["table", "a", "b", "n"]) := by
  obtain ⟨oc, od, osl, kV, dc, pm, an, cd, ct, l, cc⟩ := c.def_ 11 (D := D_first_of) rfl
  have F := fun_mk (st := s_first_of) l cc (c.e.fact 28 (f := .keep "first_of") rfl)
  exact ⟨{ a := _, fd := _, F := F, g := He.glo_ok X G (c.e.fact 29 (f := .glo "first_of") rfl), b := F.binds (ps := ["table", "a", "b", "n"]) fun _ _ _ _ _ _ us hl => match us, hl with | [_, _, _, _], _ => rfl }⟩
theorem qd_broken {K : PySem.W.Frag} {h : Heap} {mg : Str → Option Value} (X : K.In h) (G : h.Ns mainGlobals mg) (c : SaysP hfa hfn hex K) : Nonempty (DefAt K mg "broken" "broken" s_broken ["table"]) := by
  obtain ⟨oc, od, osl, kV, dc, pm, an, cd, ct, l, cc⟩ := c.def_ 12 (D := D_broken) rfl
  have F := fun_mk (st := s_broken) l cc (c.e.fact 30 (f := .keep "broken") rfl)
  exact ⟨{ a := _, fd := _, F := F, g := He.glo_ok X G (c.e.fact 31 (f := .glo "broken") rfl), b := F.binds (ps := ["table"]) fun _ _ _ _ _ _ us hl => match us, hl with | [_], _ => rfl }⟩
theorem qd_of_pairs {K : PySem.W.Frag} {h : Heap} {mg : Str → Option Value} (X : K.In h) (G : h.Ns mainGlobals mg) (c : SaysP hfa hfn hex K) : Nonempty (DefAt K mg "of_pairs" "of_pairs" s_of_pairs ["rows"]) := by
  obtain ⟨oc, od, osl, kV, dc, pm, an, cd, ct, l, cc⟩ := c.def_ 13 (D := D_of_pairs) rfl
  have F := fun_mk (st := s_of_pairs) l cc (c.e.fact 32 (f := .keep "of_pairs") rfl)
  exact ⟨{ a := _, fd := _, F := F, g := He.glo_ok X G (c.e.fact 33 (f := .glo "of_pairs") rfl), b := F.binds (ps := ["rows"]) fun _ _ _ _ _ _ us hl => match us, hl with | [_], _ => rfl }⟩
theorem qd_law_flow {K : PySem.W.Frag} {h : Heap} {mg : Str → Option Value} (X : K.In h) (G : h.Ns mainGlobals mg) (c : SaysP hfa hfn hex K) : Nonempty (DefAt K mg "_law_flow" "_law_flow" s_law_flow ["_law_script", "_law_many_here"]) := by
  obtain ⟨oc, od, osl, kV, dc, pm, an, cd, ct, l, cc⟩ := c.def_ 14 (D := D_law_flow) rfl
  have F := fun_mk (st := s_law_flow) l cc (c.e.fact 34 (f := .keep "_law_flow") rfl)
  exact ⟨{ a := _, fd := _, F := F, g := He.glo_ok X G (c.e.fact 35 (f := .glo "_law_flow") rfl), b := F.binds (ps := ["_law_script", "_law_many_here"]) fun _ _ _ _ _ _ us hl => match us, hl with | [_, _], _ => rfl }⟩
theorem qd_law_whole {K : PySem.W.Frag} {h : Heap} {mg : Str → Option Value} (X : K.In h) (G : h.Ns mainGlobals mg) (c : SaysP hfa hfn hex K) : Nonempty (DefAt K mg "_law_whole" "_law_whole" s_law_whole ["_law_found"]) := by
  obtain ⟨oc, od, osl, kV, dc, pm, an, cd, ct, l, cc⟩ := c.def_ 15 (D := D_law_whole) rfl
  have F := fun_mk (st := s_law_whole) l cc (c.e.fact 36 (f := .keep "_law_whole") rfl)
  exact ⟨{ a := _, fd := _, F := F, g := He.glo_ok X G (c.e.fact 37 (f := .glo "_law_whole") rfl), b := F.binds (ps := ["_law_found"]) fun _ _ _ _ _ _ us hl => match us, hl with | [_], _ => rfl }⟩
theorem qd_law_low {K : PySem.W.Frag} {h : Heap} {mg : Str → Option Value} (X : K.In h) (G : h.Ns mainGlobals mg) (c : SaysP hfa hfn hex K) : Nonempty (DefAt K mg "_law_low" "_law_low" s_law_low ["_law_top", "_law_bottom"]) := by
  obtain ⟨oc, od, osl, kV, dc, pm, an, cd, ct, l, cc⟩ := c.def_ 16 (D := D_law_low) rfl
  have F := fun_mk (st := s_law_low) l cc (c.e.fact 38 (f := .keep "_law_low") rfl)
  exact ⟨{ a := _, fd := _, F := F, g := He.glo_ok X G (c.e.fact 39 (f := .glo "_law_low") rfl), b := F.binds (ps := ["_law_top", "_law_bottom"]) fun _ _ _ _ _ _ us hl => match us, hl with | [_, _], _ => rfl }⟩
theorem qd_law_add {K : PySem.W.Frag} {h : Heap} {mg : Str → Option Value} (X : K.In h) (G : h.Ns mainGlobals mg) (c : SaysP hfa hfn hex K) : Nonempty (DefAt K mg "_law_add" "_law_add" s_law_add ["_law_one", "_law_other"]) := by
  obtain ⟨oc, od, osl, kV, dc, pm, an, cd, ct, l, cc⟩ := c.def_ 17 (D := D_law_add) rfl
  have F := fun_mk (st := s_law_add) l cc (c.e.fact 40 (f := .keep "_law_add") rfl)
  exact ⟨{ a := _, fd := _, F := F, g := He.glo_ok X G (c.e.fact 41 (f := .glo "_law_add") rfl), b := F.binds (ps := ["_law_one", "_law_other"]) fun _ _ _ _ _ _ us hl => match us, hl with | [_, _], _ => rfl }⟩
theorem qd_law_mul {K : PySem.W.Frag} {h : Heap} {mg : Str → Option Value} (X : K.In h) (G : h.Ns mainGlobals mg) (c : SaysP hfa hfn hex K) : Nonempty (DefAt K mg "_law_mul" "_law_mul" s_law_mul ["_law_one", "_law_other"]) := by
  obtain ⟨oc, od, osl, kV, dc, pm, an, cd, ct, l, cc⟩ := c.def_ 18 (D := D_law_mul) rfl
  have F := fun_mk (st := s_law_mul) l cc (c.e.fact 42 (f := .keep "_law_mul") rfl)
  exact ⟨{ a := _, fd := _, F := F, g := He.glo_ok X G (c.e.fact 43 (f := .glo "_law_mul") rfl), b := F.binds (ps := ["_law_one", "_law_other"]) fun _ _ _ _ _ _ us hl => match us, hl with | [_, _], _ => rfl }⟩
theorem qd_law_part {K : PySem.W.Frag} {h : Heap} {mg : Str → Option Value} (X : K.In h) (G : h.Ns mainGlobals mg) (c : SaysP hfa hfn hex K) : Nonempty (DefAt K mg "_law_part" "_law_part" s_law_part ["_law_found"]) := by
  obtain ⟨oc, od, osl, kV, dc, pm, an, cd, ct, l, cc⟩ := c.def_ 19 (D := D_law_part) rfl
  have F := fun_mk (st := s_law_part) l cc (c.e.fact 44 (f := .keep "_law_part") rfl)
  exact ⟨{ a := _, fd := _, F := F, g := He.glo_ok X G (c.e.fact 45 (f := .glo "_law_part") rfl), b := F.binds (ps := ["_law_found"]) fun _ _ _ _ _ _ us hl => match us, hl with | [_], _ => rfl }⟩
theorem qd_law_size {K : PySem.W.Frag} {h : Heap} {mg : Str → Option Value} (X : K.In h) (G : h.Ns mainGlobals mg) (c : SaysP hfa hfn hex K) : Nonempty (DefAt K mg "_law_size" "_law_size" s_law_size ["_law_one"]) := by
  obtain ⟨oc, od, osl, kV, dc, pm, an, cd, ct, l, cc⟩ := c.def_ 20 (D := D_law_size) rfl
  have F := fun_mk (st := s_law_size) l cc (c.e.fact 46 (f := .keep "_law_size") rfl)
  exact ⟨{ a := _, fd := _, F := F, g := He.glo_ok X G (c.e.fact 47 (f := .glo "_law_size") rfl), b := F.binds (ps := ["_law_one"]) fun _ _ _ _ _ _ us hl => match us, hl with | [_], _ => rfl }⟩
theorem qd_law_many {K : PySem.W.Frag} {h : Heap} {mg : Str → Option Value} (X : K.In h) (G : h.Ns mainGlobals mg) (c : SaysP hfa hfn hex K) : Nonempty (DefAt K mg "_law_many" "_law_many" s_law_many ["_law_row"]) := by
  obtain ⟨oc, od, osl, kV, dc, pm, an, cd, ct, l, cc⟩ := c.def_ 21 (D := D_law_many) rfl
  have F := fun_mk (st := s_law_many) l cc (c.e.fact 48 (f := .keep "_law_many") rfl)
  exact ⟨{ a := _, fd := _, F := F, g := He.glo_ok X G (c.e.fact 49 (f := .glo "_law_many") rfl), b := F.binds (ps := ["_law_row"]) fun _ _ _ _ _ _ us hl => match us, hl with | [_], _ => rfl }⟩
theorem qd_law_spread {K : PySem.W.Frag} {h : Heap} {mg : Str → Option Value} (X : K.In h) (G : h.Ns mainGlobals mg) (c : SaysP hfa hfn hex K) : Nonempty (DefAt K mg "_law_spread" "_law_spread" s_law_spread ["_law_one", "_law_other"]) := by
  obtain ⟨oc, od, osl, kV, dc, pm, an, cd, ct, l, cc⟩ := c.def_ 22 (D := D_law_spread) rfl
  have F := fun_mk (st := s_law_spread) l cc (c.e.fact 50 (f := .keep "_law_spread") rfl)
  exact ⟨{ a := _, fd := _, F := F, g := He.glo_ok X G (c.e.fact 51 (f := .glo "_law_spread") rfl), b := F.binds (ps := ["_law_one", "_law_other"]) fun _ _ _ _ _ _ us hl => match us, hl with | [_, _], _ => rfl }⟩
theorem qd_law_tuple {K : PySem.W.Frag} {h : Heap} {mg : Str → Option Value} (X : K.In h) (G : h.Ns mainGlobals mg) (c : SaysP hfa hfn hex K) : Nonempty (DefAt K mg "_law_tuple" "_law_tuple" s_law_tuple ["_law_found", "_law_many_here"]) := by
  obtain ⟨oc, od, osl, kV, dc, pm, an, cd, ct, l, cc⟩ := c.def_ 23 (D := D_law_tuple) rfl
  have F := fun_mk (st := s_law_tuple) l cc (c.e.fact 52 (f := .keep "_law_tuple") rfl)
  exact ⟨{ a := _, fd := _, F := F, g := He.glo_ok X G (c.e.fact 53 (f := .glo "_law_tuple") rfl), b := F.binds (ps := ["_law_found", "_law_many_here"]) fun _ _ _ _ _ _ us hl => match us, hl with | [_, _], _ => rfl }⟩
theorem qd_law_parts {K : PySem.W.Frag} {h : Heap} {mg : Str → Option Value} (X : K.In h) (G : h.Ns mainGlobals mg) (c : SaysP hfa hfn hex K) : Nonempty (DefAt K mg "_law_parts" "_law_parts" s_law_parts ["_law_found", "_law_due"]) := by
  obtain ⟨oc, od, osl, kV, dc, pm, an, cd, ct, l, cc⟩ := c.def_ 24 (D := D_law_parts) rfl
  have F := fun_mk (st := s_law_parts) l cc (c.e.fact 54 (f := .keep "_law_parts") rfl)
  exact ⟨{ a := _, fd := _, F := F, g := He.glo_ok X G (c.e.fact 55 (f := .glo "_law_parts") rfl), b := F.binds (ps := ["_law_found", "_law_due"]) fun _ _ _ _ _ _ us hl => match us, hl with | [_, _], _ => rfl }⟩
theorem qd_law_table {K : PySem.W.Frag} {h : Heap} {mg : Str → Option Value} (X : K.In h) (G : h.Ns mainGlobals mg) (c : SaysP hfa hfn hex K) : Nonempty (DefAt K mg "_law_table" "_law_table" s_law_table ["_law_found", "_law_due"]) := by
  obtain ⟨oc, od, osl, kV, dc, pm, an, cd, ct, l, cc⟩ := c.def_ 25 (D := D_law_table) rfl
  have F := fun_mk (st := s_law_table) l cc (c.e.fact 56 (f := .keep "_law_table") rfl)
  exact ⟨{ a := _, fd := _, F := F, g := He.glo_ok X G (c.e.fact 57 (f := .glo "_law_table") rfl), b := F.binds (ps := ["_law_found", "_law_due"]) fun _ _ _ _ _ _ us hl => match us, hl with | [_, _], _ => rfl }⟩
theorem qd_law_drawn {K : PySem.W.Frag} {h : Heap} {mg : Str → Option Value} (X : K.In h) (G : h.Ns mainGlobals mg) (c : SaysP hfa hfn hex K) : Nonempty (DefAt K mg "_law_drawn" "_law_drawn" s_law_drawn ["_law_n", "_law_row", "_law_way"]) := by
  obtain ⟨oc, od, osl, kV, dc, pm, an, cd, ct, l, cc⟩ := c.def_ 26 (D := D_law_drawn) rfl
  have F := fun_mk (st := s_law_drawn) l cc (c.e.fact 58 (f := .keep "_law_drawn") rfl)
  exact ⟨{ a := _, fd := _, F := F, g := He.glo_ok X G (c.e.fact 59 (f := .glo "_law_drawn") rfl), b := F.binds (ps := ["_law_n", "_law_row", "_law_way"]) fun _ _ _ _ _ _ us hl => match us, hl with | [_, _, _], _ => rfl }⟩
theorem qd_law_bad {K : PySem.W.Frag} {h : Heap} {mg : Str → Option Value} (X : K.In h) (G : h.Ns mainGlobals mg) (c : SaysP hfa hfn hex K) : Nonempty (DefAt K mg "_law_bad" "_law_bad" s_law_bad ["_law_rows"]) := by
  obtain ⟨oc, od, osl, kV, dc, pm, an, cd, ct, l, cc⟩ := c.def_ 27 (D := D_law_bad) rfl
  have F := fun_mk (st := s_law_bad) l cc (c.e.fact 60 (f := .keep "_law_bad") rfl)
  exact ⟨{ a := _, fd := _, F := F, g := He.glo_ok X G (c.e.fact 61 (f := .glo "_law_bad") rfl), b := F.binds (ps := ["_law_rows"]) fun _ _ _ _ _ _ us hl => match us, hl with | [_], _ => rfl }⟩
theorem qd_law {K : PySem.W.Frag} {h : Heap} {mg : Str → Option Value} (X : K.In h) (G : h.Ns mainGlobals mg) (c : SaysP hfa hfn hex K) : Nonempty (DefAt K mg "law" "law" s_law ["_law_script"]) := by
  obtain ⟨oc, od, osl, kV, dc, pm, an, cd, ct, l, cc⟩ := c.def_ 28 (D := D_law) rfl
  have F := fun_mk (st := s_law) l cc (c.e.fact 62 (f := .keep "law") rfl)
  exact ⟨{ a := _, fd := _, F := F, g := He.glo_ok X G (c.e.fact 63 (f := .glo "law") rfl), b := F.binds (ps := ["_law_script"]) fun _ _ _ _ _ _ us hl => match us, hl with | [_], _ => rfl }⟩
theorem qd_BadPairs___init__ {K : PySem.W.Frag} {h : Heap} {mg : Str → Option Value} (X : K.In h) (G : h.Ns mainGlobals mg) (c : SaysP hfa hfn hex K) : Nonempty (XMethAt K (He.ga K "BadPairs") "__init__" "BadPairs.__init__" s_BadPairs___init__ ["self", "two"]) := by
  obtain ⟨oc, od, osl, kV, dc, pm, an, cd, ct, l, cc⟩ := c.def_ 29 (D := D_BadPairs___init__) rfl
  have F := fun_mk (st := s_BadPairs___init__) l cc (c.b 13 (b := PySem.W.keepIn K (.ref (He.ma K (He.ga K "BadPairs") "__init__"))) rfl)
  exact ⟨{ a := _, fd := _, F := F, iC := He.eqO_ok (a := PySem.W.findIn K (.ref (He.ga K "BadPairs")) "__init__") (c.b 14 (b := He.eqO (PySem.W.findIn K (.ref (He.ga K "BadPairs")) "__init__") (some (some (.ref (He.ma K (He.ga K "BadPairs") "__init__"))))) rfl), tI := (c.d 15 (p := PySem.W.typeIn K (.ref (He.ma K (He.ga K "BadPairs") "__init__")) = some (.type "function")) rfl), b := F.binds (ps := ["self", "two"]) fun _ _ _ _ _ _ us hl => match us, hl with | [_, _], _ => rfl }⟩
theorem tx_of {K : PySem.W.Frag} {h : Heap} {mg : Str → Option Value} (X : K.In h) (G : h.Ns mainGlobals mg) (c : SaysP hfa hfn hex K) : Nonempty (Tx K mg) := by
  obtain ⟨⟨e_NoFraction, ee_NoFraction⟩⟩ := qe_NoFraction X G c
  obtain ⟨⟨e_BadTable, ee_BadTable⟩⟩ := qe_BadTable X G c
  obtain ⟨⟨e_BadPairs, ee_BadPairs⟩⟩ := qe_BadPairs X G c
  obtain ⟨d_BadPairs___init__⟩ := qd_BadPairs___init__ X G c
  rw [← ee_BadPairs] at d_BadPairs___init__
  obtain ⟨t_FEWEST, ht_FEWEST⟩ := He.int_ok X G (c.e.fact 75 (f := .int "FEWEST" (3)) rfl)
  obtain ⟨t_MOST, ht_MOST⟩ := He.int_ok X G (c.e.fact 76 (f := .int "MOST" (12)) rfl)
  exact ⟨{
    d_measure := Classical.choice (qd_measure X G c),
    d_lowest := Classical.choice (qd_lowest X G c),
    d_plus := Classical.choice (qd_plus X G c),
    d_less := Classical.choice (qd_less X G c),
    d_times := Classical.choice (qd_times X G c),
    d_is_part := Classical.choice (qd_is_part X G c),
    d_is_length := Classical.choice (qd_is_length X G c),
    d_spread := Classical.choice (qd_spread X G c),
    d_table_of := Classical.choice (qd_table_of X G c),
    d_looked := Classical.choice (qd_looked X G c),
    d_keeps := Classical.choice (qd_keeps X G c),
    d_first_of := Classical.choice (qd_first_of X G c),
    d_broken := Classical.choice (qd_broken X G c),
    d_of_pairs := Classical.choice (qd_of_pairs X G c),
    d_law_flow := Classical.choice (qd_law_flow X G c),
    d_law_whole := Classical.choice (qd_law_whole X G c),
    d_law_low := Classical.choice (qd_law_low X G c),
    d_law_add := Classical.choice (qd_law_add X G c),
    d_law_mul := Classical.choice (qd_law_mul X G c),
    d_law_part := Classical.choice (qd_law_part X G c),
    d_law_size := Classical.choice (qd_law_size X G c),
    d_law_many := Classical.choice (qd_law_many X G c),
    d_law_spread := Classical.choice (qd_law_spread X G c),
    d_law_tuple := Classical.choice (qd_law_tuple X G c),
    d_law_parts := Classical.choice (qd_law_parts X G c),
    d_law_table := Classical.choice (qd_law_table X G c),
    d_law_drawn := Classical.choice (qd_law_drawn X G c),
    d_law_bad := Classical.choice (qd_law_bad X G c),
    d_law := Classical.choice (qd_law X G c),
    d_BadPairs___init__ := d_BadPairs___init__,
    m_abs := He.free_ok X G (c.e.fact 64 (f := .free "abs") rfl),
    m_len := He.free_ok X G (c.e.fact 65 (f := .free "len") rfl),
    m_range := He.free_ok X G (c.e.fact 66 (f := .free "range") rfl),
    m_isinstance := He.free_ok X G (c.e.fact 67 (f := .free "isinstance") rfl),
    m_int := He.free_ok X G (c.e.fact 68 (f := .free "int") rfl),
    m_bool := He.free_ok X G (c.e.fact 69 (f := .free "bool") rfl),
    m_tuple := He.free_ok X G (c.e.fact 70 (f := .free "tuple") rfl),
    m_list := He.free_ok X G (c.e.fact 71 (f := .free "list") rfl),
    m_min := He.free_ok X G (c.e.fact 72 (f := .free "min") rfl),
    m_max := He.free_ok X G (c.e.fact 73 (f := .free "max") rfl),
    e_NoFraction := e_NoFraction,
    e_BadTable := e_BadTable,
    e_BadPairs := e_BadPairs,
    nf_BadPairs_two := by rw [ee_BadPairs]; exact (c.d 16 (p := PySem.W.findIn K (.ref (He.ga K "BadPairs")) "two" = some none) rfl),
    c_NOUGHT := He.ga K "NOUGHT", g_NOUGHT := He.glo_ok X G (c.e.fact 74 (f := .glo "NOUGHT") rfl), r_NOUGHT := rfl, v_NOUGHT := fun H => He.tupB_ok (x := "NOUGHT") (vs := [.int (0), .int (1)]) (c.b 17 (b := He.tupB K "NOUGHT" [.int (0), .int (1)]) rfl) H,
    u_FEWEST := .int (3) t_FEWEST, g_FEWEST := ht_FEWEST, r_FEWEST := ⟨t_FEWEST, rfl⟩,
    u_MOST := .int (12) t_MOST, g_MOST := ht_MOST, r_MOST := ⟨t_MOST, rfl⟩,
    ex1_BadPairs := by rw [ee_BadPairs]; exact (c.d 18 (p := PySem.W.findIn K (.ref (He.ga K "BadPairs")) "__getattribute__" = some (some (.builtin "BaseException.__getattribute__"))) rfl),
    ex2_BadPairs := by rw [ee_BadPairs]; exact (c.d 19 (p := PySem.W.findIn K (.ref (He.ga K "BadPairs")) "__getattr__" = some none) rfl),
    ex3_BadPairs := by rw [ee_BadPairs]; exact (c.d 20 (p := PySem.W.hasDictIn K (He.ga K "BadPairs") = true) rfl),
    ex4_BadPairs := by rw [ee_BadPairs]; exact (c.d 21 (p := PySem.W.findIn K (.ref (He.ga K "BadPairs")) "__class__" = some (some (.builtin "object.__class__"))) rfl),
    ex5_BadPairs := by exact (c.d 22 (p := PySem.W.specialIn K (.builtin "object.__class__") "__get__" = some (some (.builtin "getset_descriptor.__get__"))) rfl),
    ex6_BadPairs := by exact (c.d 23 (p := PySem.W.takesIn K (.builtin "object.__class__") = some true) rfl),
    ex7_BadPairs := by rw [ee_BadPairs]; exact (c.d 24 (p := PySem.W.mroIn K (He.ga K "BadPairs") (.type "object") = some true) rfl),
    kit_BadPairs_BadPairs := by rw [ee_BadPairs]; exact (c.d 25 (p := PySem.W.kitOne K (.ref (He.ga K "BadPairs")) (.ref (He.ga K "BadPairs")) = some true) rfl),
    exm_BadPairs_BadPairs := by rw [ee_BadPairs]; exact (c.d 26 (p := PySem.W.exmOne K (.ref (He.ga K "BadPairs")) (.ref (He.ga K "BadPairs")) = some true) rfl) }⟩
theorem all_mk {l : PySem.W.OpenLaw} {w : World} {K : PySem.W.Frag} {mg : Str → Option Value} {fa : Addr} (hfa : mg "law" = some (.ref fa)) (T : Tx K mg) :
    ∃ fd : FuncData, (∀ (s : Shared) (v : Value), BindsTo s fd ⟨[v], []⟩ [("_law_script", v)]) ∧ ∀ b : Heap, K.In b → b.Ns mainGlobals mg → FnOk l.prog w K mg b CX0 9 fa fd ["_law_script"] (spLaw K) := by
  have e := hfa.symm.trans T.g_law
  cases e
  refine ⟨T.fd_law, fun s v => ?_, fun b _ _ => ok_law (base := b) T⟩
  obtain ⟨oc, od, kV, doc, pm, an, cdv, ct, osl, e, lk, hcd⟩ := T.F_law.ex
  rw [e]
  exact .of_eq rfl
end Pm
open PySem PySem.W PySem.Calls PyProof.Rows
set_option maxHeartbeats 0 in
theorem PySem.Challenge.cw_postmead_k29_tables_of_pairs_holds : PySem.Challenge.rw_postmead_k29_tables_of_pairs.Holds := by
  w_on; o_law
  refine HandSHeadRun.head_any (r := PySem.W.OpenLaw.row PySem.Challenge.rw_postmead_k29_tables_of_pairs) (q := PySem.W.view (PySem.W.OpenLaw.row PySem.Challenge.rw_postmead_k29_tables_of_pairs).prog [40]) (H := Pm.hHook) (ob := Pm.hOb) (M := 40000) (loose := Pm.looseA) (d := HandSHeadRun.topDef (PySem.W.OpenLaw.row PySem.Challenge.rw_postmead_k29_tables_of_pairs).prog 40) (kwd := []) Pm.hOb_eq
    (by kernel_rfl) (fun s => by kernel_rfl) Pm.hRun (by kernel_rfl) (by kernel_rfl) (by kernel_rfl) (by rfl) (by first | assumption | decide +kernel) (by decide +kernel) ⟨rfl, rfl, rfl, rfl, rfl, by decide +kernel⟩ ?hw ?hc
  case hw => w_witness2
  case hc =>
    refine L2.walk_ofE (l := PySem.Challenge.rw_postmead_k29_tables_of_pairs) (n := 63) (k := 9) (x := "_law_script") (CX := L2.CX0) rfl (by decide) (by kernel_rfl) ⟨rfl, by decide, by decide⟩ ?F (fun _ _ _ _ z => z)
    intro w mg fa h Y G hmg0
    obtain ⟨K, KX, c⟩ := Y
    have hmg : mg ("law" : PySem.Str) = some (.ref fa) := by
      have e : (HandSHeadRun.topDef (PySem.W.OpenLaw.row PySem.Challenge.rw_postmead_k29_tables_of_pairs).prog 40).name = ("law" : PySem.Str) := by kernel_rfl
      rw [← e]
      exact hmg0
    obtain ⟨T⟩ := Pm.tx_of KX G c
    obtain ⟨fd, hb, hF⟩ := Pm.all_mk (l := PySem.Challenge.rw_postmead_k29_tables_of_pairs) (w := w) hmg T
    exact ⟨K, fd, Pm.spLaw K, KX, hb, fun H a ns hl _ hS => ⟨a, ns, rfl, hS, hl, fun _ => rfl⟩, hF⟩
#print axioms PySem.Challenge.cw_postmead_k29_tables_of_pairs_holds
