import PyProof.Rows.All
import Wide.All
import OpenK.AllK
import Wide.FinOn
import PySem.Challenge.RW_postmead_k02_fractions_reckoned
import HandS.ForMost
import HandS.ForExc
import HandS.IsInst
import HandS.Deep
import HandS.Codes
import HandS.SortRule
import HandS.Wide
import HandS.ExcIs
import HandS.TryOnly
set_option Elab.async false
set_option linter.all false
set_option maxRecDepth 100000
set_option maxHeartbeats 4000000
/-! ### readings, step by step: one lemma a construct, for the first row of a goal -/
namespace Pm
open PySem PySem.Spec PyProof.Rows L2
theorem size_ok {n : Nat} (h : n ≤ 16777216) : n ≤ sizeLine := by rw [sizeLine_eq]; exact h
theorem size_lt {n : Nat} (h : n < 16777216) : n < sizeLine := by rw [sizeLine_eq]; exact h
/-! the rules over the written part K, by its name -/
section
variable {X : Cx} {K : PySem.W.Frag}
theorem ix_listK (e : X.K = K := by rfl) : IxR X (rIxL K) := e ▸ ix_list
theorem ix_tupK (e : X.K = K := by rfl) : IxR X (rIxT K) := e ▸ ix_tup
theorem sl_listK (e : X.K = K := by rfl) : SlR X (rSlL K) := e ▸ sl_list
theorem op_eqDK (hu : X.A.units + 64 < cLine) (e : X.K = K := by rfl) : OpR X (compareOp .Eq) (rEqD K) := e ▸ op_eqD hu
theorem op_neDK (hu : X.A.units + 64 < cLine) (e : X.K = K := by rfl) : OpR X (compareOp .NotEq) (rNeD K) := e ▸ op_neD hu
theorem op_inDK (hu : X.A.units + 65 < cLine) (e : X.K = K := by rfl) : OpR X (compareOp .In) (rInD K) := e ▸ op_inD hu
theorem op_notInDK (hu : X.A.units + 65 < cLine) (e : X.K = K := by rfl) : OpR X (compareOp .NotIn) (rNotInD K) := e ▸ op_notInD hu
theorem op_in_seqK (e : X.K = K := by rfl) : OpR X (compareOp .In) (rIn K false) := e ▸ op_in_seq
theorem op_notIn_seqK (e : X.K = K := by rfl) : OpR X (compareOp .NotIn) (rIn K true) := e ▸ op_notIn_seq
theorem cr_sumK (hc : X.calm = true) (e : X.K = K := by rfl) : CallR X (.builtin "sum") (rSum K) := e ▸ cr_sum hc
theorem cr_sortK (e : X.K = K := by rfl) : CallR X (.builtin "sorted") (rSortedPO K) := e ▸ cr_sortedPO
theorem call_isK (e : X.K = K := by rfl) : CallR X (.builtin "isinstance") (rIsi K) := e ▸ call_isi
theorem k_bm {ex : Expr} {T : String} {r : V → List V → Hp → VK → Prop} {to : TE} {t : TA} (h : PE X ex (tBM X.K T r to t)) (e : X.K = K := by rfl) : PE X ex (tBM K T r to t) := e ▸ h
theorem k_bm0 {ex : Expr} {T : String} {r : V → List V → Hp → VK → Prop} {to : TE} (h : PE X ex (tBM0 X.K T r to)) (e : X.K = K := by rfl) : PE X ex (tBM0 K T r to) := e ▸ h
theorem k_il {tg ex : Expr} {te : TE} (h : PI X tg ex (iList X.K te)) (e : X.K = K := by rfl) : PI X tg ex (iList K te) := e ▸ h
theorem k_it {tg ex : Expr} {te : TE} (h : PI X tg ex (iTup X.K te)) (e : X.K = K := by rfl) : PI X tg ex (iTup K te) := e ▸ h
theorem k_gt {tg : Expr} {n : Nat} {t : TGs} (h : PG X tg (gTup X.K n t)) (e : X.K = K := by rfl) : PG X tg (gTup K n t) := e ▸ h
end
/-! the rules of some calls, by a name -/
def rAbs : List V → Hp → VK → Prop := fun xs H Q => ∃ i, xs = [.int i] ∧ Q (.int (if i < 0 then -i else i)) H
theorem c_abs {X : Cx} : CallR X (.builtin "abs") rAbs := call_abs
def rMax2 : List V → Hp → VK → Prop := fun xs H Q => ∃ i j, xs = [.int i, .int j] ∧ Q (.int (if j > i then j else i)) H
theorem c_max {X : Cx} (hc : X.calm = true) : CallR X (.builtin "max") rMax2 := call_max2 hc
def rMin2 : List V → Hp → VK → Prop := fun xs H Q => ∃ i j, xs = [.int i, .int j] ∧ Q (.int (if j < i then j else i)) H
theorem c_min {X : Cx} (hc : X.calm = true) : CallR X (.builtin "min") rMin2 := call_min2 hc
def rLen (K : PySem.W.Frag) : List V → Hp → VK → Prop := fun xs H Q => ∃ p ys, xs = [.ref p] ∧ (SqL K H p ys ∨ SqT K H p ys) ∧ Q (.int ys.length) H
theorem c_len {X : Cx} {K : PySem.W.Frag} (e : X.K = K := by rfl) : CallR X (.builtin "len") (rLen K) := e ▸ call_len_seq
def rLenS : List V → Hp → VK → Prop := fun xs H Q => ∃ z : Str, xs = [.str z] ∧ z.length ≤ sizeLine ∧ Q (.int z.length) H
theorem c_lenS {X : Cx} : CallR X (.builtin "len") rLenS := call_len_str
def rCatS : R2 := fun x y H Q => ∃ i j, x = .str i ∧ y = .str j ∧ i.length + j.length ≤ sizeLine ∧ Q (.str (i ++ j)) H
theorem o_catS {X : Cx} : OpR X (binaryOp .Add) rCatS := op_add_str
def TupK (Q : VK) : List V → Hp → Prop := fun xs H1 => xs.length ≤ sizeLine ∧ ∀ p, H1 p = none → Q (.ref p) (upd H1 p (.tup xs))
def LstK (Q : VK) : List V → Hp → Prop := fun xs H1 => xs.length ≤ sizeLine ∧ ∀ p, H1 p = none → Q (.ref p) (upd H1 p (.lst xs))
/-- isinstance(e, c) of the exception at a that an except suite holds (its class cls, its dict d) -/
def rIsX (K : PySem.W.Frag) (cls : Value) (d : Option Addr) (a : Addr) : List V → Hp → VK → Prop := fun xs H Q => ∃ (D : Addr) (c : V) (cv : Value) (b : Bool), cls = .ref D ∧ d = none ∧ ExcC K D ∧ xs = [.ref a, c] ∧ (∀ u, RelV c u → u = cv) ∧ PySem.W.kitOne K (.ref D) cv = some b ∧ Q (.bl b) H
theorem c_isX {X : Cx} {K : PySem.W.Frag} {a : Addr} {oe : Obj} {cls : Value} {d : Option Addr} {pn : List (Addr × Obj)} (hz : Zc cls d oe) (hf : ∃ vs, oe.data = .fields vs) (e : X.K = K := by rfl) : CallR (X.suite a ((a, oe) :: pn)) (.builtin "isinstance") (rIsX K cls d a) := by
  subst e
  intro pins s σ H xs us Q I r h
  obtain ⟨D, c, cv, b, rfl, rfl, C, ex, hc, k, q⟩ := h
  exact call_isE C hz hf pins s σ H xs us Q I r ⟨c, cv, b, ex, hc, k, q⟩
/-- what is asked of a for's body, once what is walked is there -/
def ForB (g : TG) (t : TS) (nx : L2.St → Hp → Prop) (rt : VK) (σ : L2.St) : It → Hp → Prop := fun J H1 => ∃ W : Nat → Nat → L2.St → Hp → Prop, (∃ m, W 0 m σ H1) ∧ ∀ i m σ H, W i m σ H →
  (J.stop i H ∧ nx σ H) ∨ (J.go i H ∧ ∃ N : L2.St → Hp → Prop, (∀ σ' H', N σ' H' → ∃ m', m' < m ∧ W (i + 1) m' σ' H') ∧ ∀ x H', J.yld i H x H' → g x σ H' fun σ2 H2 => t ⟨N, rt, nx, N⟩ σ2 H2)
def WhB (t : TS) (nx : L2.St → Hp → Prop) (rt : VK) (Pv : Nat → L2.St → Hp → Prop) (m : Nat) (σ : L2.St) : Bool → Hp → Prop := fun b H1 => if b = true then ∃ N : L2.St → Hp → Prop, (∀ σ' H', N σ' H' → ∃ m', m' < m ∧ Pv m' σ' H') ∧ t ⟨N, rt, nx, N⟩ σ H1 else nx σ H1
def ParK (i j : Nat) (nx : L2.St → Hp → Prop) (σ : L2.St) : List V → Hp → Prop := fun vs H1 => ∃ v w, vs = [v, w] ∧ nx ((σ.set i (some v)).set j (some w)) H1
def RdL (K : PySem.W.Frag) (R : It → Hp → Prop) : VK := fun x H1 => ∃ a, x = .ref a ∧ (∃ xs, SqL K H1 a xs) ∧ R (Itl K a) H1
def RdT (K : PySem.W.Frag) (R : It → Hp → Prop) : VK := fun x H1 => ∃ a, x = .ref a ∧ (∃ xs, SqT K H1 a xs) ∧ R (Itt K a) H1
def Rg1 (R : It → Hp → Prop) : List V → Hp → Prop := fun vs H1 => ∃ j : Int, vs = [.int j] ∧ -(2 ^ 62) ≤ j ∧ j < 2 ^ 62 ∧ R (Itr 0 j.toNat) H1
def Rg2 (R : It → Hp → Prop) : List V → Hp → Prop := fun vs H1 => ∃ i j : Int, vs = [.int i, .int j] ∧ (-(2 ^ 62) ≤ i ∧ i < 2 ^ 62 ∧ -(2 ^ 62) ≤ j ∧ j < 2 ^ 62) ∧ R (Itr i (j - i).toNat) H1
/-- what is asked of a list comprehension, once what is walked is there -/
def LcB (g : TG) (tt : TT) (te : TE) (vs : List Nat) (σ : L2.St) (Q : VK) : It → Hp → Prop := fun J H1 => ∀ D, H1 D = none → ∃ W : Nat → Nat → Hp → Prop, (∃ m, W 0 m (upd H1 D (.lst []))) ∧ ∀ i m H, W i m H →
  (J.stop i H ∧ Q (.ref D) H) ∨ (J.go i H ∧ ∃ Nx : Hp → Prop, (∀ H', Nx H' → ∃ m', m' < m ∧ W (i + 1) m' H') ∧ ∀ x H', J.yld i H x H' → g x (wipe σ vs) H' fun σ2 H2 => wipe σ2 vs = wipe σ vs ∧ tt σ2 H2 fun b H3 =>
    if b = true then te σ2 H3 fun y H4 => ∃ acc, H4 D = some (.lst acc) ∧ acc.length < sizeLine ∧ Nx (upd H4 D (.lst (acc ++ [y]))) else Nx H3)
/-- a turn of a comprehension: the item put behind the list at D -/
def LcPut (D : Addr) (Nx : Hp → Prop) : VK := fun y H4 => ∃ acc, H4 D = some (.lst acc) ∧ acc.length < sizeLine ∧ Nx (upd H4 D (.lst (acc ++ [y])))
def LcTurn (tt : TT) (te : TE) (vs : List Nat) (σ : L2.St) (D : Addr) (Nx : Hp → Prop) : L2.St → Hp → Prop := fun σ2 H2 => wipe σ2 vs = wipe σ vs ∧ tt σ2 H2 fun b H3 => if b = true then te σ2 H3 (LcPut D Nx) else Nx H3
section
variable {nx bk ct : L2.St → Hp → Prop} {rt : VK} {σ : L2.St} {H : Hp} {t u : TS} {te ta tb tc : TE} {g : TG} {Q : VK} {B : Bool → Hp → Prop} {c c' : TT} {L : List V → Hp → Prop}
theorem w_seq (h : t ⟨u ⟨nx, rt, bk, ct⟩, rt, bk, ct⟩ σ H) : tSeq t u ⟨nx, rt, bk, ct⟩ σ H := h
theorem w_cut (Mid : L2.St → Hp → Prop) (h : t ⟨Mid, rt, bk, ct⟩ σ H) (h2 : ∀ σ' H', Mid σ' H' → u ⟨nx, rt, bk, ct⟩ σ' H') : C8.tCut t u ⟨nx, rt, bk, ct⟩ σ H := ⟨Mid, h, h2⟩
theorem w_asg (h : te σ H fun x H1 => g x σ H1 nx) : tAsg te g ⟨nx, rt, bk, ct⟩ σ H := h
theorem w_drop (h : te σ H fun _ H1 => nx σ H1) : tDrop te ⟨nx, rt, bk, ct⟩ σ H := h
theorem w_ret (h : te σ H rt) : tRet te ⟨nx, rt, bk, ct⟩ σ H := h
theorem w_retN (h : rt .non H) : tRetN ⟨nx, rt, bk, ct⟩ σ H := h
theorem w_next (h : nx σ H) : tNext ⟨nx, rt, bk, ct⟩ σ H := h
theorem w_brk (h : bk σ H) : tBreak ⟨nx, rt, bk, ct⟩ σ H := h
theorem w_cont (h : ct σ H) : tCont ⟨nx, rt, bk, ct⟩ σ H := h
theorem w_if (h : c σ H fun b H1 => if b = true then t ⟨nx, rt, bk, ct⟩ σ H1 else u ⟨nx, rt, bk, ct⟩ σ H1) : tIfS c t u ⟨nx, rt, bk, ct⟩ σ H := h
theorem w_par {i j : Nat} {t : TA} (h : t σ H (ParK i j nx σ)) : tPar i j t ⟨nx, rt, bk, ct⟩ σ H := h
theorem w_par2 {v w : V} {i j : Nat} (h : nx ((σ.set i (some v)).set j (some w)) H) : ParK i j nx σ [v, w] H := ⟨v, w, rfl, h⟩
theorem w_gname {v : V} {i : Nat} {R : L2.St → Hp → Prop} (h : R (σ.set i (some v)) H) : gName i v σ H R := h
theorem w_gtup {K : PySem.W.Frag} {n : Nat} {t : TGs} {a : Addr} {xs : List V} {R : L2.St → Hp → Prop} (hl : SqT K H a xs) (e : xs.length = n) (h : t xs σ H R) : gTup K n t (.ref a) σ H R := ⟨a, xs, rfl, hl, e, h⟩
theorem w_gcons {t : TG} {u : TGs} {v : V} {r : List V} {R : L2.St → Hp → Prop} (h : t v σ H fun σ' H' => u r σ' H' R) : gCons t u (v :: r) σ H R := ⟨v, r, rfl, h⟩
theorem w_gnil {R : L2.St → Hp → Prop} (h : R σ H) : gNil [] σ H R := ⟨rfl, h⟩
theorem w_var {i : Nat} {v : V} (e : σ[i]? = some (some v)) (h : Q v H) : tVar i σ H Q := ⟨v, e, h⟩
theorem w_c {v : V} (h : Q v H) : tC v σ H Q := h
theorem w_op {r : R2} (h : ta σ H fun x H1 => tb σ H1 fun y H2 => r x y H2 Q) : tOp r ta tb σ H Q := h
theorem w_un {r : V → Hp → VK → Prop} (h : ta σ H fun x H1 => r x H1 Q) : tUn r ta σ H Q := h
theorem w_i0 {k : Int → Int → V} {i j : Int} (h : Q (k i j) H) : rI0 k (.int i) (.int j) H Q := ⟨i, j, rfl, rfl, h⟩
theorem w_i {C : Int → Int → Prop} {k : Int → Int → V} {i j : Int} (hc : C i j) (h : Q (k i j) H) : rI C k (.int i) (.int j) H Q := ⟨i, j, rfl, rfl, hc, h⟩
theorem w_u {k : Int → V} {i : Int} (h : Q (k i) H) : rU k (.int i) H Q := ⟨i, rfl, h⟩
theorem w_eqi {i j : Int} (h : Q (.bl (decide (i = j))) H) : rEq (.int i) (.int j) H Q := by
  refine ⟨rfl, ?_⟩
  have e : decide (V.int i = V.int j) = decide (i = j) := by simp
  rw [e]; exact h
theorem w_nei {i j : Int} (h : Q (.bl (!decide (i = j))) H) : rNe (.int i) (.int j) H Q := by
  refine ⟨rfl, ?_⟩
  have e : decide (V.int i = V.int j) = decide (i = j) := by simp
  rw [e]; exact h
theorem w_eqb {i j : Bool} (h : Q (.bl (i == j)) H) : rEq (.bl i) (.bl j) H Q := by
  refine ⟨rfl, ?_⟩
  have e : decide (V.bl i = V.bl j) = (i == j) := by cases i <;> cases j <;> rfl
  rw [e]; exact h
theorem w_neb {i j : Bool} (h : Q (.bl (!(i == j))) H) : rNe (.bl i) (.bl j) H Q := by
  refine ⟨rfl, ?_⟩
  have e : decide (V.bl i = V.bl j) = (i == j) := by cases i <;> cases j <;> rfl
  rw [e]; exact h
theorem w_eqs {i j : Str} (h : Q (.bl (decide (i = j))) H) : rEq (.str i) (.str j) H Q := by
  refine ⟨rfl, ?_⟩
  have e : decide (V.str i = V.str j) = decide (i = j) := by simp
  rw [e]; exact h
theorem w_cb {r : List V → Hp → VK → Prop} {t : TA} (h : t σ H fun vs H1 => r vs H1 Q) : tCB r t σ H Q := h
theorem w_nil (h : L [] H) : tNil σ H L := h
theorem w_cons {t : TA} (h : ta σ H fun x H1 => t σ H1 fun xs H2 => L (x :: xs) H2) : tCons ta t σ H L := h
theorem w_call {sp : Sp} {E : XK} {t : TA} (h : t σ H fun vs H1 => sp (vs ++ []) H1 Q E) : tCall sp [] E t σ H Q := h
theorem w_tup {t : TA} (h : t σ H (TupK Q)) : tTup t σ H Q := h
theorem w_lst {t : TA} (h : t σ H (LstK Q)) : tLst t σ H Q := h
theorem w_newT {xs : List V} (h : ∀ p, H p = none → Q (.ref p) (upd H p (.tup xs))) (hz : xs.length ≤ sizeLine := by exact Pm.size_ok (Nat.le_of_ble_eq_true rfl)) : TupK Q xs H := ⟨hz, h⟩
theorem w_newL {xs : List V} (h : ∀ p, H p = none → Q (.ref p) (upd H p (.lst xs))) (hz : xs.length ≤ sizeLine := by exact Pm.size_ok (Nat.le_of_ble_eq_true rfl)) : LstK Q xs H := ⟨hz, h⟩
theorem w_test (h : te σ H fun x H' => ∃ k, x = .bl k ∧ B k H') : tTest te σ H B := h
theorem w_b (h : te σ H fun x H' => ∃ k, x = .bl k ∧ B k H') : tB te σ H B := h
theorem w_bl {k : Bool} (h : B k H) : ∃ k', V.bl k = .bl k' ∧ B k' H := ⟨k, rfl, h⟩
theorem w_and (h : c σ H fun b H1 => if b = true then c' σ H1 B else B false H1) : tAnd c c' σ H B := h
theorem w_or (h : c σ H fun b H1 => if b = true then B true H1 else c' σ H1 B) : tOr c c' σ H B := h
theorem w_not (h : c σ H fun b H1 => B (!b) H1) : tNot c σ H B := h
theorem w_andV (h : ta σ H fun x H1 => ∃ k, x = .bl k ∧ if k = true then tb σ H1 Q else Q (.bl false) H1) : tAndV ta tb σ H Q := h
theorem w_orV (h : ta σ H fun x H1 => ∃ k, x = .bl k ∧ if k = true then Q (.bl true) H1 else tb σ H1 Q) : tOrV ta tb σ H Q := h
theorem w_notV (h : ta σ H fun x H1 => ∃ k, x = .bl k ∧ Q (.bl (!k)) H1) : tNotV ta σ H Q := h
theorem w_ifE (h : c σ H fun b H1 => if b = true then ta σ H1 Q else tb σ H1 Q) : tIf c ta tb σ H Q := h
theorem w_chain {r r' : R2} (h : ta σ H fun x H1 => tb σ H1 fun y H2 => r x y H2 fun z H3 => ∃ k, z = .bl k ∧ (if k = true then tc σ H3 fun w H4 => r' y w H4 Q else Q (.bl false) H3)) : tChain r r' ta tb tc σ H Q := h
theorem w_blx {k : Bool} {R : Bool → Prop} (h : R k) : ∃ k', V.bl k = .bl k' ∧ R k' := ⟨k, rfl, h⟩
theorem w_iteT {A C : Prop} (h : A) : if true = true then A else C := by rw [if_pos rfl]; exact h
theorem w_iteF {A C : Prop} (h : C) : if false = true then A else C := by rw [if_neg Bool.false_ne_true]; exact h
theorem w_iteN1 {A C : Prop} (h : C) : if (!true) = true then A else C := w_iteF h
theorem w_iteN0 {A C : Prop} (h : A) : if (!false) = true then A else C := w_iteT h
theorem w_ite {p A C : Prop} [Decidable p] (h1 : p → A) (h2 : ¬ p → C) : if decide p = true then A else C := by
  by_cases h : p
  · rw [decide_eq_true h, if_pos rfl]; exact h1 h
  · rw [decide_eq_false h, if_neg Bool.false_ne_true]; exact h2 h
theorem w_iteN {p A C : Prop} [Decidable p] (h1 : ¬ p → A) (h2 : p → C) : if (!decide p) = true then A else C := by
  by_cases h : p
  · rw [decide_eq_true h]; exact w_iteF (h2 h)
  · rw [decide_eq_false h]; exact w_iteT (h1 h)
theorem w_abs {i : Int} (h : Q (.int (if i < 0 then -i else i)) H) : rAbs [.int i] H Q := ⟨i, rfl, h⟩
theorem w_max {i j : Int} (h : Q (.int (max i j)) H) : rMax2 [V.int i, V.int j] H Q := by
  refine ⟨i, j, rfl, ?_⟩
  have e : (if j > i then j else i) = max i j := by rw [Int.max_def]; split <;> split <;> omega
  rw [e]; exact h
theorem w_min {i j : Int} (h : Q (.int (min i j)) H) : rMin2 [V.int i, V.int j] H Q := by
  refine ⟨i, j, rfl, ?_⟩
  have e : (if j < i then j else i) = min i j := by rw [Int.min_def]; split <;> split <;> omega
  rw [e]; exact h
theorem w_mul1 {i j : Int} (h : -(2 ^ 64) < i ∧ i < 2 ^ 64) : CMul i j := .inl h
theorem w_mul2 {i j : Int} (h : -(2 ^ 64) < j ∧ j < 2 ^ 64) : CMul i j := .inr h
theorem w_ixL {K : PySem.W.Frag} {p : Addr} {xs : List V} {i : Int} {v : V} (hl : SqL K H p xs) (e : atI xs i = some v) (h : Q v H) : rIxL K (.ref p) (.int i) H Q := ⟨p, xs, i, v, rfl, rfl, hl, e, h⟩
theorem w_ixT {K : PySem.W.Frag} {p : Addr} {xs : List V} {i : Int} {v : V} (hl : SqT K H p xs) (e : atI xs i = some v) (h : Q v H) : rIxT K (.ref p) (.int i) H Q := ⟨p, xs, i, v, rfl, rfl, hl, e, h⟩
theorem w_bm {K : PySem.W.Frag} {T : String} {r : V → List V → Hp → VK → Prop} {t : TA} (h : ta σ H fun x H1 => tyV K T x H1 ∧ t σ H1 fun xs H2 => r x xs H2 Q) : tBM K T r ta t σ H Q := h
theorem w_bm0 {K : PySem.W.Frag} {T : String} {r : V → List V → Hp → VK → Prop} (h : ta σ H fun x H1 => tyV K T x H1 ∧ r x [] H1 Q) : tBM0 K T r ta σ H Q := h
theorem w_append {l : Addr} {xs : List V} {y : V} (hl : H l = some (.lst xs)) (hz : xs.length < sizeLine) (h : Q .non (upd H l (.lst (xs ++ [y])))) : rAppend (.ref l) [y] H Q := ⟨l, xs, y, rfl, rfl, hl, hz, h⟩
theorem w_len {K : PySem.W.Frag} {p : Addr} {ys : List V} (hl : SqL K H p ys ∨ SqT K H p ys) (h : Q (.int ys.length) H) : rLen K [V.ref p] H Q := ⟨p, ys, rfl, hl, h⟩
theorem w_lenL {K : PySem.W.Frag} {p : Addr} {ys : List V} (hl : SqL K H p ys) (h : Q (.int ys.length) H) : rLen K [V.ref p] H Q := ⟨p, ys, rfl, .inl hl, h⟩
theorem w_lenT {K : PySem.W.Frag} {p : Addr} {ys : List V} (hl : SqT K H p ys) (h : Q (.int ys.length) H) : rLen K [V.ref p] H Q := ⟨p, ys, rfl, .inr hl, h⟩
theorem w_lenS {z : Str} (hl : z.length ≤ sizeLine) (h : Q (.int z.length) H) : rLenS [V.str z] H Q := ⟨z, rfl, hl, h⟩
theorem w_for {wi : TI} (h : wi σ H (ForB g t nx rt σ)) : tFor wi g t ⟨nx, rt, bk, ct⟩ σ H := h
theorem w_iList {K : PySem.W.Frag} {R : It → Hp → Prop} (h : te σ H (RdL K R)) : iList K te σ H R := h
theorem w_iTup {K : PySem.W.Frag} {R : It → Hp → Prop} (h : te σ H (RdT K R)) : iTup K te σ H R := h
theorem w_rdL {K : PySem.W.Frag} {R : It → Hp → Prop} {a : Addr} {xs : List V} (hl : SqL K H a xs) (h : R (Itl K a) H) : RdL K R (.ref a) H := ⟨a, rfl, ⟨xs, hl⟩, h⟩
theorem w_rdT {K : PySem.W.Frag} {R : It → Hp → Prop} {a : Addr} {xs : List V} (hl : SqT K H a xs) (h : R (Itt K a) H) : RdT K R (.ref a) H := ⟨a, rfl, ⟨xs, hl⟩, h⟩
theorem w_iRng1 {t : TA} {R : It → Hp → Prop} (h : t σ H (Rg1 R)) : iRng1 t σ H R := h
theorem w_iRng2 {t : TA} {R : It → Hp → Prop} (h : t σ H (Rg2 R)) : iRng2 t σ H R := h
theorem w_rg1 {j : Int} {R : It → Hp → Prop} (h1 : -(2 ^ 62) ≤ j ∧ j < 2 ^ 62) (h : R (Itr 0 j.toNat) H) : Rg1 R [.int j] H := ⟨j, rfl, h1.1, h1.2, h⟩
theorem w_rg2 {i j : Int} {R : It → Hp → Prop} (h1 : (-(2 ^ 62) ≤ i ∧ i < 2 ^ 62) ∧ (-(2 ^ 62) ≤ j ∧ j < 2 ^ 62)) (h : R (Itr i (j - i).toNat) H) : Rg2 R [.int i, .int j] H := ⟨i, j, rfl, ⟨h1.1.1, h1.1.2, h1.2.1, h1.2.2⟩, h⟩
/-- for over a range, by what holds ahead of turn i -/
theorem w_forR {lo : Int} {n : Nat} (Pv : Nat → L2.St → Hp → Prop) (h0 : Pv 0 σ H) (hs : ∀ i σ H, i < n → Pv i σ H → g (.int (lo + i)) σ H fun σ2 H2 => t ⟨Pv (i + 1), rt, nx, Pv (i + 1)⟩ σ2 H2) (hd : ∀ σ H, Pv n σ H → nx σ H) : ForB g t nx rt σ (Itr lo n) H :=
  for_range (D := ⟨nx, rt, fun _ _ => False, fun _ _ => False⟩) Pv h0 hs hd
theorem w_forL {K : PySem.W.Frag} {a : Addr} {xs : List V} (Pv : Nat → L2.St → Hp → Prop) (h0 : Pv 0 σ H) (hl : ∀ i σ H, i ≤ xs.length → Pv i σ H → SqL K H a xs) (hs : ∀ i x σ H, xs[i]? = some x → Pv i σ H → g x σ H fun σ2 H2 => t ⟨Pv (i + 1), rt, nx, Pv (i + 1)⟩ σ2 H2) (hd : ∀ σ H, Pv xs.length σ H → nx σ H) : ForB g t nx rt σ (Itl K a) H :=
  for_list (D := ⟨nx, rt, fun _ _ => False, fun _ _ => False⟩) Pv h0 hl hs hd
theorem w_forT {K : PySem.W.Frag} {a : Addr} {xs : List V} (Pv : Nat → L2.St → Hp → Prop) (h0 : Pv 0 σ H) (hl : ∀ i σ H, i ≤ xs.length → Pv i σ H → SqT K H a xs) (hs : ∀ i x σ H, xs[i]? = some x → Pv i σ H → g x σ H fun σ2 H2 => t ⟨Pv (i + 1), rt, nx, Pv (i + 1)⟩ σ2 H2) (hd : ∀ σ H, Pv xs.length σ H → nx σ H) : ForB g t nx rt σ (Itt K a) H :=
  for_tup (D := ⟨nx, rt, fun _ _ => False, fun _ _ => False⟩) Pv h0 hl hs hd
/-- while, by an invariant with a measure -/
theorem w_while {c : TT} (Pv : Nat → L2.St → Hp → Prop) (m : Nat) (h0 : Pv m σ H) (hs : ∀ m σ H, Pv m σ H → c σ H (WhB t nx rt Pv m σ)) : tWhile c t ⟨nx, rt, bk, ct⟩ σ H := ⟨Pv, ⟨m, h0⟩, hs⟩
theorem w_whT {Pv : Nat → L2.St → Hp → Prop} {m : Nat} (h : t ⟨fun σ' H' => ∃ m', m' < m ∧ Pv m' σ' H', rt, nx, fun σ' H' => ∃ m', m' < m ∧ Pv m' σ' H'⟩ σ H) : WhB t nx rt Pv m σ true H := w_iteT ⟨_, fun _ _ h => h, h⟩
theorem w_whF {Pv : Nat → L2.St → Hp → Prop} {m : Nat} (h : nx σ H) : WhB t nx rt Pv m σ false H := w_iteF h
theorem w_wh {Pv : Nat → L2.St → Hp → Prop} {m : Nat} {p : Prop} [Decidable p] (h1 : p → t ⟨fun σ' H' => ∃ m', m' < m ∧ Pv m' σ' H', rt, nx, fun σ' H' => ∃ m', m' < m ∧ Pv m' σ' H'⟩ σ H) (h2 : ¬ p → nx σ H) : WhB t nx rt Pv m σ (decide p) H := by
  by_cases h : p
  · rw [decide_eq_true h]; exact w_whT (h1 h)
  · rw [decide_eq_false h]; exact w_whF (h2 h)
theorem w_lc {wi : TI} {tt : TT} {vs : List Nat} (h : wi σ H (LcB g tt te vs σ Q)) : tLc wi g tt te vs σ H Q := h
theorem w_yes (h : B true H) : tYes σ H B := h
theorem w_lcR {lo : Int} {n : Nat} {tt : TT} {vs : List Nat} (h : ∀ D, H D = none → ∃ Pv : Nat → Hp → Prop, Pv 0 (upd H D (.lst [])) ∧
    (∀ i H1, i < n → Pv i H1 → g (.int (lo + i)) (wipe σ vs) H1 (LcTurn tt te vs σ D (Pv (i + 1)))) ∧ ∀ H1, Pv n H1 → Q (.ref D) H1) : LcB g tt te vs σ Q (Itr lo n) H := fun D hD => by
  obtain ⟨Pv, h0, hs, hd⟩ := h D hD
  exact lc_range (Qd := Q (.ref D)) Pv h0 hs hd
theorem w_lcL {K : PySem.W.Frag} {a : Addr} {xs : List V} {tt : TT} {vs : List Nat} (h : ∀ D, H D = none → ∃ Pv : Nat → Hp → Prop, Pv 0 (upd H D (.lst [])) ∧ (∀ i H1, i ≤ xs.length → Pv i H1 → SqL K H1 a xs) ∧
    (∀ i x H1, xs[i]? = some x → Pv i H1 → g x (wipe σ vs) H1 (LcTurn tt te vs σ D (Pv (i + 1)))) ∧ ∀ H1, Pv xs.length H1 → Q (.ref D) H1) : LcB g tt te vs σ Q (Itl K a) H := fun D hD => by
  obtain ⟨Pv, h0, hl, hs, hd⟩ := h D hD
  exact lc_list (Qd := Q (.ref D)) Pv h0 hl hs hd
theorem w_turn {tt : TT} {vs : List Nat} {σ2 : L2.St} {D : Addr} {Nx : Hp → Prop} (e : wipe σ2 vs = wipe σ vs) (h : tt σ2 H fun b H3 => if b = true then te σ2 H3 (LcPut D Nx) else Nx H3) : LcTurn tt te vs σ D Nx σ2 H := ⟨e, h⟩
theorem w_put {D : Addr} {Nx : Hp → Prop} {acc : List V} {y : V} (hl : H D = some (.lst acc)) (hz : acc.length < sizeLine) (h : Nx (upd H D (.lst (acc ++ [y])))) : LcPut D Nx y H := ⟨acc, hl, hz, h⟩
theorem w_isiInt {K : PySem.W.Frag} {i : Int} {n : String} {b : Bool} (e : kitB "int" n = some b) (h : Q (.bl b) H) : rIsi K [.int i, .ty n] H Q := ⟨_, _, _, _, b, rfl, .ty n, .base (.int i), kit_ty e, h⟩
theorem w_isiBl {K : PySem.W.Frag} {i : Bool} {n : String} {b : Bool} (e : kitB "bool" n = some b) (h : Q (.bl b) H) : rIsi K [.bl i, .ty n] H Q := ⟨_, _, _, _, b, rfl, .ty n, .base (.bl i), kit_ty e, h⟩
theorem w_isiTup {K : PySem.W.Frag} {a : Addr} {xs : List V} {n : String} {b : Bool} (hl : SqT K H a xs) (e : kitB "tuple" n = some b) (h : Q (.bl b) H) : rIsi K [.ref a, .ty n] H Q := by
  rcases hl with (h1 | ⟨o, h1⟩) | ⟨o, its, m, h1, h2, h3⟩
  · exact ⟨_, _, _, _, b, rfl, .ty n, .base (.tup h1), kit_ty e, h⟩
  · exact ⟨_, _, _, _, b, rfl, .ty n, .fTuple h1, kit_ty e, h⟩
  · exact ⟨_, _, _, _, b, rfl, .ty n, .kTuple h1 h2, kit_ty e, h⟩
theorem w_isiLst {K : PySem.W.Frag} {a : Addr} {xs : List V} {n : String} {b : Bool} (hl : SqL K H a xs) (e : kitB "list" n = some b) (h : Q (.bl b) H) : rIsi K [.ref a, .ty n] H Q := by
  rcases hl with (h1 | ⟨o, h1⟩) | ⟨o, its, m, h1, h2, h3⟩
  · exact ⟨_, _, _, _, b, rfl, .ty n, .base (.lst h1), kit_ty e, h⟩
  · exact ⟨_, _, _, _, b, rfl, .ty n, .base (.frz h1), kit_ty e, h⟩
  · exact ⟨_, _, _, _, b, rfl, .ty n, .kList h1 h2, kit_ty e, h⟩
theorem inV_ints (i : Int) : ∀ ns : List Int, inV (.int i) (ns.map V.int) = decide (i ∈ ns)
  | [] => rfl
  | x :: r => by
    have ih := inV_ints i r
    show (eqV (.int x) (.int i) || inV (.int i) (r.map V.int)) = _
    rw [ih]
    show ((x == i) || decide (i ∈ r)) = _
    by_cases h : x = i
    · subst h; simp
    · have h2 : ¬ i = x := fun e => h e.symm
      simp [h, h2]
theorem w_inInts {K : PySem.W.Frag} {a : Addr} {i : Int} {ns : List Int} (hl : SqL K H a (ns.map V.int) ∨ SqT K H a (ns.map V.int)) (h : Q (.bl (decide (i ∈ ns))) H) : rIn K false (.int i) (.ref a) H Q := by
  refine ⟨a, _, rfl, hl, rfl, ?_, ?_⟩
  · rw [List.all_map]; exact List.all_eq_true.mpr fun _ _ => rfl
  · rw [if_neg Bool.false_ne_true, inV_ints]
    exact h
theorem w_ninInts {K : PySem.W.Frag} {a : Addr} {i : Int} {ns : List Int} (hl : SqL K H a (ns.map V.int) ∨ SqT K H a (ns.map V.int)) (h : Q (.bl (!decide (i ∈ ns))) H) : rIn K true (.int i) (.ref a) H Q := by
  refine ⟨a, _, rfl, hl, rfl, ?_, ?_⟩
  · rw [List.all_map]; exact List.all_eq_true.mpr fun _ _ => rfl
  · rw [if_pos rfl, inV_ints]
    exact h
theorem w_isX {K : PySem.W.Frag} {D a : Addr} {c : V} {cv : Value} {b : Bool} (C : ExcC K D) (hc : ∀ u, RelV c u → u = cv) (k : PySem.W.kitOne K (.ref D) cv = some b) (h : Q (.bl b) H) : rIsX K (.ref D) none a [.ref a, c] H Q := ⟨D, c, cv, b, rfl, rfl, C, rfl, hc, k, h⟩
theorem w_callS {sp : Sp} {E : L2.St → XK} {t : TA} (h : t σ H fun vs H1 => sp vs H1 Q (E σ)) : tCallS sp E t σ H Q := h
theorem eqv_ints2 (a b c d : Int) : PyData.eqv (.tuple [.int a, .int b]) (.tuple [.int c, .int d]) = decide (a = c ∧ b = d) := by
  simp only [PyData.eqv, PyData.eqvAll, Bool.and_true]
  by_cases h : a = c <;> by_cases h2 : b = d <;> simp [h, h2]
theorem dp_ints2 {K : PySem.W.Frag} {t : Addr} {a b : Int} (h : SqT K H t [.int a, .int b]) : Dp K H (.ref t) (.tuple [.int a, .int b]) := .tup h (.cons (.int a) (.cons (.int b) .nil))
theorem w_eqPair {K : PySem.W.Frag} {t u : Addr} {a b c d : Int} (h1 : SqT K H t [.int a, .int b]) (h2 : SqT K H u [.int c, .int d]) (h : Q (.bl (decide (a = c ∧ b = d))) H) : rEqD K (.ref t) (.ref u) H Q :=
  ⟨_, _, dp_ints2 h1, dp_ints2 h2, rfl, rfl, by rw [eqv_ints2]; exact h⟩
theorem w_nePair {K : PySem.W.Frag} {t u : Addr} {a b c d : Int} (h1 : SqT K H t [.int a, .int b]) (h2 : SqT K H u [.int c, .int d]) (h : Q (.bl (!decide (a = c ∧ b = d))) H) : rNeD K (.ref t) (.ref u) H Q :=
  ⟨_, _, dp_ints2 h1, dp_ints2 h2, rfl, rfl, by rw [eqv_ints2]; exact h⟩
theorem Same.tup {K : PySem.W.Frag} {H H' : Hp} {a : Addr} {xs : List V} (e : Same H H') (h : SqT K H a xs) : SqT K H' a xs := by
  rcases h with (h | ⟨o, h⟩) | h
  · exact .inl (.inl (e _ _ h))
  · exact .inl (.inr ⟨o, e _ _ h⟩)
  · exact .inr h
theorem w_sum {K : PySem.W.Frag} {a : Addr} {ns : List Int} (hl : SqL K H a (ns.map V.int)) (h : Q (.int ns.sum) H) : rSum K [V.ref a] H Q := ⟨a, ns, rfl, hl, h⟩
theorem w_isi {K : PySem.W.Frag} {x c : V} {t u : Value} {b : Bool} (k : ClsV c u) (ty : TyX K H x t) (e : PySem.W.kitOne K t u = some b) (h : Q (.bl b) H) : rIsi K [x, c] H Q := ⟨x, c, t, u, b, rfl, k, ty, e, h⟩
end
theorem same_new {H : Hp} {p : Addr} (h : H p = none) (o : HO) : Same H (upd H p o) := fun b u q => by rw [upd_ne (ne_of_none q h)]; exact q
theorem hu65 {A : Around} {k : Nat} (hr : Room k A) : A.units + 65 < cLine := by have := hr.un; omega
theorem atI2 (a b : V) : atI [a, b] 0 = some a ∧ atI [a, b] 1 = some b := ⟨rfl, rfl⟩
theorem atI_int {ns : List Int} {i : Int} (h0 : 0 ≤ i) (h : i < (ns.length : Int)) : atI (ns.map V.int) i = some (.int (ns.getD i.toNat 0)) := by
  have hk : i.toNat < ns.length := by omega
  have ek : i = ((i.toNat : Nat) : Int) := by omega
  have q : atI (ns.map V.int) ((i.toNat : Nat) : Int) = some (.int ns[i.toNat]) := atI_nat (by rw [List.getElem?_map, List.getElem?_eq_getElem hk] <;> rfl)
  rw [← ek] at q
  rw [q, List.getD_eq_getElem?_getD, List.getElem?_eq_getElem hk] <;> rfl
end Pm
/-! ### fractions: a tuple (top, bottom) in lowest terms is a Rat -/
namespace Pm
open PySem PySem.Spec PyProof.Rows L2
theorem gcd_turn (x y : Nat) (hy : 0 < y) : Nat.gcd y (x % y) = Nat.gcd x y := by
  rw [Nat.gcd_comm x y, Nat.gcd_rec y x, Nat.gcd_comm]
theorem gcd_abs (a b : Int) : Nat.gcd (if a < 0 then -a else a).natAbs (if b < 0 then -b else b).natAbs = Int.gcd a b := by
  unfold Int.gcd
  have e : ∀ c : Int, (if c < 0 then -c else c).natAbs = c.natAbs := fun c => by split <;> omega
  rw [e, e]
theorem div_pos_num {a b : Int} (h : 0 < b) : a / ((Int.gcd a b : Nat) : Int) = (Rat.divInt a b).num ∧ b / ((Int.gcd a b : Nat) : Int) = ((Rat.divInt a b).den : Int) := by
  rw [Rat.num_divInt, Rat.den_divInt, if_neg (by omega), Int.sign_eq_one_of_pos h, Int.one_mul, Int.gcd_comm b a]
  refine ⟨rfl, ?_⟩
  rw [Int.natCast_ediv]
  congr 1
  omega
theorem div_neg_num {a b : Int} (h : b < 0) : -a / ((Int.gcd (-a) (-b) : Nat) : Int) = (Rat.divInt a b).num ∧ -b / ((Int.gcd (-a) (-b) : Nat) : Int) = ((Rat.divInt a b).den : Int) := by
  have q := div_pos_num (a := -a) (b := -b) (by omega)
  have e : Rat.divInt (-a) (-b) = Rat.divInt a b := Rat.neg_divInt_neg a b
  rw [e] at q
  exact q
theorem gcd_le_right {a b : Int} (h : 0 < b) : ((Int.gcd a b : Nat) : Int) ≤ b := Int.gcd_le_right a h
theorem gcd_pos {a b : Int} (h : b ≠ 0) : 0 < ((Int.gcd a b : Nat) : Int) := by
  have := Int.gcd_pos_of_ne_zero_right a h
  omega
/-- the size of a fraction -/
def rb (r : Rat) (n : Nat) : Prop := r.num.natAbs < 2 ^ n ∧ r.den < 2 ^ n
theorem rb.mono {r : Rat} {n m : Nat} (h : rb r n) (k : n ≤ m) : rb r m :=
  ⟨Nat.lt_of_lt_of_le h.1 (Nat.pow_le_pow_right (by decide) k), Nat.lt_of_lt_of_le h.2 (Nat.pow_le_pow_right (by decide) k)⟩
theorem rb_div {a b : Int} {n : Nat} (hb : b ≠ 0) (h1 : a.natAbs < 2 ^ n) (h2 : b.natAbs < 2 ^ n) : rb (Rat.divInt a b) n := by
  have hg : 0 < Int.gcd b a := Int.gcd_pos_of_ne_zero_left a hb
  constructor
  · rw [Rat.num_divInt]
    refine Nat.lt_of_le_of_lt ?_ h1
    have e : (b.sign * a).natAbs ≤ a.natAbs := by
      rw [Int.natAbs_mul]
      have := Int.natAbs_sign_of_ne_zero hb
      rw [this, Nat.one_mul]
      exact Nat.le_refl _
    refine Nat.le_trans ?_ e
    exact Int.natAbs_ediv_le_natAbs _ _
  · rw [Rat.den_divInt, if_neg hb]
    exact Nat.lt_of_le_of_lt (Nat.div_le_self _ _) h2
theorem rb_divW {a b : Int} {n m : Nat} (hb : b ≠ 0) (h1 : a.natAbs < 2 ^ n) (h2 : b.natAbs < 2 ^ m) : rb (Rat.divInt a b) (max n m) :=
  rb_div hb (Nat.lt_of_lt_of_le h1 (Nat.pow_le_pow_right (by decide) (Nat.le_max_left _ _))) (Nat.lt_of_lt_of_le h2 (Nat.pow_le_pow_right (by decide) (Nat.le_max_right _ _)))
theorem wide_add {i j : Int} {a b : Nat} (ha : i.natAbs < 2 ^ a) (hb : j.natAbs < 2 ^ a) : (i + j).natAbs < 2 ^ (a + 1) := by
  have := Int.natAbs_add_le i j
  rw [Nat.pow_succ]
  omega
theorem wide_sub {i j : Int} {a : Nat} (ha : i.natAbs < 2 ^ a) (hb : j.natAbs < 2 ^ a) : (i - j).natAbs < 2 ^ (a + 1) := by
  rw [Nat.pow_succ]
  omega
theorem den_ne (r : Rat) : (r.den : Int) ≠ 0 := by have := r.den_nz; omega
theorem divInt_self' (r : Rat) : Rat.divInt r.num r.den = r := Rat.num_divInt_den r
theorem plus_is (x y : Rat) : Rat.divInt (x.num * y.den + y.num * x.den) (x.den * y.den) = x + y := by
  rw [← Rat.divInt_add_divInt _ _ (den_ne x) (den_ne y), divInt_self', divInt_self']
theorem less_is (x y : Rat) : Rat.divInt (x.num * y.den - y.num * x.den) (x.den * y.den) = x - y := by
  rw [← Rat.divInt_sub_divInt _ _ (den_ne x) (den_ne y), divInt_self', divInt_self']
theorem times_is (x y : Rat) : Rat.divInt (x.num * y.num) (x.den * y.den) = x * y := by
  rw [← Rat.divInt_mul_divInt, divInt_self', divInt_self']
theorem over_is (x y : Rat) : Rat.divInt (x.num * y.den) (x.den * y.num) = x / y := by
  rw [← Rat.divInt_mul_divInt, divInt_self', Rat.div_def, Rat.inv_def]
theorem rb_pos {r : Rat} {n : Nat} (h : rb r n) : 0 < n := by
  rcases Nat.eq_zero_or_pos n with z | z
  · subst z
    have := h.2
    have := r.den_nz
    omega
  · exact z
theorem rb_den {r : Rat} {n : Nat} (h : rb r n) : (r.den : Int).natAbs < 2 ^ n := by have := h.2; omega
theorem den_mul (x y : Rat) : (x.den : Int) * (y.den : Int) ≠ 0 := Int.mul_ne_zero (den_ne x) (den_ne y)
theorem lt_dec (x y : Rat) : decide (x < y) = decide (x.num * (y.den : Int) < y.num * (x.den : Int)) := by
  have e : (x < y) ↔ (x.num * (y.den : Int) < y.num * (x.den : Int)) := Rat.lt_iff x y
  exact decide_eq_decide.mpr e
theorem rb_add {x y : Rat} {n m : Nat} (h : rb x n) (k : rb y m) : rb (x + y) (n + m + 1) := by
  rw [← plus_is]
  refine rb_div (den_mul x y) (wide_add (b := 0) (wide_lt h.1 (rb_den k)) ?_) ?_
  · rw [Nat.add_comm n m]; exact wide_lt k.1 (rb_den h)
  · exact Nat.lt_of_lt_of_le (wide_lt (rb_den h) (rb_den k)) (Nat.pow_le_pow_right (by decide) (by omega))
theorem rb_sub {x y : Rat} {n m : Nat} (h : rb x n) (k : rb y m) : rb (x - y) (n + m + 1) := by
  rw [← less_is]
  refine rb_div (den_mul x y) (wide_sub (wide_lt h.1 (rb_den k)) ?_) ?_
  · rw [Nat.add_comm n m]; exact wide_lt k.1 (rb_den h)
  · exact Nat.lt_of_lt_of_le (wide_lt (rb_den h) (rb_den k)) (Nat.pow_le_pow_right (by decide) (by omega))
theorem rb_mul {x y : Rat} {n m : Nat} (h : rb x n) (k : rb y m) : rb (x * y) (n + m) := by
  rw [← times_is]
  exact rb_div (den_mul x y) (wide_lt h.1 k.1) (wide_lt (rb_den h) (rb_den k))
theorem rb_quot {x y : Rat} {n m : Nat} (hy : y ≠ 0) (h : rb x n) (k : rb y m) : rb (x / y) (n + m) := by
  rw [← over_is]
  exact rb_div (Int.mul_ne_zero (den_ne x) (fun z => hy (Rat.num_eq_zero.mp z))) (wide_lt h.1 (rb_den k)) (wide_lt (rb_den h) k.1)
theorem cross_div {x y : Int} (h : y ≠ 0) : (Rat.divInt x y).num * y = (Rat.divInt x y).den * x := by
  have q : Rat.divInt (Rat.divInt x y).num (Rat.divInt x y).den = Rat.divInt x y := divInt_self' _
  rw [Rat.divInt_eq_divInt_iff (den_ne _) h] at q
  rw [q, Int.mul_comm]
end Pm
local macro_rules | `(tactic| walk_at "s1") => `(tactic| first
  | with_reducible refine Pm.w_seq ?_ | with_reducible refine Pm.w_asg ?_ | with_reducible refine Pm.w_drop ?_ | with_reducible refine Pm.w_ret ?_ | with_reducible refine Pm.w_retN ?_
  | with_reducible refine Pm.w_next ?_ | with_reducible refine Pm.w_brk ?_ | with_reducible refine Pm.w_cont ?_ | with_reducible refine Pm.w_if ?_ | with_reducible refine Pm.w_gname ?_ | with_reducible refine Pm.w_gcons ?_ | with_reducible refine Pm.w_gnil ?_
  | ((with_reducible show L2.tVar _ _ _ _); refine Pm.w_var rfl ?_) | with_reducible refine Pm.w_c ?_ | with_reducible refine Pm.w_op ?_ | with_reducible refine Pm.w_un ?_
  | with_reducible refine Pm.w_i0 ?_ | ((with_reducible refine Pm.w_i ?_ ?_); (walk_at "side")) | with_reducible refine Pm.w_u ?_ | with_reducible refine Pm.w_eqi ?_ | with_reducible refine Pm.w_nei ?_
  | with_reducible refine Pm.w_eqb ?_ | with_reducible refine Pm.w_neb ?_ | with_reducible refine Pm.w_eqs ?_
  | with_reducible refine Pm.w_cb ?_ | with_reducible refine Pm.w_nil ?_ | with_reducible refine Pm.w_cons ?_ | with_reducible refine Pm.w_call ?_ | with_reducible refine Pm.w_callS ?_ | with_reducible refine Pm.w_tup ?_ | with_reducible refine Pm.w_lst ?_
  | with_reducible refine Pm.w_test ?_ | with_reducible refine Pm.w_b ?_ | with_reducible refine Pm.w_bl ?_ | with_reducible refine Pm.w_and ?_ | with_reducible refine Pm.w_or ?_ | with_reducible refine Pm.w_not ?_
  | with_reducible refine Pm.w_andV ?_ | with_reducible refine Pm.w_orV ?_ | with_reducible refine Pm.w_notV ?_ | with_reducible refine Pm.w_ifE ?_ | with_reducible refine Pm.w_chain ?_ | with_reducible refine Pm.w_blx ?_
  | with_reducible refine Pm.w_par ?_ | with_reducible refine Pm.w_par2 ?_ | with_reducible refine Pm.w_max ?_ | with_reducible refine Pm.w_min ?_ | with_reducible refine Pm.w_abs ?_
  | with_reducible refine Pm.w_bm ?_ | with_reducible refine Pm.w_bm0 ?_ | with_reducible refine Pm.w_for ?_ | with_reducible refine Pm.w_iList ?_ | with_reducible refine Pm.w_iTup ?_ | with_reducible refine Pm.w_iRng1 ?_ | with_reducible refine Pm.w_iRng2 ?_
  | ((with_reducible refine Pm.w_rg1 ?_ ?_); (constructor <;> omega)) | ((with_reducible refine Pm.w_rg2 ?_ ?_); (refine ⟨⟨?_, ?_⟩, ?_, ?_⟩ <;> omega))
  | with_reducible refine Pm.w_lc ?_ | with_reducible refine Pm.w_yes ?_ | ((with_reducible show Pm.LcTurn _ _ _ _ _ _ _ _); refine Pm.w_turn rfl ?_)
  | with_reducible refine Pm.w_iteT ?_ | with_reducible refine Pm.w_iteF ?_ | with_reducible refine Pm.w_iteN1 ?_ | with_reducible refine Pm.w_iteN0 ?_)
local macro_rules | `(tactic| walk_at "side") => `(tactic| first | (refine Pm.w_mul1 ?_; constructor <;> omega) | (refine Pm.w_mul2 ?_; constructor <;> omega) | ((with_reducible show L2.CDiv _ _); refine ⟨?_, ?_⟩ <;> omega) | ((with_reducible show L2.CPow _ _); exact ⟨by decide, by decide, by decide⟩) | (show (0:Int) < _; omega))
local macro_rules | `(tactic| walk_at "st") => `(tactic| repeat (walk_at "s1"))
namespace Pm
open PySem PySem.Spec PyProof.Rows L2
/-! ### the text by places -/
def top (i : Nat) : Stmt := PySem.Challenge.pw_postmead_k02_fractions_reckoned.main.body.getD i (.Pass ⟨0, 0, 0, 0⟩)
abbrev s_measure : Stmt := top 4
abbrev N_measure : List Str := ["one", "other"]
theorem sc_measure : FnScope N_measure ["one", "other"] (defScope s_measure) := ⟨rfl, rfl, rfl, by decide +kernel, rfl, by decide +kernel, by decide +kernel⟩
abbrev s_lowest : Stmt := top 5
abbrev N_lowest : List Str := ["top", "bottom", "by"]
theorem sc_lowest : FnScope N_lowest ["top", "bottom"] (defScope s_lowest) := ⟨rfl, rfl, rfl, by decide +kernel, rfl, by decide +kernel, by decide +kernel⟩
abbrev s_plus : Stmt := top 6
abbrev N_plus : List Str := ["one", "other"]
theorem sc_plus : FnScope N_plus ["one", "other"] (defScope s_plus) := ⟨rfl, rfl, rfl, by decide +kernel, rfl, by decide +kernel, by decide +kernel⟩
abbrev s_less : Stmt := top 7
abbrev N_less : List Str := ["one", "other"]
theorem sc_less : FnScope N_less ["one", "other"] (defScope s_less) := ⟨rfl, rfl, rfl, by decide +kernel, rfl, by decide +kernel, by decide +kernel⟩
abbrev s_times : Stmt := top 8
abbrev N_times : List Str := ["one", "other"]
theorem sc_times : FnScope N_times ["one", "other"] (defScope s_times) := ⟨rfl, rfl, rfl, by decide +kernel, rfl, by decide +kernel, by decide +kernel⟩
abbrev s_over : Stmt := top 9
abbrev N_over : List Str := ["one", "other"]
theorem sc_over : FnScope N_over ["one", "other"] (defScope s_over) := ⟨rfl, rfl, rfl, by decide +kernel, rfl, by decide +kernel, by decide +kernel⟩
abbrev s_smaller : Stmt := top 10
abbrev N_smaller : List Str := ["one", "other"]
theorem sc_smaller : FnScope N_smaller ["one", "other"] (defScope s_smaller) := ⟨rfl, rfl, rfl, by decide +kernel, rfl, by decide +kernel, by decide +kernel⟩
abbrev s_law_flow : Stmt := top 12
abbrev N_law_flow : List Str := ["_law_script", "_law_many", "_law_great", "_law_row", "_law_k", "_law_cell", "_law_mixed"]
theorem sc_law_flow : FnScope N_law_flow ["_law_script", "_law_many"] (defScope s_law_flow) := ⟨rfl, rfl, rfl, by decide +kernel, rfl, by decide +kernel, by decide +kernel⟩
abbrev s_law_whole : Stmt := top 13
abbrev N_law_whole : List Str := ["_law_found"]
theorem sc_law_whole : FnScope N_law_whole ["_law_found"] (defScope s_law_whole) := ⟨rfl, rfl, rfl, by decide +kernel, rfl, by decide +kernel, by decide +kernel⟩
abbrev s_law_low : Stmt := top 14
abbrev N_law_low : List Str := ["_law_top", "_law_bottom", "_law_one", "_law_other"]
theorem sc_law_low : FnScope N_law_low ["_law_top", "_law_bottom"] (defScope s_law_low) := ⟨rfl, rfl, rfl, by decide +kernel, rfl, by decide +kernel, by decide +kernel⟩
abbrev s_law_part : Stmt := top 15
abbrev N_law_part : List Str := ["_law_found"]
theorem sc_law_part : FnScope N_law_part ["_law_found"] (defScope s_law_part) := ⟨rfl, rfl, rfl, by decide +kernel, rfl, by decide +kernel, by decide +kernel⟩
abbrev s_law_refused : Stmt := top 16
abbrev N_law_refused : List Str := ["_law_one", "_law_other", "e"]
theorem sc_law_refused : FnScope N_law_refused ["_law_one", "_law_other"] (defScope s_law_refused) := ⟨rfl, rfl, rfl, by decide +kernel, rfl, by decide +kernel, by decide +kernel⟩
abbrev s_law_is : Stmt := top 17
abbrev N_law_is : List Str := ["_law_found", "_law_top", "_law_bottom"]
theorem sc_law_is : FnScope N_law_is ["_law_found", "_law_top", "_law_bottom"] (defScope s_law_is) := ⟨rfl, rfl, rfl, by decide +kernel, rfl, by decide +kernel, by decide +kernel⟩
abbrev s_law : Stmt := top 18
abbrev N_law : List Str := ["_law_script", "_law_row", "_law_one", "_law_other", "_law_a", "_law_b", "_law_c", "_law_d", "_law_lower"]
theorem sc_law : FnScope N_law ["_law_script"] (defScope s_law) := ⟨rfl, rfl, rfl, by decide +kernel, rfl, by decide +kernel, by decide +kernel⟩
/-- what the top has written -/
structure Tx (K : PySem.W.Frag) (mg : Str → Option Value) : Type where
  a_measure : Addr
  fd_measure : FuncData
  F_measure : Fun K "measure" "measure" s_measure a_measure fd_measure
  g_measure : mg "measure" = some (.ref a_measure)
  b_measure : Binds K fd_measure ["one", "other"] []
  a_lowest : Addr
  fd_lowest : FuncData
  F_lowest : Fun K "lowest" "lowest" s_lowest a_lowest fd_lowest
  g_lowest : mg "lowest" = some (.ref a_lowest)
  b_lowest : Binds K fd_lowest ["top", "bottom"] []
  a_plus : Addr
  fd_plus : FuncData
  F_plus : Fun K "plus" "plus" s_plus a_plus fd_plus
  g_plus : mg "plus" = some (.ref a_plus)
  b_plus : Binds K fd_plus ["one", "other"] []
  a_less : Addr
  fd_less : FuncData
  F_less : Fun K "less" "less" s_less a_less fd_less
  g_less : mg "less" = some (.ref a_less)
  b_less : Binds K fd_less ["one", "other"] []
  a_times : Addr
  fd_times : FuncData
  F_times : Fun K "times" "times" s_times a_times fd_times
  g_times : mg "times" = some (.ref a_times)
  b_times : Binds K fd_times ["one", "other"] []
  a_over : Addr
  fd_over : FuncData
  F_over : Fun K "over" "over" s_over a_over fd_over
  g_over : mg "over" = some (.ref a_over)
  b_over : Binds K fd_over ["one", "other"] []
  a_smaller : Addr
  fd_smaller : FuncData
  F_smaller : Fun K "smaller" "smaller" s_smaller a_smaller fd_smaller
  g_smaller : mg "smaller" = some (.ref a_smaller)
  b_smaller : Binds K fd_smaller ["one", "other"] []
  a_law_flow : Addr
  fd_law_flow : FuncData
  F_law_flow : Fun K "_law_flow" "_law_flow" s_law_flow a_law_flow fd_law_flow
  g_law_flow : mg "_law_flow" = some (.ref a_law_flow)
  b_law_flow : Binds K fd_law_flow ["_law_script", "_law_many"] []
  a_law_whole : Addr
  fd_law_whole : FuncData
  F_law_whole : Fun K "_law_whole" "_law_whole" s_law_whole a_law_whole fd_law_whole
  g_law_whole : mg "_law_whole" = some (.ref a_law_whole)
  b_law_whole : Binds K fd_law_whole ["_law_found"] []
  a_law_low : Addr
  fd_law_low : FuncData
  F_law_low : Fun K "_law_low" "_law_low" s_law_low a_law_low fd_law_low
  g_law_low : mg "_law_low" = some (.ref a_law_low)
  b_law_low : Binds K fd_law_low ["_law_top", "_law_bottom"] []
  a_law_part : Addr
  fd_law_part : FuncData
  F_law_part : Fun K "_law_part" "_law_part" s_law_part a_law_part fd_law_part
  g_law_part : mg "_law_part" = some (.ref a_law_part)
  b_law_part : Binds K fd_law_part ["_law_found"] []
  a_law_refused : Addr
  fd_law_refused : FuncData
  F_law_refused : Fun K "_law_refused" "_law_refused" s_law_refused a_law_refused fd_law_refused
  g_law_refused : mg "_law_refused" = some (.ref a_law_refused)
  b_law_refused : Binds K fd_law_refused ["_law_one", "_law_other"] []
  a_law_is : Addr
  fd_law_is : FuncData
  F_law_is : Fun K "_law_is" "_law_is" s_law_is a_law_is fd_law_is
  g_law_is : mg "_law_is" = some (.ref a_law_is)
  b_law_is : Binds K fd_law_is ["_law_found", "_law_top", "_law_bottom"] []
  a_law : Addr
  fd_law : FuncData
  F_law : Fun K "law" "law" s_law a_law fd_law
  g_law : mg "law" = some (.ref a_law)
  b_law : Binds K fd_law ["_law_script"] []
  m_abs : mg "abs" = none
  m_range : mg "range" = none
  m_len : mg "len" = none
  m_isinstance : mg "isinstance" = none
  m_int : mg "int" = none
  m_bool : mg "bool" = none
  m_tuple : mg "tuple" = none
  c_NoFraction : Addr
  g_NoFraction : mg "NoFraction" = some (.ref c_NoFraction)
  x_NoFraction : PySem.W.excIn K c_NoFraction [.type "ValueError", .type "Exception", .type "BaseException", .type "object"] "ValueError.__new__" = true
  k_NoFraction : PySem.W.keepIn K (.ref c_NoFraction) = true
  b_NoFraction : PySem.W.subIn K (.ref c_NoFraction) (.type "BaseException") = some true
  t_NoFraction : PySem.W.typeIn K (.ref c_NoFraction) = some (.type "type")
  i_NoFraction : PySem.W.isClsIn K c_NoFraction = true
  z_NoFraction : PySem.W.subIn K (.ref c_NoFraction) (.ref c_NoFraction) = some true
  c_MeadError : Addr
  g_MeadError : mg "MeadError" = some (.ref c_MeadError)
  x_MeadError : PySem.W.excIn K c_MeadError [.type "ValueError", .type "Exception", .type "BaseException", .type "object"] "ValueError.__new__" = true
  k_MeadError : PySem.W.keepIn K (.ref c_MeadError) = true
  b_MeadError : PySem.W.subIn K (.ref c_MeadError) (.type "BaseException") = some true
  t_MeadError : PySem.W.typeIn K (.ref c_MeadError) = some (.type "type")
  i_MeadError : PySem.W.isClsIn K c_MeadError = true
  z_MeadError : PySem.W.subIn K (.ref c_MeadError) (.ref c_MeadError) = some true
  ex1_NoFraction : PySem.W.findIn K (.ref c_NoFraction) "__getattribute__" = some (some (.builtin "BaseException.__getattribute__"))
  ex2_NoFraction : PySem.W.findIn K (.ref c_NoFraction) "__getattr__" = some none
  ex3_NoFraction : PySem.W.hasDictIn K c_NoFraction = true
  ex4_NoFraction : PySem.W.findIn K (.ref c_NoFraction) "__class__" = some (some (.builtin "object.__class__"))
  ex5_NoFraction : PySem.W.specialIn K (.builtin "object.__class__") "__get__" = some (some (.builtin "getset_descriptor.__get__"))
  ex6_NoFraction : PySem.W.takesIn K (.builtin "object.__class__") = some true
  ex7_NoFraction : PySem.W.mroIn K c_NoFraction (.type "object") = some true
  kit_NoFraction_MeadError : PySem.W.kitOne K (.ref c_NoFraction) (.ref c_MeadError) = some true
  exm_NoFraction_MeadError : PySem.W.exmOne K (.ref c_NoFraction) (.ref c_MeadError) = some true
  kit_NoFraction_NoFraction : PySem.W.kitOne K (.ref c_NoFraction) (.ref c_NoFraction) = some true
  exm_NoFraction_NoFraction : PySem.W.exmOne K (.ref c_NoFraction) (.ref c_NoFraction) = some true
theorem Tx.exc_NoFraction {K : PySem.W.Frag} {mg : Str → Option Value} (T : Tx K mg) : ExcC K T.c_NoFraction := ⟨T.ex1_NoFraction, T.ex2_NoFraction, T.b_NoFraction, T.ex3_NoFraction, T.ex4_NoFraction, T.ex5_NoFraction, T.ex6_NoFraction, T.ex7_NoFraction⟩
/-! ### the draws: a new list of so many numbers below a million -/
def spFlow (K : PySem.W.Frag) : Sp := fun vs H Q _ => ∃ (a : Addr) (ns : List Int) (m : Nat), vs = [.ref a, .int m] ∧ SqL K H a (ns.map V.int) ∧ m ≤ 100000 ∧
  ∀ (row : List Int) (H' : Hp) (p : Addr), row.length = m → (∀ x ∈ row, 0 ≤ x ∧ x < 1000000) → Same H H' → H p = none → H' p = some (.lst (row.map V.int)) → Q (.ref p) H'
theorem flow_more {row : List Int} {x : Int} (h : ∀ x ∈ row, 0 ≤ x ∧ x < 1000000) (h0 : 0 ≤ x) (h1 : x < 1000000) : ∀ y ∈ row ++ [x], 0 ≤ y ∧ y < 1000000 := fun y hy => by
  rcases List.mem_append.mp hy with q | q
  · exact h y q
  · rw [List.mem_singleton.mp q]; exact ⟨h0, h1⟩
theorem flow_get {row : List Int} (h : ∀ x ∈ row, 0 ≤ x ∧ x < 1000000) (i : Nat) : 0 ≤ row.getD i 0 ∧ row.getD i 0 < 1000000 := by
  rw [List.getD_eq_getElem?_getD]
  cases e : row[i]? with
  | none => exact ⟨by decide, by decide⟩
  | some x => exact h x (List.mem_of_getElem? e)
section
variable {P : Program} {w : World} {K : PySem.W.Frag} {mg : Str → Option Value} {base : Heap}
theorem ok_law_flow (T : Tx K mg) : FnOk P w K mg base CX0 1 T.a_law_flow T.fd_law_flow ["_law_script", "_law_many"] (spFlow K) := by
  refine T.F_law_flow.ok sc_law_flow (fun vs H Q E h => ?_) (fun cdv A outer s H vs Q E hr h => ?_)
  · obtain ⟨a, ns, m, rfl, _⟩ := h
    rfl
  obtain ⟨a, ns, m, rfl, hS, hm, q⟩ := h
  refine ⟨_, (pss_cons (ps_set (i := 2) sc_law_flow.nd rfl (.inl rfl) (pe_int))
      (C8.pss_cut (ps_if (PW.pt (pw_and (pt_cmpR op_gt (pe_callB (c_len (K := K)) (by rfl) T.m_len PySem.boot_len (pa_cons (pv 0) pa_nil)) (pe_int) (nomark _)) (pw_and1 (pt_cmpR op_ge (pe_callB c_abs (by rfl) T.m_abs (by decide +kernel) (pa_cons (pe_ix (ix_listK (K := K)) (pv 0) (pe_int) (fun _ _ => rfl)) pa_nil)) (pe_op op_pow (pe_int) (pe_int)) (nomark _))))) (pss_one (ps_set (i := 2) sc_law_flow.nd rfl (.inl rfl) (pe_op op_sub (pe_callB c_abs (by rfl) T.m_abs (by decide +kernel) (pa_cons (pe_ix (ix_listK (K := K)) (pv 0) (pe_int) (fun _ _ => rfl)) pa_nil)) (pe_op op_pow (pe_int) (pe_int))))) pss_nil)
      (pss_cons (ps_set (i := 3) sc_law_flow.nd rfl (.inl rfl) (pe_lst pa_nil))
      (pss_cons (ps_for PassesOwn.never rfl (pi_range1 (by rfl) T.m_range (pa_cons (pv 1) pa_nil)) (pg_name (i := 4) sc_law_flow.nd rfl (.inl rfl)) (pss_one (ps_if (pt_cmpR op_gt (pv 2) (pe_int) (nomark _)) (pss_cons (ps_expr (k_bm (K := K) (pe_bm PySem.F.plainAttrs_list PySem.F.slot_list_append PySem.F.type_list_append mt_append (pv 3) (pa_cons (pe_op op_mod (pv 2) (pe_int)) pa_nil))))
      (pss_one (ps_set (i := 2) sc_law_flow.nd rfl (.inl rfl) (pe_op op_fdiv (pv 2) (pe_int))))) (pss_cons (ps_set (i := 5) sc_law_flow.nd rfl (.inl rfl) (pe_op op_add (pv 4) (pe_int)))
      (C8.pss_cut (ps_if (pt_cmpR op_gt (pe_callB (c_len (K := K)) (by rfl) T.m_len PySem.boot_len (pa_cons (pv 0) pa_nil)) (pe_int) (nomark _)) (pss_one (ps_set (i := 5) sc_law_flow.nd rfl (.inl rfl) (pe_ix (ix_listK (K := K)) (pv 0) (pe_op op_mod (pv 4) (pe_callB (c_len (K := K)) (by rfl) T.m_len PySem.boot_len (pa_cons (pv 0) pa_nil))) (fun _ _ => rfl)))) pss_nil)
      (pss_cons (ps_set (i := 6) sc_law_flow.nd rfl (.inl rfl) (pe_op op_mod (pe_op op_add (pe_op op_add (pe_op op_mul (pv 5) (pe_int)) (pe_op op_mul (pv 4) (pe_int))) (pe_int)) (pe_int)))
      (pss_cons (ps_set (i := 6) sc_law_flow.nd rfl (.inl rfl) (pe_op op_mod (pe_op op_add (pe_op op_add (pe_op op_mul (pv 6) (pe_int)) (pe_op op_mul (pv 4) (pe_int))) (pe_callB (c_len (K := K)) (by rfl) T.m_len PySem.boot_len (pa_cons (pv 0) pa_nil))) (pe_int)))
      (pss_one (ps_expr (k_bm (K := K) (pe_bm PySem.F.plainAttrs_list PySem.F.slot_list_append PySem.F.type_list_append mt_append (pv 3) (pa_cons (pe_op op_mod (pe_op op_fdiv (pv 6) (pe_int)) (pe_int)) pa_nil))))))))))))
      (pss_one (ps_ret (pv 3))))))), ?_⟩
  walk_at "st"
  have hl : (ns.map V.int).length = ns.length := List.length_map _
  refine Pm.w_cut (fun σ' H' => ∃ g : Int, σ' = [some (.ref a), some (.int m), some (.int g), none, none, none, none] ∧ H' = H) ?_ ?_
  · walk_at "st"
    refine Pm.w_len (.inl hS) ?_
    walk_at "st"
    refine Pm.w_ite (fun c => ?_) (fun c => ?_)
    · rw [hl] at c
      walk_at "st"
      refine Pm.w_ixL hS (atI_int (by omega) (by omega)) ?_
      walk_at "st"
      refine Pm.w_ite (fun c => ?_) (fun c => ?_)
      · walk_at "st"
        refine Pm.w_ixL hS (atI_int (by omega) (by omega)) ?_
        walk_at "st"
        exact ⟨_, rfl, rfl⟩
      · walk_at "st"
        exact ⟨_, rfl, rfl⟩
    · walk_at "st"
      exact ⟨_, rfl, rfl⟩
  rintro σ H' ⟨g, rfl, rfl⟩
  walk_at "st"
  refine Pm.w_newL (fun p hp => ?_)
  walk_at "st"
  rw [Int.toNat_natCast]
  refine Pm.w_forR (fun i σ H2 => ∃ (g : Int) (row : List Int) (x4 x5 x6 : Option V), σ = [some (.ref a), some (.int m), some (.int g), some (.ref p), x4, x5, x6] ∧
    row.length = i ∧ (∀ x ∈ row, 0 ≤ x ∧ x < 1000000) ∧ H2 = upd H' p (.lst (row.map V.int))) ?_ ?_ ?_
  · exact ⟨g, [], none, none, none, rfl, rfl, fun x hx => absurd hx (List.not_mem_nil), rfl⟩
  · rintro i σ H2 hi ⟨g, row, x4, x5, x6, rfl, hrow, hb, rfl⟩
    have hS2 : SqL K (upd H' p (.lst (row.map V.int))) a (ns.map V.int) := (same_new hp _).seq hS
    have hz : (row.map V.int).length < sizeLine := by rw [List.length_map]; exact size_lt (by omega)
    have fin : ∀ x : Int, upd (upd H' p (.lst (row.map V.int))) p (.lst (row.map V.int ++ [.int x])) = upd H' p (.lst ((row ++ [x]).map V.int)) := fun x => by rw [upd_upd, List.map_append] <;> rfl
    walk_at "st"
    refine Pm.w_ite (fun c => ?_) (fun c => ?_)
    · walk_at "st"
      refine ⟨.inl ⟨rfl, _, SqL.of upd_same⟩, ?_⟩
      walk_at "st"
      refine Pm.w_append upd_same hz ?_
      walk_at "st"
      refine ⟨_, row ++ [g % 1000000], _, _, _, rfl, by rw [List.length_append, hrow] <;> rfl, flow_more hb (by omega) (by omega), fin _⟩
    · walk_at "st"
      refine Pm.w_cut (fun σ' H3 => ∃ cell : Int, σ' = [some (.ref a), some (.int m), some (.int g), some (.ref p), some (.int (0 + (i : Nat))), some (.int cell), x6] ∧ H3 = upd H' p (.lst (row.map V.int))) ?_ ?_
      · walk_at "st"
        refine Pm.w_len (.inl hS2) ?_
        walk_at "st"
        refine Pm.w_ite (fun c => ?_) (fun c => ?_)
        · rw [hl] at c
          walk_at "st"
          refine Pm.w_len (.inl hS2) ?_
          rw [hl]
          walk_at "st"
          refine Pm.w_ixL hS2 (atI_int (Int.emod_nonneg _ (by omega)) (Int.emod_lt_of_pos _ (by omega))) ?_
          walk_at "st"
          exact ⟨_, rfl, rfl⟩
        · walk_at "st"
          exact ⟨_, rfl, rfl⟩
      · rintro σ H3 ⟨cell, rfl, rfl⟩
        walk_at "st"
        refine Pm.w_len (.inl hS2) ?_
        walk_at "st"
        refine ⟨.inl ⟨rfl, _, SqL.of upd_same⟩, ?_⟩
        walk_at "st"
        refine Pm.w_append upd_same hz ?_
        walk_at "st"
        refine ⟨_, row ++ [_], _, _, _, rfl, by rw [List.length_append, hrow] <;> rfl, flow_more hb (Int.emod_nonneg _ (by decide)) (Int.emod_lt_of_pos _ (by decide)), fin _⟩
  · rintro σ H2 ⟨g, row, x4, x5, x6, rfl, hrow, hb, rfl⟩
    walk_at "st"
    exact q row _ p hrow hb (same_new hp _) hp upd_same
end
/-! ### is it an int -/
section
variable {P : Program} {w : World} {K : PySem.W.Frag} {mg : Str → Option Value} {base : Heap}
def spWhole : Sp := fun vs H Q _ => ∃ i : Int, vs = [.int i] ∧ Q (.bl true) H
theorem ok_law_whole (T : Tx K mg) : FnOk P w K mg base CX0 1 T.a_law_whole T.fd_law_whole ["_law_found"] spWhole := by
  refine T.F_law_whole.ok sc_law_whole (fun vs H Q E h => ?_) (fun cdv A outer s H vs Q E hr h => ?_)
  · obtain ⟨i, rfl, _⟩ := h
    rfl
  obtain ⟨i, rfl, q⟩ := h
  refine ⟨_, (pss_one (ps_ret ((pe_and (pe_callB (call_isK (K := K)) (by rfl) T.m_isinstance (by decide +kernel) (pa_cons (pv 0) (pa_cons (pe_bltn (v := .ty "int") (by rfl) T.m_int (by decide +kernel) rfl) pa_nil))) (pe_one (pe_not (pe_callB (call_isK (K := K)) (by rfl) T.m_isinstance (by decide +kernel) (pa_cons (pv 0) (pa_cons (pe_bltn (v := .ty "bool") (by rfl) T.m_bool (by decide +kernel) rfl) pa_nil))))))))), ?_⟩
  walk_at "st"
  refine Pm.w_isiInt (b := true) (by decide +kernel) ?_
  walk_at "st"
  refine Pm.w_isiInt (b := false) (by decide +kernel) ?_
  walk_at "st"
  exact q
end
/-! ### the greatest measure, the fraction of two numbers -/
section
variable {P : Program} {w : World} {K : PySem.W.Frag} {mg : Str → Option Value} {base : Heap}
def spMeasure : Sp := fun vs H Q _ => ∃ a b : Int, vs = [.int a, .int b] ∧ Q (.int ((Int.gcd a b : Nat) : Int)) H
theorem ok_measure (T : Tx K mg) : FnOk P w K mg base CX0 1 T.a_measure T.fd_measure ["one", "other"] spMeasure := by
  refine T.F_measure.ok sc_measure (fun vs H Q E h => ?_) (fun cdv A outer s H vs Q E hr h => ?_)
  · obtain ⟨a, b, rfl, _⟩ := h
    rfl
  obtain ⟨a, b, rfl, q⟩ := h
  refine ⟨_, (pss_cons (ps_set (i := 0) sc_measure.nd rfl (.inl rfl) (pe_callB c_abs (by rfl) T.m_abs (by decide +kernel) (pa_cons (pv 0) pa_nil)))
      (pss_cons (ps_set (i := 1) sc_measure.nd rfl (.inl rfl) (pe_callB c_abs (by rfl) T.m_abs (by decide +kernel) (pa_cons (pv 1) pa_nil)))
      (pss_cons (ps_while PassesOwn.never (pt_cmpR op_gt (pv 1) (pe_int) (nomark _)) (pss_one (ps_par (i := 0) (j := 1) (by rfl) sc_measure.nd rfl rfl (by decide) rfl rfl (pa_cons (pv 1) (pa_cons (pe_op op_mod (pv 0) (pv 1)) pa_nil)) (by rfl))))
      (pss_one (ps_ret (pv 0)))))), ?_⟩
  walk_at "st"
  refine Pm.w_while (fun m σ H' => ∃ x y : Nat, σ = [some (.int x), some (.int y)] ∧ m = y ∧ Nat.gcd x y = Int.gcd a b ∧ H' = H) _ ⟨(if a < 0 then -a else a).natAbs, (if b < 0 then -b else b).natAbs, ?_, rfl, gcd_abs a b, rfl⟩ ?_
  · have e : ∀ c : Int, (if c < 0 then -c else c) = (((if c < 0 then -c else c).natAbs : Nat) : Int) := fun c => by split <;> omega
    show [some (V.int (if a < 0 then -a else a)), some (V.int (if b < 0 then -b else b))] = _
    rw [← e a, ← e b]
  · rintro m σ H' ⟨x, y, rfl, rfl, hg, rfl⟩
    walk_at "st"
    refine Pm.w_wh (fun c => ?_) (fun c => ?_)
    · walk_at "st"
      exact ⟨_, Nat.mod_lt x (by omega), m, x % m, rfl, rfl, by rw [gcd_turn x m (by omega)]; exact hg, rfl⟩
    · have e : m = 0 := by omega
      subst e
      rw [Nat.gcd_zero_right] at hg
      rw [hg]
      walk_at "st"
      exact q
/-- a new tuple that is the fraction r -/
def FrNew (H : Hp) (r : Rat) (Q : VK) : Prop := ∀ (t : Addr) (H' : Hp), Same H H' → H t = none → H' t = some (.tup [.int r.num, .int r.den]) → Q (.ref t) H'
def spLowest (C : Addr) : Sp := fun vs H Q E => ∃ (a b : Int) (n : Nat), vs = [.int a, .int b] ∧ b.natAbs < 2 ^ n ∧ n ≤ 9000 ∧ (b = 0 → E (.ref C) none H) ∧ (b ≠ 0 → FrNew H (Rat.divInt a b) Q)
theorem ok_lowest (T : Tx K mg) : FnOk P w K mg base (L2.CX P w) 2 T.a_lowest T.fd_lowest ["top", "bottom"] (spLowest T.c_NoFraction) := by
  refine T.F_lowest.okX sc_lowest (fun vs H Q E h => ?_) (fun cdv A outer s H vs Q E hr h => ?_)
  · obtain ⟨a, b, n, rfl, _⟩ := h
    rfl
  obtain ⟨a, b, n, rfl, hn, hn9, hE, q⟩ := h
  refine ⟨_, (pss_cons (ps_if (pt_cmpR op_eq (pv 1) (pe_int) (nomark _)) (pss_one (ps_raise rfl (takes_of rfl rfl rfl rfl) (pmk_own PySem.F.excBase_ValueError T.x_NoFraction T.g_NoFraction T.k_NoFraction (raises_own T.b_NoFraction T.t_NoFraction) rfl))) pss_nil)
      (C8.pss_cut (ps_if (pt_cmpR op_lt (pv 1) (pe_int) (nomark _)) (pss_cons (ps_set (i := 0) sc_lowest.nd rfl (.inl rfl) (pe_un un_neg (pv 0)))
      (pss_one (ps_set (i := 1) sc_lowest.nd rfl (.inl rfl) (pe_un un_neg (pv 1))))) pss_nil)
      (pss_cons (ps_set (i := 2) sc_lowest.nd rfl (.inl rfl) (pe_call (ok_measure T) (hr.mono (by decide)) (by rfl) T.g_measure T.F_measure.kp T.b_measure .nil pass0 (pa_cons (pv 0) (pa_cons (pv 1) pa_nil))))
      (pss_one (ps_ret (pe_tup (pa_cons (pe_op op_fdivW (pv 0) (pv 2)) (pa_cons (pe_op op_fdivW (pv 1) (pv 2)) pa_nil)))))))), ?_⟩
  walk_at "st"
  refine Pm.w_ite (fun c => ?_) (fun c => ?_)
  · exact hE c
  · walk_at "st"
    refine Pm.w_cut (fun σ' H' => ∃ a' b' : Int, σ' = [some (.int a'), some (.int b'), none] ∧ H' = H ∧ 0 < b' ∧ b'.natAbs < 2 ^ n ∧ Rat.divInt a' b' = Rat.divInt a b) ?_ ?_
    · walk_at "st"
      refine Pm.w_ite (fun d => ?_) (fun d => ?_)
      · walk_at "st"
        exact ⟨-a, -b, rfl, rfl, by omega, by omega, Rat.neg_divInt_neg a b⟩
      · walk_at "st"
        exact ⟨a, b, rfl, rfl, by omega, hn, rfl⟩
    · rintro σ H' ⟨a', b', rfl, rfl, hb, hn, e⟩
      have g0 : 0 < ((Int.gcd a' b' : Nat) : Int) := gcd_pos (by omega)
      have g1 := gcd_le_right (a := a') hb
      have n0 : 0 < n := by
        rcases Nat.eq_zero_or_pos n with z | z
        · subst z
          exact absurd hn (by omega)
        · exact z
      have hd : ∀ i : Int, CDivW i ((Int.gcd a' b' : Nat) : Int) := fun i => wide_div g0 (Nat.lt_of_le_of_lt (by omega) hn) n0 hn9
      walk_at "st"
      refine ⟨a', b', rfl, ?_⟩
      walk_at "st"
      refine Pm.w_i (hd _) ?_
      walk_at "st"
      refine Pm.w_i (hd _) ?_
      walk_at "st"
      refine Pm.w_newT (fun t ht => ?_)
      have z := div_pos_num (a := a') hb
      rw [z.1, z.2, e]
      exact q c t _ (same_new ht _) ht upd_same
end
section
variable {P : Program} {w : World} {K : PySem.W.Frag} {mg : Str → Option Value} {base : Heap}
def spPlus (K : PySem.W.Frag) : Sp := fun vs H Q _ => ∃ (t u : Addr) (x y : Rat) (n m : Nat), vs = [.ref t, .ref u] ∧ SqT K H t [.int x.num, .int x.den] ∧ SqT K H u [.int y.num, .int y.den] ∧ rb x n ∧ rb y m ∧ n + m ≤ 9000 ∧ FrNew H (x + y) Q
theorem ok_plus (T : Tx K mg) : FnOk P w K mg base CX0 3 T.a_plus T.fd_plus ["one", "other"] (spPlus K) := by
  refine T.F_plus.ok sc_plus (fun vs H Q E h => ?_) (fun cdv A outer s H vs Q E hr h => ?_)
  · obtain ⟨t, u, x, y, n, m, rfl, _⟩ := h
    rfl
  obtain ⟨t, u, x, y, n, m, rfl, ht, hu, bx, byy, hnm, q⟩ := h
  refine ⟨_, (pss_one (ps_ret (pe_call (ok_lowest T) (hr.mono (by decide)) (by rfl) T.g_lowest T.F_lowest.kp T.b_lowest .nil passL (pa_cons (pe_op op_add (pe_op op_mulW (pe_ix (ix_tupK (K := K)) (pv 0) (pe_int) (fun _ _ => rfl)) (pe_ix (ix_tupK (K := K)) (pv 1) (pe_int) (fun _ _ => rfl))) (pe_op op_mulW (pe_ix (ix_tupK (K := K)) (pv 1) (pe_int) (fun _ _ => rfl)) (pe_ix (ix_tupK (K := K)) (pv 0) (pe_int) (fun _ _ => rfl)))) (pa_cons (pe_op op_mulW (pe_ix (ix_tupK (K := K)) (pv 0) (pe_int) (fun _ _ => rfl)) (pe_ix (ix_tupK (K := K)) (pv 1) (pe_int) (fun _ _ => rfl))) pa_nil))))), ?_⟩
  have n0 := rb_pos bx
  have m0 := rb_pos byy
  walk_at "st"
  refine Pm.w_ixT ht (atI2 _ _).1 ?_
  walk_at "st"
  refine Pm.w_ixT hu (atI2 _ _).2 ?_
  walk_at "st"
  refine Pm.w_i (wide_mul bx.1 (rb_den byy) n0 m0 (by omega)) ?_
  walk_at "st"
  refine Pm.w_ixT hu (atI2 _ _).1 ?_
  walk_at "st"
  refine Pm.w_ixT ht (atI2 _ _).2 ?_
  walk_at "st"
  refine Pm.w_i (wide_mul byy.1 (rb_den bx) m0 n0 (by omega)) ?_
  walk_at "st"
  refine Pm.w_ixT ht (atI2 _ _).2 ?_
  walk_at "st"
  refine Pm.w_ixT hu (atI2 _ _).2 ?_
  walk_at "st"
  refine Pm.w_i (wide_mul (rb_den bx) (rb_den byy) n0 m0 (by omega)) ?_
  walk_at "st"
  refine ⟨_, _, n + m, rfl, wide_lt (rb_den bx) (rb_den byy), hnm, fun z => absurd z (den_mul x y), fun _ => ?_⟩
  rw [plus_is]
  exact q
end
section
variable {P : Program} {w : World} {K : PySem.W.Frag} {mg : Str → Option Value} {base : Heap}
def spLess (K : PySem.W.Frag) : Sp := fun vs H Q _ => ∃ (t u : Addr) (x y : Rat) (n m : Nat), vs = [.ref t, .ref u] ∧ SqT K H t [.int x.num, .int x.den] ∧ SqT K H u [.int y.num, .int y.den] ∧ rb x n ∧ rb y m ∧ n + m ≤ 9000 ∧ FrNew H (x - y) Q
theorem ok_less (T : Tx K mg) : FnOk P w K mg base CX0 3 T.a_less T.fd_less ["one", "other"] (spLess K) := by
  refine T.F_less.ok sc_less (fun vs H Q E h => ?_) (fun cdv A outer s H vs Q E hr h => ?_)
  · obtain ⟨t, u, x, y, n, m, rfl, _⟩ := h
    rfl
  obtain ⟨t, u, x, y, n, m, rfl, ht, hu, bx, byy, hnm, q⟩ := h
  refine ⟨_, (pss_one (ps_ret (pe_call (ok_lowest T) (hr.mono (by decide)) (by rfl) T.g_lowest T.F_lowest.kp T.b_lowest .nil passL (pa_cons (pe_op op_sub (pe_op op_mulW (pe_ix (ix_tupK (K := K)) (pv 0) (pe_int) (fun _ _ => rfl)) (pe_ix (ix_tupK (K := K)) (pv 1) (pe_int) (fun _ _ => rfl))) (pe_op op_mulW (pe_ix (ix_tupK (K := K)) (pv 1) (pe_int) (fun _ _ => rfl)) (pe_ix (ix_tupK (K := K)) (pv 0) (pe_int) (fun _ _ => rfl)))) (pa_cons (pe_op op_mulW (pe_ix (ix_tupK (K := K)) (pv 0) (pe_int) (fun _ _ => rfl)) (pe_ix (ix_tupK (K := K)) (pv 1) (pe_int) (fun _ _ => rfl))) pa_nil))))), ?_⟩
  have n0 := rb_pos bx
  have m0 := rb_pos byy
  walk_at "st"
  refine Pm.w_ixT ht (atI2 _ _).1 ?_
  walk_at "st"
  refine Pm.w_ixT hu (atI2 _ _).2 ?_
  walk_at "st"
  refine Pm.w_i (wide_mul bx.1 (rb_den byy) n0 m0 (by omega)) ?_
  walk_at "st"
  refine Pm.w_ixT hu (atI2 _ _).1 ?_
  walk_at "st"
  refine Pm.w_ixT ht (atI2 _ _).2 ?_
  walk_at "st"
  refine Pm.w_i (wide_mul byy.1 (rb_den bx) m0 n0 (by omega)) ?_
  walk_at "st"
  refine Pm.w_ixT ht (atI2 _ _).2 ?_
  walk_at "st"
  refine Pm.w_ixT hu (atI2 _ _).2 ?_
  walk_at "st"
  refine Pm.w_i (wide_mul (rb_den bx) (rb_den byy) n0 m0 (by omega)) ?_
  walk_at "st"
  refine ⟨_, _, n + m, rfl, wide_lt (rb_den bx) (rb_den byy), hnm, fun z => absurd z (den_mul x y), fun _ => ?_⟩
  rw [less_is]
  exact q
end
section
variable {P : Program} {w : World} {K : PySem.W.Frag} {mg : Str → Option Value} {base : Heap}
def spTimes (K : PySem.W.Frag) : Sp := fun vs H Q _ => ∃ (t u : Addr) (x y : Rat) (n m : Nat), vs = [.ref t, .ref u] ∧ SqT K H t [.int x.num, .int x.den] ∧ SqT K H u [.int y.num, .int y.den] ∧ rb x n ∧ rb y m ∧ n + m ≤ 9000 ∧ FrNew H (x * y) Q
theorem ok_times (T : Tx K mg) : FnOk P w K mg base CX0 3 T.a_times T.fd_times ["one", "other"] (spTimes K) := by
  refine T.F_times.ok sc_times (fun vs H Q E h => ?_) (fun cdv A outer s H vs Q E hr h => ?_)
  · obtain ⟨t, u, x, y, n, m, rfl, _⟩ := h
    rfl
  obtain ⟨t, u, x, y, n, m, rfl, ht, hu, bx, byy, hnm, q⟩ := h
  refine ⟨_, (pss_one (ps_ret (pe_call (ok_lowest T) (hr.mono (by decide)) (by rfl) T.g_lowest T.F_lowest.kp T.b_lowest .nil passL (pa_cons (pe_op op_mulW (pe_ix (ix_tupK (K := K)) (pv 0) (pe_int) (fun _ _ => rfl)) (pe_ix (ix_tupK (K := K)) (pv 1) (pe_int) (fun _ _ => rfl))) (pa_cons (pe_op op_mulW (pe_ix (ix_tupK (K := K)) (pv 0) (pe_int) (fun _ _ => rfl)) (pe_ix (ix_tupK (K := K)) (pv 1) (pe_int) (fun _ _ => rfl))) pa_nil))))), ?_⟩
  have n0 := rb_pos bx
  have m0 := rb_pos byy
  walk_at "st"
  refine Pm.w_ixT ht (atI2 _ _).1 ?_
  walk_at "st"
  refine Pm.w_ixT hu (atI2 _ _).1 ?_
  walk_at "st"
  refine Pm.w_i (wide_mul bx.1 byy.1 n0 m0 (by omega)) ?_
  walk_at "st"
  refine Pm.w_ixT ht (atI2 _ _).2 ?_
  walk_at "st"
  refine Pm.w_ixT hu (atI2 _ _).2 ?_
  walk_at "st"
  refine Pm.w_i (wide_mul (rb_den bx) (rb_den byy) n0 m0 (by omega)) ?_
  walk_at "st"
  refine ⟨_, _, n + m, rfl, wide_lt (rb_den bx) (rb_den byy), hnm, fun z => absurd z (den_mul x y), fun _ => ?_⟩
  rw [times_is]
  exact q
end
section
variable {P : Program} {w : World} {K : PySem.W.Frag} {mg : Str → Option Value} {base : Heap}
def spOver (K : PySem.W.Frag) (C : Addr) : Sp := fun vs H Q E => ∃ (t u : Addr) (x y : Rat) (n m : Nat), vs = [.ref t, .ref u] ∧ SqT K H t [.int x.num, .int x.den] ∧ SqT K H u [.int y.num, .int y.den] ∧ rb x n ∧ rb y m ∧ n + m ≤ 9000 ∧
  (y = 0 → E (.ref C) none H) ∧ (y ≠ 0 → FrNew H (x / y) Q)
theorem ok_over (T : Tx K mg) : FnOk P w K mg base (L2.CX P w) 3 T.a_over T.fd_over ["one", "other"] (spOver K T.c_NoFraction) := by
  refine T.F_over.okX sc_over (fun vs H Q E h => ?_) (fun cdv A outer s H vs Q E hr h => ?_)
  · obtain ⟨t, u, x, y, n, m, rfl, _⟩ := h
    rfl
  obtain ⟨t, u, x, y, n, m, rfl, ht, hu, bx, byy, hnm, hE, q⟩ := h
  refine ⟨_, (pss_cons (ps_if (pt_cmpR op_eq (pe_ix (ix_tupK (K := K)) (pv 1) (pe_int) (fun _ _ => rfl)) (pe_int) (nomark _)) (pss_one (ps_raise rfl (takes_of rfl rfl rfl rfl) (pmk_own PySem.F.excBase_ValueError T.x_NoFraction T.g_NoFraction T.k_NoFraction (raises_own T.b_NoFraction T.t_NoFraction) rfl))) pss_nil)
      (pss_one (ps_ret (pe_call (ok_lowest T) (hr.mono (by decide)) (by rfl) T.g_lowest T.F_lowest.kp T.b_lowest .nil (passes_call (takes_of rfl rfl rfl rfl) (fun _ _ _ _ h => h)) (pa_cons (pe_op op_mulW (pe_ix (ix_tupK (K := K)) (pv 0) (pe_int) (fun _ _ => rfl)) (pe_ix (ix_tupK (K := K)) (pv 1) (pe_int) (fun _ _ => rfl))) (pa_cons (pe_op op_mulW (pe_ix (ix_tupK (K := K)) (pv 0) (pe_int) (fun _ _ => rfl)) (pe_ix (ix_tupK (K := K)) (pv 1) (pe_int) (fun _ _ => rfl))) pa_nil)))))), ?_⟩
  have n0 := rb_pos bx
  have m0 := rb_pos byy
  walk_at "st"
  refine Pm.w_ixT hu (atI2 _ _).1 ?_
  walk_at "st"
  refine Pm.w_ite (fun e => ?_) (fun e => ?_)
  · exact hE (Rat.num_eq_zero.mp e)
  have e2 : y ≠ 0 := fun z => e (Rat.num_eq_zero.mpr z)
  walk_at "st"
  refine Pm.w_ixT ht (atI2 _ _).1 ?_
  walk_at "st"
  refine Pm.w_ixT hu (atI2 _ _).2 ?_
  walk_at "st"
  refine Pm.w_i (wide_mul bx.1 (rb_den byy) n0 m0 (by omega)) ?_
  walk_at "st"
  refine Pm.w_ixT ht (atI2 _ _).2 ?_
  walk_at "st"
  refine Pm.w_ixT hu (atI2 _ _).1 ?_
  walk_at "st"
  refine Pm.w_i (wide_mul (rb_den bx) byy.1 n0 m0 (by omega)) ?_
  walk_at "st"
  refine ⟨_, _, n + m, rfl, wide_lt (rb_den bx) byy.1, hnm, fun z => absurd z (Int.mul_ne_zero (den_ne x) e), fun _ => ?_⟩
  rw [over_is]
  exact q e2
end
section
variable {P : Program} {w : World} {K : PySem.W.Frag} {mg : Str → Option Value} {base : Heap}
def spSmaller (K : PySem.W.Frag) : Sp := fun vs H Q E => ∃ (t u : Addr) (x y : Rat) (n m : Nat), vs = [.ref t, .ref u] ∧ SqT K H t [.int x.num, .int x.den] ∧ SqT K H u [.int y.num, .int y.den] ∧ rb x n ∧ rb y m ∧ n + m ≤ 9000 ∧ Q (.bl (decide (x < y))) H
theorem ok_smaller (T : Tx K mg) : FnOk P w K mg base CX0 1 T.a_smaller T.fd_smaller ["one", "other"] (spSmaller K) := by
  refine T.F_smaller.ok sc_smaller (fun vs H Q E h => ?_) (fun cdv A outer s H vs Q E hr h => ?_)
  · obtain ⟨t, u, x, y, n, m, rfl, _⟩ := h
    rfl
  obtain ⟨t, u, x, y, n, m, rfl, ht, hu, bx, byy, hnm, q⟩ := h
  refine ⟨_, (pss_one (ps_ret (pe_cmpR op_lt (pe_op op_mulW (pe_ix (ix_tupK (K := K)) (pv 0) (pe_int) (fun _ _ => rfl)) (pe_ix (ix_tupK (K := K)) (pv 1) (pe_int) (fun _ _ => rfl))) (pe_op op_mulW (pe_ix (ix_tupK (K := K)) (pv 1) (pe_int) (fun _ _ => rfl)) (pe_ix (ix_tupK (K := K)) (pv 0) (pe_int) (fun _ _ => rfl))) (nomark _)))), ?_⟩
  have n0 := rb_pos bx
  have m0 := rb_pos byy
  walk_at "st"
  refine Pm.w_ixT ht (atI2 _ _).1 ?_
  walk_at "st"
  refine Pm.w_ixT hu (atI2 _ _).2 ?_
  walk_at "st"
  refine Pm.w_i (wide_mul bx.1 (rb_den byy) n0 m0 (by omega)) ?_
  walk_at "st"
  refine Pm.w_ixT hu (atI2 _ _).1 ?_
  walk_at "st"
  refine Pm.w_ixT ht (atI2 _ _).2 ?_
  walk_at "st"
  refine Pm.w_i (wide_mul byy.1 (rb_den bx) m0 n0 (by omega)) ?_
  walk_at "st"
  rw [← lt_dec x y]
  exact q
end
/-! ### the law's own lowest terms -/
section
variable {P : Program} {w : World} {K : PySem.W.Frag} {mg : Str → Option Value} {base : Heap}
def spLow : Sp := fun vs H Q _ => ∃ (a b : Int) (n : Nat), vs = [.int a, .int b] ∧ b ≠ 0 ∧ b.natAbs < 2 ^ n ∧ n ≤ 9000 ∧ FrNew H (Rat.divInt a b) Q
theorem ok_law_low (T : Tx K mg) : FnOk P w K mg base CX0 1 T.a_law_low T.fd_law_low ["_law_top", "_law_bottom"] spLow := by
  refine T.F_law_low.ok sc_law_low (fun vs H Q E h => ?_) (fun cdv A outer s H vs Q E hr h => ?_)
  · obtain ⟨a, b, n, rfl, _⟩ := h
    rfl
  obtain ⟨a, b, n, rfl, hb, hn, hn9, q⟩ := h
  refine ⟨_, (pss_cons (ps_set (i := 2) sc_law_low.nd rfl (.inl rfl) (pe_callB c_abs (by rfl) T.m_abs (by decide +kernel) (pa_cons (pv 0) pa_nil)))
      (pss_cons (ps_set (i := 3) sc_law_low.nd rfl (.inl rfl) (pe_callB c_abs (by rfl) T.m_abs (by decide +kernel) (pa_cons (pv 1) pa_nil)))
      (pss_cons (ps_while PassesOwn.never (pt_cmpR op_gt (pv 3) (pe_int) (nomark _)) (pss_one (ps_par (i := 2) (j := 3) (by rfl) sc_law_low.nd rfl rfl (by decide) rfl rfl (pa_cons (pv 3) (pa_cons (pe_op op_mod (pv 2) (pv 3)) pa_nil)) (by rfl))))
      (C8.pss_cut (ps_if (pt_cmpR op_lt (pv 1) (pe_int) (nomark _)) (pss_cons (ps_set (i := 0) sc_law_low.nd rfl (.inl rfl) (pe_un un_neg (pv 0)))
      (pss_one (ps_set (i := 1) sc_law_low.nd rfl (.inl rfl) (pe_un un_neg (pv 1))))) pss_nil)
      (pss_one (ps_ret (pe_tup (pa_cons (pe_op op_fdivW (pv 0) (pv 2)) (pa_cons (pe_op op_fdivW (pv 1) (pv 2)) pa_nil))))))))), ?_⟩
  walk_at "st"
  refine Pm.w_while (fun m σ H' => ∃ x y : Nat, σ = [some (.int a), some (.int b), some (.int x), some (.int y)] ∧ m = y ∧ Nat.gcd x y = Int.gcd a b ∧ H' = H) _ ⟨(if a < 0 then -a else a).natAbs, (if b < 0 then -b else b).natAbs, ?_, rfl, gcd_abs a b, rfl⟩ ?_
  · have e : ∀ c : Int, (if c < 0 then -c else c) = (((if c < 0 then -c else c).natAbs : Nat) : Int) := fun c => by split <;> omega
    show [some (V.int a), some (V.int b), some (V.int (if a < 0 then -a else a)), some (V.int (if b < 0 then -b else b))] = _
    rw [← e a, ← e b]
  · rintro m σ H' ⟨x, y, rfl, rfl, hg, rfl⟩
    walk_at "st"
    refine Pm.w_wh (fun c => ?_) (fun c => ?_)
    · walk_at "st"
      exact ⟨_, Nat.mod_lt x (by omega), m, x % m, rfl, rfl, by rw [gcd_turn x m (by omega)]; exact hg, rfl⟩
    · have e : m = 0 := by omega
      subst e
      rw [Nat.gcd_zero_right] at hg
      subst hg
      refine Pm.w_cut (fun σ' H2 => ∃ a' b' : Int, σ' = [some (.int a'), some (.int b'), some (.int ((Int.gcd a b : Nat) : Int)), some (.int ((0 : Nat) : Int))] ∧ H2 = H' ∧ Int.gcd a' b' = Int.gcd a b ∧ 0 < b' ∧ b'.natAbs < 2 ^ n ∧ Rat.divInt a' b' = Rat.divInt a b) ?_ ?_
      · walk_at "st"
        refine Pm.w_ite (fun d => ?_) (fun d => ?_)
        · walk_at "st"
          exact ⟨-a, -b, rfl, rfl, by rw [Int.gcd_neg, Int.neg_gcd], by omega, by omega, Rat.neg_divInt_neg a b⟩
        · walk_at "st"
          exact ⟨a, b, rfl, rfl, rfl, by omega, hn, rfl⟩
      · rintro σ H2 ⟨a', b', rfl, rfl, eg, hb', hn, e⟩
        rw [← eg]
        have g0 : 0 < ((Int.gcd a' b' : Nat) : Int) := gcd_pos (by omega)
        have g1 := gcd_le_right (a := a') hb'
        have n0 : 0 < n := by
          rcases Nat.eq_zero_or_pos n with z | z
          · subst z
            exact absurd hn (by omega)
          · exact z
        have hd : ∀ i : Int, CDivW i ((Int.gcd a' b' : Nat) : Int) := fun i => wide_div g0 (Nat.lt_of_le_of_lt (by omega) hn) n0 hn9
        walk_at "st"
        refine Pm.w_i (hd _) ?_
        walk_at "st"
        refine Pm.w_i (hd _) ?_
        walk_at "st"
        refine Pm.w_newT (fun t ht => ?_)
        have z := div_pos_num (a := a') hb'
        rw [z.1, z.2, e]
        exact q t _ (same_new ht _) ht upd_same
end
section
variable {P : Program} {w : World} {K : PySem.W.Frag} {mg : Str → Option Value} {base : Heap}
def spPart (K : PySem.W.Frag) : Sp := fun vs H Q _ => ∃ (t : Addr) (r : Rat) (n : Nat), vs = [.ref t] ∧ SqT K H t [.int r.num, .int r.den] ∧ r.den < 2 ^ n ∧ n ≤ 9000 ∧ ∀ H', Same H H' → Q (.bl true) H'
theorem ok_law_part (T : Tx K mg) : FnOk P w K mg base CX0 2 T.a_law_part T.fd_law_part ["_law_found"] (spPart K) := by
  refine T.F_law_part.ok sc_law_part (fun vs H Q E h => ?_) (fun cdv A outer s H vs Q E hr h => ?_)
  · obtain ⟨t, r, n, rfl, _⟩ := h
    rfl
  obtain ⟨t, r, n, rfl, ht, hn, hn9, q⟩ := h
  refine ⟨_, (pss_cons (ps_if (PW.pt (pw_or (pt_not (pt_val (pe_callB (call_isK (K := K)) (by rfl) T.m_isinstance (by decide +kernel) (pa_cons (pv 0) (pa_cons (pe_bltn (v := .ty "tuple") (by rfl) T.m_tuple (by decide +kernel) rfl) pa_nil))))) (pw_or1 (pt_cmpR op_ne (pe_callB (c_len (K := K)) (by rfl) T.m_len PySem.boot_len (pa_cons (pv 0) pa_nil)) (pe_int) (nomark _))))) (pss_one (ps_ret (pe_bl))) pss_nil)
      (pss_cons (ps_if (PW.pt (pw_or (pt_not (pt_val (pe_call (ok_law_whole T) (hr.mono (by decide)) (by rfl) T.g_law_whole T.F_law_whole.kp T.b_law_whole .nil pass0 (pa_cons (pe_ix (ix_tupK (K := K)) (pv 0) (pe_int) (fun _ _ => rfl)) pa_nil)))) (pw_or (pt_not (pt_val (pe_call (ok_law_whole T) (hr.mono (by decide)) (by rfl) T.g_law_whole T.F_law_whole.kp T.b_law_whole .nil pass0 (pa_cons (pe_ix (ix_tupK (K := K)) (pv 0) (pe_int) (fun _ _ => rfl)) pa_nil)))) (pw_or1 (pt_cmpR op_le (pe_ix (ix_tupK (K := K)) (pv 0) (pe_int) (fun _ _ => rfl)) (pe_int) (nomark _)))))) (pss_one (ps_ret (pe_bl))) pss_nil)
      (pss_one (ps_ret (pe_cmpR (op_eqDK (K := K) hr.units) (pe_call (ok_law_low T) (hr.mono (by decide)) (by rfl) T.g_law_low T.F_law_low.kp T.b_law_low .nil pass0 (pa_cons (pe_ix (ix_tupK (K := K)) (pv 0) (pe_int) (fun _ _ => rfl)) (pa_cons (pe_ix (ix_tupK (K := K)) (pv 0) (pe_int) (fun _ _ => rfl)) pa_nil))) (pv 0) (nomark _)))))), ?_⟩
  have rd := r.den_nz
  walk_at "st"
  refine Pm.w_isiTup ht (b := true) (by decide +kernel) ?_
  walk_at "st"
  refine Pm.w_lenT ht ?_
  walk_at "st"
  refine Pm.w_iteN (fun z => absurd rfl z) (fun _ => ?_)
  walk_at "st"
  refine Pm.w_ixT ht (atI2 _ _).1 ?_
  walk_at "st"
  refine ⟨_, rfl, ?_⟩
  walk_at "st"
  refine Pm.w_ixT ht (atI2 _ _).2 ?_
  walk_at "st"
  refine ⟨_, rfl, ?_⟩
  walk_at "st"
  refine Pm.w_ixT ht (atI2 _ _).2 ?_
  walk_at "st"
  refine Pm.w_ite (fun z => absurd z (by omega)) (fun _ => ?_)
  walk_at "st"
  refine Pm.w_ixT ht (atI2 _ _).1 ?_
  walk_at "st"
  refine Pm.w_ixT ht (atI2 _ _).2 ?_
  walk_at "st"
  refine ⟨_, _, n, rfl, den_ne r, by omega, hn9, fun u H' s1 nu hu => ?_⟩
  walk_at "st"
  refine Pm.w_eqPair (SqT.of hu) (Same.tup s1 ht) ?_
  rw [divInt_self', decide_eq_true ⟨rfl, rfl⟩]
  exact q H' s1
end
section
variable {P : Program} {w : World} {K : PySem.W.Frag} {mg : Str → Option Value} {base : Heap}
def spIs (K : PySem.W.Frag) : Sp := fun vs H Q _ => ∃ (t : Addr) (r : Rat) (x y : Int) (n m : Nat), vs = [.ref t, .int x, .int y] ∧ SqT K H t [.int r.num, .int r.den] ∧ rb r n ∧ n ≤ 9000 ∧ x.natAbs < 2 ^ m ∧ y.natAbs < 2 ^ m ∧ m ≤ 900000 ∧ y ≠ 0 ∧ r = Rat.divInt x y ∧ ∀ H', Same H H' → Q (.bl true) H'
theorem ok_law_is (T : Tx K mg) : FnOk P w K mg base CX0 3 T.a_law_is T.fd_law_is ["_law_found", "_law_top", "_law_bottom"] (spIs K) := by
  refine T.F_law_is.ok sc_law_is (fun vs H Q E h => ?_) (fun cdv A outer s H vs Q E hr h => ?_)
  · obtain ⟨t, r, x, y, n, m, rfl, _⟩ := h
    rfl
  obtain ⟨t, r, x, y, n, m, rfl, ht, br, hn, hx, hy, hm, y0, er, q⟩ := h
  refine ⟨_, (pss_one (ps_ret ((pe_and (pe_call (ok_law_part T) (hr.mono (by decide)) (by rfl) T.g_law_part T.F_law_part.kp T.b_law_part .nil pass0 (pa_cons (pv 0) pa_nil)) (pe_one (pe_cmpR op_eq (pe_op op_mulW (pe_ix (ix_tupK (K := K)) (pv 0) (pe_int) (fun _ _ => rfl)) (pv 2)) (pe_op op_mulW (pe_ix (ix_tupK (K := K)) (pv 0) (pe_int) (fun _ _ => rfl)) (pv 1)) (nomark _))))))), ?_⟩
  have n0 := rb_pos br
  have m0 : 0 < m := by
    rcases Nat.eq_zero_or_pos m with z | z
    · subst z
      exact absurd hy (by omega)
    · exact z
  walk_at "st"
  refine ⟨t, r, n, rfl, ht, br.2, hn, fun H1 s1 => ?_⟩
  have h1 := Same.tup s1 ht
  walk_at "st"
  refine Pm.w_ixT h1 (atI2 _ _).1 ?_
  walk_at "st"
  refine Pm.w_i (wide_mul br.1 hy n0 m0 (by omega)) ?_
  walk_at "st"
  refine Pm.w_ixT h1 (atI2 _ _).2 ?_
  walk_at "st"
  refine Pm.w_i (wide_mul (rb_den br) hx n0 m0 (by omega)) ?_
  walk_at "st"
  subst er
  rw [decide_eq_true (cross_div y0)]
  exact q _ s1
end
section
variable {P : Program} {w : World} {K : PySem.W.Frag} {mg : Str → Option Value} {base : Heap}
def spRefused (K : PySem.W.Frag) : Sp := fun vs H Q _ => ∃ (t u : Addr) (x : Rat) (n : Nat), vs = [.ref t, .ref u] ∧ SqT K H t [.int x.num, .int x.den] ∧ SqT K H u [.int (0 : Rat).num, .int (0 : Rat).den] ∧ rb x n ∧ n ≤ 8000 ∧ ∀ H', Q (.bl true) H'
theorem ok_law_refused (T : Tx K mg) : FnOk P w K mg base CX0 4 T.a_law_refused T.fd_law_refused ["_law_one", "_law_other"] (spRefused K) := by
  refine T.F_law_refused.ok sc_law_refused (fun vs H Q E h => ?_) (fun cdv A outer s H vs Q E hr h => ?_)
  · obtain ⟨t, u, x, n, rfl, _⟩ := h
    rfl
  obtain ⟨t, u, x, n, rfl, ht, hu, bx, hn, q⟩ := h
  refine ⟨_, (pss_cons (ps_try_as (i := 2) rfl rfl sc_law_refused.nd rfl rfl ⟨rfl, by decide, .inl T.g_MeadError⟩ takes0 (fun W pn xe tk _ => (pss_one (ps_expr (by exact (pe_callS (ok_over T) (hr.mono (by decide)) (by rfl) T.g_over T.F_over.kp T.b_over (fun q => passAt tk q) (by exact (pa_cons (pv 0) (pa_cons (pv 1) pa_nil)))))))) (fun a oe cls d pn hz hf => (pss_one (ps_ret (pe_callB (c_isX (K := K) hz hf) (by rfl) T.m_isinstance (by decide +kernel) (pa_cons (pv 2) (pa_cons (pe_glob (v := .ref T.c_NoFraction) (by rfl) T.g_NoFraction rfl) pa_nil)))))))
      (pss_one (ps_ret (pe_bl)))), ?_⟩
  walk_at "st"
  refine ⟨t, u, x, 0, n, 1, rfl, ht, hu, bx, ⟨by decide, by decide⟩, by omega, fun _ => ?_, fun z => absurd rfl z⟩
  refine ⟨true, T.exm_NoFraction_MeadError, fun _ x hx => ?_, fun z => Bool.noConfusion z⟩
  walk_at "st"
  refine Pm.w_isX T.exc_NoFraction (fun u r => r) T.kit_NoFraction_NoFraction ?_
  exact q _
def spLaw (K : PySem.W.Frag) : Sp := fun vs H Q _ => ∃ (a : Addr) (ns : List Int), vs = [.ref a] ∧ SqL K H a (ns.map V.int) ∧ ns.length ≤ 63 ∧ ∀ H', Q (.bl true) H'
theorem ok_law (T : Tx K mg) : FnOk P w K mg base CX0 5 T.a_law T.fd_law ["_law_script"] (spLaw K) := by
  refine T.F_law.ok sc_law (fun vs H Q E h => ?_) (fun cdv A outer s H vs Q E hr h => ?_)
  · obtain ⟨a, ns, rfl, _⟩ := h
    rfl
  obtain ⟨a, ns, rfl, hS, hl, q⟩ := h
  refine ⟨_, (pss_cons (ps_set (i := 1) sc_law.nd rfl (.inl rfl) (pe_call (ok_law_flow T) (hr.mono (by decide)) (by rfl) T.g_law_flow T.F_law_flow.kp T.b_law_flow .nil pass0 (pa_cons (pv 0) (pa_cons (pe_int) pa_nil))))
      (pss_cons (ps_set (i := 2) sc_law.nd rfl (.inl rfl) (pe_call (ok_law_low T) (hr.mono (by decide)) (by rfl) T.g_law_low T.F_law_low.kp T.b_law_low .nil pass0 (pa_cons (pe_op op_sub (pe_op op_mod (pe_ix (ix_listK (K := K)) (pv 1) (pe_int) (fun _ _ => rfl)) (pe_int)) (pe_int)) (pa_cons (pe_op op_add (pe_int) (pe_op op_mod (pe_ix (ix_listK (K := K)) (pv 1) (pe_int) (fun _ _ => rfl)) (pe_int))) pa_nil))))
      (pss_cons (ps_set (i := 3) sc_law.nd rfl (.inl rfl) (pe_call (ok_law_low T) (hr.mono (by decide)) (by rfl) T.g_law_low T.F_law_low.kp T.b_law_low .nil pass0 (pa_cons (pe_op op_sub (pe_op op_mod (pe_ix (ix_listK (K := K)) (pv 1) (pe_int) (fun _ _ => rfl)) (pe_int)) (pe_int)) (pa_cons (pe_op op_add (pe_int) (pe_op op_mod (pe_ix (ix_listK (K := K)) (pv 1) (pe_int) (fun _ _ => rfl)) (pe_int))) pa_nil))))
      (C8.pss_cut (ps_if (pt_cmpR op_eq (pe_op op_mod (pe_ix (ix_listK (K := K)) (pv 1) (pe_int) (fun _ _ => rfl)) (pe_int)) (pe_int) (nomark _)) (pss_cons (ps_set (i := 2) sc_law.nd rfl (.inl rfl) (pe_call (ok_law_low T) (hr.mono (by decide)) (by rfl) T.g_law_low T.F_law_low.kp T.b_law_low .nil pass0 (pa_cons (pe_op op_mulW (pe_ix (ix_tupK (K := K)) (pv 2) (pe_int) (fun _ _ => rfl)) (pe_op op_add (pe_op op_pow (pe_int) (pe_int)) (pe_ix (ix_listK (K := K)) (pv 1) (pe_int) (fun _ _ => rfl)))) (pa_cons (pe_op op_mulW (pe_ix (ix_tupK (K := K)) (pv 2) (pe_int) (fun _ _ => rfl)) (pe_op op_add (pe_op op_pow (pe_int) (pe_int)) (pe_ix (ix_listK (K := K)) (pv 1) (pe_int) (fun _ _ => rfl)))) pa_nil))))
      (pss_one (ps_set (i := 3) sc_law.nd rfl (.inl rfl) (pe_call (ok_law_low T) (hr.mono (by decide)) (by rfl) T.g_law_low T.F_law_low.kp T.b_law_low .nil pass0 (pa_cons (pe_op op_mulW (pe_ix (ix_tupK (K := K)) (pv 3) (pe_int) (fun _ _ => rfl)) (pe_op op_add (pe_op op_pow (pe_int) (pe_int)) (pe_ix (ix_listK (K := K)) (pv 1) (pe_int) (fun _ _ => rfl)))) (pa_cons (pe_op op_mulW (pe_ix (ix_tupK (K := K)) (pv 3) (pe_int) (fun _ _ => rfl)) (pe_op op_add (pe_op op_pow (pe_int) (pe_int)) (pe_ix (ix_listK (K := K)) (pv 1) (pe_int) (fun _ _ => rfl)))) pa_nil)))))) pss_nil)
      (C8.pss_cut (ps_if (pt_cmpR op_eq (pe_op op_mod (pe_ix (ix_listK (K := K)) (pv 1) (pe_int) (fun _ _ => rfl)) (pe_int)) (pe_int) (nomark _)) (pss_one (ps_set (i := 3) sc_law.nd rfl (.inl rfl) (pv 2))) pss_nil)
      (pss_cons (ps_asg (pv 2) (k_gt (K := K) (pg_tup (by rfl) (pgs_cons (pg_name (i := 4) sc_law.nd rfl (.inl rfl)) (pgs_cons (pg_name (i := 5) sc_law.nd rfl (.inl rfl)) pgs_nil)))))
      (pss_cons (ps_asg (pv 3) (k_gt (K := K) (pg_tup (by rfl) (pgs_cons (pg_name (i := 6) sc_law.nd rfl (.inl rfl)) (pgs_cons (pg_name (i := 7) sc_law.nd rfl (.inl rfl)) pgs_nil)))))
      (pss_cons (ps_if (PW.pt (pw_or (pt_not (pt_val (pe_call (ok_law_is T) (hr.mono (by decide)) (by rfl) T.g_law_is T.F_law_is.kp T.b_law_is .nil pass0 (pa_cons (pe_call (ok_plus T) (hr.mono (by decide)) (by rfl) T.g_plus T.F_plus.kp T.b_plus .nil pass0 (pa_cons (pv 2) (pa_cons (pv 3) pa_nil))) (pa_cons (pe_op op_add (pe_op op_mulW (pv 4) (pv 7)) (pe_op op_mulW (pv 6) (pv 5))) (pa_cons (pe_op op_mulW (pv 5) (pv 7)) pa_nil)))))) (pw_or1 (pt_not (pt_val (pe_call (ok_law_is T) (hr.mono (by decide)) (by rfl) T.g_law_is T.F_law_is.kp T.b_law_is .nil pass0 (pa_cons (pe_call (ok_less T) (hr.mono (by decide)) (by rfl) T.g_less T.F_less.kp T.b_less .nil pass0 (pa_cons (pv 2) (pa_cons (pv 3) pa_nil))) (pa_cons (pe_op op_sub (pe_op op_mulW (pv 4) (pv 7)) (pe_op op_mulW (pv 6) (pv 5))) (pa_cons (pe_op op_mulW (pv 5) (pv 7)) pa_nil))))))))) (pss_one (ps_ret (pe_bl))) pss_nil)
      (pss_cons (ps_if (pt_not (pt_val (pe_call (ok_law_is T) (hr.mono (by decide)) (by rfl) T.g_law_is T.F_law_is.kp T.b_law_is .nil pass0 (pa_cons (pe_call (ok_times T) (hr.mono (by decide)) (by rfl) T.g_times T.F_times.kp T.b_times .nil pass0 (pa_cons (pv 2) (pa_cons (pv 3) pa_nil))) (pa_cons (pe_op op_mulW (pv 4) (pv 6)) (pa_cons (pe_op op_mulW (pv 5) (pv 7)) pa_nil)))))) (pss_one (ps_ret (pe_bl))) pss_nil)
      (pss_cons (ps_set (i := 8) sc_law.nd rfl (.inl rfl) (pe_call (ok_smaller T) (hr.mono (by decide)) (by rfl) T.g_smaller T.F_smaller.kp T.b_smaller .nil pass0 (pa_cons (pv 2) (pa_cons (pv 3) pa_nil))))
      (pss_cons (ps_if (PW.pt (pw_or (pt_not (pt_val (pe_callB (call_isK (K := K)) (by rfl) T.m_isinstance (by decide +kernel) (pa_cons (pv 8) (pa_cons (pe_bltn (v := .ty "bool") (by rfl) T.m_bool (by decide +kernel) rfl) pa_nil))))) (pw_or1 (pt_cmpR op_ne (pv 8) (pe_cmpR op_lt (pe_op op_mulW (pv 4) (pv 7)) (pe_op op_mulW (pv 6) (pv 5)) (nomark _)) (nomark _))))) (pss_one (ps_ret (pe_bl))) pss_nil)
      (pss_cons (ps_if (pt_cmpR op_eq (pv 6) (pe_int) (nomark _)) (pss_one (ps_ret (pe_call (ok_law_refused T) (hr.mono (by decide)) (by rfl) T.g_law_refused T.F_law_refused.kp T.b_law_refused .nil pass0 (pa_cons (pv 2) (pa_cons (pv 3) pa_nil))))) pss_nil)
      (pss_one (ps_ret (pe_call (ok_law_is T) (hr.mono (by decide)) (by rfl) T.g_law_is T.F_law_is.kp T.b_law_is .nil pass0 (pa_cons (pe_call (ok_over T) (hr.mono (by decide)) (by rfl) T.g_over T.F_over.kp T.b_over .nil passL (pa_cons (pv 2) (pa_cons (pv 3) pa_nil))) (pa_cons (pe_op op_mulW (pv 4) (pv 7)) (pa_cons (pe_op op_mulW (pv 5) (pv 6)) pa_nil)))))))))))))))))), ?_⟩
  walk_at "st"
  refine ⟨a, ns, 6, rfl, hS, by decide, fun row H1 p hrow hb s1 np hp => ?_⟩
  have hL : SqL K H1 p (row.map V.int) := SqL.of hp
  have fg := fun i : Nat => flow_get hb i
  have f1 := fg (1 : Int).toNat
  have f2 := fg (2 : Int).toNat
  have f3 := fg (3 : Int).toNat
  have f4 := fg (4 : Int).toNat
  have f5 := fg (5 : Int).toNat
  walk_at "st"
  refine Pm.w_ixL hL (atI_int (by omega) (by omega)) ?_
  walk_at "st"
  refine Pm.w_ixL hL (atI_int (by omega) (by omega)) ?_
  walk_at "st"
  refine ⟨_, _, 8, rfl, by omega, by omega, by decide, fun t H2 s2 nt ht => ?_⟩
  generalize hx : Rat.divInt (row.getD (1 : Int).toNat 0 % 81 - 40) (1 + row.getD (2 : Int).toNat 0 % 30) = x at ht
  have bx : rb x 8 := by rw [← hx]; exact rb_div (by omega) (by omega) (by omega)
  have hL2 : SqL K H2 p (row.map V.int) := s2.seq hL
  walk_at "st"
  refine Pm.w_ixL hL2 (atI_int (by omega) (by omega)) ?_
  walk_at "st"
  refine Pm.w_ixL hL2 (atI_int (by omega) (by omega)) ?_
  walk_at "st"
  refine ⟨_, _, 8, rfl, by omega, by omega, by decide, fun u H3 s3 nu hu => ?_⟩
  generalize hy : Rat.divInt (row.getD (3 : Int).toNat 0 % 81 - 40) (1 + row.getD (4 : Int).toNat 0 % 30) = y at hu
  have bY : rb y 8 := by rw [← hy]; exact rb_div (by omega) (by omega) (by omega)
  have hL3 : SqL K H3 p (row.map V.int) := s3.seq hL2
  have ht3 := s3 _ _ ht
  walk_at "st"
  refine Pm.w_cut (fun σ' H' => ∃ (t u : Addr) (x y : Rat), σ' = [some (.ref a), some (.ref p), some (.ref t), some (.ref u), none, none, none, none, none] ∧ SqL K H' p (row.map V.int) ∧ SqT K H' t [.int x.num, .int x.den] ∧ SqT K H' u [.int y.num, .int y.den] ∧ rb x 300 ∧ rb y 300) ?_ ?_
  · walk_at "st"
    refine Pm.w_ixL hL3 (atI_int (by omega) (by omega)) ?_
    walk_at "st"
    refine Pm.w_ite (fun e => ?_) (fun e => ?_)
    · have g1 : ((10 : Int) ^ (30 : Int).toNat + row.getD (5 : Int).toNat 0).natAbs < 2 ^ 200 := by
        rw [show (10 : Int) ^ (30 : Int).toNat = 1000000000000000000000000000000 from rfl]; omega
      have g2 : ((10 : Int) ^ (29 : Int).toNat + row.getD (3 : Int).toNat 0).natAbs < 2 ^ 200 := by
        rw [show (10 : Int) ^ (29 : Int).toNat = 100000000000000000000000000000 from rfl]; omega
      have g3 : ((10 : Int) ^ (31 : Int).toNat + row.getD (1 : Int).toNat 0).natAbs < 2 ^ 200 := by
        rw [show (10 : Int) ^ (31 : Int).toNat = 10000000000000000000000000000000 from rfl]; omega
      have g4 : ((10 : Int) ^ (28 : Int).toNat + row.getD (2 : Int).toNat 0).natAbs < 2 ^ 200 := by
        rw [show (10 : Int) ^ (28 : Int).toNat = 10000000000000000000000000000 from rfl]; omega
      have g2' : (10 : Int) ^ (29 : Int).toNat + row.getD (3 : Int).toNat 0 ≠ 0 := by
        rw [show (10 : Int) ^ (29 : Int).toNat = 100000000000000000000000000000 from rfl]; omega
      have g4' : (10 : Int) ^ (28 : Int).toNat + row.getD (2 : Int).toNat 0 ≠ 0 := by
        rw [show (10 : Int) ^ (28 : Int).toNat = 10000000000000000000000000000 from rfl]; omega
      walk_at "st"
      refine Pm.w_ixT (SqT.of ht3) (atI2 _ _).1 ?_
      walk_at "st"
      refine Pm.w_ixL hL3 (atI_int (by omega) (by omega)) ?_
      walk_at "st"
      refine Pm.w_i (wide_mul bx.1 g1 (by decide) (by decide) (by decide)) ?_
      walk_at "st"
      refine Pm.w_ixT (SqT.of ht3) (atI2 _ _).2 ?_
      walk_at "st"
      refine Pm.w_ixL hL3 (atI_int (by omega) (by omega)) ?_
      walk_at "st"
      refine Pm.w_i (wide_mul (rb_den bx) g2 (by decide) (by decide) (by decide)) ?_
      walk_at "st"
      refine ⟨_, _, 208, rfl, Int.mul_ne_zero (den_ne x) g2', wide_lt (rb_den bx) g2, by decide, fun t4 H4 s4 nt4 ht4 => ?_⟩
      have bx4 := rb_div (Int.mul_ne_zero (den_ne x) g2') (wide_lt bx.1 g1) (wide_lt (rb_den bx) g2)
      have hu4 := s4 _ _ hu
      have hL4 := s4.seq hL3
      walk_at "st"
      refine Pm.w_ixT (SqT.of hu4) (atI2 _ _).1 ?_
      walk_at "st"
      refine Pm.w_ixL hL4 (atI_int (by omega) (by omega)) ?_
      walk_at "st"
      refine Pm.w_i (wide_mul bY.1 g3 (by decide) (by decide) (by decide)) ?_
      walk_at "st"
      refine Pm.w_ixT (SqT.of hu4) (atI2 _ _).2 ?_
      walk_at "st"
      refine Pm.w_ixL hL4 (atI_int (by omega) (by omega)) ?_
      walk_at "st"
      refine Pm.w_i (wide_mul (rb_den bY) g4 (by decide) (by decide) (by decide)) ?_
      walk_at "st"
      refine ⟨_, _, 208, rfl, Int.mul_ne_zero (den_ne y) g4', wide_lt (rb_den bY) g4, by decide, fun t5 H5 s5 nt5 ht5 => ?_⟩
      have by5 := rb_div (Int.mul_ne_zero (den_ne y) g4') (wide_lt bY.1 g3) (wide_lt (rb_den bY) g4)
      walk_at "st"
      exact ⟨t4, t5, _, _, rfl, s5.seq hL4, SqT.of (s5 _ _ ht4), SqT.of ht5, bx4.mono (by decide), by5.mono (by decide)⟩
    · walk_at "st"
      exact ⟨t, u, x, y, rfl, hL3, SqT.of ht3, SqT.of hu, bx.mono (by decide), bY.mono (by decide)⟩
  clear hx hy bx bY ht ht3 hu hL hL2 hL3
  rintro σ H4 ⟨t, u, x, y, rfl, hL, ht, hu, bx, bY⟩
  refine Pm.w_cut (fun σ' H' => ∃ (u : Addr) (y : Rat), σ' = [some (.ref a), some (.ref p), some (.ref t), some (.ref u), none, none, none, none, none] ∧ H' = H4 ∧ SqT K H4 u [.int y.num, .int y.den] ∧ rb y 300) ?_ ?_
  · walk_at "st"
    refine Pm.w_ixL hL (atI_int (by omega) (by omega)) ?_
    walk_at "st"
    refine Pm.w_ite (fun e => ?_) (fun e => ?_)
    · walk_at "st"
      exact ⟨t, x, rfl, rfl, ht, bx⟩
    · walk_at "st"
      exact ⟨u, y, rfl, rfl, hu, bY⟩
  clear hu bY
  rintro σ H5 ⟨u, y, rfl, rfl, hu, bY⟩
  have dx := rb_den bx
  have dy := rb_den bY
  have nx := bx.1
  have ny := bY.1
  have mm : ∀ {i j : Int}, i.natAbs < 2 ^ 300 → j.natAbs < 2 ^ 300 → CMulW i j := fun h k => wide_mul h k (by decide) (by decide) (by decide)
  have ml : ∀ {i j : Int}, i.natAbs < 2 ^ 300 → j.natAbs < 2 ^ 300 → (i * j).natAbs < 2 ^ 700 := fun h k => Nat.lt_of_lt_of_le (wide_lt h k) (Nat.pow_le_pow_right (by decide) (by decide))
  have ma : ∀ {i j k l : Int}, i.natAbs < 2 ^ 300 → j.natAbs < 2 ^ 300 → k.natAbs < 2 ^ 300 → l.natAbs < 2 ^ 300 → (i * j + k * l).natAbs < 2 ^ 700 := fun h k h' k' => Nat.lt_of_lt_of_le (wide_add (b := 0) (wide_lt h k) (wide_lt h' k')) (Nat.pow_le_pow_right (by decide) (by decide))
  have ms : ∀ {i j k l : Int}, i.natAbs < 2 ^ 300 → j.natAbs < 2 ^ 300 → k.natAbs < 2 ^ 300 → l.natAbs < 2 ^ 300 → (i * j - k * l).natAbs < 2 ^ 700 := fun h k h' k' => Nat.lt_of_lt_of_le (wide_sub (wide_lt h k) (wide_lt h' k')) (Nat.pow_le_pow_right (by decide) (by decide))
  walk_at "st"
  refine Pm.w_gtup ht rfl ?_
  walk_at "st"
  refine Pm.w_gtup hu rfl ?_
  walk_at "st"
  -- plus
  refine ⟨t, u, x, y, 300, 300, rfl, ht, hu, bx, bY, by decide, fun v1 H6 s6 nv1 hv1 => ?_⟩
  walk_at "st"
  refine Pm.w_i (mm nx dy) ?_
  walk_at "st"
  refine Pm.w_i (mm ny dx) ?_
  walk_at "st"
  refine Pm.w_i (mm dx dy) ?_
  walk_at "st"
  refine ⟨v1, x + y, _, _, 601, 700, rfl, SqT.of hv1, rb_add bx bY, by decide, ma nx dy ny dx, ml dx dy, by decide, den_mul x y, (plus_is x y).symm, fun H7 s7 => ?_⟩
  have s57 := s6.trans s7
  walk_at "st"
  -- less
  refine ⟨t, u, x, y, 300, 300, rfl, Same.tup s57 ht, Same.tup s57 hu, bx, bY, by decide, fun v2 H8 s8 nv2 hv2 => ?_⟩
  walk_at "st"
  refine Pm.w_i (mm nx dy) ?_
  walk_at "st"
  refine Pm.w_i (mm ny dx) ?_
  walk_at "st"
  refine Pm.w_i (mm dx dy) ?_
  walk_at "st"
  refine ⟨v2, x - y, _, _, 601, 700, rfl, SqT.of hv2, rb_sub bx bY, by decide, ms nx dy ny dx, ml dx dy, by decide, den_mul x y, (less_is x y).symm, fun H9 s9 => ?_⟩
  have s59 := s57.trans (s8.trans s9)
  walk_at "st"
  -- times
  refine ⟨t, u, x, y, 300, 300, rfl, Same.tup s59 ht, Same.tup s59 hu, bx, bY, by decide, fun v3 H10 s10 nv3 hv3 => ?_⟩
  walk_at "st"
  refine Pm.w_i (mm nx ny) ?_
  walk_at "st"
  refine Pm.w_i (mm dx dy) ?_
  walk_at "st"
  refine ⟨v3, x * y, _, _, 600, 700, rfl, SqT.of hv3, rb_mul bx bY, by decide, ml nx ny, ml dx dy, by decide, den_mul x y, (times_is x y).symm, fun H11 s11 => ?_⟩
  have s511 := s59.trans (s10.trans s11)
  have ht11 := Same.tup s511 ht
  have hu11 := Same.tup s511 hu
  walk_at "st"
  -- smaller
  refine ⟨t, u, x, y, 300, 300, rfl, ht11, hu11, bx, bY, by decide, ?_⟩
  walk_at "st"
  refine Pm.w_isiBl (b := true) (by decide +kernel) ?_
  walk_at "st"
  refine Pm.w_i (mm nx dy) ?_
  walk_at "st"
  refine Pm.w_i (mm ny dx) ?_
  walk_at "st"
  rw [lt_dec x y, show ∀ b : Bool, (!(b == b)) = false from fun b => by cases b <;> rfl]
  walk_at "st"
  refine Pm.w_ite (fun e => ?_) (fun e => ?_)
  · have y0 : y = 0 := Rat.num_eq_zero.mp e
    subst y0
    walk_at "st"
    exact ⟨t, u, x, 300, rfl, ht11, hu11, bx, by decide, q⟩
  · have y0 : y ≠ 0 := fun z => e (Rat.num_eq_zero.mpr z)
    walk_at "st"
    refine ⟨t, u, x, y, 300, 300, rfl, ht11, hu11, bx, bY, by decide, fun z => absurd z y0, fun _ v4 H12 s12 nv4 hv4 => ?_⟩
    walk_at "st"
    refine Pm.w_i (mm nx dy) ?_
    walk_at "st"
    refine Pm.w_i (mm dx ny) ?_
    walk_at "st"
    exact ⟨v4, x / y, _, _, 600, 700, rfl, SqT.of hv4, rb_quot y0 bx bY, by decide, ml nx dy, ml dx ny, by decide, Int.mul_ne_zero (den_ne x) e, (over_is x y).symm, fun H13 s13 => q _⟩
end
/-! ### what the top has written; the end -/
def tx_mk {K : PySem.W.Frag} {h : Heap} {mg : Str → Option Value} (X : K.In h) (G : h.Ns mainGlobals mg)
    {f_0 : Addr} {od_0 an_0 : Option Addr} {sl_0 : Array (Option Value)} {oc_0 kV_0 dc_0 pm_0 cd_0 ct_0 : Value}
    {f_1 : Addr} {od_1 an_1 : Option Addr} {sl_1 : Array (Option Value)} {oc_1 kV_1 dc_1 pm_1 cd_1 ct_1 : Value}
    {f_2 : Addr} {od_2 an_2 : Option Addr} {sl_2 : Array (Option Value)} {oc_2 kV_2 dc_2 pm_2 cd_2 ct_2 : Value}
    {f_3 : Addr} {od_3 an_3 : Option Addr} {sl_3 : Array (Option Value)} {oc_3 kV_3 dc_3 pm_3 cd_3 ct_3 : Value}
    {f_4 : Addr} {od_4 an_4 : Option Addr} {sl_4 : Array (Option Value)} {oc_4 kV_4 dc_4 pm_4 cd_4 ct_4 : Value}
    {f_5 : Addr} {od_5 an_5 : Option Addr} {sl_5 : Array (Option Value)} {oc_5 kV_5 dc_5 pm_5 cd_5 ct_5 : Value}
    {f_6 : Addr} {od_6 an_6 : Option Addr} {sl_6 : Array (Option Value)} {oc_6 kV_6 dc_6 pm_6 cd_6 ct_6 : Value}
    {f_7 : Addr} {od_7 an_7 : Option Addr} {sl_7 : Array (Option Value)} {oc_7 kV_7 dc_7 pm_7 cd_7 ct_7 : Value}
    {f_8 : Addr} {od_8 an_8 : Option Addr} {sl_8 : Array (Option Value)} {oc_8 kV_8 dc_8 pm_8 cd_8 ct_8 : Value}
    {f_9 : Addr} {od_9 an_9 : Option Addr} {sl_9 : Array (Option Value)} {oc_9 kV_9 dc_9 pm_9 cd_9 ct_9 : Value}
    {f_10 : Addr} {od_10 an_10 : Option Addr} {sl_10 : Array (Option Value)} {oc_10 kV_10 dc_10 pm_10 cd_10 ct_10 : Value}
    {f_11 : Addr} {od_11 an_11 : Option Addr} {sl_11 : Array (Option Value)} {oc_11 kV_11 dc_11 pm_11 cd_11 ct_11 : Value}
    {f_12 : Addr} {od_12 an_12 : Option Addr} {sl_12 : Array (Option Value)} {oc_12 kV_12 dc_12 pm_12 cd_12 ct_12 : Value}
    {f_13 : Addr} {od_13 an_13 : Option Addr} {sl_13 : Array (Option Value)} {oc_13 kV_13 dc_13 pm_13 cd_13 ct_13 : Value}
    {C_NoFraction : Addr}
    {C_MeadError : Addr}
    (a0 : PySem.W.nsIn K mainGlobals "measure" = some (some (.ref f_0)))
    (l0 : K.lookup f_0 = some ⟨oc_0, od_0, .func (PySem.W.fnOf "measure" "measure" (defArgs s_measure) (defBody s_measure) (defScope s_measure) .none kV_0 dc_0 pm_0 an_0 cd_0 ct_0), sl_0⟩)
    (c0 : PySem.W.codeIn K cd_0 "measure" = true)
    (k0 : PySem.W.keepIn K (.ref f_0) = true)
    (a1 : PySem.W.nsIn K mainGlobals "lowest" = some (some (.ref f_1)))
    (l1 : K.lookup f_1 = some ⟨oc_1, od_1, .func (PySem.W.fnOf "lowest" "lowest" (defArgs s_lowest) (defBody s_lowest) (defScope s_lowest) .none kV_1 dc_1 pm_1 an_1 cd_1 ct_1), sl_1⟩)
    (c1 : PySem.W.codeIn K cd_1 "lowest" = true)
    (k1 : PySem.W.keepIn K (.ref f_1) = true)
    (a2 : PySem.W.nsIn K mainGlobals "plus" = some (some (.ref f_2)))
    (l2 : K.lookup f_2 = some ⟨oc_2, od_2, .func (PySem.W.fnOf "plus" "plus" (defArgs s_plus) (defBody s_plus) (defScope s_plus) .none kV_2 dc_2 pm_2 an_2 cd_2 ct_2), sl_2⟩)
    (c2 : PySem.W.codeIn K cd_2 "plus" = true)
    (k2 : PySem.W.keepIn K (.ref f_2) = true)
    (a3 : PySem.W.nsIn K mainGlobals "less" = some (some (.ref f_3)))
    (l3 : K.lookup f_3 = some ⟨oc_3, od_3, .func (PySem.W.fnOf "less" "less" (defArgs s_less) (defBody s_less) (defScope s_less) .none kV_3 dc_3 pm_3 an_3 cd_3 ct_3), sl_3⟩)
    (c3 : PySem.W.codeIn K cd_3 "less" = true)
    (k3 : PySem.W.keepIn K (.ref f_3) = true)
    (a4 : PySem.W.nsIn K mainGlobals "times" = some (some (.ref f_4)))
    (l4 : K.lookup f_4 = some ⟨oc_4, od_4, .func (PySem.W.fnOf "times" "times" (defArgs s_times) (defBody s_times) (defScope s_times) .none kV_4 dc_4 pm_4 an_4 cd_4 ct_4), sl_4⟩)
    (c4 : PySem.W.codeIn K cd_4 "times" = true)
    (k4 : PySem.W.keepIn K (.ref f_4) = true)
    (a5 : PySem.W.nsIn K mainGlobals "over" = some (some (.ref f_5)))
    (l5 : K.lookup f_5 = some ⟨oc_5, od_5, .func (PySem.W.fnOf "over" "over" (defArgs s_over) (defBody s_over) (defScope s_over) .none kV_5 dc_5 pm_5 an_5 cd_5 ct_5), sl_5⟩)
    (c5 : PySem.W.codeIn K cd_5 "over" = true)
    (k5 : PySem.W.keepIn K (.ref f_5) = true)
    (a6 : PySem.W.nsIn K mainGlobals "smaller" = some (some (.ref f_6)))
    (l6 : K.lookup f_6 = some ⟨oc_6, od_6, .func (PySem.W.fnOf "smaller" "smaller" (defArgs s_smaller) (defBody s_smaller) (defScope s_smaller) .none kV_6 dc_6 pm_6 an_6 cd_6 ct_6), sl_6⟩)
    (c6 : PySem.W.codeIn K cd_6 "smaller" = true)
    (k6 : PySem.W.keepIn K (.ref f_6) = true)
    (a7 : PySem.W.nsIn K mainGlobals "_law_flow" = some (some (.ref f_7)))
    (l7 : K.lookup f_7 = some ⟨oc_7, od_7, .func (PySem.W.fnOf "_law_flow" "_law_flow" (defArgs s_law_flow) (defBody s_law_flow) (defScope s_law_flow) .none kV_7 dc_7 pm_7 an_7 cd_7 ct_7), sl_7⟩)
    (c7 : PySem.W.codeIn K cd_7 "_law_flow" = true)
    (k7 : PySem.W.keepIn K (.ref f_7) = true)
    (a8 : PySem.W.nsIn K mainGlobals "_law_whole" = some (some (.ref f_8)))
    (l8 : K.lookup f_8 = some ⟨oc_8, od_8, .func (PySem.W.fnOf "_law_whole" "_law_whole" (defArgs s_law_whole) (defBody s_law_whole) (defScope s_law_whole) .none kV_8 dc_8 pm_8 an_8 cd_8 ct_8), sl_8⟩)
    (c8 : PySem.W.codeIn K cd_8 "_law_whole" = true)
    (k8 : PySem.W.keepIn K (.ref f_8) = true)
    (a9 : PySem.W.nsIn K mainGlobals "_law_low" = some (some (.ref f_9)))
    (l9 : K.lookup f_9 = some ⟨oc_9, od_9, .func (PySem.W.fnOf "_law_low" "_law_low" (defArgs s_law_low) (defBody s_law_low) (defScope s_law_low) .none kV_9 dc_9 pm_9 an_9 cd_9 ct_9), sl_9⟩)
    (c9 : PySem.W.codeIn K cd_9 "_law_low" = true)
    (k9 : PySem.W.keepIn K (.ref f_9) = true)
    (a10 : PySem.W.nsIn K mainGlobals "_law_part" = some (some (.ref f_10)))
    (l10 : K.lookup f_10 = some ⟨oc_10, od_10, .func (PySem.W.fnOf "_law_part" "_law_part" (defArgs s_law_part) (defBody s_law_part) (defScope s_law_part) .none kV_10 dc_10 pm_10 an_10 cd_10 ct_10), sl_10⟩)
    (c10 : PySem.W.codeIn K cd_10 "_law_part" = true)
    (k10 : PySem.W.keepIn K (.ref f_10) = true)
    (a11 : PySem.W.nsIn K mainGlobals "_law_refused" = some (some (.ref f_11)))
    (l11 : K.lookup f_11 = some ⟨oc_11, od_11, .func (PySem.W.fnOf "_law_refused" "_law_refused" (defArgs s_law_refused) (defBody s_law_refused) (defScope s_law_refused) .none kV_11 dc_11 pm_11 an_11 cd_11 ct_11), sl_11⟩)
    (c11 : PySem.W.codeIn K cd_11 "_law_refused" = true)
    (k11 : PySem.W.keepIn K (.ref f_11) = true)
    (a12 : PySem.W.nsIn K mainGlobals "_law_is" = some (some (.ref f_12)))
    (l12 : K.lookup f_12 = some ⟨oc_12, od_12, .func (PySem.W.fnOf "_law_is" "_law_is" (defArgs s_law_is) (defBody s_law_is) (defScope s_law_is) .none kV_12 dc_12 pm_12 an_12 cd_12 ct_12), sl_12⟩)
    (c12 : PySem.W.codeIn K cd_12 "_law_is" = true)
    (k12 : PySem.W.keepIn K (.ref f_12) = true)
    (a13 : PySem.W.nsIn K mainGlobals "law" = some (some (.ref f_13)))
    (l13 : K.lookup f_13 = some ⟨oc_13, od_13, .func (PySem.W.fnOf "law" "law" (defArgs s_law) (defBody s_law) (defScope s_law) .none kV_13 dc_13 pm_13 an_13 cd_13 ct_13), sl_13⟩)
    (c13 : PySem.W.codeIn K cd_13 "law" = true)
    (k13 : PySem.W.keepIn K (.ref f_13) = true)
    (z_abs : PySem.W.nsIn K mainGlobals "abs" = some none)
    (z_range : PySem.W.nsIn K mainGlobals "range" = some none)
    (z_len : PySem.W.nsIn K mainGlobals "len" = some none)
    (z_isinstance : PySem.W.nsIn K mainGlobals "isinstance" = some none)
    (z_int : PySem.W.nsIn K mainGlobals "int" = some none)
    (z_bool : PySem.W.nsIn K mainGlobals "bool" = some none)
    (z_tuple : PySem.W.nsIn K mainGlobals "tuple" = some none)
    (ca_NoFraction : PySem.W.nsIn K mainGlobals "NoFraction" = some (some (.ref C_NoFraction)))
    (cx_NoFraction : PySem.W.excIn K C_NoFraction [.type "ValueError", .type "Exception", .type "BaseException", .type "object"] "ValueError.__new__" = true)
    (ck_NoFraction : PySem.W.keepIn K (.ref C_NoFraction) = true)
    (cb_NoFraction : PySem.W.subIn K (.ref C_NoFraction) (.type "BaseException") = some true)
    (ct_NoFraction : PySem.W.typeIn K (.ref C_NoFraction) = some (.type "type"))
    (ci_NoFraction : PySem.W.isClsIn K C_NoFraction = true)
    (cz_NoFraction : PySem.W.subIn K (.ref C_NoFraction) (.ref C_NoFraction) = some true)
    (ca_MeadError : PySem.W.nsIn K mainGlobals "MeadError" = some (some (.ref C_MeadError)))
    (cx_MeadError : PySem.W.excIn K C_MeadError [.type "ValueError", .type "Exception", .type "BaseException", .type "object"] "ValueError.__new__" = true)
    (ck_MeadError : PySem.W.keepIn K (.ref C_MeadError) = true)
    (cb_MeadError : PySem.W.subIn K (.ref C_MeadError) (.type "BaseException") = some true)
    (ct_MeadError : PySem.W.typeIn K (.ref C_MeadError) = some (.type "type"))
    (ci_MeadError : PySem.W.isClsIn K C_MeadError = true)
    (cz_MeadError : PySem.W.subIn K (.ref C_MeadError) (.ref C_MeadError) = some true)
    (fx_ex1_NoFraction : PySem.W.findIn K (.ref C_NoFraction) "__getattribute__" = some (some (.builtin "BaseException.__getattribute__")))
    (fx_ex2_NoFraction : PySem.W.findIn K (.ref C_NoFraction) "__getattr__" = some none)
    (fx_ex3_NoFraction : PySem.W.hasDictIn K C_NoFraction = true)
    (fx_ex4_NoFraction : PySem.W.findIn K (.ref C_NoFraction) "__class__" = some (some (.builtin "object.__class__")))
    (fx_ex5_NoFraction : PySem.W.specialIn K (.builtin "object.__class__") "__get__" = some (some (.builtin "getset_descriptor.__get__")))
    (fx_ex6_NoFraction : PySem.W.takesIn K (.builtin "object.__class__") = some true)
    (fx_ex7_NoFraction : PySem.W.mroIn K C_NoFraction (.type "object") = some true)
    (fx_kit_NoFraction_MeadError : PySem.W.kitOne K (.ref C_NoFraction) (.ref C_MeadError) = some true)
    (fx_exm_NoFraction_MeadError : PySem.W.exmOne K (.ref C_NoFraction) (.ref C_MeadError) = some true)
    (fx_kit_NoFraction_NoFraction : PySem.W.kitOne K (.ref C_NoFraction) (.ref C_NoFraction) = some true)
    (fx_exm_NoFraction_NoFraction : PySem.W.exmOne K (.ref C_NoFraction) (.ref C_NoFraction) = some true) : Tx K mg :=
  { a_measure := f_0, fd_measure := _, F_measure := fun_mk (st := s_measure) l0 c0 k0, g_measure := PySem.W.mg_of X G a0, b_measure := (fun_mk (st := s_measure) l0 c0 k0).binds (ps := ["one", "other"]) fun _ _ _ _ _ _ us hl => match us, hl with | [_, _], _ => rfl,
    a_lowest := f_1, fd_lowest := _, F_lowest := fun_mk (st := s_lowest) l1 c1 k1, g_lowest := PySem.W.mg_of X G a1, b_lowest := (fun_mk (st := s_lowest) l1 c1 k1).binds (ps := ["top", "bottom"]) fun _ _ _ _ _ _ us hl => match us, hl with | [_, _], _ => rfl,
    a_plus := f_2, fd_plus := _, F_plus := fun_mk (st := s_plus) l2 c2 k2, g_plus := PySem.W.mg_of X G a2, b_plus := (fun_mk (st := s_plus) l2 c2 k2).binds (ps := ["one", "other"]) fun _ _ _ _ _ _ us hl => match us, hl with | [_, _], _ => rfl,
    a_less := f_3, fd_less := _, F_less := fun_mk (st := s_less) l3 c3 k3, g_less := PySem.W.mg_of X G a3, b_less := (fun_mk (st := s_less) l3 c3 k3).binds (ps := ["one", "other"]) fun _ _ _ _ _ _ us hl => match us, hl with | [_, _], _ => rfl,
    a_times := f_4, fd_times := _, F_times := fun_mk (st := s_times) l4 c4 k4, g_times := PySem.W.mg_of X G a4, b_times := (fun_mk (st := s_times) l4 c4 k4).binds (ps := ["one", "other"]) fun _ _ _ _ _ _ us hl => match us, hl with | [_, _], _ => rfl,
    a_over := f_5, fd_over := _, F_over := fun_mk (st := s_over) l5 c5 k5, g_over := PySem.W.mg_of X G a5, b_over := (fun_mk (st := s_over) l5 c5 k5).binds (ps := ["one", "other"]) fun _ _ _ _ _ _ us hl => match us, hl with | [_, _], _ => rfl,
    a_smaller := f_6, fd_smaller := _, F_smaller := fun_mk (st := s_smaller) l6 c6 k6, g_smaller := PySem.W.mg_of X G a6, b_smaller := (fun_mk (st := s_smaller) l6 c6 k6).binds (ps := ["one", "other"]) fun _ _ _ _ _ _ us hl => match us, hl with | [_, _], _ => rfl,
    a_law_flow := f_7, fd_law_flow := _, F_law_flow := fun_mk (st := s_law_flow) l7 c7 k7, g_law_flow := PySem.W.mg_of X G a7, b_law_flow := (fun_mk (st := s_law_flow) l7 c7 k7).binds (ps := ["_law_script", "_law_many"]) fun _ _ _ _ _ _ us hl => match us, hl with | [_, _], _ => rfl,
    a_law_whole := f_8, fd_law_whole := _, F_law_whole := fun_mk (st := s_law_whole) l8 c8 k8, g_law_whole := PySem.W.mg_of X G a8, b_law_whole := (fun_mk (st := s_law_whole) l8 c8 k8).binds (ps := ["_law_found"]) fun _ _ _ _ _ _ us hl => match us, hl with | [_], _ => rfl,
    a_law_low := f_9, fd_law_low := _, F_law_low := fun_mk (st := s_law_low) l9 c9 k9, g_law_low := PySem.W.mg_of X G a9, b_law_low := (fun_mk (st := s_law_low) l9 c9 k9).binds (ps := ["_law_top", "_law_bottom"]) fun _ _ _ _ _ _ us hl => match us, hl with | [_, _], _ => rfl,
    a_law_part := f_10, fd_law_part := _, F_law_part := fun_mk (st := s_law_part) l10 c10 k10, g_law_part := PySem.W.mg_of X G a10, b_law_part := (fun_mk (st := s_law_part) l10 c10 k10).binds (ps := ["_law_found"]) fun _ _ _ _ _ _ us hl => match us, hl with | [_], _ => rfl,
    a_law_refused := f_11, fd_law_refused := _, F_law_refused := fun_mk (st := s_law_refused) l11 c11 k11, g_law_refused := PySem.W.mg_of X G a11, b_law_refused := (fun_mk (st := s_law_refused) l11 c11 k11).binds (ps := ["_law_one", "_law_other"]) fun _ _ _ _ _ _ us hl => match us, hl with | [_, _], _ => rfl,
    a_law_is := f_12, fd_law_is := _, F_law_is := fun_mk (st := s_law_is) l12 c12 k12, g_law_is := PySem.W.mg_of X G a12, b_law_is := (fun_mk (st := s_law_is) l12 c12 k12).binds (ps := ["_law_found", "_law_top", "_law_bottom"]) fun _ _ _ _ _ _ us hl => match us, hl with | [_, _, _], _ => rfl,
    a_law := f_13, fd_law := _, F_law := fun_mk (st := s_law) l13 c13 k13, g_law := PySem.W.mg_of X G a13, b_law := (fun_mk (st := s_law) l13 c13 k13).binds (ps := ["_law_script"]) fun _ _ _ _ _ _ us hl => match us, hl with | [_], _ => rfl,
    m_abs := PySem.W.mg_none_of X G z_abs,
    m_range := PySem.W.mg_none_of X G z_range,
    m_len := PySem.W.mg_none_of X G z_len,
    m_isinstance := PySem.W.mg_none_of X G z_isinstance,
    m_int := PySem.W.mg_none_of X G z_int,
    m_bool := PySem.W.mg_none_of X G z_bool,
    m_tuple := PySem.W.mg_none_of X G z_tuple,
    c_NoFraction := C_NoFraction, g_NoFraction := PySem.W.mg_of X G ca_NoFraction, x_NoFraction := cx_NoFraction, k_NoFraction := ck_NoFraction, b_NoFraction := cb_NoFraction, t_NoFraction := ct_NoFraction, i_NoFraction := ci_NoFraction, z_NoFraction := cz_NoFraction,
    c_MeadError := C_MeadError, g_MeadError := PySem.W.mg_of X G ca_MeadError, x_MeadError := cx_MeadError, k_MeadError := ck_MeadError, b_MeadError := cb_MeadError, t_MeadError := ct_MeadError, i_MeadError := ci_MeadError, z_MeadError := cz_MeadError,
    ex1_NoFraction := fx_ex1_NoFraction,
    ex2_NoFraction := fx_ex2_NoFraction,
    ex3_NoFraction := fx_ex3_NoFraction,
    ex4_NoFraction := fx_ex4_NoFraction,
    ex5_NoFraction := fx_ex5_NoFraction,
    ex6_NoFraction := fx_ex6_NoFraction,
    ex7_NoFraction := fx_ex7_NoFraction,
    kit_NoFraction_MeadError := fx_kit_NoFraction_MeadError,
    exm_NoFraction_MeadError := fx_exm_NoFraction_MeadError,
    kit_NoFraction_NoFraction := fx_kit_NoFraction_NoFraction,
    exm_NoFraction_NoFraction := fx_exm_NoFraction_NoFraction }
theorem all_mk {l : PySem.W.OpenLaw} {w : World} {K : PySem.W.Frag} {mg : Str → Option Value} {fa : Addr} (hfa : mg "law" = some (.ref fa)) (T : Tx K mg) :
    ∃ fd : FuncData, (∀ (s : Shared) (v : Value), BindsTo s fd ⟨[v], []⟩ [("_law_script", v)]) ∧ ∀ base : Heap, K.In base → base.Ns mainGlobals mg → FnOk l.prog w K mg base CX0 5 fa fd ["_law_script"] (spLaw K) := by
  have e := hfa.symm.trans T.g_law
  cases e
  refine ⟨T.fd_law, fun s v => ?_, fun base _ _ => ok_law T⟩
  obtain ⟨oc, od, kV, doc, pm, an, cdv, ct, osl, e, lk, hcd⟩ := T.F_law.ex
  rw [e]
  exact .of_eq rfl
end Pm
open PySem PySem.W PyProof.Rows
set_option maxHeartbeats 0 in
theorem PySem.Challenge.cw_postmead_k02_fractions_reckoned_holds : PySem.Challenge.rw_postmead_k02_fractions_reckoned.Holds := by
  w_on; o_law; k_head; (case hw => w_witness2)
  k_fill
  refine L2.walk_of (l := PySem.Challenge.rw_postmead_k02_fractions_reckoned) (n := 63) (k := 5) (x := "_law_script") (CX := fun _ => L2.CX0) (sp := fun w => Pm.spLaw _) rfl (by decide) rfl ⟨rfl, by decide, by decide⟩ (fun w h Y => PySem.W.kIn_of Y) ?F (fun _ _ a ns hl _ hS => ⟨a, ns, rfl, hS, hl, fun _ => rfl⟩) (fun _ _ _ _ _ h => h)
  case F =>
    intro w mg fa h KX G hmg
    refine' Pm.all_mk hmg (Pm.tx_mk KX G ?a0 ?l0 ?c0 ?k0 ?a1 ?l1 ?c1 ?k1 ?a2 ?l2 ?c2 ?k2 ?a3 ?l3 ?c3 ?k3 ?a4 ?l4 ?c4 ?k4 ?a5 ?l5 ?c5 ?k5 ?a6 ?l6 ?c6 ?k6 ?a7 ?l7 ?c7 ?k7 ?a8 ?l8 ?c8 ?k8 ?a9 ?l9 ?c9 ?k9 ?a10 ?l10 ?c10 ?k10 ?a11 ?l11 ?c11 ?k11 ?a12 ?l12 ?c12 ?k12 ?a13 ?l13 ?c13 ?k13 ?z_abs ?z_range ?z_len ?z_isinstance ?z_int ?z_bool ?z_tuple ?ca_NoFraction ?cx_NoFraction ?ck_NoFraction ?cb_NoFraction ?ct_NoFraction ?ci_NoFraction ?cz_NoFraction ?ca_MeadError ?cx_MeadError ?ck_MeadError ?cb_MeadError ?ct_MeadError ?ci_MeadError ?cz_MeadError ?fx_ex1_NoFraction ?fx_ex2_NoFraction ?fx_ex3_NoFraction ?fx_ex4_NoFraction ?fx_ex5_NoFraction ?fx_ex6_NoFraction ?fx_ex7_NoFraction ?fx_kit_NoFraction_MeadError ?fx_exm_NoFraction_MeadError ?fx_kit_NoFraction_NoFraction ?fx_exm_NoFraction_NoFraction)
    (case a0 => k_is)
    (case l0 => k_is)
    (case c0 => k_is)
    (case k0 => k_is)
    (case a1 => k_is)
    (case l1 => k_is)
    (case c1 => k_is)
    (case k1 => k_is)
    (case a2 => k_is)
    (case l2 => k_is)
    (case c2 => k_is)
    (case k2 => k_is)
    (case a3 => k_is)
    (case l3 => k_is)
    (case c3 => k_is)
    (case k3 => k_is)
    (case a4 => k_is)
    (case l4 => k_is)
    (case c4 => k_is)
    (case k4 => k_is)
    (case a5 => k_is)
    (case l5 => k_is)
    (case c5 => k_is)
    (case k5 => k_is)
    (case a6 => k_is)
    (case l6 => k_is)
    (case c6 => k_is)
    (case k6 => k_is)
    (case a7 => k_is)
    (case l7 => k_is)
    (case c7 => k_is)
    (case k7 => k_is)
    (case a8 => k_is)
    (case l8 => k_is)
    (case c8 => k_is)
    (case k8 => k_is)
    (case a9 => k_is)
    (case l9 => k_is)
    (case c9 => k_is)
    (case k9 => k_is)
    (case a10 => k_is)
    (case l10 => k_is)
    (case c10 => k_is)
    (case k10 => k_is)
    (case a11 => k_is)
    (case l11 => k_is)
    (case c11 => k_is)
    (case k11 => k_is)
    (case a12 => k_is)
    (case l12 => k_is)
    (case c12 => k_is)
    (case k12 => k_is)
    (case a13 => k_is)
    (case l13 => k_is)
    (case c13 => k_is)
    (case k13 => k_is)
    (case z_abs => k_is)
    (case z_range => k_is)
    (case z_len => k_is)
    (case z_isinstance => k_is)
    (case z_int => k_is)
    (case z_bool => k_is)
    (case z_tuple => k_is)
    (case ca_NoFraction => k_is)
    (case cx_NoFraction => first | k_exc | k_is)
    (case ck_NoFraction => k_is)
    (case cb_NoFraction => k_is)
    (case ct_NoFraction => k_is)
    (case ci_NoFraction => k_is)
    (case cz_NoFraction => first | rfl | k_is)
    (case ca_MeadError => k_is)
    (case cx_MeadError => first | k_exc | k_is)
    (case ck_MeadError => k_is)
    (case cb_MeadError => k_is)
    (case ct_MeadError => k_is)
    (case ci_MeadError => k_is)
    (case cz_MeadError => first | rfl | k_is)
    (case fx_ex1_NoFraction => first | rfl | k_is)
    (case fx_ex2_NoFraction => first | rfl | k_is)
    (case fx_ex3_NoFraction => first | rfl | k_is)
    (case fx_ex4_NoFraction => first | rfl | k_is)
    (case fx_ex5_NoFraction => first | rfl | k_is)
    (case fx_ex6_NoFraction => first | rfl | k_is)
    (case fx_ex7_NoFraction => first | rfl | k_is)
    (case fx_kit_NoFraction_MeadError => first | rfl | k_is)
    (case fx_exm_NoFraction_MeadError => first | rfl | k_is)
    (case fx_kit_NoFraction_NoFraction => first | rfl | k_is)
    (case fx_exm_NoFraction_NoFraction => first | rfl | k_is)
#print axioms PySem.Challenge.cw_postmead_k02_fractions_reckoned_holds
