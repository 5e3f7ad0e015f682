import PyProof.Rows.All
import HandS.DictTup
import HandS.TupLen
import KE.KDictWalk
import KE.KDictCopyH
import KE.KDictOf
import HandS.Style
import HandS.SortInts
import KE.IntTextText
import HandS.TryMany
import HandS.CallSlots
import HandS.Head0
import HandS.Head1
import HandS.Head2
import HandS.HeadEnd
import HandS.HeadHook1
import HandS.HeadHook2
import Wide.All
import OpenK.AllK
import Wide.FinOn
import PySem.Challenge.RW_postmead_k03_fractions_written
import HandS.ForMost
import HandS.ForExc
import HandS.IsInst
import HandS.Deep
import HandS.Codes
import HandS.SortRule
import HandS.Wide
import HandS.ExcIs
import HandS.TryOnly
import HandS.TupLe
set_option Elab.async false
set_option linter.all false
set_option maxRecDepth 100000
set_option maxHeartbeats 4000000
namespace Pm
open PySem PySem.Spec PyProof.Rows L2
theorem size_ok {n : Nat} (h : n ≤ 16777216) : n ≤ sizeLine := by rw [sizeLine_eq]; exact h
theorem size_lt {n : Nat} (h : n < 16777216) : n < sizeLine := by rw [sizeLine_eq]; exact h
section
variable {X : Cx} {K : PySem.W.Frag}
theorem ix_listK (e : X.K = K := by rfl) : IxR X (rIxL K) := e ▸ ix_list
theorem ix_tupK (e : X.K = K := by rfl) : IxR X (rIxT K) := e ▸ ix_tup
theorem op_eqDK (hu : X.A.units + 64 < cLine) (e : X.K = K := by rfl) : OpR X (compareOp .Eq) (rEqD K) := e ▸ op_eqD hu
theorem op_neDK (hu : X.A.units + 64 < cLine) (e : X.K = K := by rfl) : OpR X (compareOp .NotEq) (rNeD K) := e ▸ op_neD hu
theorem call_isK (e : X.K = K := by rfl) : CallR X (.builtin "isinstance") (rIsi K) := e ▸ call_isi
theorem k_bm {ex : Expr} {T : String} {r : V → List V → Hp → VK → Prop} {to : TE} {t : TA} (h : PE X ex (tBM X.K T r to t)) (e : X.K = K := by rfl) : PE X ex (tBM K T r to t) := e ▸ h
end
/-- a op1 b op2 c op3 d -/
def tChain3 (r r' r'' : R2) (ta tb tc td : TE) : TE := fun σ H Q => ta σ H fun x H1 => tb σ H1 fun y H2 => r x y H2 fun z H3 => ∃ k, z = .bl k ∧
  (if k = true then tc σ H3 fun w' H4 => r' y w' H4 fun z' H5 => ∃ k', z' = .bl k' ∧ (if k' = true then td σ H5 fun v' H6 => r'' w' v' H6 Q else Q (.bl false) H5) else Q (.bl false) H3)
def rAbs : List V → Hp → VK → Prop := fun xs H Q => ∃ i, xs = [.int i] ∧ Q (.int (if i < 0 then -i else i)) H
theorem c_abs {X : Cx} : CallR X (.builtin "abs") rAbs := call_abs
def rMax2 : List V → Hp → VK → Prop := fun xs H Q => ∃ i j, xs = [.int i, .int j] ∧ Q (.int (if j > i then j else i)) H
def rMin2 : List V → Hp → VK → Prop := fun xs H Q => ∃ i j, xs = [.int i, .int j] ∧ Q (.int (if j < i then j else i)) H
def rLen (K : PySem.W.Frag) : List V → Hp → VK → Prop := fun xs H Q => ∃ p ys, xs = [.ref p] ∧ (SqL K H p ys ∨ SqT K H p ys) ∧ Q (.int ys.length) H
theorem c_len {X : Cx} {K : PySem.W.Frag} (e : X.K = K := by rfl) : CallR X (.builtin "len") (rLen K) := e ▸ call_len_seq
def rLenS : List V → Hp → VK → Prop := fun xs H Q => ∃ z : Str, xs = [.str z] ∧ z.length ≤ sizeLine ∧ Q (.int z.length) H
theorem c_lenS {X : Cx} : CallR X (.builtin "len") rLenS := call_len_str
def rInt1 : List V → Hp → VK → Prop := fun xs H Q => (∃ i, xs = [.int i] ∧ Q (.int i) H) ∨ ∃ k, xs = [.bl k] ∧ Q (.int (if k then 1 else 0)) H
def rCatS : R2 := fun x y H Q => ∃ i j, x = .str i ∧ y = .str j ∧ i.length + j.length ≤ sizeLine ∧ Q (.str (i ++ j)) H
theorem o_catS {X : Cx} : OpR X (binaryOp .Add) rCatS := op_add_str
def TupK (Q : VK) : List V → Hp → Prop := fun xs H1 => xs.length ≤ sizeLine ∧ ∀ p, H1 p = none → Q (.ref p) (upd H1 p (.tup xs))
def LstK (Q : VK) : List V → Hp → Prop := fun xs H1 => xs.length ≤ sizeLine ∧ ∀ p, H1 p = none → Q (.ref p) (upd H1 p (.lst xs))
/-- isinstance(e, c) of the exception at a that an except suite holds (its class cls, its dict d) -/
def rIsX (K : PySem.W.Frag) (cls : Value) (d : Option Addr) (a : Addr) : List V → Hp → VK → Prop := fun xs H Q => ∃ (D : Addr) (c : V) (cv : Value) (b : Bool), cls = .ref D ∧ d = none ∧ ExcC K D ∧ xs = [.ref a, c] ∧ (∀ u, RelV c u → u = cv) ∧ PySem.W.kitOne K (.ref D) cv = some b ∧ Q (.bl b) H
theorem c_isX {X : Cx} {K : PySem.W.Frag} {a : Addr} {oe : Obj} {cls : Value} {d : Option Addr} {pn : List (Addr × Obj)} (hz : Zc cls d oe) (hf : ∃ vs, oe.data = .fields vs) (e : X.K = K := by rfl) : CallR (X.suite a ((a, oe) :: pn)) (.builtin "isinstance") (rIsX K cls d a) := by
  subst e
  intro pins s σ H xs us Q I r h
  obtain ⟨D, c, cv, b, rfl, rfl, C, ex, hc, k, q⟩ := h
  exact call_isE C hz hf pins s σ H xs us Q I r ⟨c, cv, b, ex, hc, k, q⟩
/-- what is asked of a for's body, once what is walked is there -/
def ForB (g : TG) (t : TS) (nx : L2.St → Hp → Prop) (rt : VK) (σ : L2.St) : It → Hp → Prop := fun J H1 => ∃ W : Nat → Nat → L2.St → Hp → Prop, (∃ m, W 0 m σ H1) ∧ ∀ i m σ H, W i m σ H →
  (J.stop i H ∧ nx σ H) ∨ (J.go i H ∧ ∃ N : L2.St → Hp → Prop, (∀ σ' H', N σ' H' → ∃ m', m' < m ∧ W (i + 1) m' σ' H') ∧ ∀ x H', J.yld i H x H' → g x σ H' fun σ2 H2 => t ⟨N, rt, nx, N⟩ σ2 H2)
def WhB (t : TS) (nx : L2.St → Hp → Prop) (rt : VK) (Pv : Nat → L2.St → Hp → Prop) (m : Nat) (σ : L2.St) : Bool → Hp → Prop := fun b H1 => if b = true then ∃ N : L2.St → Hp → Prop, (∀ σ' H', N σ' H' → ∃ m', m' < m ∧ Pv m' σ' H') ∧ t ⟨N, rt, nx, N⟩ σ H1 else nx σ H1
def ParK (i j : Nat) (nx : L2.St → Hp → Prop) (σ : L2.St) : List V → Hp → Prop := fun vs H1 => ∃ v w, vs = [v, w] ∧ nx ((σ.set i (some v)).set j (some w)) H1
def PartK (O : Option Int → Hp → Prop) : VK := fun x H1 => ∃ i, x = .int i ∧ O (some i) H1
def DPK (nx : L2.St → Hp → Prop) (σ : L2.St) (v x : V) : VK := fun y H3 => ∃ a H4, x = .ref a ∧ DPut H3 a y v H4 ∧ nx σ H4
def DInK (y : V) (Q : VK) : VK := fun x H2 => ∃ a o, x = .ref a ∧ DGet H2 a y o ∧ Q (.bl o.isSome) H2
def DNotInK (y : V) (Q : VK) : VK := fun x H2 => ∃ a o, x = .ref a ∧ DGet H2 a y o ∧ Q (.bl (!o.isSome)) H2
def DGK (x : V) (Q : VK) : VK := fun y H2 => ∃ a v, x = .ref a ∧ DGet H2 a y (some v) ∧ Q v H2
def RdL (K : PySem.W.Frag) (R : It → Hp → Prop) : VK := fun x H1 => ∃ a, x = .ref a ∧ (∃ xs, SqL K H1 a xs) ∧ R (Itl K a) H1
def RdT (K : PySem.W.Frag) (R : It → Hp → Prop) : VK := fun x H1 => ∃ a, x = .ref a ∧ (∃ xs, SqT K H1 a xs) ∧ R (Itt K a) H1
def Rg1 (R : It → Hp → Prop) : List V → Hp → Prop := fun vs H1 => ∃ j : Int, vs = [.int j] ∧ -(2 ^ 62) ≤ j ∧ j < 2 ^ 62 ∧ R (Itr 0 j.toNat) H1
def Rg2 (R : It → Hp → Prop) : List V → Hp → Prop := fun vs H1 => ∃ i j : Int, vs = [.int i, .int j] ∧ (-(2 ^ 62) ≤ i ∧ i < 2 ^ 62 ∧ -(2 ^ 62) ≤ j ∧ j < 2 ^ 62) ∧ R (Itr i (j - i).toNat) H1
/-- what is asked of a list comprehension, once what is walked is there -/
def LcB (g : TG) (tt : TT) (te : TE) (vs : List Nat) (σ : L2.St) (Q : VK) : It → Hp → Prop := fun J H1 => ∀ D, H1 D = none → ∃ W : Nat → Nat → Hp → Prop, (∃ m, W 0 m (upd H1 D (.lst []))) ∧ ∀ i m H, W i m H →
  (J.stop i H ∧ Q (.ref D) H) ∨ (J.go i H ∧ ∃ Nx : Hp → Prop, (∀ H', Nx H' → ∃ m', m' < m ∧ W (i + 1) m' H') ∧ ∀ x H', J.yld i H x H' → g x (wipe σ vs) H' fun σ2 H2 => wipe σ2 vs = wipe σ vs ∧ tt σ2 H2 fun b H3 =>
    if b = true then te σ2 H3 fun y H4 => ∃ acc, H4 D = some (.lst acc) ∧ acc.length < sizeLine ∧ Nx (upd H4 D (.lst (acc ++ [y]))) else Nx H3)
/-- a turn of a comprehension: the item put behind the list at D -/
def LcPut (D : Addr) (Nx : Hp → Prop) : VK := fun y H4 => ∃ acc, H4 D = some (.lst acc) ∧ acc.length < sizeLine ∧ Nx (upd H4 D (.lst (acc ++ [y])))
def LcTurn (tt : TT) (te : TE) (vs : List Nat) (σ : L2.St) (D : Addr) (Nx : Hp → Prop) : L2.St → Hp → Prop := fun σ2 H2 => wipe σ2 vs = wipe σ vs ∧ tt σ2 H2 fun b H3 => if b = true then te σ2 H3 (LcPut D Nx) else Nx H3
section
variable {nx bk ct : L2.St → Hp → Prop} {rt : VK} {σ : L2.St} {H : Hp} {t u : TS} {te ta tb tc : TE} {g : TG} {Q : VK} {B : Bool → Hp → Prop} {c c' : TT} {L : List V → Hp → Prop}
theorem w_seq (h : t ⟨u ⟨nx, rt, bk, ct⟩, rt, bk, ct⟩ σ H) : tSeq t u ⟨nx, rt, bk, ct⟩ σ H := h
theorem w_cut (Mid : L2.St → Hp → Prop) (h : t ⟨Mid, rt, bk, ct⟩ σ H) (h2 : ∀ σ' H', Mid σ' H' → u ⟨nx, rt, bk, ct⟩ σ' H') : C8.tCut t u ⟨nx, rt, bk, ct⟩ σ H := ⟨Mid, h, h2⟩
theorem w_asg (h : te σ H fun x H1 => g x σ H1 nx) : tAsg te g ⟨nx, rt, bk, ct⟩ σ H := h
theorem w_drop (h : te σ H fun _ H1 => nx σ H1) : tDrop te ⟨nx, rt, bk, ct⟩ σ H := h
theorem w_ret (h : te σ H rt) : tRet te ⟨nx, rt, bk, ct⟩ σ H := h
theorem w_retN (h : rt .non H) : tRetN ⟨nx, rt, bk, ct⟩ σ H := h
theorem w_next (h : nx σ H) : tNext ⟨nx, rt, bk, ct⟩ σ H := h
theorem w_brk (h : bk σ H) : tBreak ⟨nx, rt, bk, ct⟩ σ H := h
theorem w_cont (h : ct σ H) : tCont ⟨nx, rt, bk, ct⟩ σ H := h
theorem w_if (h : c σ H fun b H1 => if b = true then t ⟨nx, rt, bk, ct⟩ σ H1 else u ⟨nx, rt, bk, ct⟩ σ H1) : tIfS c t u ⟨nx, rt, bk, ct⟩ σ H := h
theorem w_par {i j : Nat} {t : TA} (h : t σ H (ParK i j nx σ)) : tPar i j t ⟨nx, rt, bk, ct⟩ σ H := h
theorem w_par2 {v w : V} {i j : Nat} (h : nx ((σ.set i (some v)).set j (some w)) H) : ParK i j nx σ [v, w] H := ⟨v, w, rfl, h⟩
theorem w_gname {v : V} {i : Nat} {R : L2.St → Hp → Prop} (h : R (σ.set i (some v)) H) : gName i v σ H R := h
theorem w_gcons {t : TG} {u : TGs} {v : V} {r : List V} {R : L2.St → Hp → Prop} (h : t v σ H fun σ' H' => u r σ' H' R) : gCons t u (v :: r) σ H R := ⟨v, r, rfl, h⟩
theorem w_gnil {R : L2.St → Hp → Prop} (h : R σ H) : gNil [] σ H R := ⟨rfl, h⟩
theorem w_gsub {to ti : TE} {t : TSet} {v : V} {R : L2.St → Hp → Prop} (h : to σ H fun o H1 => ti σ H1 fun i H2 => t o i v H2 fun H3 => R σ H3) : gSub to ti t v σ H R := h
theorem w_var {i : Nat} {v : V} (e : σ[i]? = some (some v)) (h : Q v H) : tVar i σ H Q := ⟨v, e, h⟩
theorem w_c {v : V} (h : Q v H) : tC v σ H Q := h
theorem w_op {r : R2} (h : ta σ H fun x H1 => tb σ H1 fun y H2 => r x y H2 Q) : tOp r ta tb σ H Q := h
theorem w_un {r : V → Hp → VK → Prop} (h : ta σ H fun x H1 => r x H1 Q) : tUn r ta σ H Q := h
theorem w_i0 {k : Int → Int → V} {i j : Int} (h : Q (k i j) H) : rI0 k (.int i) (.int j) H Q := ⟨i, j, rfl, rfl, h⟩
theorem w_i {C : Int → Int → Prop} {k : Int → Int → V} {i j : Int} (hc : C i j) (h : Q (k i j) H) : rI C k (.int i) (.int j) H Q := ⟨i, j, rfl, rfl, hc, h⟩
theorem w_u {k : Int → V} {i : Int} (h : Q (k i) H) : rU k (.int i) H Q := ⟨i, rfl, h⟩
theorem w_eqi {i j : Int} (h : Q (.bl (decide (i = j))) H) : rEq (.int i) (.int j) H Q := by
  refine ⟨rfl, ?_⟩
  have e : decide (V.int i = V.int j) = decide (i = j) := by simp
  rw [e]; exact h
theorem w_nei {i j : Int} (h : Q (.bl (!decide (i = j))) H) : rNe (.int i) (.int j) H Q := by
  refine ⟨rfl, ?_⟩
  have e : decide (V.int i = V.int j) = decide (i = j) := by simp
  rw [e]; exact h
theorem w_eqb {i j : Bool} (h : Q (.bl (i == j)) H) : rEq (.bl i) (.bl j) H Q := by
  refine ⟨rfl, ?_⟩
  have e : decide (V.bl i = V.bl j) = (i == j) := by cases i <;> cases j <;> rfl
  rw [e]; exact h
theorem w_neb {i j : Bool} (h : Q (.bl (!(i == j))) H) : rNe (.bl i) (.bl j) H Q := by
  refine ⟨rfl, ?_⟩
  have e : decide (V.bl i = V.bl j) = (i == j) := by cases i <;> cases j <;> rfl
  rw [e]; exact h
theorem w_eqs {i j : Str} (h : Q (.bl (decide (i = j))) H) : rEq (.str i) (.str j) H Q := by
  refine ⟨rfl, ?_⟩
  have e : decide (V.str i = V.str j) = decide (i = j) := by simp
  rw [e]; exact h
theorem w_cb {r : List V → Hp → VK → Prop} {t : TA} (h : t σ H fun vs H1 => r vs H1 Q) : tCB r t σ H Q := h
theorem w_nil (h : L [] H) : tNil σ H L := h
theorem w_cons {t : TA} (h : ta σ H fun x H1 => t σ H1 fun xs H2 => L (x :: xs) H2) : tCons ta t σ H L := h
theorem w_call {sp : Sp} {E : XK} {t : TA} (h : t σ H fun vs H1 => sp (vs ++ []) H1 Q E) : tCall sp [] E t σ H Q := h
theorem w_tup {t : TA} (h : t σ H (TupK Q)) : tTup t σ H Q := h
theorem w_lst {t : TA} (h : t σ H (LstK Q)) : tLst t σ H Q := h
theorem w_newT {xs : List V} (h : ∀ p, H p = none → Q (.ref p) (upd H p (.tup xs))) (hz : xs.length ≤ sizeLine := by exact Pm.size_ok (Nat.le_of_ble_eq_true rfl)) : TupK Q xs H := ⟨hz, h⟩
theorem w_newL {xs : List V} (h : ∀ p, H p = none → Q (.ref p) (upd H p (.lst xs))) (hz : xs.length ≤ sizeLine := by exact Pm.size_ok (Nat.le_of_ble_eq_true rfl)) : LstK Q xs H := ⟨hz, h⟩
theorem w_test (h : te σ H fun x H' => ∃ k, x = .bl k ∧ B k H') : tTest te σ H B := h
theorem w_b (h : te σ H fun x H' => ∃ k, x = .bl k ∧ B k H') : tB te σ H B := h
theorem w_bl {k : Bool} (h : B k H) : ∃ k', V.bl k = .bl k' ∧ B k' H := ⟨k, rfl, h⟩
theorem w_and (h : c σ H fun b H1 => if b = true then c' σ H1 B else B false H1) : tAnd c c' σ H B := h
theorem w_or (h : c σ H fun b H1 => if b = true then B true H1 else c' σ H1 B) : tOr c c' σ H B := h
theorem w_not (h : c σ H fun b H1 => B (!b) H1) : tNot c σ H B := h
theorem w_andV (h : ta σ H fun x H1 => ∃ k, x = .bl k ∧ if k = true then tb σ H1 Q else Q (.bl false) H1) : tAndV ta tb σ H Q := h
theorem w_orV (h : ta σ H fun x H1 => ∃ k, x = .bl k ∧ if k = true then Q (.bl true) H1 else tb σ H1 Q) : tOrV ta tb σ H Q := h
theorem w_notV (h : ta σ H fun x H1 => ∃ k, x = .bl k ∧ Q (.bl (!k)) H1) : tNotV ta σ H Q := h
theorem w_ifE (h : c σ H fun b H1 => if b = true then ta σ H1 Q else tb σ H1 Q) : tIf c ta tb σ H Q := h
theorem w_chain {r r' : R2} (h : ta σ H fun x H1 => tb σ H1 fun y H2 => r x y H2 fun z H3 => ∃ k, z = .bl k ∧ (if k = true then tc σ H3 fun w H4 => r' y w H4 Q else Q (.bl false) H3)) : tChain r r' ta tb tc σ H Q := h
theorem w_chain3 {r r' r'' : R2} {td : TE} (h : ta σ H fun x H1 => tb σ H1 fun y H2 => r x y H2 fun z H3 => ∃ k, z = .bl k ∧
  (if k = true then tc σ H3 fun w' H4 => r' y w' H4 fun z' H5 => ∃ k', z' = .bl k' ∧ (if k' = true then td σ H5 fun v' H6 => r'' w' v' H6 Q else Q (.bl false) H5) else Q (.bl false) H3)) : tChain3 r r' r'' ta tb tc td σ H Q := h
theorem w_blx {k : Bool} {R : Bool → Prop} (h : R k) : ∃ k', V.bl k = .bl k' ∧ R k' := ⟨k, rfl, h⟩
theorem w_iteT {A C : Prop} (h : A) : if true = true then A else C := by rw [if_pos rfl]; exact h
theorem w_iteF {A C : Prop} (h : C) : if false = true then A else C := by rw [if_neg Bool.false_ne_true]; exact h
theorem w_iteN1 {A C : Prop} (h : C) : if (!true) = true then A else C := w_iteF h
theorem w_iteN0 {A C : Prop} (h : A) : if (!false) = true then A else C := w_iteT h
theorem w_ite {p A C : Prop} [Decidable p] (h1 : p → A) (h2 : ¬ p → C) : if decide p = true then A else C := by
  by_cases h : p
  · rw [decide_eq_true h, if_pos rfl]; exact h1 h
  · rw [decide_eq_false h, if_neg Bool.false_ne_true]; exact h2 h
theorem w_iteN {p A C : Prop} [Decidable p] (h1 : ¬ p → A) (h2 : p → C) : if (!decide p) = true then A else C := by
  by_cases h : p
  · rw [decide_eq_true h]; exact w_iteF (h2 h)
  · rw [decide_eq_false h]; exact w_iteT (h1 h)
theorem w_abs {i : Int} (h : Q (.int (if i < 0 then -i else i)) H) : rAbs [.int i] H Q := ⟨i, rfl, h⟩
theorem w_max {i j : Int} (h : Q (.int (max i j)) H) : rMax2 [V.int i, V.int j] H Q := by
  refine ⟨i, j, rfl, ?_⟩
  have e : (if j > i then j else i) = max i j := by rw [Int.max_def]; split <;> split <;> omega
  rw [e]; exact h
theorem w_min {i j : Int} (h : Q (.int (min i j)) H) : rMin2 [V.int i, V.int j] H Q := by
  refine ⟨i, j, rfl, ?_⟩
  have e : (if j < i then j else i) = min i j := by rw [Int.min_def]; split <;> split <;> omega
  rw [e]; exact h
theorem w_mul1 {i j : Int} (h : -(2 ^ 64) < i ∧ i < 2 ^ 64) : CMul i j := .inl h
theorem w_mul2 {i j : Int} (h : -(2 ^ 64) < j ∧ j < 2 ^ 64) : CMul i j := .inr h
theorem w_ixL {K : PySem.W.Frag} {p : Addr} {xs : List V} {i : Int} {v : V} (hl : SqL K H p xs) (e : atI xs i = some v) (h : Q v H) : rIxL K (.ref p) (.int i) H Q := ⟨p, xs, i, v, rfl, rfl, hl, e, h⟩
theorem w_ixT {K : PySem.W.Frag} {p : Addr} {xs : List V} {i : Int} {v : V} (hl : SqT K H p xs) (e : atI xs i = some v) (h : Q v H) : rIxT K (.ref p) (.int i) H Q := ⟨p, xs, i, v, rfl, rfl, hl, e, h⟩
theorem w_bm {K : PySem.W.Frag} {T : String} {r : V → List V → Hp → VK → Prop} {t : TA} (h : ta σ H fun x H1 => tyV K T x H1 ∧ t σ H1 fun xs H2 => r x xs H2 Q) : tBM K T r ta t σ H Q := h
theorem w_bm0 {K : PySem.W.Frag} {T : String} {r : V → List V → Hp → VK → Prop} (h : ta σ H fun x H1 => tyV K T x H1 ∧ r x [] H1 Q) : tBM0 K T r ta σ H Q := h
theorem w_append {l : Addr} {xs : List V} {y : V} (hl : H l = some (.lst xs)) (hz : xs.length < sizeLine) (h : Q .non (upd H l (.lst (xs ++ [y])))) : rAppend (.ref l) [y] H Q := ⟨l, xs, y, rfl, rfl, hl, hz, h⟩
theorem w_len {K : PySem.W.Frag} {p : Addr} {ys : List V} (hl : SqL K H p ys ∨ SqT K H p ys) (h : Q (.int ys.length) H) : rLen K [V.ref p] H Q := ⟨p, ys, rfl, hl, h⟩
theorem w_lenL {K : PySem.W.Frag} {p : Addr} {ys : List V} (hl : SqL K H p ys) (h : Q (.int ys.length) H) : rLen K [V.ref p] H Q := ⟨p, ys, rfl, .inl hl, h⟩
theorem w_lenT {K : PySem.W.Frag} {p : Addr} {ys : List V} (hl : SqT K H p ys) (h : Q (.int ys.length) H) : rLen K [V.ref p] H Q := ⟨p, ys, rfl, .inr hl, h⟩
theorem w_lenS {z : Str} (hl : z.length ≤ sizeLine) (h : Q (.int z.length) H) : rLenS [V.str z] H Q := ⟨z, rfl, hl, h⟩
theorem w_int1 {b : Bool} (h : Q (.int (if b then 1 else 0)) H) : rInt1 [.bl b] H Q := .inr ⟨b, rfl, h⟩
theorem w_sl {r : V → Option Int → Option Int → Hp → VK → Prop} {tl th : TO} (h : te σ H fun x H1 => tl σ H1 fun l H2 => th σ H2 fun u H3 => r x l u H3 Q) : tSl r te tl th σ H Q := h
theorem w_noPart {O : Option Int → Hp → Prop} (h : O none H) : tNoPart σ H O := h
theorem w_part {O : Option Int → Hp → Prop} (h : te σ H (PartK O)) : tPart te σ H O := h
theorem w_partK {O : Option Int → Hp → Prop} {i : Int} (h : O (some i) H) : PartK O (.int i) H := ⟨i, rfl, h⟩
theorem w_cat {l b : Addr} {xs zs : List V} (h1 : H l = some (.lst xs)) (h2 : H b = some (.lst zs)) (hz : xs.length + zs.length ≤ sizeLine) (h : ∀ p, H p = none → Q (.ref p) (upd H p (.lst (xs ++ zs)))) : rCat (.ref l) (.ref b) H Q := ⟨l, b, xs, zs, rfl, rfl, h1, h2, hz, h⟩
theorem w_dput {td ty tv : TE} (h : tv σ H fun v H1 => td σ H1 fun x H2 => ty σ H2 (DPK nx σ v x)) : sDPut td ty tv ⟨nx, rt, bk, ct⟩ σ H := h
theorem w_din {ty td : TE} (h : ty σ H fun y H1 => td σ H1 (DInK y Q)) : tDIn ty td σ H Q := h
theorem w_dnotin {ty td : TE} (h : ty σ H fun y H1 => td σ H1 (DNotInK y Q)) : tDNotIn ty td σ H Q := h
theorem w_dget {td ty : TE} (h : td σ H fun x H1 => ty σ H1 (DGK x Q)) : tDGet td ty σ H Q := h
theorem w_for {wi : TI} (h : wi σ H (ForB g t nx rt σ)) : tFor wi g t ⟨nx, rt, bk, ct⟩ σ H := h
theorem w_iList {K : PySem.W.Frag} {R : It → Hp → Prop} (h : te σ H (RdL K R)) : iList K te σ H R := h
theorem w_iTup {K : PySem.W.Frag} {R : It → Hp → Prop} (h : te σ H (RdT K R)) : iTup K te σ H R := h
theorem w_iRng1 {t : TA} {R : It → Hp → Prop} (h : t σ H (Rg1 R)) : iRng1 t σ H R := h
theorem w_iRng2 {t : TA} {R : It → Hp → Prop} (h : t σ H (Rg2 R)) : iRng2 t σ H R := h
theorem w_rg1 {j : Int} {R : It → Hp → Prop} (h1 : -(2 ^ 62) ≤ j ∧ j < 2 ^ 62) (h : R (Itr 0 j.toNat) H) : Rg1 R [.int j] H := ⟨j, rfl, h1.1, h1.2, h⟩
theorem w_rg2 {i j : Int} {R : It → Hp → Prop} (h1 : (-(2 ^ 62) ≤ i ∧ i < 2 ^ 62) ∧ (-(2 ^ 62) ≤ j ∧ j < 2 ^ 62)) (h : R (Itr i (j - i).toNat) H) : Rg2 R [.int i, .int j] H := ⟨i, j, rfl, ⟨h1.1.1, h1.1.2, h1.2.1, h1.2.2⟩, h⟩
/-- for over a range, by what holds ahead of turn i -/
theorem w_forR {lo : Int} {n : Nat} (Pv : Nat → L2.St → Hp → Prop) (h0 : Pv 0 σ H) (hs : ∀ i σ H, i < n → Pv i σ H → g (.int (lo + i)) σ H fun σ2 H2 => t ⟨Pv (i + 1), rt, nx, Pv (i + 1)⟩ σ2 H2) (hd : ∀ σ H, Pv n σ H → nx σ H) : ForB g t nx rt σ (Itr lo n) H :=
  for_range (D := ⟨nx, rt, fun _ _ => False, fun _ _ => False⟩) Pv h0 hs hd
/-- while, by an invariant with a measure -/
theorem w_while {c : TT} (Pv : Nat → L2.St → Hp → Prop) (m : Nat) (h0 : Pv m σ H) (hs : ∀ m σ H, Pv m σ H → c σ H (WhB t nx rt Pv m σ)) : tWhile c t ⟨nx, rt, bk, ct⟩ σ H := ⟨Pv, ⟨m, h0⟩, hs⟩
theorem w_whT {Pv : Nat → L2.St → Hp → Prop} {m : Nat} (h : t ⟨fun σ' H' => ∃ m', m' < m ∧ Pv m' σ' H', rt, nx, fun σ' H' => ∃ m', m' < m ∧ Pv m' σ' H'⟩ σ H) : WhB t nx rt Pv m σ true H := w_iteT ⟨_, fun _ _ h => h, h⟩
theorem w_whF {Pv : Nat → L2.St → Hp → Prop} {m : Nat} (h : nx σ H) : WhB t nx rt Pv m σ false H := w_iteF h
theorem w_wh {Pv : Nat → L2.St → Hp → Prop} {m : Nat} {p : Prop} [Decidable p] (h1 : p → t ⟨fun σ' H' => ∃ m', m' < m ∧ Pv m' σ' H', rt, nx, fun σ' H' => ∃ m', m' < m ∧ Pv m' σ' H'⟩ σ H) (h2 : ¬ p → nx σ H) : WhB t nx rt Pv m σ (decide p) H := by
  by_cases h : p
  · rw [decide_eq_true h]; exact w_whT (h1 h)
  · rw [decide_eq_false h]; exact w_whF (h2 h)
theorem w_lc {wi : TI} {tt : TT} {vs : List Nat} (h : wi σ H (LcB g tt te vs σ Q)) : tLc wi g tt te vs σ H Q := h
theorem w_yes (h : B true H) : tYes σ H B := h
theorem w_turn {tt : TT} {vs : List Nat} {σ2 : L2.St} {D : Addr} {Nx : Hp → Prop} (e : wipe σ2 vs = wipe σ vs) (h : tt σ2 H fun b H3 => if b = true then te σ2 H3 (LcPut D Nx) else Nx H3) : LcTurn tt te vs σ D Nx σ2 H := ⟨e, h⟩
theorem w_isiInt {K : PySem.W.Frag} {i : Int} {n : String} {b : Bool} (e : kitB "int" n = some b) (h : Q (.bl b) H) : rIsi K [.int i, .ty n] H Q := ⟨_, _, _, _, b, rfl, .ty n, .base (.int i), kit_ty e, h⟩
theorem w_isiTup {K : PySem.W.Frag} {a : Addr} {xs : List V} {n : String} {b : Bool} (hl : SqT K H a xs) (e : kitB "tuple" n = some b) (h : Q (.bl b) H) : rIsi K [.ref a, .ty n] H Q := by
  rcases hl with (h1 | ⟨o, h1⟩) | ⟨o, its, m, h1, h2, h3⟩
  · exact ⟨_, _, _, _, b, rfl, .ty n, .base (.tup h1), kit_ty e, h⟩
  · exact ⟨_, _, _, _, b, rfl, .ty n, .fTuple h1, kit_ty e, h⟩
  · exact ⟨_, _, _, _, b, rfl, .ty n, .kTuple h1 h2, kit_ty e, h⟩
theorem w_isX {K : PySem.W.Frag} {D a : Addr} {c : V} {cv : Value} {b : Bool} (C : ExcC K D) (hc : ∀ u, RelV c u → u = cv) (k : PySem.W.kitOne K (.ref D) cv = some b) (h : Q (.bl b) H) : rIsX K (.ref D) none a [.ref a, c] H Q := ⟨D, c, cv, b, rfl, rfl, C, rfl, hc, k, h⟩
theorem w_callS {sp : Sp} {E : L2.St → XK} {t : TA} (h : t σ H fun vs H1 => sp vs H1 Q (E σ)) : tCallS sp E t σ H Q := h
theorem eqv_ints2 (a b c d : Int) : PyData.eqv (.tuple [.int a, .int b]) (.tuple [.int c, .int d]) = decide (a = c ∧ b = d) := by
  simp only [PyData.eqv, PyData.eqvAll, Bool.and_true]
  by_cases h : a = c <;> by_cases h2 : b = d <;> simp [h, h2]
theorem dp_ints2 {K : PySem.W.Frag} {t : Addr} {a b : Int} (h : SqT K H t [.int a, .int b]) : Dp K H (.ref t) (.tuple [.int a, .int b]) := .tup h (.cons (.int a) (.cons (.int b) .nil))
theorem w_eqPair {K : PySem.W.Frag} {t u : Addr} {a b c d : Int} (h1 : SqT K H t [.int a, .int b]) (h2 : SqT K H u [.int c, .int d]) (h : Q (.bl (decide (a = c ∧ b = d))) H) : rEqD K (.ref t) (.ref u) H Q :=
  ⟨_, _, dp_ints2 h1, dp_ints2 h2, rfl, rfl, by rw [eqv_ints2]; exact h⟩
theorem w_nePair {K : PySem.W.Frag} {t u : Addr} {a b c d : Int} (h1 : SqT K H t [.int a, .int b]) (h2 : SqT K H u [.int c, .int d]) (h : Q (.bl (!decide (a = c ∧ b = d))) H) : rNeD K (.ref t) (.ref u) H Q :=
  ⟨_, _, dp_ints2 h1, dp_ints2 h2, rfl, rfl, by rw [eqv_ints2]; exact h⟩
theorem Same.tup {K : PySem.W.Frag} {H H' : Hp} {a : Addr} {xs : List V} (e : Same H H') (h : SqT K H a xs) : SqT K H' a xs := by
  rcases h with (h | ⟨o, h⟩) | h
  · exact .inl (.inl (e _ _ h))
  · exact .inl (.inr ⟨o, e _ _ h⟩)
  · exact .inr h
end
theorem same_new {H : Hp} {p : Addr} (h : H p = none) (o : HO) : Same H (upd H p o) := fun b u q => by rw [upd_ne (ne_of_none q h)]; exact q
theorem atI2 (a b : V) : atI [a, b] 0 = some a ∧ atI [a, b] 1 = some b := ⟨rfl, rfl⟩
theorem atI_int {ns : List Int} {i : Int} (h0 : 0 ≤ i) (h : i < (ns.length : Int)) : atI (ns.map V.int) i = some (.int (ns.getD i.toNat 0)) := by
  have hk : i.toNat < ns.length := by omega
  have ek : i = ((i.toNat : Nat) : Int) := by omega
  have q : atI (ns.map V.int) ((i.toNat : Nat) : Int) = some (.int ns[i.toNat]) := atI_nat (by rw [List.getElem?_map, List.getElem?_eq_getElem hk] <;> rfl)
  rw [← ek] at q
  rw [q, List.getD_eq_getElem?_getD, List.getElem?_eq_getElem hk] <;> rfl
end Pm
namespace Pm
open PySem PySem.Spec PyProof.Rows L2
/-- item by item -/
def All2 {α β : Type} (R : α → β → Prop) : List α → List β → Prop
  | [], [] => True
  | x :: xs, y :: ys => R x y ∧ All2 R xs ys
  | _, _ => False
section
variable {α β : Type} {R S : α → β → Prop}
theorem All2.nil : All2 R [] [] := trivial
theorem All2.cons {x : α} {y : β} {xs : List α} {ys : List β} (h : R x y) (t : All2 R xs ys) : All2 R (x :: xs) (y :: ys) := ⟨h, t⟩
theorem All2.length : ∀ {xs : List α} {ys : List β}, All2 R xs ys → xs.length = ys.length
  | [], [], _ => rfl
  | _ :: _, _ :: _, h => by rw [List.length_cons, List.length_cons, h.2.length]
theorem All2.mono (f : ∀ x y, R x y → S x y) : ∀ {xs : List α} {ys : List β}, All2 R xs ys → All2 S xs ys
  | [], [], _ => trivial
  | _ :: _, _ :: _, h => ⟨f _ _ h.1, h.2.mono f⟩
theorem All2.get : ∀ {xs : List α} {ys : List β} {i : Nat} {x : α}, All2 R xs ys → xs[i]? = some x → ∃ y, ys[i]? = some y ∧ R x y
  | [], [], _, _, _, e => by simp at e
  | _ :: _, _ :: _, 0, _, h, e => by simp at e; subst e; exact ⟨_, rfl, h.1⟩
  | _ :: _, _ :: _, i + 1, x, h, e => by
    obtain ⟨y, e1, r⟩ := All2.get (i := i) (x := x) h.2 (by simpa using e)
    exact ⟨y, by simpa using e1, r⟩
theorem All2.take : ∀ {xs : List α} {ys : List β} (n : Nat), All2 R xs ys → All2 R (xs.take n) (ys.take n)
  | [], [], n, _ => by rw [List.take_nil, List.take_nil]; trivial
  | _ :: _, _ :: _, 0, _ => trivial
  | _ :: _, _ :: _, n + 1, h => ⟨h.1, h.2.take n⟩
theorem All2.drop : ∀ {xs : List α} {ys : List β} (n : Nat), All2 R xs ys → All2 R (xs.drop n) (ys.drop n)
  | [], [], n, _ => by rw [List.drop_nil, List.drop_nil]; trivial
  | _ :: _, _ :: _, 0, h => h
  | _ :: _, _ :: _, n + 1, h => h.2.drop n
theorem All2.set : ∀ {xs : List α} {ys : List β} (i : Nat) {x : α} {y : β}, All2 R xs ys → R x y → All2 R (xs.set i x) (ys.set i y)
  | [], [], _, _, _, _, _ => trivial
  | _ :: _, _ :: _, 0, _, _, h, r => ⟨r, h.2⟩
  | _ :: _, _ :: _, i + 1, _, _, h, r => ⟨h.1, h.2.set i r⟩
end
/-- tuples stay -/
def Keeps (H H' : Hp) : Prop := ∀ t xs, H t = some (.tup xs) → H' t = some (.tup xs)
theorem Keeps.trans {H H1 H2 : Hp} (a : Keeps H H1) (b : Keeps H1 H2) : Keeps H H2 := fun t xs h => b t xs (a t xs h)
theorem keeps {H H' : Hp} (s : Same H H') : Keeps H H' := fun _ _ h => s _ _ h
abbrev IP := Int × Int
def Pr (H : Hp) (v : V) (p : IP) : Prop := ∃ t, v = .ref t ∧ H t = some (.tup [.int p.1, .int p.2])
theorem Pr.keep {H H' : Hp} (k : Keeps H H') {v : V} {p : IP} (h : Pr H v p) : Pr H' v p := by
  obtain ⟨t, e, ht⟩ := h
  exact ⟨t, e, k _ _ ht⟩
theorem Pr.inj {H : Hp} {v : V} {p q : IP} (h : Pr H v p) (k : Pr H v q) : p = q := by
  obtain ⟨t, rfl, ht⟩ := h
  obtain ⟨u, e, hu⟩ := k
  cases e
  rw [ht] at hu
  have e := HO.tup.inj (Option.some.inj hu)
  injection e with e1 e2
  injection e2 with e2 _
  obtain ⟨a, b⟩ := p
  obtain ⟨c, d⟩ := q
  rw [show a = c from V.int.inj e1, show b = d from V.int.inj e2]
/-- the pair at a value -/
def kOf (H : Hp) : V → IP
  | .ref t => match H t with
    | some (.tup [.int a, .int b]) => (a, b)
    | _ => (0, 0)
  | _ => (0, 0)
theorem Pr.k {H : Hp} {v : V} {p : IP} (h : Pr H v p) : kOf H v = p := by
  obtain ⟨t, rfl, ht⟩ := h
  show (match H t with | some (.tup [.int a, .int b]) => (a, b) | _ => (0, 0)) = p
  rw [ht]
theorem Pr.tup {K : PySem.W.Frag} {H : Hp} {t : Addr} {p : IP} (h : Pr H (.ref t) p) : SqT K H t [.int p.1, .int p.2] := by
  obtain ⟨u, e, hu⟩ := h
  cases e
  exact SqT.of hu
/-- an int as an item -/
def In (_ : Hp) (v : V) (i : Int) : Prop := v = .int i
theorem take_snoc {α : Type} {l : List α} {i : Nat} {x : α} (h : l[i]? = some x) : l.take (i + 1) = l.take i ++ [x] := by rw [List.take_add_one, h] <;> rfl
end Pm
namespace Pm
open PySem PySem.Spec PyProof.Rows L2
theorem gcd_turn (x y : Nat) (hy : 0 < y) : Nat.gcd y (x % y) = Nat.gcd x y := by
  rw [Nat.gcd_comm x y, Nat.gcd_rec y x, Nat.gcd_comm]
theorem gcd_abs (a b : Int) : Nat.gcd (if a < 0 then -a else a).natAbs (if b < 0 then -b else b).natAbs = Int.gcd a b := by
  unfold Int.gcd
  have e : ∀ c : Int, (if c < 0 then -c else c).natAbs = c.natAbs := fun c => by split <;> omega
  rw [e, e]
theorem div_pos_num {a b : Int} (h : 0 < b) : a / ((Int.gcd a b : Nat) : Int) = (Rat.divInt a b).num ∧ b / ((Int.gcd a b : Nat) : Int) = ((Rat.divInt a b).den : Int) := by
  rw [Rat.num_divInt, Rat.den_divInt, if_neg (by omega), Int.sign_eq_one_of_pos h, Int.one_mul, Int.gcd_comm b a]
  refine ⟨rfl, ?_⟩
  rw [Int.natCast_ediv]
  congr 1
  omega
theorem gcd_le_right {a b : Int} (h : 0 < b) : ((Int.gcd a b : Nat) : Int) ≤ b := Int.gcd_le_right a h
theorem gcd_pos {a b : Int} (h : b ≠ 0) : 0 < ((Int.gcd a b : Nat) : Int) := by
  have := Int.gcd_pos_of_ne_zero_right a h
  omega
/-- the size of a fraction -/
def rb (r : Rat) (n : Nat) : Prop := r.num.natAbs < 2 ^ n ∧ r.den < 2 ^ n
theorem rb.mono {r : Rat} {n m : Nat} (h : rb r n) (k : n ≤ m) : rb r m :=
  ⟨Nat.lt_of_lt_of_le h.1 (Nat.pow_le_pow_right (by decide) k), Nat.lt_of_lt_of_le h.2 (Nat.pow_le_pow_right (by decide) k)⟩
theorem rb_div {a b : Int} {n : Nat} (hb : b ≠ 0) (h1 : a.natAbs < 2 ^ n) (h2 : b.natAbs < 2 ^ n) : rb (Rat.divInt a b) n := by
  have hg : 0 < Int.gcd b a := Int.gcd_pos_of_ne_zero_left a hb
  constructor
  · rw [Rat.num_divInt]
    refine Nat.lt_of_le_of_lt ?_ h1
    have e : (b.sign * a).natAbs ≤ a.natAbs := by
      rw [Int.natAbs_mul]
      have := Int.natAbs_sign_of_ne_zero hb
      rw [this, Nat.one_mul]
      exact Nat.le_refl _
    refine Nat.le_trans ?_ e
    exact Int.natAbs_ediv_le_natAbs _ _
  · rw [Rat.den_divInt, if_neg hb]
    exact Nat.lt_of_le_of_lt (Nat.div_le_self _ _) h2
theorem rb_divW {a b : Int} {n m : Nat} (hb : b ≠ 0) (h1 : a.natAbs < 2 ^ n) (h2 : b.natAbs < 2 ^ m) : rb (Rat.divInt a b) (max n m) :=
  rb_div hb (Nat.lt_of_lt_of_le h1 (Nat.pow_le_pow_right (by decide) (Nat.le_max_left _ _))) (Nat.lt_of_lt_of_le h2 (Nat.pow_le_pow_right (by decide) (Nat.le_max_right _ _)))
theorem den_ne (r : Rat) : (r.den : Int) ≠ 0 := by have := r.den_nz; omega
theorem divInt_self' (r : Rat) : Rat.divInt r.num r.den = r := Rat.num_divInt_den r
theorem rb_den {r : Rat} {n : Nat} (h : rb r n) : (r.den : Int).natAbs < 2 ^ n := by have := h.2; omega
/-- a new tuple that is the fraction r -/
def FrNew (H : Hp) (r : Rat) (Q : VK) : Prop := ∀ (t : Addr) (H' : Hp), Same H H' → H t = none → H' t = some (.tup [.int r.num, .int r.den]) → Q (.ref t) H'
end Pm
namespace Pm
open PySem PySem.Spec PyProof.Rows L2
/-- a pair as a key -/
def kk (p : IP) : List L2.Key := [.inl p.1, .inl p.2]
end Pm
namespace Pm
inductive Tr where
  | leaf
  | node (l r : Tr)
namespace Tr
def w : Tr → Nat
  | leaf => 1
  | node l r => l.w + r.w
/-- all ties -/
def all : Nat → Tr → List (Nat × Nat)
  | lo, leaf => [(lo, lo + 1)]
  | lo, node l r => (lo, lo + (l.w + r.w)) :: (l.all lo ++ r.all (lo + l.w))
end Tr
end Pm
namespace Pm
open PySem PySem.Spec PyProof.Rows L2
/-- a pair of numbers: tracked, or written in the top -/
def FrV (K : PySem.W.Frag) (H : Hp) (v : V) (p : IP) : Prop := ∃ t, v = .ref t ∧ (H t = some (.tup [.int p.1, .int p.2]) ∨ ∀ H', SqT K H' t [.int p.1, .int p.2])
section
variable {K : PySem.W.Frag} {H H' : Hp} {v : V} {p q : IP}
theorem FrV.keep (k : Keeps H H') (h : FrV K H v p) : FrV K H' v p := by
  obtain ⟨t, e, h | h⟩ := h
  · exact ⟨t, e, .inl (k _ _ h)⟩
  · exact ⟨t, e, .inr h⟩
theorem FrV.tup {t : Addr} (h : FrV K H (.ref t) p) : SqT K H t [.int p.1, .int p.2] := by
  obtain ⟨t, e, h | h⟩ := h
  · cases e; exact SqT.of h
  · cases e; exact h H
theorem FrV.of (h : Pr H v p) : FrV K H v p := by
  obtain ⟨t, e, h⟩ := h
  exact ⟨t, e, .inl h⟩
end
/-- the fraction as a pair -/
def rp (r : Rat) : IP := (r.num, (r.den : Int))
def En (K : PySem.W.Frag) (H : Hp) (L : IP → IP) (e : List L2.Key × V) (k : IP) : Prop := e.1 = kk k ∧ FrV K H e.2 (L k)
/-- the dict at d: its keys in order, and what each holds -/
structure LD (K : PySem.W.Frag) (H : Hp) (d : Addr) (ks : List IP) (L : IP → IP) : Prop where
  nd : ks.Nodup
  ex : ∃ es, H d = some (.dT es) ∧ All2 (En K H L) es ks
section
variable {K : PySem.W.Frag} {H H' : Hp} {L : IP → IP}
theorem ens_keep (k : Keeps H H') {es : List (List L2.Key × V)} {ks : List IP} (h : All2 (En K H L) es ks) : All2 (En K H' L) es ks := h.mono fun _ _ q => ⟨q.1, q.2.keep k⟩
end
section
variable {K : PySem.W.Frag} {H H' : Hp} {d b : Addr} {ks : List IP} {L : IP → IP} {k : IP} {Q : VK} {nx : L2.St → Hp → Prop} {σ : L2.St}
theorem LD.keep {o : HO} (h : LD K H d ks L) (k : Keeps H H') (e : H' d = H d) : LD K H' d ks L := by
  obtain ⟨n, es, h1, h2⟩ := h
  exact ⟨n, es, by rw [e]; exact h1, ens_keep k h2⟩
end
theorem lenOk_rat {a b : Int} (hb : 0 < b) (g : Int.gcd a b = 1) : (a, b) = rp (Rat.divInt a b) := by
  have z := div_pos_num (a := a) hb
  rw [g] at z
  unfold rp
  rw [← z.1, ← z.2]
  simp
end Pm
namespace Pm
open PySem PySem.Spec PyProof.Rows L2
def rNotN : R2 := fun x y H Q => y = .non ∧ Q (.bl (!decide (x = .non))) H
def rIsN : R2 := fun x y H Q => y = .non ∧ Q (.bl (decide (x = .non))) H
theorem op_notNK {X : Cx} : OpR X (compareOp .IsNot) rNotN := op_notN
theorem op_isNK {X : Cx} : OpR X (compareOp .Is) rIsN := op_isN
section
variable {H : Hp} {Q : VK} {a : Addr}
theorem w_notN_ref (h : Q (.bl true) H) : rNotN (.ref a) .non H Q := ⟨rfl, h⟩
theorem w_isN_non (h : Q (.bl true) H) : rIsN .non .non H Q := ⟨rfl, h⟩
end
end Pm
namespace Pm
open PySem PySem.Spec PyProof.Rows L2 TL
def rSplit : V → List V → Hp → VK → Prop := fun x xs H Q => ∃ a b, x = .str a ∧ xs = [.str b] ∧ (b.length == 0) = false ∧ a.length + 2 ≤ sizeLine ∧ rNewStrs (Txt.split a b) H Q
theorem mt_splitS {X : Cx} : MtR X "str.split" rSplit := mt_split
def rStrI : List V → Hp → VK → Prop := fun xs H Q => ∃ i : Int, xs = [.int i] ∧ i.natAbs.log2 < 1920 ∧ Q (.str (Str.ofString (toString i))) H
theorem c_strI {X : Cx} : CallR X (.type "str") rStrI := call_str_int
def rIntS : List V → Hp → VK → Prop := fun xs H Q => ∃ a n, xs = [.str a] ∧ PySem.intText? a = some n ∧ a.length ≤ 640 ∧ Q (.int n) H
theorem c_intS {X : Cx} : CallR X (.type "int") rIntS := call_int_str
def rNinC : R2 := fun x y H Q => ∃ (c : Nat) (z : Str), x = .str ⟨#[c]⟩ ∧ y = .str z ∧ Q (.bl (!decide (c ∈ z.cps.toList))) H
theorem o_ninC {X : Cx} : OpR X (compareOp .NotIn) rNinC := op_notIn_sign
def rMulS : R2 := fun x y H Q => ∃ (z : Str) (n : Int), x = .str z ∧ y = .int n ∧ MulOk z n ∧ Q (.str (PySem.Txt.mul z n)) H
theorem op_mulS {X : Cx} : OpR X (binaryOp .Mult) rMulS := by
  intro pins s σ H x y v u Q I rx ry h
  obtain ⟨z, n, rfl, rfl, ok, q⟩ := h
  obtain ⟨t, rfl⟩ := rx
  obtain ⟨t', rfl⟩ := ry
  exact SB.mul ok fun t' k => ⟨.str _, H, I.tok _, ⟨_, rfl⟩, q⟩
def RdS (R : It → Hp → Prop) : VK := fun v H1 => ∃ x, v = .str x ∧ R (Its x) H1
section
variable {σ : L2.St} {H : Hp} {Q : VK} {nx bk ct : L2.St → Hp → Prop} {rt : VK} {g : TG} {t : TS} {te : TE}
theorem w_split {a b : Str} (hb : (b.length == 0) = false) (hz : a.length + 2 ≤ sizeLine) (h : ∀ p, H p = none → Q (.ref p) (upd H p (.lst ((Txt.split a b).map V.str)))) : rSplit (.str a) [.str b] H Q := ⟨a, b, rfl, rfl, hb, hz, h⟩
theorem w_strI {i : Int} (hz : i.natAbs.log2 < 1920) (h : Q (.str (Str.ofString (toString i))) H) : rStrI [.int i] H Q := ⟨i, rfl, hz, h⟩
theorem w_intS {a : Str} {n : Int} (e : PySem.intText? a = some n) (hz : a.length ≤ 640) (h : Q (.int n) H) : rIntS [.str a] H Q := ⟨a, n, rfl, e, hz, h⟩
theorem w_ninC {c : Nat} {z : Str} (h : Q (.bl (!decide (c ∈ z.cps.toList))) H) : rNinC (.str ⟨#[c]⟩) (.str z) H Q := ⟨c, z, rfl, rfl, h⟩
theorem w_catS {i j : Str} (hz : i.length + j.length ≤ sizeLine) (h : Q (.str (i ++ j)) H) : rCatS (.str i) (.str j) H Q := ⟨i, j, rfl, rfl, hz, h⟩
theorem w_slS {z : Str} {lo hi : Option Int} (hz : z.length ≤ sizeLine) (h : Q (.str (cutS z lo hi)) H) : rSlS (.str z) lo hi H Q := ⟨z, rfl, hz, h⟩
theorem w_ixS {z : Str} {i : Int} {c : Nat} (hz : z.length ≤ sizeLine) (e : atI z.cps.toList i = some c) (h : Q (.str ⟨#[c]⟩) H) : rIxS (.str z) (.int i) H Q := ⟨z, i, c, rfl, rfl, hz, e, h⟩
theorem w_iStr {R : It → Hp → Prop} (h : te σ H (RdS R)) : iStr te σ H R := h
theorem w_rdS {R : It → Hp → Prop} {x : Str} (h : R (Its x) H) : RdS R (.str x) H := ⟨x, rfl, h⟩
/-- for over the signs of a text -/
theorem w_forS {x : Str} (Pv : Nat → L2.St → Hp → Prop) (h0 : Pv 0 σ H) (hs : ∀ i c σ H, (tl x)[i]? = some c → Pv i σ H → g (.str ⟨#[c]⟩) σ H fun σ2 H2 => t ⟨Pv (i + 1), rt, nx, Pv (i + 1)⟩ σ2 H2) (hd : ∀ σ H, Pv (tl x).length σ H → nx σ H) : ForB g t nx rt σ (Its x) H := by
  have hz : x.cps.size = (tl x).length := len_tl x
  refine ⟨fun i m σ H => i + m = x.cps.size ∧ Pv i σ H, ⟨x.cps.size, by omega, h0⟩, ?_⟩
  rintro i m σ H ⟨hm, hp⟩
  rcases Nat.eq_zero_or_pos m with z | z
  · refine .inl ⟨show x.cps.size ≤ i by omega, hd σ H ?_⟩
    have e : i = (tl x).length := by omega
    rw [← e]
    exact hp
  · refine .inr ⟨show i < x.cps.size by omega, Pv (i + 1), fun σ' H' h => ⟨m - 1, by omega, by omega, h⟩, ?_⟩
    rintro v H' ⟨rfl, c, hc, rfl⟩
    refine hs i c σ H' ?_ hp
    rw [tl, Array.getElem?_toList]
    exact hc
end
theorem len_app (x y : Str) : (x ++ y).length = x.length + y.length := by rw [len_tl, tl_append, List.length_append, ← len_tl, ← len_tl]
theorem tl_cut (z : Str) (lo hi : Option Int) : tl (cutS z lo hi) = ((tl z).drop (HT.sIx z.length 0 lo)).take (HT.sIx z.length z.length hi - HT.sIx z.length 0 lo) := rfl
theorem len_cut (z : Str) (lo hi : Option Int) : (cutS z lo hi).length ≤ z.length := by
  rw [len_tl, tl_cut, List.length_take, List.length_drop, len_tl z]
  omega
theorem len_one (c : Nat) : (⟨#[c]⟩ : Str).length = 1 := rfl
/-- the number from nought on that a word writes, or -1 -/
def fig (x : Str) : Int := if x.length = 0 ∨ 400 < x.length ∨ ¬ (∀ c ∈ tl x, 48 ≤ c ∧ c ≤ 57) ∨ ((tl x).head? = some 48 ∧ 1 < x.length) then -1 else ((NumText.digitsVal (tl x) : Nat) : Int)
theorem fig_no {x : Str} (h : x.length = 0 ∨ 400 < x.length ∨ ¬ (∀ c ∈ tl x, 48 ≤ c ∧ c ≤ 57) ∨ ((tl x).head? = some 48 ∧ 1 < x.length)) : fig x = -1 := if_pos h
theorem fig_yes {x : Str} (h : ¬ (x.length = 0 ∨ 400 < x.length ∨ ¬ (∀ c ∈ tl x, 48 ≤ c ∧ c ≤ 57) ∨ ((tl x).head? = some 48 ∧ 1 < x.length))) : fig x = ((NumText.digitsVal (tl x) : Nat) : Int) := if_neg h
theorem fig_ge (x : Str) : -1 ≤ fig x := by
  unfold fig
  split <;> omega
theorem digits_lt : ∀ (cs : List Nat) (a k : Nat), (∀ c ∈ cs, 48 ≤ c ∧ c ≤ 57) → a < 10 ^ k → cs.foldl (fun acc c => acc * 10 + (c - 48)) a < 10 ^ (k + cs.length)
  | [], a, k, _, h => h
  | c :: cs, a, k, hc, h => by
    have h1 := hc c List.mem_cons_self
    have ih := digits_lt cs (a * 10 + (c - 48)) (k + 1) (fun x hx => hc x (List.mem_cons_of_mem _ hx)) (by rw [Nat.pow_succ]; omega)
    rw [List.foldl_cons, List.length_cons, show k + (cs.length + 1) = k + 1 + cs.length by omega]
    exact ih
theorem fig_lt (x : Str) : fig x < 10 ^ 400 := by
  unfold fig
  split
  · exact Int.lt_of_lt_of_le (by decide : (-1 : Int) < 0) (Int.pow_nonneg (by decide))
  · rename_i h
    have h1 : ∀ c ∈ tl x, 48 ≤ c ∧ c ≤ 57 := Classical.byContradiction fun z => h (.inr (.inr (.inl z)))
    have h2 : x.length ≤ 400 := by
      rcases Nat.lt_or_ge 400 x.length with z | z
      · exact absurd (.inr (.inl z)) h
      · exact z
    have h3 := digits_lt (tl x) 0 0 h1 (by decide)
    rw [Nat.zero_add, ← len_tl] at h3
    have h4 : NumText.digitsVal (tl x) < 10 ^ 400 := Nat.lt_of_lt_of_le h3 (Nat.pow_le_pow_right (by decide) h2)
    have h5 : ((NumText.digitsVal (tl x) : Nat) : Int) < ((10 ^ 400 : Nat) : Int) := Int.ofNat_lt.mpr h4
    rw [Int.natCast_pow] at h5
    exact h5
theorem ten400 : (10 : Nat) ^ 400 < 2 ^ 1330 := by decide +kernel
theorem fig_bits {x : Str} : (fig x).natAbs < 2 ^ 1330 := by
  have h1 := fig_ge x
  have h2 := fig_lt x
  have h3 : ((10 : Int) ^ 400) = (((10 : Nat) ^ 400 : Nat) : Int) := by rw [Int.natCast_pow]; rfl
  rw [h3] at h2
  have h4 := ten400
  have h5 : 1 < (10 : Nat) ^ 400 := Nat.one_lt_pow (by decide) (by decide)
  generalize (10 : Nat) ^ 400 = A at *
  omega
theorem figures_mem {c : Nat} : c ∈ ("0123456789" : Str).cps.toList ↔ 48 ≤ c ∧ c ≤ 57 := by
  have e : ("0123456789" : Str).cps.toList = [48, 49, 50, 51, 52, 53, 54, 55, 56, 57] := by decide +kernel
  rw [e]
  simp only [List.mem_cons, List.mem_nil_iff, or_false]
  omega
theorem str_head {x : Str} {c : Nat} (h : (tl x).head? = some c) : atI x.cps.toList 0 = some c := by
  show atI (tl x) 0 = some c
  cases e : tl x with
  | nil => rw [e] at h; cases h
  | cons a r =>
    rw [e] at h
    cases h
    exact atI_nat (j := 0) rfl
theorem one_eq {c d : Nat} : ((⟨#[c]⟩ : Str) = ⟨#[d]⟩) ↔ c = d := ⟨fun h => by injection h with h; simpa using h, fun h => by rw [h]⟩
theorem len_zero {x : Str} : x = ("" : Str) ↔ x.length = 0 := by
  constructor
  · rintro rfl; rfl
  · intro h
    refine ext_tl ?_
    have : tl x = [] := (len0_tl x).mp h
    rw [this]
    rfl
def dash (z : Str) : Prop := cutS z none (some 1) = ("-" : Str)
instance (z : Str) : Decidable (dash z) := by unfold dash; infer_instance
theorem dash_iff {z : Str} : dash z ↔ (tl z).head? = some 45 := by
  unfold dash
  have e : tl ("-" : Str) = [45] := by decide +kernel
  constructor
  · intro h
    have h2 := congrArg tl h
    rw [tl_cut, e] at h2
    cases ez : tl z with
    | nil => rw [ez] at h2; simp at h2
    | cons a r =>
      have hl : z.length = r.length + 1 := by rw [len_tl, ez, List.length_cons]
      rw [ez, show HT.sIx z.length 0 none = 0 from rfl, show HT.sIx z.length z.length (some 1) = 1 by unfold HT.sIx; simp only; rw [if_neg (by decide)]; omega] at h2
      simp only [List.drop_zero, Nat.sub_zero, List.take_succ_cons, List.take_zero] at h2
      injection h2 with h2 _
      rw [h2] <;> rfl
  · intro h
    refine ext_tl ?_
    rw [tl_cut, e]
    cases ez : tl z with
    | nil => rw [ez] at h; cases h
    | cons a r =>
      rw [ez] at h
      have h : a = 45 := by simpa using h
      subst h
      have hl : z.length = r.length + 1 := by rw [len_tl, ez, List.length_cons]
      rw [show HT.sIx z.length 0 none = 0 from rfl, show HT.sIx z.length z.length (some 1) = 1 by unfold HT.sIx; simp only; rw [if_neg (by decide)]; omega]
      simp
/-- the text without its first sign -/
def rest1 (z : Str) : Str := cutS z (some 1) none
theorem tl_rest1 (z : Str) : tl (rest1 z) = (tl z).drop 1 := by
  unfold rest1
  rw [tl_cut]
  cases ez : tl z with
  | nil => simp
  | cons a r =>
    have hl : z.length = r.length + 1 := by rw [len_tl, ez, List.length_cons]
    rw [show HT.sIx z.length z.length none = z.length from rfl, show HT.sIx z.length 0 (some 1) = 1 by unfold HT.sIx; simp only; rw [if_neg (by decide)]; omega]
    rw [List.take_of_length_le]
    rw [List.length_drop, List.length_cons]
    omega
theorem rest1_ne {z : Str} (h : dash z) : rest1 z ≠ z := fun e => by
  have h1 := congrArg (fun x => (tl x).length) e
  simp only [tl_rest1, List.length_drop] at h1
  have h2 := dash_iff.mp h
  cases ez : tl z with
  | nil => rw [ez] at h2; cases h2
  | cons a r => rw [ez, List.length_cons] at h1; omega
/-- the text behind its sign -/
def restOf (z : Str) : Str := if dash z then rest1 z else z
def partTwo (d : Bool) : List Str → Option IP
  | [a, b] => if fig a < 0 ∨ fig b < 1 ∨ Int.gcd (fig a) (fig b) ≠ 1 ∨ (d = true ∧ fig a = 0) then none else some (if d = true then -fig a else fig a, fig b)
  | _ => none
theorem partTwo_ab (d : Bool) (a b : Str) : partTwo d [a, b] = if fig a < 0 ∨ fig b < 1 ∨ Int.gcd (fig a) (fig b) ≠ 1 ∨ (d = true ∧ fig a = 0) then none else some (if d = true then -fig a else fig a, fig b) := rfl
/-- the fraction that a text writes -/
def partOf (z : Str) : Option IP := partTwo (decide (dash z)) (Txt.split (restOf z) ("/" : Str))
theorem rest_len (z : Str) : (restOf z).length ≤ z.length := by
  unfold restOf rest1
  split
  · exact len_cut _ _ _
  · exact Nat.le_refl _
theorem partOf_good {z : Str} {p : IP} (h : partOf z = some p) : 0 < p.2 ∧ Int.gcd p.1 p.2 = 1 ∧ p.1.natAbs < 2 ^ 1330 ∧ p.2.natAbs < 2 ^ 1330 := by
  unfold partOf at h
  generalize decide (dash z) = d at h
  match Txt.split (restOf z) ("/" : Str), h with
  | [a, b], h =>
    rw [partTwo_ab] at h
    by_cases c : fig a < 0 ∨ fig b < 1 ∨ Int.gcd (fig a) (fig b) ≠ 1 ∨ (d = true ∧ fig a = 0)
    · rw [if_pos c] at h; cases h
    · rw [if_neg c] at h
      cases h
      have h2 : ¬ fig b < 1 := fun z => c (.inr (.inl z))
      have h3 : Int.gcd (fig a) (fig b) = 1 := Classical.byContradiction fun z => c (.inr (.inr (.inl z)))
      have ba := fig_bits (x := a)
      have bb := fig_bits (x := b)
      refine ⟨by simp only; omega, ?_, ?_, bb⟩
      · simp only
        split
        · rw [Int.neg_gcd]; exact h3
        · exact h3
      · simp only
        split
        · rw [Int.natAbs_neg]; exact ba
        · exact ba
/-- a fraction written -/
def partStr (p : IP) : Str := Str.ofString (toString p.1) ++ ("/" : Str) ++ Str.ofString (toString p.2)
theorem log2_lt {n k : Nat} (h : n < 2 ^ k) (hk : 0 < k) : n.log2 < k := by
  rcases Nat.eq_zero_or_pos n with z | z
  · rw [z]; simpa using hk
  · exact (Nat.log2_lt (by omega)).mpr h
theorem spl_len {S : List Nat} : ∀ (l : List Nat) (k : Nat) (acc p : List Nat), p ∈ spl S k acc l → p.length ≤ acc.length + l.length
  | [], k, acc, p, h => by
    rw [spl_nil] at h
    rw [List.mem_singleton.mp h]
    omega
  | c :: r, 0, acc, p, h => by
    cases hp : pre S (c :: r) with
    | true =>
      rw [spl_hit hp] at h
      rcases List.mem_cons.mp h with h | h
      · rw [h]; omega
      · have := spl_len r _ [] p h
        simp only [List.length_nil, List.length_cons] at this ⊢
        omega
    | false =>
      rw [spl_miss hp] at h
      have := spl_len r _ _ p h
      simp only [List.length_append, List.length_cons, List.length_nil] at this ⊢
      omega
  | c :: r, k + 1, acc, p, h => by
    have := spl_len r k acc p h
    rw [List.length_cons]
    omega
theorem split_piece' {x y p : Str} (hy : tl y ≠ []) (hk : y.cps.all (· < 256) = true) (hp : p ∈ Txt.split x y) : p.length ≤ x.length := by
  have h := split_spl x y hy (kind_ok hk)
  have h2 : tl p ∈ spl (tl y) 0 [] (tl x) := by
    rw [← h]
    exact List.mem_map.mpr ⟨p, hp, rfl⟩
  have h3 := spl_len _ _ _ _ h2
  rw [← len_tl, ← len_tl, List.length_nil, Nat.zero_add] at h3
  exact h3
theorem split_piece {x p : Str} {c : Nat} (hp : p ∈ Txt.split x ⟨#[c]⟩) (hc : c < 256 := by decide) : p.length ≤ x.length := split_piece' (by simp) (by simpa using hc) hp
theorem tl_nat (n : Nat) : tl (Str.ofString (toString (n : Int))) = numL n := tl_num n
theorem tl_neg {n : Nat} (h : 0 < n) : tl (Str.ofString (toString (-(n : Int)))) = 45 :: numL n := by
  obtain ⟨m, rfl⟩ : ∃ m, n = m + 1 := ⟨n - 1, by omega⟩
  have e1 : toString (-((m + 1 : Nat) : Int)) = "-" ++ toString (((m + 1 : Nat) : Int)) := rfl
  rw [← tl_nat, e1, tl_ofString, tl_ofString, String.toList_append, List.map_append]
  rfl
theorem numL_le {n k : Nat} (hk : 0 < k) (h : n < 10 ^ k) : (numL n).length ≤ k := numL_len hk h
theorem istr_len {i : Int} {k : Nat} (hk : 0 < k) (h : i.natAbs < 10 ^ k) : (Str.ofString (toString i)).length ≤ k + 1 := by
  rw [len_tl]
  rcases Int.lt_or_le i 0 with z | z
  · rw [show i = -((i.natAbs : Nat) : Int) by omega, tl_neg (by omega), List.length_cons]
    have := numL_le hk h
    omega
  · rw [show i = ((i.natAbs : Nat) : Int) by omega, tl_nat]
    have := numL_le hk h
    omega
theorem restOf_eq {z : Str} : restOf z = z ↔ ¬ dash z := by
  unfold restOf
  constructor
  · intro h d
    rw [if_pos d] at h
    exact rest1_ne d h
  · intro d
    rw [if_neg d]
theorem low_eq {x y : Int} (hy : 0 < y) : ((Rat.divInt x y).num = x ∧ ((Rat.divInt x y).den : Int) = y) ↔ Int.gcd x y = 1 := by
  constructor
  · rintro ⟨h1, h2⟩
    have h3 := (Rat.divInt x y).reduced
    have h4 : (Rat.divInt x y).den = y.natAbs := by omega
    rw [h1, h4] at h3
    exact h3
  · intro h
    have := lenOk_rat hy h
    unfold rp at this
    injection this with h1 h2
    exact ⟨h1.symm, h2.symm⟩
def AllS (B : Nat) : List V → Prop
  | [] => True
  | v :: r => (∃ z : Str, v = .str z ∧ z.length ≤ B) ∧ AllS B r
theorem AllS.app {B : Nat} : ∀ {xs ys : List V}, AllS B xs → AllS B ys → AllS B (xs ++ ys)
  | [], _, _, h => h
  | _ :: _, _, h, k => ⟨h.1, AllS.app h.2 k⟩
theorem AllS.get {B : Nat} : ∀ {xs : List V} {i : Nat}, AllS B xs → i < xs.length → ∃ z : Str, xs[i]? = some (.str z) ∧ z.length ≤ B
  | [], _, _, h => absurd h (Nat.not_lt_zero _)
  | v :: r, 0, h, _ => by
    obtain ⟨z, e, l⟩ := h.1
    exact ⟨z, by rw [e]; rfl, l⟩
  | v :: r, i + 1, h, l => by
    obtain ⟨z, e, q⟩ := AllS.get (i := i) h.2 (by rw [List.length_cons] at l; omega)
    exact ⟨z, by rw [List.getElem?_cons_succ]; exact e, q⟩
theorem w_newLS {H : Hp} {Q : VK} {xs : List V} {B k : Nat} (a : AllS B xs) (e : xs.length = k) (h : ∀ (p : Addr) (ys : List V), H p = none → AllS B ys → ys.length = k → Q (.ref p) (upd H p (.lst ys))) (hz : xs.length ≤ sizeLine := by exact Pm.size_ok (Nat.le_of_ble_eq_true rfl)) : LstK Q xs H := ⟨hz, fun p hp => h p xs hp a e⟩
theorem fold_size (a : Array Nat) : ∀ (k : Nat) (b : Array Nat), ((List.replicate k a).foldl (· ++ ·) b).size = b.size + k * a.size
  | 0, b => by simp
  | k + 1, b => by
    rw [List.replicate_succ, List.foldl_cons, fold_size a k (b ++ a), Array.size_append, Nat.add_mul, Nat.one_mul]
    omega
theorem len_mul (x : Str) (n : Int) : (PySem.Txt.mul x n).length ≤ x.length * n.toNat := by
  unfold PySem.Txt.mul
  split
  · exact Nat.zero_le _
  · split
    · rename_i h1 h2
      have : 1 ≤ n.toNat := by omega
      exact Nat.le_mul_of_pos_right _ this
    · show ((List.replicate n.toNat x.cps).foldl (· ++ ·) #[]).size ≤ _
      rw [fold_size]
      show 0 + n.toNat * x.cps.size ≤ x.cps.size * n.toNat
      rw [Nat.zero_add, Nat.mul_comm]
      exact Nat.le_refl _
theorem w_mulA {H : Hp} {Q : VK} {z : Str} {n : Int} {B : Nat} (ok : MulOk z n) (hB : z.length * n.toNat ≤ B) (h : ∀ m : Str, m.length ≤ B → Q (.str m) H) : rMulS (.str z) (.int n) H Q := ⟨z, n, rfl, rfl, ok, h _ (Nat.le_trans (len_mul z n) hB)⟩
theorem l_dash : ("-" : Str).length = 1 := by decide +kernel
theorem l_over1 : ("/1" : Str).length = 2 := by decide +kernel
theorem l_1over : ("1/" : Str).length = 2 := by decide +kernel
theorem l_m1over : ("-1/" : Str).length = 3 := by decide +kernel
theorem w_isiStr {K : PySem.W.Frag} {H : Hp} {Q : VK} {z : Str} {n : String} {b : Bool} (e : kitB "str" n = some b) (h : Q (.bl b) H) : rIsi K [.str z, .ty n] H Q := ⟨_, _, _, _, b, rfl, .ty n, .base (.str z), kit_ty e, h⟩
end Pm
namespace Pm
open PySem PySem.Spec PyProof.Rows L2
/-- o.m(..) whose exceptions are wished for at the caller's slots -/
def tMethX (C : Addr) (m : Str) (sp : Sp) (E : L2.St → XK) (ta : TE) (t : TA) : TE := fun σ H Q => ta σ H fun x H1 => ∃ a dx fs, x = .ref a ∧ H1 a = some (.ins C dx fs) ∧ fs.lookup m = none ∧ t σ H1 fun vs H2 => sp (x :: vs) H2 Q (E σ)
/-- C(..) likewise -/
def tMakeX (C : Addr) (sp : Sp) (E : L2.St → XK) (t : TA) : TE := fun σ H Q => t σ H fun vs H1 => ∀ x dx, H1 x = none → H1 dx = none → dx ≠ x → sp (.ref x :: vs) (upd (upd H1 dx (.own x)) x (.ins C dx [])) (fun v H2 => v = .non ∧ Q (.ref x) H2) (E σ)
def FldK (K : PySem.W.Frag) (f : Str) (Q : VK) : VK := fun x H1 => ∃ a C dx fs v, x = .ref a ∧ H1 a = some (.ins C dx fs) ∧ Cls K C ∧ NoAttr K C f ∧ fs.lookup f = some v ∧ Q v H1
def SFldK (K : PySem.W.Frag) (f : Str) (y : V) (nx : L2.St → Hp → Prop) (σ : L2.St) : VK := fun x H2 => ∃ a C dx fs, x = .ref a ∧ H2 a = some (.ins C dx fs) ∧ Cls K C ∧ NoAttr K C f ∧ fs.length < 1000 ∧ nx σ (upd H2 a (.ins C dx (putF f y fs)))
def MethK (C : Addr) (m : Str) (R : V → Hp → Prop) : VK := fun x H1 => ∃ a dx fs, x = .ref a ∧ H1 a = some (.ins C dx fs) ∧ fs.lookup m = none ∧ R x H1
def MakeK (C : Addr) (sp : Sp) (dvs : List V) (E : XK) (Q : VK) : List V → Hp → Prop := fun vs H1 => ∀ x dx, H1 x = none → H1 dx = none → dx ≠ x → sp (.ref x :: (vs ++ dvs)) (upd (upd H1 dx (.own x)) x (.ins C dx [])) (fun v H2 => v = .non ∧ Q (.ref x) H2) E
def MakeXK (C : Addr) (sp : Sp) (E : XK) (Q : VK) : List V → Hp → Prop := fun vs H1 => ∀ x dx, H1 x = none → H1 dx = none → dx ≠ x → sp (.ref x :: vs) (upd (upd H1 dx (.own x)) x (.ins C dx [])) (fun v H2 => v = .non ∧ Q (.ref x) H2) E
section
variable {nx bk ct : L2.St → Hp → Prop} {rt : VK} {σ : L2.St} {H : Hp} {ta tv : TE} {Q : VK} {K : PySem.W.Frag} {f m : Str} {a C dx : Addr} {fs : List (Str × V)} {v y : V} {sp : Sp} {dvs : List V} {t : TA}
theorem w_fld (h : ta σ H (FldK K f Q)) : tFld K ta f σ H Q := h
theorem w_sfld (h : tv σ H fun y H1 => ta σ H1 (SFldK K f y nx σ)) : sFld K ta tv f ⟨nx, rt, bk, ct⟩ σ H := h
theorem w_meth {E : XK} (h : ta σ H (MethK C m fun x H1 => t σ H1 fun vs H2 => sp (x :: (vs ++ dvs)) H2 Q E)) : tMeth C m sp dvs E ta t σ H Q := h
theorem w_methX {E : L2.St → XK} (h : ta σ H (MethK C m fun x H1 => t σ H1 fun vs H2 => sp (x :: vs) H2 Q (E σ))) : tMethX C m sp E ta t σ H Q := h
theorem w_make {E : XK} (h : t σ H (MakeK C sp dvs E Q)) : tMake C sp dvs E t σ H Q := h
theorem w_makeX {E : L2.St → XK} (h : t σ H (MakeXK C sp (E σ) Q)) : tMakeX C sp E t σ H Q := h
end
theorem w_nes {Q : VK} {H : Hp} {i j : Str} (h : Q (.bl (!decide (i = j))) H) : rNe (.str i) (.str j) H Q := by
  refine ⟨rfl, ?_⟩
  have e : decide (V.str i = V.str j) = decide (i = j) := decide_eq_decide.mpr ⟨fun h => by injection h, fun h => by rw [h]⟩
  rw [e]
  exact h
end Pm
namespace Pm
open PySem PySem.Spec PyProof.Rows L2
/-- the objects at a, a + 1, .., n of them, read one by one -/
def frR {α : Type} (g : Addr → Option Obj) : Nat → Addr → (PySem.W.Frag → α) → α
  | 0, _, k => k []
  | n + 1, a, k => HandSHeadRun.frNat a fun a => match g a with
    | none => frR g n (a + 1) k
    | some o => frR g n (a + 1) fun K => k ((a, o) :: K)
theorem frR_eq {α : Type} (g : Addr → Option Obj) : ∀ (n : Nat) (a : Addr) (k : PySem.W.Frag → α), frR g n a k = k (He.frG g (List.range' a n))
  | 0, _, _ => rfl
  | n + 1, a, k => by
    unfold frR
    rw [HandSHeadRun.frNat_eq, List.range'_succ]
    show (match g a with | none => frR g n (a + 1) k | some o => frR g n (a + 1) fun K => k ((a, o) :: K)) = k (He.frG g (a :: List.range' (a + 1) n))
    cases h : g a with
    | none =>
      show frR g n (a + 1) k = _
      rw [frR_eq g n (a + 1) k]
      unfold He.frG
      rw [List.filterMap_cons, h]
      rfl
    | some o =>
      show (frR g n (a + 1) fun K => k ((a, o) :: K)) = _
      rw [frR_eq g n (a + 1) fun K => k ((a, o) :: K)]
      unfold He.frG
      rw [List.filterMap_cons, h]
      rfl
def asR (n : Nat) : List Addr := mainGlobals :: List.range' 0 n
def obsK {α : Type} (n : Nat) (F : PySem.W.Frag → α) (g : Addr → Option Obj) : α := match g mainGlobals with
  | none => frR g n 0 F
  | some o => frR g n 0 fun K => F ((mainGlobals, o) :: K)
theorem obsK_eq {α : Type} (n : Nat) (F : PySem.W.Frag → α) (g : Addr → Option Obj) : obsK n F g = F (He.frG g (asR n)) := by
  unfold obsK asR
  cases h : g mainGlobals with
  | none =>
    show frR g n 0 F = _
    rw [frR_eq]
    unfold He.frG
    rw [List.filterMap_cons, h]
    rfl
  | some o =>
    show (frR g n 0 fun K => F ((mainGlobals, o) :: K)) = _
    rw [frR_eq]
    unfold He.frG
    rw [List.filterMap_cons, h]
    rfl
/-- the Hook's facts, and Bools of one's own -/
def obsP (fa : List He.Fa) (fn : List He.FnD) (ex : PySem.W.Frag → List Bool) (K : PySem.W.Frag) : He.Al := ((He.obsE fa fn K).1 && (ex K).all id, (He.obsE fa fn K).2)
/-- what the end leans on -/
structure SaysP (fa : List He.Fa) (fn : List He.FnD) (ex : PySem.W.Frag → List Bool) (K : PySem.W.Frag) : Prop where
  e : He.SaysE fa fn K
  x : (ex K).all id = true
theorem saysP_of {fa : List He.Fa} {fn : List He.FnD} {ex : PySem.W.Frag → List Bool} {K : PySem.W.Frag} (h : obsP fa fn ex K = He.valE fn) : SaysP fa fn ex K := by
  have h1 : ((He.obsE fa fn K).1 && (ex K).all id) = true := congrArg Prod.fst h
  have h2 : (He.obsE fa fn K).2 = (He.valE fn).2 := by have z := congrArg Prod.snd h; exact z
  obtain ⟨a, b⟩ := Bool.and_eq_true_iff.mp h1
  exact ⟨Prod.ext a h2, b⟩
theorem obsP_of {fa : List He.Fa} {fn : List He.FnD} {ex : PySem.W.Frag → List Bool} {K : PySem.W.Frag} (h0 : (fn.map fun d => He.fnObs K d.at_) = fn.map He.FnD.val) (h1 : (fn.all fun d => (He.Fa.code d.at_ d.qual).ok K) = true) (h2 : (fa.all fun f => f.ok K) = true) (h3 : (ex K).all id = true) : obsP fa fn ex K = He.valE fn := by
  unfold obsP He.obsE He.valE
  rw [h0, h1, h2, h3]
  rfl
def hookP (n : Nat) (fa : List He.Fa) (fn : List He.FnD) (ex : PySem.W.Frag → List Bool) : PySem.W.Hook where
  α := He.Al
  obs := fun s => obsP fa fn ex (He.frG s.heap.get? (asR n))
  val := fun _ => He.valE fn
  says := fun _ h => ∃ K : PySem.W.Frag, K.In h ∧ SaysP fa fn ex K
  of := fun _ _ e => ⟨_, He.frG_in, saysP_of e⟩
  keeps := fun _ _ _ ⟨K, hK, c⟩ k => ⟨K, PySem.W.Frag.In.keeps hK k, c⟩
def obT (n : Nat) (fa : List He.Fa) (fn : List He.FnD) (ex : PySem.W.Frag → List Bool) (s : PySem.W.SharedT) : He.Al := obsP fa fn ex (He.frG (HandSHeadRun.getT s) (asR n))
theorem obT_eq {n : Nat} {fa : List He.Fa} {fn : List He.FnD} {ex : PySem.W.Frag → List Bool} (s : PySem.W.SharedT) : obT n fa fn ex s = (hookP n fa fn ex).obs s.abs := by
  have e : HandSHeadRun.getT s = s.abs.heap.get? := funext (HandSHeadRun.getT_eq s)
  unfold obT hookP
  rw [e]
/-- the top's end -/
noncomputable abbrev endR (r : PySem.W.OpenRow) (M : Nat) (w : World) (os : OsState) : Option PySem.W.SharedT := HandSHeadRun.endF (HandSHeadRun.stepQ (HandSHeadRun.denQ HandSHeadRun.tabQ) r.prog w) M r.prog w os
/-- one look at what stands at the end -/
def Look {α : Type} (r : PySem.W.OpenRow) (M n : Nat) (w : World) (F : PySem.W.Frag → α) (v : α) : Prop := ∀ os : OsState, (endR r M w os).map (fun s => obsK n F (HandSHeadRun.getT s)) = some v
theorem Look.at_ {α : Type} {r : PySem.W.OpenRow} {M n : Nat} {w : World} {F : PySem.W.Frag → α} {v : α} (h : Look r M n w F v) {os : OsState} {s : PySem.W.SharedT} (e : endR r M w os = some s) : F (He.frG (HandSHeadRun.getT s) (asR n)) = v := by
  have z := h os
  rw [e] at z
  have z2 : obsK n F (HandSHeadRun.getT s) = v := Option.some.inj z
  rw [obsK_eq] at z2
  exact z2
theorem run_of {r : PySem.W.OpenRow} {q : Program} {fa : List He.Fa} {fn : List He.FnD} {ex : PySem.W.Frag → List Bool} {M n : Nat} {loose : List Str} {w : World}
    (A : ∀ os : OsState, (endR r M w os).map (fun s => (HandSHeadRun.looksF r.prog (PySem.W.boot_heap w.params) s.abs, HandSHeadRun.seenQ q loose (importedModules r.prog.main.body) (fun s => PySem.W.xlAt q [] s && PySem.W.recOk r.toRowW.records s) s.abs)) = some (true, PySem.W.openGood q loose))
    (B : ∀ os s, endR r M w os = some s → obsP fa fn ex (He.frG (HandSHeadRun.getT s) (asR n)) = He.valE fn) : HandSHeadRun.RunEq r q (hookP n fa fn ex) (obT n fa fn ex) M loose w := by
  intro os
  have a := A os
  cases e : endR r M w os with
  | none =>
    rw [e] at a
    cases a
  | some s =>
    rw [e] at a
    have a2 := Option.some.inj a
    have a3 := congrArg Prod.fst a2
    have a4 := congrArg Prod.snd a2
    simp only at a3 a4
    show (endR r M w os).map _ = _
    rw [e]
    show some (_, _, obT n fa fn ex s) = some (true, _, He.valE fn)
    rw [a3, a4]
    unfold obT
    rw [B os s e]
section
variable {fa : List He.Fa} {fn : List He.FnD} {ex : PySem.W.Frag → List Bool} {K : PySem.W.Frag}
theorem SaysP.b (c : SaysP fa fn ex K) (i : Nat) {b : Bool} (h : (ex K)[i]? = some b) : b = true := List.all_eq_true.mp c.x b (List.mem_of_getElem? h)
theorem SaysP.d (c : SaysP fa fn ex K) (i : Nat) {p : Prop} [Decidable p] (h : (ex K)[i]? = some (decide p)) : p := of_decide_eq_true (c.b i h)
/-- a def of the top -/
theorem SaysP.def_ {D : He.FnD} (c : SaysP fa fn ex K) (i : Nat) (h : fn[i]? = some D) : ∃ oc od osl kV doc pm an cdv ct, K.lookup (He.fAd K D.at_) = some ⟨oc, od, .func (PySem.W.fnOf D.name D.qual D.params D.body D.scope .none kV doc pm an cdv ct), osl⟩ ∧ PySem.W.codeIn K cdv D.qual = true := c.e.def_ i h
end
end Pm
local macro_rules | `(tactic| walk_at "s1") => `(tactic| with_reducible refine Pm.w_rdS ?_)
local macro_rules | `(tactic| walk_at "s1") => `(tactic| with_reducible refine Pm.w_iStr ?_)
local macro_rules | `(tactic| walk_at "s1") => `(tactic| with_reducible refine Pm.w_iteN0 ?_)
local macro_rules | `(tactic| walk_at "s1") => `(tactic| with_reducible refine Pm.w_iteN1 ?_)
local macro_rules | `(tactic| walk_at "s1") => `(tactic| with_reducible refine Pm.w_iteF ?_)
local macro_rules | `(tactic| walk_at "s1") => `(tactic| with_reducible refine Pm.w_iteT ?_)
local macro_rules | `(tactic| walk_at "s1") => `(tactic| with_reducible refine Pm.w_makeX ?_)
local macro_rules | `(tactic| walk_at "s1") => `(tactic| with_reducible refine Pm.w_make ?_)
local macro_rules | `(tactic| walk_at "s1") => `(tactic| with_reducible refine Pm.w_methX ?_)
local macro_rules | `(tactic| walk_at "s1") => `(tactic| with_reducible refine Pm.w_sfld ?_)
local macro_rules | `(tactic| walk_at "s1") => `(tactic| with_reducible refine Pm.w_nes ?_)
local macro_rules | `(tactic| walk_at "s1") => `(tactic| with_reducible refine Pm.w_yes ?_)
local macro_rules | `(tactic| walk_at "s1") => `(tactic| with_reducible refine Pm.w_partK ?_)
local macro_rules | `(tactic| walk_at "s1") => `(tactic| with_reducible refine Pm.w_part ?_)
local macro_rules | `(tactic| walk_at "s1") => `(tactic| with_reducible refine Pm.w_noPart ?_)
local macro_rules | `(tactic| walk_at "s1") => `(tactic| with_reducible refine Pm.w_sl ?_)
local macro_rules | `(tactic| walk_at "s1") => `(tactic| with_reducible refine Pm.w_int1 ?_)
local macro_rules | `(tactic| walk_at "s1") => `(tactic| with_reducible refine Pm.w_dget ?_)
local macro_rules | `(tactic| walk_at "s1") => `(tactic| with_reducible refine Pm.w_dnotin ?_)
local macro_rules | `(tactic| walk_at "s1") => `(tactic| with_reducible refine Pm.w_din ?_)
local macro_rules | `(tactic| walk_at "s1") => `(tactic| with_reducible refine Pm.w_pairs0 ?_)
local macro_rules | `(tactic| walk_at "s1") => `(tactic| with_reducible refine Pm.w_pairs ?_)
local macro_rules | `(tactic| walk_at "s1") => `(tactic| ((with_reducible refine Pm.w_rg2 ?_ ?_); (refine ⟨⟨?_, ?_⟩, ?_, ?_⟩ <;> omega)))
local macro_rules | `(tactic| walk_at "s1") => `(tactic| ((with_reducible refine Pm.w_rg1 ?_ ?_); (constructor <;> omega)))
local macro_rules | `(tactic| walk_at "s1") => `(tactic| with_reducible refine Pm.w_iRng2 ?_)
local macro_rules | `(tactic| walk_at "s1") => `(tactic| with_reducible refine Pm.w_iRng1 ?_)
local macro_rules | `(tactic| walk_at "s1") => `(tactic| with_reducible refine Pm.w_iTup ?_)
local macro_rules | `(tactic| walk_at "s1") => `(tactic| with_reducible refine Pm.w_bm0 ?_)
local macro_rules | `(tactic| walk_at "s1") => `(tactic| with_reducible refine Pm.w_bm ?_)
local macro_rules | `(tactic| walk_at "s1") => `(tactic| with_reducible refine Pm.w_abs ?_)
local macro_rules | `(tactic| walk_at "s1") => `(tactic| with_reducible refine Pm.w_min ?_)
local macro_rules | `(tactic| walk_at "s1") => `(tactic| with_reducible refine Pm.w_max ?_)
local macro_rules | `(tactic| walk_at "s1") => `(tactic| with_reducible refine Pm.w_par2 ?_)
local macro_rules | `(tactic| walk_at "s1") => `(tactic| with_reducible refine Pm.w_par ?_)
local macro_rules | `(tactic| walk_at "s1") => `(tactic| with_reducible refine Pm.w_blx ?_)
local macro_rules | `(tactic| walk_at "s1") => `(tactic| with_reducible refine Pm.w_chain3 ?_)
local macro_rules | `(tactic| walk_at "s1") => `(tactic| with_reducible refine Pm.w_chain ?_)
local macro_rules | `(tactic| walk_at "s1") => `(tactic| with_reducible refine Pm.w_ifE ?_)
local macro_rules | `(tactic| walk_at "s1") => `(tactic| with_reducible refine Pm.w_notV ?_)
local macro_rules | `(tactic| walk_at "s1") => `(tactic| with_reducible refine Pm.w_orV ?_)
local macro_rules | `(tactic| walk_at "s1") => `(tactic| with_reducible refine Pm.w_andV ?_)
local macro_rules | `(tactic| walk_at "s1") => `(tactic| with_reducible refine Pm.w_not ?_)
local macro_rules | `(tactic| walk_at "s1") => `(tactic| with_reducible refine Pm.w_and ?_)
local macro_rules | `(tactic| walk_at "s1") => `(tactic| with_reducible refine Pm.w_bl ?_)
local macro_rules | `(tactic| walk_at "s1") => `(tactic| with_reducible refine Pm.w_lst ?_)
local macro_rules | `(tactic| walk_at "s1") => `(tactic| with_reducible refine Pm.w_callS ?_)
local macro_rules | `(tactic| walk_at "s1") => `(tactic| with_reducible refine Pm.w_eqs ?_)
local macro_rules | `(tactic| walk_at "s1") => `(tactic| with_reducible refine Pm.w_neb ?_)
local macro_rules | `(tactic| walk_at "s1") => `(tactic| with_reducible refine Pm.w_eqb ?_)
local macro_rules | `(tactic| walk_at "s1") => `(tactic| with_reducible refine Pm.w_nei ?_)
local macro_rules | `(tactic| walk_at "s1") => `(tactic| with_reducible refine Pm.w_eqi ?_)
local macro_rules | `(tactic| walk_at "s1") => `(tactic| with_reducible refine Pm.w_u ?_)
local macro_rules | `(tactic| walk_at "s1") => `(tactic| with_reducible refine Pm.w_gnil ?_)
local macro_rules | `(tactic| walk_at "s1") => `(tactic| with_reducible refine Pm.w_gsub ?_)
local macro_rules | `(tactic| walk_at "s1") => `(tactic| with_reducible refine Pm.w_cont ?_)
local macro_rules | `(tactic| walk_at "s1") => `(tactic| with_reducible refine Pm.w_brk ?_)
local macro_rules | `(tactic| walk_at "s1") => `(tactic| with_reducible refine Pm.w_retN ?_)
local macro_rules | `(tactic| walk_at "s1") => `(tactic| with_reducible refine Pm.w_or ?_)
local macro_rules | `(tactic| walk_at "s1") => `(tactic| with_reducible refine Pm.w_un ?_)
local macro_rules | `(tactic| walk_at "s1") => `(tactic| with_reducible refine Pm.w_drop ?_)
local macro_rules | `(tactic| walk_at "s1") => `(tactic| with_reducible refine Pm.w_b ?_)
local macro_rules | `(tactic| walk_at "s1") => `(tactic| with_reducible refine Pm.w_iList ?_)
local macro_rules | `(tactic| walk_at "s1") => `(tactic| with_reducible refine Pm.w_meth ?_)
local macro_rules | `(tactic| walk_at "s1") => `(tactic| with_reducible refine Pm.w_for ?_)
local macro_rules | `(tactic| walk_at "s1") => `(tactic| with_reducible refine Pm.w_dput ?_)
local macro_rules | `(tactic| walk_at "s1") => `(tactic| with_reducible refine Pm.w_fld ?_)
local macro_rules | `(tactic| walk_at "s1") => `(tactic| with_reducible refine Pm.w_cb ?_)
local macro_rules | `(tactic| walk_at "s1") => `(tactic| with_reducible refine Pm.w_lc ?_)
local macro_rules | `(tactic| walk_at "s1") => `(tactic| with_reducible refine Pm.w_gcons ?_)
local macro_rules | `(tactic| walk_at "s1") => `(tactic| with_reducible refine Pm.w_test ?_)
local macro_rules | `(tactic| walk_at "s1") => `(tactic| with_reducible refine Pm.w_tup ?_)
local macro_rules | `(tactic| walk_at "s1") => `(tactic| ((with_reducible show Pm.LcTurn _ _ _ _ _ _ _ _); refine Pm.w_turn rfl ?_))
local macro_rules | `(tactic| walk_at "s1") => `(tactic| with_reducible refine Pm.w_next ?_)
local macro_rules | `(tactic| walk_at "s1") => `(tactic| with_reducible refine Pm.w_nil ?_)
local macro_rules | `(tactic| walk_at "s1") => `(tactic| ((with_reducible refine Pm.w_i ?_ ?_); (walk_at "side")))
local macro_rules | `(tactic| walk_at "s1") => `(tactic| with_reducible refine Pm.w_i0 ?_)
local macro_rules | `(tactic| walk_at "s1") => `(tactic| with_reducible refine Pm.w_call ?_)
local macro_rules | `(tactic| walk_at "s1") => `(tactic| with_reducible refine Pm.w_ret ?_)
local macro_rules | `(tactic| walk_at "s1") => `(tactic| with_reducible refine Pm.w_gname ?_)
local macro_rules | `(tactic| walk_at "s1") => `(tactic| with_reducible refine Pm.w_if ?_)
local macro_rules | `(tactic| walk_at "s1") => `(tactic| with_reducible refine Pm.w_asg ?_)
local macro_rules | `(tactic| walk_at "s1") => `(tactic| with_reducible refine Pm.w_c ?_)
local macro_rules | `(tactic| walk_at "s1") => `(tactic| with_reducible refine Pm.w_seq ?_)
local macro_rules | `(tactic| walk_at "s1") => `(tactic| with_reducible refine Pm.w_op ?_)
local macro_rules | `(tactic| walk_at "s1") => `(tactic| with_reducible refine Pm.w_cons ?_)
local macro_rules | `(tactic| walk_at "s1") => `(tactic| ((with_reducible show L2.tVar _ _ _ _); refine Pm.w_var rfl ?_))
local macro_rules | `(tactic| walk_at "side") => `(tactic| first | (refine Pm.w_mul1 ?_; constructor <;> omega) | (refine Pm.w_mul2 ?_; constructor <;> omega) | ((with_reducible show L2.CDiv _ _); refine ⟨?_, ?_⟩ <;> omega) | ((with_reducible show L2.CPow _ _); exact ⟨by decide, by decide, by decide⟩) | (show (0:Int) < _; omega))
local macro_rules | `(tactic| walk_at "st") => `(tactic| repeat (walk_at "s1"))
namespace Pm
open PySem PySem.Spec PyProof.Rows L2 TL
def top (i : Nat) : Stmt := PySem.Challenge.pw_postmead_k03_fractions_written.main.body.getD i (.Pass ⟨0, 0, 0, 0⟩)
abbrev s_measure : Stmt := top 6
abbrev N_measure : List Str := ["one", "other"]
theorem sc_measure : FnScope N_measure ["one", "other"] (defScope s_measure) := ⟨rfl, rfl, rfl, by decide +kernel, rfl, by decide +kernel, by decide +kernel⟩
abbrev s_whole_of : Stmt := top 7
abbrev N_whole_of : List Str := ["word", "sign"]
theorem sc_whole_of : FnScope N_whole_of ["word"] (defScope s_whole_of) := ⟨rfl, rfl, rfl, by decide +kernel, rfl, by decide +kernel, by decide +kernel⟩
abbrev s_part_text : Stmt := top 8
abbrev N_part_text : List Str := ["one"]
theorem sc_part_text : FnScope N_part_text ["one"] (defScope s_part_text) := ⟨rfl, rfl, rfl, by decide +kernel, rfl, by decide +kernel, by decide +kernel⟩
abbrev s_part_read : Stmt := top 9
abbrev N_part_read : List Str := ["line", "below", "rest", "words", "top", "bottom"]
theorem sc_part_read : FnScope N_part_read ["line"] (defScope s_part_read) := ⟨rfl, rfl, rfl, by decide +kernel, rfl, by decide +kernel, by decide +kernel⟩
abbrev s_law_flow : Stmt := top 11
abbrev N_law_flow : List Str := ["_law_script", "_law_many", "_law_great", "_law_row", "_law_k", "_law_cell", "_law_mixed"]
theorem sc_law_flow : FnScope N_law_flow ["_law_script", "_law_many"] (defScope s_law_flow) := ⟨rfl, rfl, rfl, by decide +kernel, rfl, by decide +kernel, by decide +kernel⟩
abbrev s_law_whole : Stmt := top 12
abbrev N_law_whole : List Str := ["_law_found"]
theorem sc_law_whole : FnScope N_law_whole ["_law_found"] (defScope s_law_whole) := ⟨rfl, rfl, rfl, by decide +kernel, rfl, by decide +kernel, by decide +kernel⟩
abbrev s_law_low : Stmt := top 13
abbrev N_law_low : List Str := ["_law_top", "_law_bottom", "_law_one", "_law_other"]
theorem sc_law_low : FnScope N_law_low ["_law_top", "_law_bottom"] (defScope s_law_low) := ⟨rfl, rfl, rfl, by decide +kernel, rfl, by decide +kernel, by decide +kernel⟩
abbrev s_law_part : Stmt := top 14
abbrev N_law_part : List Str := ["_law_found"]
theorem sc_law_part : FnScope N_law_part ["_law_found"] (defScope s_law_part) := ⟨rfl, rfl, rfl, by decide +kernel, rfl, by decide +kernel, by decide +kernel⟩
abbrev s_law_number : Stmt := top 15
abbrev N_law_number : List Str := ["_law_word", "_law_sign"]
theorem sc_law_number : FnScope N_law_number ["_law_word"] (defScope s_law_number) := ⟨rfl, rfl, rfl, by decide +kernel, rfl, by decide +kernel, by decide +kernel⟩
abbrev s_law_due : Stmt := top 16
abbrev N_law_due : List Str := ["_law_line", "_law_rest", "_law_words", "_law_top", "_law_bottom"]
theorem sc_law_due : FnScope N_law_due ["_law_line"] (defScope s_law_due) := ⟨rfl, rfl, rfl, by decide +kernel, rfl, by decide +kernel, by decide +kernel⟩
abbrev s_law_odd : Stmt := top 17
abbrev N_law_odd : List Str := ["_law_one", "_law_some"]
theorem sc_law_odd : FnScope N_law_odd ["_law_one"] (defScope s_law_odd) := ⟨rfl, rfl, rfl, by decide +kernel, rfl, by decide +kernel, by decide +kernel⟩
abbrev s_law_spoilt : Stmt := top 18
abbrev N_law_spoilt : List Str := ["_law_line", "_law_row", "_law_at", "_law_sign"]
theorem sc_law_spoilt : FnScope N_law_spoilt ["_law_line", "_law_row"] (defScope s_law_spoilt) := ⟨rfl, rfl, rfl, by decide +kernel, rfl, by decide +kernel, by decide +kernel⟩
abbrev s_law : Stmt := top 19
abbrev N_law : List Str := ["_law_script", "_law_row", "_law_one", "_law_line", "_law_due_here", "_law_found", "e"]
theorem sc_law : FnScope N_law ["_law_script"] (defScope s_law) := ⟨rfl, rfl, rfl, by decide +kernel, rfl, by decide +kernel, by decide +kernel⟩
structure DefAt (K : PySem.W.Frag) (mg : Str → Option Value) (nm qn : Str) (st : Stmt) (ps : List Str) : Type where
  a : Addr
  fd : FuncData
  F : Fun K nm qn st a fd
  g : mg nm = some (.ref a)
  b : Binds K fd ps []
structure ExAt (K : PySem.W.Frag) (mg : Str → Option Value) (nm : Str) : Type where
  c : Addr
  g : mg nm = some (.ref c)
  x : PySem.W.excIn K c [.type "ValueError", .type "Exception", .type "BaseException", .type "object"] "ValueError.__new__" = true
  k : PySem.W.keepIn K (.ref c) = true
  b : PySem.W.subIn K (.ref c) (.type "BaseException") = some true
  t : PySem.W.typeIn K (.ref c) = some (.type "type")
  i : PySem.W.isClsIn K c = true
  z : PySem.W.subIn K (.ref c) (.ref c) = some true
/-- what the top has written -/
structure Tx (K : PySem.W.Frag) (mg : Str → Option Value) : Type where
  d_measure : DefAt K mg "measure" "measure" s_measure ["one", "other"]
  d_whole_of : DefAt K mg "whole_of" "whole_of" s_whole_of ["word"]
  d_part_text : DefAt K mg "part_text" "part_text" s_part_text ["one"]
  d_part_read : DefAt K mg "part_read" "part_read" s_part_read ["line"]
  d_law_flow : DefAt K mg "_law_flow" "_law_flow" s_law_flow ["_law_script", "_law_many"]
  d_law_whole : DefAt K mg "_law_whole" "_law_whole" s_law_whole ["_law_found"]
  d_law_low : DefAt K mg "_law_low" "_law_low" s_law_low ["_law_top", "_law_bottom"]
  d_law_part : DefAt K mg "_law_part" "_law_part" s_law_part ["_law_found"]
  d_law_number : DefAt K mg "_law_number" "_law_number" s_law_number ["_law_word"]
  d_law_due : DefAt K mg "_law_due" "_law_due" s_law_due ["_law_line"]
  d_law_odd : DefAt K mg "_law_odd" "_law_odd" s_law_odd ["_law_one"]
  d_law_spoilt : DefAt K mg "_law_spoilt" "_law_spoilt" s_law_spoilt ["_law_line", "_law_row"]
  d_law : DefAt K mg "law" "law" s_law ["_law_script"]
  m_abs : mg "abs" = none
  m_int : mg "int" = none
  m_len : mg "len" = none
  m_str : mg "str" = none
  m_range : mg "range" = none
  m_isinstance : mg "isinstance" = none
  m_bool : mg "bool" = none
  m_tuple : mg "tuple" = none
  e_NoFraction : ExAt K mg "NoFraction"
  e_MeadError : ExAt K mg "MeadError"
  u_MOST_FIGURES : Value
  g_MOST_FIGURES : mg "MOST_FIGURES" = some u_MOST_FIGURES
  r_MOST_FIGURES : RelV (.int 400) u_MOST_FIGURES
  u_FIGURES : Value
  g_FIGURES : mg "FIGURES" = some u_FIGURES
  r_FIGURES : RelV (.str "0123456789") u_FIGURES
  ex1_NoFraction : PySem.W.findIn K (.ref e_NoFraction.c) "__getattribute__" = some (some (.builtin "BaseException.__getattribute__"))
  ex2_NoFraction : PySem.W.findIn K (.ref e_NoFraction.c) "__getattr__" = some none
  ex3_NoFraction : PySem.W.hasDictIn K e_NoFraction.c = true
  ex4_NoFraction : PySem.W.findIn K (.ref e_NoFraction.c) "__class__" = some (some (.builtin "object.__class__"))
  ex5_NoFraction : PySem.W.specialIn K (.builtin "object.__class__") "__get__" = some (some (.builtin "getset_descriptor.__get__"))
  ex6_NoFraction : PySem.W.takesIn K (.builtin "object.__class__") = some true
  ex7_NoFraction : PySem.W.mroIn K e_NoFraction.c (.type "object") = some true
  kit_NoFraction_MeadError : PySem.W.kitOne K (.ref e_NoFraction.c) (.ref e_MeadError.c) = some true
  exm_NoFraction_MeadError : PySem.W.exmOne K (.ref e_NoFraction.c) (.ref e_MeadError.c) = some true
  kit_NoFraction_NoFraction : PySem.W.kitOne K (.ref e_NoFraction.c) (.ref e_NoFraction.c) = some true
  exm_NoFraction_NoFraction : PySem.W.exmOne K (.ref e_NoFraction.c) (.ref e_NoFraction.c) = some true
abbrev Tx.a_measure {K : PySem.W.Frag} {mg : Str → Option Value} (T : Tx K mg) : Addr := T.d_measure.a
abbrev Tx.fd_measure {K : PySem.W.Frag} {mg : Str → Option Value} (T : Tx K mg) : FuncData := T.d_measure.fd
theorem Tx.F_measure {K : PySem.W.Frag} {mg : Str → Option Value} (T : Tx K mg) : Fun K "measure" "measure" s_measure T.a_measure T.fd_measure := T.d_measure.F
theorem Tx.g_measure {K : PySem.W.Frag} {mg : Str → Option Value} (T : Tx K mg) : mg "measure" = some (.ref T.a_measure) := T.d_measure.g
theorem Tx.b_measure {K : PySem.W.Frag} {mg : Str → Option Value} (T : Tx K mg) : Binds K T.fd_measure ["one", "other"] [] := T.d_measure.b
abbrev Tx.a_whole_of {K : PySem.W.Frag} {mg : Str → Option Value} (T : Tx K mg) : Addr := T.d_whole_of.a
abbrev Tx.fd_whole_of {K : PySem.W.Frag} {mg : Str → Option Value} (T : Tx K mg) : FuncData := T.d_whole_of.fd
theorem Tx.F_whole_of {K : PySem.W.Frag} {mg : Str → Option Value} (T : Tx K mg) : Fun K "whole_of" "whole_of" s_whole_of T.a_whole_of T.fd_whole_of := T.d_whole_of.F
theorem Tx.g_whole_of {K : PySem.W.Frag} {mg : Str → Option Value} (T : Tx K mg) : mg "whole_of" = some (.ref T.a_whole_of) := T.d_whole_of.g
theorem Tx.b_whole_of {K : PySem.W.Frag} {mg : Str → Option Value} (T : Tx K mg) : Binds K T.fd_whole_of ["word"] [] := T.d_whole_of.b
abbrev Tx.a_part_text {K : PySem.W.Frag} {mg : Str → Option Value} (T : Tx K mg) : Addr := T.d_part_text.a
abbrev Tx.fd_part_text {K : PySem.W.Frag} {mg : Str → Option Value} (T : Tx K mg) : FuncData := T.d_part_text.fd
theorem Tx.F_part_text {K : PySem.W.Frag} {mg : Str → Option Value} (T : Tx K mg) : Fun K "part_text" "part_text" s_part_text T.a_part_text T.fd_part_text := T.d_part_text.F
theorem Tx.g_part_text {K : PySem.W.Frag} {mg : Str → Option Value} (T : Tx K mg) : mg "part_text" = some (.ref T.a_part_text) := T.d_part_text.g
theorem Tx.b_part_text {K : PySem.W.Frag} {mg : Str → Option Value} (T : Tx K mg) : Binds K T.fd_part_text ["one"] [] := T.d_part_text.b
abbrev Tx.a_part_read {K : PySem.W.Frag} {mg : Str → Option Value} (T : Tx K mg) : Addr := T.d_part_read.a
abbrev Tx.fd_part_read {K : PySem.W.Frag} {mg : Str → Option Value} (T : Tx K mg) : FuncData := T.d_part_read.fd
theorem Tx.F_part_read {K : PySem.W.Frag} {mg : Str → Option Value} (T : Tx K mg) : Fun K "part_read" "part_read" s_part_read T.a_part_read T.fd_part_read := T.d_part_read.F
theorem Tx.g_part_read {K : PySem.W.Frag} {mg : Str → Option Value} (T : Tx K mg) : mg "part_read" = some (.ref T.a_part_read) := T.d_part_read.g
theorem Tx.b_part_read {K : PySem.W.Frag} {mg : Str → Option Value} (T : Tx K mg) : Binds K T.fd_part_read ["line"] [] := T.d_part_read.b
abbrev Tx.a_law_flow {K : PySem.W.Frag} {mg : Str → Option Value} (T : Tx K mg) : Addr := T.d_law_flow.a
abbrev Tx.fd_law_flow {K : PySem.W.Frag} {mg : Str → Option Value} (T : Tx K mg) : FuncData := T.d_law_flow.fd
theorem Tx.F_law_flow {K : PySem.W.Frag} {mg : Str → Option Value} (T : Tx K mg) : Fun K "_law_flow" "_law_flow" s_law_flow T.a_law_flow T.fd_law_flow := T.d_law_flow.F
theorem Tx.g_law_flow {K : PySem.W.Frag} {mg : Str → Option Value} (T : Tx K mg) : mg "_law_flow" = some (.ref T.a_law_flow) := T.d_law_flow.g
theorem Tx.b_law_flow {K : PySem.W.Frag} {mg : Str → Option Value} (T : Tx K mg) : Binds K T.fd_law_flow ["_law_script", "_law_many"] [] := T.d_law_flow.b
abbrev Tx.a_law_whole {K : PySem.W.Frag} {mg : Str → Option Value} (T : Tx K mg) : Addr := T.d_law_whole.a
abbrev Tx.fd_law_whole {K : PySem.W.Frag} {mg : Str → Option Value} (T : Tx K mg) : FuncData := T.d_law_whole.fd
theorem Tx.F_law_whole {K : PySem.W.Frag} {mg : Str → Option Value} (T : Tx K mg) : Fun K "_law_whole" "_law_whole" s_law_whole T.a_law_whole T.fd_law_whole := T.d_law_whole.F
theorem Tx.g_law_whole {K : PySem.W.Frag} {mg : Str → Option Value} (T : Tx K mg) : mg "_law_whole" = some (.ref T.a_law_whole) := T.d_law_whole.g
theorem Tx.b_law_whole {K : PySem.W.Frag} {mg : Str → Option Value} (T : Tx K mg) : Binds K T.fd_law_whole ["_law_found"] [] := T.d_law_whole.b
abbrev Tx.a_law_low {K : PySem.W.Frag} {mg : Str → Option Value} (T : Tx K mg) : Addr := T.d_law_low.a
abbrev Tx.fd_law_low {K : PySem.W.Frag} {mg : Str → Option Value} (T : Tx K mg) : FuncData := T.d_law_low.fd
theorem Tx.F_law_low {K : PySem.W.Frag} {mg : Str → Option Value} (T : Tx K mg) : Fun K "_law_low" "_law_low" s_law_low T.a_law_low T.fd_law_low := T.d_law_low.F
theorem Tx.g_law_low {K : PySem.W.Frag} {mg : Str → Option Value} (T : Tx K mg) : mg "_law_low" = some (.ref T.a_law_low) := T.d_law_low.g
theorem Tx.b_law_low {K : PySem.W.Frag} {mg : Str → Option Value} (T : Tx K mg) : Binds K T.fd_law_low ["_law_top", "_law_bottom"] [] := T.d_law_low.b
abbrev Tx.a_law_part {K : PySem.W.Frag} {mg : Str → Option Value} (T : Tx K mg) : Addr := T.d_law_part.a
abbrev Tx.fd_law_part {K : PySem.W.Frag} {mg : Str → Option Value} (T : Tx K mg) : FuncData := T.d_law_part.fd
theorem Tx.F_law_part {K : PySem.W.Frag} {mg : Str → Option Value} (T : Tx K mg) : Fun K "_law_part" "_law_part" s_law_part T.a_law_part T.fd_law_part := T.d_law_part.F
theorem Tx.g_law_part {K : PySem.W.Frag} {mg : Str → Option Value} (T : Tx K mg) : mg "_law_part" = some (.ref T.a_law_part) := T.d_law_part.g
theorem Tx.b_law_part {K : PySem.W.Frag} {mg : Str → Option Value} (T : Tx K mg) : Binds K T.fd_law_part ["_law_found"] [] := T.d_law_part.b
abbrev Tx.a_law_number {K : PySem.W.Frag} {mg : Str → Option Value} (T : Tx K mg) : Addr := T.d_law_number.a
abbrev Tx.fd_law_number {K : PySem.W.Frag} {mg : Str → Option Value} (T : Tx K mg) : FuncData := T.d_law_number.fd
theorem Tx.F_law_number {K : PySem.W.Frag} {mg : Str → Option Value} (T : Tx K mg) : Fun K "_law_number" "_law_number" s_law_number T.a_law_number T.fd_law_number := T.d_law_number.F
theorem Tx.g_law_number {K : PySem.W.Frag} {mg : Str → Option Value} (T : Tx K mg) : mg "_law_number" = some (.ref T.a_law_number) := T.d_law_number.g
theorem Tx.b_law_number {K : PySem.W.Frag} {mg : Str → Option Value} (T : Tx K mg) : Binds K T.fd_law_number ["_law_word"] [] := T.d_law_number.b
abbrev Tx.a_law_due {K : PySem.W.Frag} {mg : Str → Option Value} (T : Tx K mg) : Addr := T.d_law_due.a
abbrev Tx.fd_law_due {K : PySem.W.Frag} {mg : Str → Option Value} (T : Tx K mg) : FuncData := T.d_law_due.fd
theorem Tx.F_law_due {K : PySem.W.Frag} {mg : Str → Option Value} (T : Tx K mg) : Fun K "_law_due" "_law_due" s_law_due T.a_law_due T.fd_law_due := T.d_law_due.F
theorem Tx.g_law_due {K : PySem.W.Frag} {mg : Str → Option Value} (T : Tx K mg) : mg "_law_due" = some (.ref T.a_law_due) := T.d_law_due.g
theorem Tx.b_law_due {K : PySem.W.Frag} {mg : Str → Option Value} (T : Tx K mg) : Binds K T.fd_law_due ["_law_line"] [] := T.d_law_due.b
abbrev Tx.a_law_odd {K : PySem.W.Frag} {mg : Str → Option Value} (T : Tx K mg) : Addr := T.d_law_odd.a
abbrev Tx.fd_law_odd {K : PySem.W.Frag} {mg : Str → Option Value} (T : Tx K mg) : FuncData := T.d_law_odd.fd
theorem Tx.F_law_odd {K : PySem.W.Frag} {mg : Str → Option Value} (T : Tx K mg) : Fun K "_law_odd" "_law_odd" s_law_odd T.a_law_odd T.fd_law_odd := T.d_law_odd.F
theorem Tx.g_law_odd {K : PySem.W.Frag} {mg : Str → Option Value} (T : Tx K mg) : mg "_law_odd" = some (.ref T.a_law_odd) := T.d_law_odd.g
theorem Tx.b_law_odd {K : PySem.W.Frag} {mg : Str → Option Value} (T : Tx K mg) : Binds K T.fd_law_odd ["_law_one"] [] := T.d_law_odd.b
abbrev Tx.a_law_spoilt {K : PySem.W.Frag} {mg : Str → Option Value} (T : Tx K mg) : Addr := T.d_law_spoilt.a
abbrev Tx.fd_law_spoilt {K : PySem.W.Frag} {mg : Str → Option Value} (T : Tx K mg) : FuncData := T.d_law_spoilt.fd
theorem Tx.F_law_spoilt {K : PySem.W.Frag} {mg : Str → Option Value} (T : Tx K mg) : Fun K "_law_spoilt" "_law_spoilt" s_law_spoilt T.a_law_spoilt T.fd_law_spoilt := T.d_law_spoilt.F
theorem Tx.g_law_spoilt {K : PySem.W.Frag} {mg : Str → Option Value} (T : Tx K mg) : mg "_law_spoilt" = some (.ref T.a_law_spoilt) := T.d_law_spoilt.g
theorem Tx.b_law_spoilt {K : PySem.W.Frag} {mg : Str → Option Value} (T : Tx K mg) : Binds K T.fd_law_spoilt ["_law_line", "_law_row"] [] := T.d_law_spoilt.b
abbrev Tx.a_law {K : PySem.W.Frag} {mg : Str → Option Value} (T : Tx K mg) : Addr := T.d_law.a
abbrev Tx.fd_law {K : PySem.W.Frag} {mg : Str → Option Value} (T : Tx K mg) : FuncData := T.d_law.fd
theorem Tx.F_law {K : PySem.W.Frag} {mg : Str → Option Value} (T : Tx K mg) : Fun K "law" "law" s_law T.a_law T.fd_law := T.d_law.F
theorem Tx.g_law {K : PySem.W.Frag} {mg : Str → Option Value} (T : Tx K mg) : mg "law" = some (.ref T.a_law) := T.d_law.g
abbrev Tx.c_NoFraction {K : PySem.W.Frag} {mg : Str → Option Value} (T : Tx K mg) : Addr := T.e_NoFraction.c
theorem Tx.g_NoFraction {K : PySem.W.Frag} {mg : Str → Option Value} (T : Tx K mg) : mg "NoFraction" = some (.ref T.c_NoFraction) := T.e_NoFraction.g
theorem Tx.x_NoFraction {K : PySem.W.Frag} {mg : Str → Option Value} (T : Tx K mg) : PySem.W.excIn K T.c_NoFraction [.type "ValueError", .type "Exception", .type "BaseException", .type "object"] "ValueError.__new__" = true := T.e_NoFraction.x
theorem Tx.k_NoFraction {K : PySem.W.Frag} {mg : Str → Option Value} (T : Tx K mg) : PySem.W.keepIn K (.ref T.c_NoFraction) = true := T.e_NoFraction.k
theorem Tx.b_NoFraction {K : PySem.W.Frag} {mg : Str → Option Value} (T : Tx K mg) : PySem.W.subIn K (.ref T.c_NoFraction) (.type "BaseException") = some true := T.e_NoFraction.b
theorem Tx.t_NoFraction {K : PySem.W.Frag} {mg : Str → Option Value} (T : Tx K mg) : PySem.W.typeIn K (.ref T.c_NoFraction) = some (.type "type") := T.e_NoFraction.t
abbrev Tx.c_MeadError {K : PySem.W.Frag} {mg : Str → Option Value} (T : Tx K mg) : Addr := T.e_MeadError.c
theorem Tx.g_MeadError {K : PySem.W.Frag} {mg : Str → Option Value} (T : Tx K mg) : mg "MeadError" = some (.ref T.c_MeadError) := T.e_MeadError.g
theorem Tx.exc_NoFraction {K : PySem.W.Frag} {mg : Str → Option Value} (T : Tx K mg) : ExcC K T.c_NoFraction := ⟨T.ex1_NoFraction, T.ex2_NoFraction, T.b_NoFraction, T.ex3_NoFraction, T.ex4_NoFraction, T.ex5_NoFraction, T.ex6_NoFraction, T.ex7_NoFraction⟩
def spFlow (K : PySem.W.Frag) : Sp := fun vs H Q _ => ∃ (a : Addr) (ns : List Int) (m : Nat), vs = [.ref a, .int m] ∧ SqL K H a (ns.map V.int) ∧ m ≤ 100000 ∧
  ∀ (row : List Int) (H' : Hp) (p : Addr), row.length = m → (∀ x ∈ row, 0 ≤ x ∧ x < 1000000) → Same H H' → H p = none → H' p = some (.lst (row.map V.int)) → Q (.ref p) H'
theorem flow_more {row : List Int} {x : Int} (h : ∀ x ∈ row, 0 ≤ x ∧ x < 1000000) (h0 : 0 ≤ x) (h1 : x < 1000000) : ∀ y ∈ row ++ [x], 0 ≤ y ∧ y < 1000000 := fun y hy => by
  rcases List.mem_append.mp hy with q | q
  · exact h y q
  · rw [List.mem_singleton.mp q]; exact ⟨h0, h1⟩
theorem flow_get {row : List Int} (h : ∀ x ∈ row, 0 ≤ x ∧ x < 1000000) (i : Nat) : 0 ≤ row.getD i 0 ∧ row.getD i 0 < 1000000 := by
  rw [List.getD_eq_getElem?_getD]
  cases e : row[i]? with
  | none => exact ⟨by decide, by decide⟩
  | some x => exact h x (List.mem_of_getElem? e)
section
variable {P : Program} {w : World} {K : PySem.W.Frag} {mg : Str → Option Value} {base : Heap}
theorem ok_law_flow (T : Tx K mg) : FnOk P w K mg base CX0 1 T.a_law_flow T.fd_law_flow ["_law_script", "_law_many"] (spFlow K) := by
  refine T.F_law_flow.ok sc_law_flow (fun vs H Q E h => ?_) (fun cdv A outer s H vs Q E hr h => ?_)
  · obtain ⟨a, ns, m, rfl, _⟩ := h
    rfl
  obtain ⟨a, ns, m, rfl, hS, hm, q⟩ := h
  refine ⟨_, (pss_cons (ps_set (i := 2) sc_law_flow.nd rfl (.inl rfl) (pe_int))
      (C8.pss_cut (ps_if (PW.pt (pw_and (pt_cmpR op_gt (pe_callB (c_len (K := K)) (by rfl) T.m_len PySem.boot_len (pa_cons (pv 0) pa_nil)) (pe_int) (nomark _)) (pw_and1 (pt_cmpR op_ge (pe_callB c_abs (by rfl) T.m_abs (by decide +kernel) (pa_cons (pe_ix (ix_listK (K := K)) (pv 0) (pe_int) (fun _ _ => rfl)) pa_nil)) (pe_op op_pow (pe_int) (pe_int)) (nomark _))))) (pss_one (ps_set (i := 2) sc_law_flow.nd rfl (.inl rfl) (pe_op op_sub (pe_callB c_abs (by rfl) T.m_abs (by decide +kernel) (pa_cons (pe_ix (ix_listK (K := K)) (pv 0) (pe_int) (fun _ _ => rfl)) pa_nil)) (pe_op op_pow (pe_int) (pe_int))))) pss_nil)
      (pss_cons (ps_set (i := 3) sc_law_flow.nd rfl (.inl rfl) (pe_lst pa_nil))
      (pss_cons (ps_for PassesOwn.never rfl (pi_range1 (by rfl) T.m_range (pa_cons (pv 1) pa_nil)) (pg_name (i := 4) sc_law_flow.nd rfl (.inl rfl)) (pss_one (ps_if (pt_cmpR op_gt (pv 2) (pe_int) (nomark _)) (pss_cons (ps_expr (k_bm (K := K) (pe_bm PySem.F.plainAttrs_list PySem.F.slot_list_append PySem.F.type_list_append mt_append (pv 3) (pa_cons (pe_op op_mod (pv 2) (pe_int)) pa_nil))))
      (pss_one (ps_set (i := 2) sc_law_flow.nd rfl (.inl rfl) (pe_op op_fdiv (pv 2) (pe_int))))) (pss_cons (ps_set (i := 5) sc_law_flow.nd rfl (.inl rfl) (pe_op op_add (pv 4) (pe_int)))
      (C8.pss_cut (ps_if (pt_cmpR op_gt (pe_callB (c_len (K := K)) (by rfl) T.m_len PySem.boot_len (pa_cons (pv 0) pa_nil)) (pe_int) (nomark _)) (pss_one (ps_set (i := 5) sc_law_flow.nd rfl (.inl rfl) (pe_ix (ix_listK (K := K)) (pv 0) (pe_op op_mod (pv 4) (pe_callB (c_len (K := K)) (by rfl) T.m_len PySem.boot_len (pa_cons (pv 0) pa_nil))) (fun _ _ => rfl)))) pss_nil)
      (pss_cons (ps_set (i := 6) sc_law_flow.nd rfl (.inl rfl) (pe_op op_mod (pe_op op_add (pe_op op_add (pe_op op_mul (pv 5) (pe_int)) (pe_op op_mul (pv 4) (pe_int))) (pe_int)) (pe_int)))
      (pss_cons (ps_set (i := 6) sc_law_flow.nd rfl (.inl rfl) (pe_op op_mod (pe_op op_add (pe_op op_add (pe_op op_mul (pv 6) (pe_int)) (pe_op op_mul (pv 4) (pe_int))) (pe_callB (c_len (K := K)) (by rfl) T.m_len PySem.boot_len (pa_cons (pv 0) pa_nil))) (pe_int)))
      (pss_one (ps_expr (k_bm (K := K) (pe_bm PySem.F.plainAttrs_list PySem.F.slot_list_append PySem.F.type_list_append mt_append (pv 3) (pa_cons (pe_op op_mod (pe_op op_fdiv (pv 6) (pe_int)) (pe_int)) pa_nil))))))))))))
      (pss_one (ps_ret (pv 3))))))), ?_⟩
  walk_at "st"
  have hl : (ns.map V.int).length = ns.length := List.length_map _
  refine Pm.w_cut (fun σ' H' => ∃ g : Int, σ' = [some (.ref a), some (.int m), some (.int g), none, none, none, none] ∧ H' = H) ?_ ?_
  · walk_at "st"
    refine Pm.w_len (.inl hS) ?_
    walk_at "st"
    refine Pm.w_ite (fun c => ?_) (fun c => ?_)
    · rw [hl] at c
      walk_at "st"
      refine Pm.w_ixL hS (atI_int (by omega) (by omega)) ?_
      walk_at "st"
      refine Pm.w_ite (fun c => ?_) (fun c => ?_)
      · walk_at "st"
        refine Pm.w_ixL hS (atI_int (by omega) (by omega)) ?_
        walk_at "st"
        exact ⟨_, rfl, rfl⟩
      · walk_at "st"
        exact ⟨_, rfl, rfl⟩
    · walk_at "st"
      exact ⟨_, rfl, rfl⟩
  rintro σ H' ⟨g, rfl, rfl⟩
  walk_at "st"
  refine Pm.w_newL (fun p hp => ?_)
  walk_at "st"
  rw [Int.toNat_natCast]
  refine Pm.w_forR (fun i σ H2 => ∃ (g : Int) (row : List Int) (x4 x5 x6 : Option V), σ = [some (.ref a), some (.int m), some (.int g), some (.ref p), x4, x5, x6] ∧
    row.length = i ∧ (∀ x ∈ row, 0 ≤ x ∧ x < 1000000) ∧ H2 = upd H' p (.lst (row.map V.int))) ?_ ?_ ?_
  · exact ⟨g, [], none, none, none, rfl, rfl, fun x hx => absurd hx (List.not_mem_nil), rfl⟩
  · rintro i σ H2 hi ⟨g, row, x4, x5, x6, rfl, hrow, hb, rfl⟩
    have hS2 : SqL K (upd H' p (.lst (row.map V.int))) a (ns.map V.int) := (same_new hp _).seq hS
    have hz : (row.map V.int).length < sizeLine := by rw [List.length_map]; exact size_lt (by omega)
    have fin : ∀ x : Int, upd (upd H' p (.lst (row.map V.int))) p (.lst (row.map V.int ++ [.int x])) = upd H' p (.lst ((row ++ [x]).map V.int)) := fun x => by rw [upd_upd, List.map_append] <;> rfl
    walk_at "st"
    refine Pm.w_ite (fun c => ?_) (fun c => ?_)
    · walk_at "st"
      refine ⟨.inl ⟨rfl, _, SqL.of upd_same⟩, ?_⟩
      walk_at "st"
      refine Pm.w_append upd_same hz ?_
      walk_at "st"
      refine ⟨_, row ++ [g % 1000000], _, _, _, rfl, by rw [List.length_append, hrow] <;> rfl, flow_more hb (by omega) (by omega), fin _⟩
    · walk_at "st"
      refine Pm.w_cut (fun σ' H3 => ∃ cell : Int, σ' = [some (.ref a), some (.int m), some (.int g), some (.ref p), some (.int (0 + (i : Nat))), some (.int cell), x6] ∧ H3 = upd H' p (.lst (row.map V.int))) ?_ ?_
      · walk_at "st"
        refine Pm.w_len (.inl hS2) ?_
        walk_at "st"
        refine Pm.w_ite (fun c => ?_) (fun c => ?_)
        · rw [hl] at c
          walk_at "st"
          refine Pm.w_len (.inl hS2) ?_
          rw [hl]
          walk_at "st"
          refine Pm.w_ixL hS2 (atI_int (Int.emod_nonneg _ (by omega)) (Int.emod_lt_of_pos _ (by omega))) ?_
          walk_at "st"
          exact ⟨_, rfl, rfl⟩
        · walk_at "st"
          exact ⟨_, rfl, rfl⟩
      · rintro σ H3 ⟨cell, rfl, rfl⟩
        walk_at "st"
        refine Pm.w_len (.inl hS2) ?_
        walk_at "st"
        refine ⟨.inl ⟨rfl, _, SqL.of upd_same⟩, ?_⟩
        walk_at "st"
        refine Pm.w_append upd_same hz ?_
        walk_at "st"
        refine ⟨_, row ++ [_], _, _, _, rfl, by rw [List.length_append, hrow] <;> rfl, flow_more hb (Int.emod_nonneg _ (by decide)) (Int.emod_lt_of_pos _ (by decide)), fin _⟩
  · rintro σ H2 ⟨g, row, x4, x5, x6, rfl, hrow, hb, rfl⟩
    walk_at "st"
    exact q row _ p hrow hb (same_new hp _) hp upd_same
end
section
variable {P : Program} {w : World} {K : PySem.W.Frag} {mg : Str → Option Value} {base : Heap}
def spWhole : Sp := fun vs H Q _ => ∃ i : Int, vs = [.int i] ∧ Q (.bl true) H
theorem ok_law_whole (T : Tx K mg) : FnOk P w K mg base CX0 1 T.a_law_whole T.fd_law_whole ["_law_found"] spWhole := by
  refine T.F_law_whole.ok sc_law_whole (fun vs H Q E h => ?_) (fun cdv A outer s H vs Q E hr h => ?_)
  · obtain ⟨i, rfl, _⟩ := h
    rfl
  obtain ⟨i, rfl, q⟩ := h
  refine ⟨_, (pss_one (ps_ret ((pe_and (pe_callB (call_isK (K := K)) (by rfl) T.m_isinstance (by decide +kernel) (pa_cons (pv 0) (pa_cons (pe_bltn (v := .ty "int") (by rfl) T.m_int (by decide +kernel) rfl) pa_nil))) (pe_one (pe_not (pe_callB (call_isK (K := K)) (by rfl) T.m_isinstance (by decide +kernel) (pa_cons (pv 0) (pa_cons (pe_bltn (v := .ty "bool") (by rfl) T.m_bool (by decide +kernel) rfl) pa_nil))))))))), ?_⟩
  walk_at "st"
  refine Pm.w_isiInt (b := true) (by decide +kernel) ?_
  walk_at "st"
  refine Pm.w_isiInt (b := false) (by decide +kernel) ?_
  walk_at "st"
  exact q
end
section
variable {P : Program} {w : World} {K : PySem.W.Frag} {mg : Str → Option Value} {base : Heap}
def spMeasure : Sp := fun vs H Q _ => ∃ a b : Int, vs = [.int a, .int b] ∧ Q (.int ((Int.gcd a b : Nat) : Int)) H
theorem ok_measure (T : Tx K mg) : FnOk P w K mg base CX0 1 T.a_measure T.fd_measure ["one", "other"] spMeasure := by
  refine T.F_measure.ok sc_measure (fun vs H Q E h => ?_) (fun cdv A outer s H vs Q E hr h => ?_)
  · obtain ⟨a, b, rfl, _⟩ := h
    rfl
  obtain ⟨a, b, rfl, q⟩ := h
  refine ⟨_, (pss_cons (ps_set (i := 0) sc_measure.nd rfl (.inl rfl) (pe_callB c_abs (by rfl) T.m_abs (by decide +kernel) (pa_cons (pv 0) pa_nil)))
      (pss_cons (ps_set (i := 1) sc_measure.nd rfl (.inl rfl) (pe_callB c_abs (by rfl) T.m_abs (by decide +kernel) (pa_cons (pv 1) pa_nil)))
      (pss_cons (ps_while PassesOwn.never (pt_cmpR op_gt (pv 1) (pe_int) (nomark _)) (pss_one (ps_par (i := 0) (j := 1) (by rfl) sc_measure.nd rfl rfl (by decide) rfl rfl (pa_cons (pv 1) (pa_cons (pe_op op_mod (pv 0) (pv 1)) pa_nil)) (by rfl))))
      (pss_one (ps_ret (pv 0)))))), ?_⟩
  walk_at "st"
  refine Pm.w_while (fun m σ H' => ∃ x y : Nat, σ = [some (.int x), some (.int y)] ∧ m = y ∧ Nat.gcd x y = Int.gcd a b ∧ H' = H) _ ⟨(if a < 0 then -a else a).natAbs, (if b < 0 then -b else b).natAbs, ?_, rfl, gcd_abs a b, rfl⟩ ?_
  · have e : ∀ c : Int, (if c < 0 then -c else c) = (((if c < 0 then -c else c).natAbs : Nat) : Int) := fun c => by split <;> omega
    show [some (V.int (if a < 0 then -a else a)), some (V.int (if b < 0 then -b else b))] = _
    rw [← e a, ← e b]
  · rintro m σ H' ⟨x, y, rfl, rfl, hg, rfl⟩
    walk_at "st"
    refine Pm.w_wh (fun c => ?_) (fun c => ?_)
    · walk_at "st"
      exact ⟨_, Nat.mod_lt x (by omega), m, x % m, rfl, rfl, by rw [gcd_turn x m (by omega)]; exact hg, rfl⟩
    · have e : m = 0 := by omega
      subst e
      rw [Nat.gcd_zero_right] at hg
      rw [hg]
      walk_at "st"
      exact q
end
section
variable {P : Program} {w : World} {K : PySem.W.Frag} {mg : Str → Option Value} {base : Heap}
def spLow : Sp := fun vs H Q _ => ∃ (a b : Int) (n : Nat), vs = [.int a, .int b] ∧ b ≠ 0 ∧ b.natAbs < 2 ^ n ∧ n ≤ 9000 ∧ FrNew H (Rat.divInt a b) Q
theorem ok_law_low (T : Tx K mg) : FnOk P w K mg base CX0 1 T.a_law_low T.fd_law_low ["_law_top", "_law_bottom"] spLow := by
  refine T.F_law_low.ok sc_law_low (fun vs H Q E h => ?_) (fun cdv A outer s H vs Q E hr h => ?_)
  · obtain ⟨a, b, n, rfl, _⟩ := h
    rfl
  obtain ⟨a, b, n, rfl, hb, hn, hn9, q⟩ := h
  refine ⟨_, (pss_cons (ps_set (i := 2) sc_law_low.nd rfl (.inl rfl) (pe_callB c_abs (by rfl) T.m_abs (by decide +kernel) (pa_cons (pv 0) pa_nil)))
      (pss_cons (ps_set (i := 3) sc_law_low.nd rfl (.inl rfl) (pe_callB c_abs (by rfl) T.m_abs (by decide +kernel) (pa_cons (pv 1) pa_nil)))
      (pss_cons (ps_while PassesOwn.never (pt_cmpR op_gt (pv 3) (pe_int) (nomark _)) (pss_one (ps_par (i := 2) (j := 3) (by rfl) sc_law_low.nd rfl rfl (by decide) rfl rfl (pa_cons (pv 3) (pa_cons (pe_op op_mod (pv 2) (pv 3)) pa_nil)) (by rfl))))
      (C8.pss_cut (ps_if (pt_cmpR op_lt (pv 1) (pe_int) (nomark _)) (pss_cons (ps_set (i := 0) sc_law_low.nd rfl (.inl rfl) (pe_un un_neg (pv 0)))
      (pss_one (ps_set (i := 1) sc_law_low.nd rfl (.inl rfl) (pe_un un_neg (pv 1))))) pss_nil)
      (pss_one (ps_ret (pe_tup (pa_cons (pe_op op_fdivW (pv 0) (pv 2)) (pa_cons (pe_op op_fdivW (pv 1) (pv 2)) pa_nil))))))))), ?_⟩
  walk_at "st"
  refine Pm.w_while (fun m σ H' => ∃ x y : Nat, σ = [some (.int a), some (.int b), some (.int x), some (.int y)] ∧ m = y ∧ Nat.gcd x y = Int.gcd a b ∧ H' = H) _ ⟨(if a < 0 then -a else a).natAbs, (if b < 0 then -b else b).natAbs, ?_, rfl, gcd_abs a b, rfl⟩ ?_
  · have e : ∀ c : Int, (if c < 0 then -c else c) = (((if c < 0 then -c else c).natAbs : Nat) : Int) := fun c => by split <;> omega
    show [some (V.int a), some (V.int b), some (V.int (if a < 0 then -a else a)), some (V.int (if b < 0 then -b else b))] = _
    rw [← e a, ← e b]
  · rintro m σ H' ⟨x, y, rfl, rfl, hg, rfl⟩
    walk_at "st"
    refine Pm.w_wh (fun c => ?_) (fun c => ?_)
    · walk_at "st"
      exact ⟨_, Nat.mod_lt x (by omega), m, x % m, rfl, rfl, by rw [gcd_turn x m (by omega)]; exact hg, rfl⟩
    · have e : m = 0 := by omega
      subst e
      rw [Nat.gcd_zero_right] at hg
      subst hg
      refine Pm.w_cut (fun σ' H2 => ∃ a' b' : Int, σ' = [some (.int a'), some (.int b'), some (.int ((Int.gcd a b : Nat) : Int)), some (.int ((0 : Nat) : Int))] ∧ H2 = H' ∧ Int.gcd a' b' = Int.gcd a b ∧ 0 < b' ∧ b'.natAbs < 2 ^ n ∧ Rat.divInt a' b' = Rat.divInt a b) ?_ ?_
      · walk_at "st"
        refine Pm.w_ite (fun d => ?_) (fun d => ?_)
        · walk_at "st"
          exact ⟨-a, -b, rfl, rfl, by rw [Int.gcd_neg, Int.neg_gcd], by omega, by omega, Rat.neg_divInt_neg a b⟩
        · walk_at "st"
          exact ⟨a, b, rfl, rfl, rfl, by omega, hn, rfl⟩
      · rintro σ H2 ⟨a', b', rfl, rfl, eg, hb', hn, e⟩
        rw [← eg]
        have g0 : 0 < ((Int.gcd a' b' : Nat) : Int) := gcd_pos (by omega)
        have g1 := gcd_le_right (a := a') hb'
        have n0 : 0 < n := by
          rcases Nat.eq_zero_or_pos n with z | z
          · subst z
            exact absurd hn (by omega)
          · exact z
        have hd : ∀ i : Int, CDivW i ((Int.gcd a' b' : Nat) : Int) := fun i => wide_div g0 (Nat.lt_of_le_of_lt (by omega) hn) n0 hn9
        walk_at "st"
        refine Pm.w_i (hd _) ?_
        walk_at "st"
        refine Pm.w_i (hd _) ?_
        walk_at "st"
        refine Pm.w_newT (fun t ht => ?_)
        have z := div_pos_num (a := a') hb'
        rw [z.1, z.2, e]
        exact q t _ (same_new ht _) ht upd_same
end
section
variable {P : Program} {w : World} {K : PySem.W.Frag} {mg : Str → Option Value} {base : Heap}
def spPart (K : PySem.W.Frag) : Sp := fun vs H Q _ => ∃ (t : Addr) (r : Rat) (n : Nat), vs = [.ref t] ∧ SqT K H t [.int r.num, .int r.den] ∧ r.den < 2 ^ n ∧ n ≤ 9000 ∧ ∀ H', Same H H' → Q (.bl true) H'
theorem ok_law_part (T : Tx K mg) : FnOk P w K mg base CX0 2 T.a_law_part T.fd_law_part ["_law_found"] (spPart K) := by
  refine T.F_law_part.ok sc_law_part (fun vs H Q E h => ?_) (fun cdv A outer s H vs Q E hr h => ?_)
  · obtain ⟨t, r, n, rfl, _⟩ := h
    rfl
  obtain ⟨t, r, n, rfl, ht, hn, hn9, q⟩ := h
  refine ⟨_, (pss_cons (ps_if (PW.pt (pw_or (pt_not (pt_val (pe_callB (call_isK (K := K)) (by rfl) T.m_isinstance (by decide +kernel) (pa_cons (pv 0) (pa_cons (pe_bltn (v := .ty "tuple") (by rfl) T.m_tuple (by decide +kernel) rfl) pa_nil))))) (pw_or1 (pt_cmpR op_ne (pe_callB (c_len (K := K)) (by rfl) T.m_len PySem.boot_len (pa_cons (pv 0) pa_nil)) (pe_int) (nomark _))))) (pss_one (ps_ret (pe_bl))) pss_nil)
      (pss_cons (ps_if (PW.pt (pw_or (pt_not (pt_val (pe_call (ok_law_whole T) (hr.mono (by decide)) (by rfl) T.g_law_whole T.F_law_whole.kp T.b_law_whole .nil pass0 (pa_cons (pe_ix (ix_tupK (K := K)) (pv 0) (pe_int) (fun _ _ => rfl)) pa_nil)))) (pw_or (pt_not (pt_val (pe_call (ok_law_whole T) (hr.mono (by decide)) (by rfl) T.g_law_whole T.F_law_whole.kp T.b_law_whole .nil pass0 (pa_cons (pe_ix (ix_tupK (K := K)) (pv 0) (pe_int) (fun _ _ => rfl)) pa_nil)))) (pw_or1 (pt_cmpR op_le (pe_ix (ix_tupK (K := K)) (pv 0) (pe_int) (fun _ _ => rfl)) (pe_int) (nomark _)))))) (pss_one (ps_ret (pe_bl))) pss_nil)
      (pss_one (ps_ret (pe_cmpR (op_eqDK (K := K) hr.units) (pe_call (ok_law_low T) (hr.mono (by decide)) (by rfl) T.g_law_low T.F_law_low.kp T.b_law_low .nil pass0 (pa_cons (pe_ix (ix_tupK (K := K)) (pv 0) (pe_int) (fun _ _ => rfl)) (pa_cons (pe_ix (ix_tupK (K := K)) (pv 0) (pe_int) (fun _ _ => rfl)) pa_nil))) (pv 0) (nomark _)))))), ?_⟩
  have rd := r.den_nz
  walk_at "st"
  refine Pm.w_isiTup ht (b := true) (by decide +kernel) ?_
  walk_at "st"
  refine Pm.w_lenT ht ?_
  walk_at "st"
  refine Pm.w_iteN (fun z => absurd rfl z) (fun _ => ?_)
  walk_at "st"
  refine Pm.w_ixT ht (atI2 _ _).1 ?_
  walk_at "st"
  refine ⟨_, rfl, ?_⟩
  walk_at "st"
  refine Pm.w_ixT ht (atI2 _ _).2 ?_
  walk_at "st"
  refine ⟨_, rfl, ?_⟩
  walk_at "st"
  refine Pm.w_ixT ht (atI2 _ _).2 ?_
  walk_at "st"
  refine Pm.w_ite (fun z => absurd z (by omega)) (fun _ => ?_)
  walk_at "st"
  refine Pm.w_ixT ht (atI2 _ _).1 ?_
  walk_at "st"
  refine Pm.w_ixT ht (atI2 _ _).2 ?_
  walk_at "st"
  refine ⟨_, _, n, rfl, den_ne r, by omega, hn9, fun u H' s1 nu hu => ?_⟩
  walk_at "st"
  refine Pm.w_eqPair (SqT.of hu) (Same.tup s1 ht) ?_
  rw [divInt_self', decide_eq_true ⟨rfl, rfl⟩]
  exact q H' s1
end
section
open TL
variable {P : Program} {w : World} {K : PySem.W.Frag} {mg : Str → Option Value} {base : Heap}
def spFig : Sp := fun vs H Q _ => ∃ z : Str, vs = [.str z] ∧ z.length ≤ 1000000 ∧ Q (.int (fig z)) H
theorem digits_take {z : Str} {i c : Nat} (h : (tl z)[i]? = some c) (d : ∀ x ∈ (tl z).take i, 48 ≤ x ∧ x ≤ 57) (hc : 48 ≤ c ∧ c ≤ 57) : ∀ x ∈ (tl z).take (i + 1), 48 ≤ x ∧ x ≤ 57 := fun x hx => by
  rw [take_snoc h] at hx
  rcases List.mem_append.mp hx with m | m
  · exact d x m
  · rw [List.mem_singleton.mp m]; exact hc
theorem ok_whole_of (T : Tx K mg) : FnOk P w K mg base CX0 1 T.a_whole_of T.fd_whole_of (["word"]) spFig := by
  refine T.F_whole_of.ok sc_whole_of (fun vs H Q E h => ?_) (fun cdv A outer s H vs Q E hr h => ?_)
  · obtain ⟨z, rfl, _⟩ := h
    rfl
  obtain ⟨z, rfl, hz, q⟩ := h
  have sz : z.length ≤ sizeLine := size_ok (by omega)
  refine ⟨_, (pss_cons (ps_if (PW.pt (pw_or (pt_cmpR op_eq (pv 0) (pe_str) (nomark _)) (pw_or1 (pt_cmpR op_gt (pe_callB c_lenS (by rfl) T.m_len PySem.boot_len (pa_cons (pv 0) pa_nil)) (pe_glob (by rfl) T.g_MOST_FIGURES T.r_MOST_FIGURES) (nomark _))))) (pss_one (ps_ret (pe_un un_neg (pe_int)))) pss_nil)
      (pss_cons (ps_for PassesOwn.never rfl (pi_str (pv 0)) (pg_name (i := 1) sc_whole_of.nd rfl (.inl rfl)) (pss_one (ps_if (pt_cmpR o_ninC (pv 1) (pe_glob (by rfl) T.g_FIGURES T.r_FIGURES) (by rfl)) (pss_one (ps_ret (pe_un un_neg (pe_int)))) pss_nil)))
      (pss_cons (ps_if (PW.pt (pw_and (pt_cmpR op_eq (pe_ix ix_str (pv 0) (pe_int) (fun _ _ => rfl)) (pe_str) (nomark _)) (pw_and1 (pt_cmpR op_gt (pe_callB c_lenS (by rfl) T.m_len PySem.boot_len (pa_cons (pv 0) pa_nil)) (pe_int) (nomark _))))) (pss_one (ps_ret (pe_un un_neg (pe_int)))) pss_nil)
      (pss_one (ps_ret (pe_callTy c_intS (by rfl) T.m_int (by decide +kernel) (pa_cons (pv 0) pa_nil))))))), ?_⟩
  walk_at "st"
  refine Pm.w_ite (fun e => ?_) (fun e => ?_)
  · walk_at "st"
    rw [fig_no (.inl (len_zero.mp e))] at q
    exact q
  rw [len_zero] at e
  walk_at "st"
  refine Pm.w_lenS sz ?_
  walk_at "st"
  refine Pm.w_ite (fun e2 => ?_) (fun e2 => ?_)
  · walk_at "st"
    rw [fig_no (.inr (.inl (by omega)))] at q
    exact q
  walk_at "st"
  refine Pm.w_forS (fun i σ H' => ∃ x, σ = [some (.str z), x] ∧ H' = H ∧ ∀ x ∈ (tl z).take i, 48 ≤ x ∧ x ≤ 57) ⟨_, rfl, rfl, by rw [List.take_zero]; exact fun x h => nomatch h⟩ ?_ ?_
  · rintro i c σ H' hc ⟨x, rfl, rfl, hd⟩
    walk_at "st"
    refine Pm.w_ninC ?_
    walk_at "st"
    refine Pm.w_iteN (fun n => ?_) (fun y => ?_)
    · walk_at "st"
      rw [fig_no (.inr (.inr (.inl fun a => n (figures_mem.mpr (a c (List.mem_of_getElem? hc))))))] at q
      exact q
    · walk_at "st"
      exact ⟨_, rfl, rfl, digits_take hc hd (figures_mem.mp y)⟩
  · rintro σ H' ⟨x, rfl, rfl, hd⟩
    rw [List.take_length] at hd
    have ne : tl z ≠ [] := fun y => e ((len0_tl z).mpr y)
    obtain ⟨c, r, ez⟩ : ∃ c r, tl z = c :: r := by
      cases ez : tl z with
      | nil => exact absurd ez ne
      | cons c r => exact ⟨c, r, rfl⟩
    have hh : (tl z).head? = some c := by rw [ez]; rfl
    walk_at "st"
    refine Pm.w_ixS sz (str_head hh) ?_
    walk_at "st"
    rw [show decide ((⟨#[c]⟩ : Str) = ("0" : Str)) = decide (c = 48) from decide_eq_decide.mpr (one_eq (d := 48))]
    have last : ¬ (c = 48 ∧ 1 < z.length) → rIntS [.str z] H' Q := fun n => by
      refine Pm.w_intS (PySem.intText_digits hd ne (by omega)) (by omega) ?_
      rw [fig_yes (by
        rintro (y | y | y | y)
        · exact e y
        · omega
        · exact y hd
        · rw [hh] at y
          exact n ⟨by simpa using y.1, y.2⟩)] at q
      exact q
    refine Pm.w_ite (fun e3 => ?_) (fun e3 => ?_)
    · walk_at "st"
      refine Pm.w_lenS sz ?_
      walk_at "st"
      refine Pm.w_ite (fun e4 => ?_) (fun e4 => ?_)
      · walk_at "st"
        rw [fig_no (.inr (.inr (.inr ⟨by rw [hh, e3], by omega⟩)))] at q
        exact q
      · walk_at "st"
        exact last fun y => e4 (by have := y.2; omega)
    · walk_at "st"
      exact last fun y => e3 y.1
end
section
open TL
variable {P : Program} {w : World} {K : PySem.W.Frag} {mg : Str → Option Value} {base : Heap}
def spPartText (K : PySem.W.Frag) : Sp := fun vs H Q _ => ∃ (t : Addr) (p : IP), vs = [.ref t] ∧ FrV K H (.ref t) p ∧ p.1.natAbs.log2 < 1920 ∧ p.2.natAbs.log2 < 1920 ∧ (partStr p).length ≤ 1000000 ∧ Q (.str (partStr p)) H
theorem ok_part_text (T : Tx K mg) : FnOk P w K mg base CX0 1 T.a_part_text T.fd_part_text (["one"]) (spPartText K) := by
  refine T.F_part_text.ok sc_part_text (fun vs H Q E h => ?_) (fun cdv A outer s H vs Q E hr h => ?_)
  · obtain ⟨t, p, rfl, _⟩ := h
    rfl
  obtain ⟨t, p, rfl, ht, h1, h2, hl, q⟩ := h
  unfold partStr at hl
  rw [len_app, len_app] at hl
  refine ⟨_, (pss_one (ps_ret (pe_op o_catS (pe_op o_catS (pe_callTy c_strI (by rfl) T.m_str (by decide +kernel) (pa_cons (pe_ix (ix_tupK (K := K)) (pv 0) (pe_int) (fun _ _ => rfl)) pa_nil)) (pe_str)) (pe_callTy c_strI (by rfl) T.m_str (by decide +kernel) (pa_cons (pe_ix (ix_tupK (K := K)) (pv 0) (pe_int) (fun _ _ => rfl)) pa_nil))))), ?_⟩
  walk_at "st"
  refine Pm.w_ixT ht.tup (atI2 _ _).1 ?_
  walk_at "st"
  refine Pm.w_strI h1 ?_
  walk_at "st"
  refine Pm.w_catS (size_ok (by omega)) ?_
  walk_at "st"
  refine Pm.w_ixT ht.tup (atI2 _ _).2 ?_
  walk_at "st"
  refine Pm.w_strI h2 ?_
  refine Pm.w_catS (size_ok (by rw [len_app]; omega)) ?_
  exact q
def spPartRead (K : PySem.W.Frag) (C : Addr) : Sp := fun vs H Q E => ∃ z : Str, vs = [.str z] ∧ z.length ≤ 1000000 ∧ (partOf z = none → ∀ H', Same H H' → E (.ref C) none H') ∧ (∀ p, partOf z = some p → ∀ (t : Addr) (H' : Hp), Same H H' → H t = none → H' t = some (.tup [.int p.1, .int p.2]) → Q (.ref t) H')
theorem ok_part_read (T : Tx K mg) : FnOk P w K mg base (L2.CX P w) 3 T.a_part_read T.fd_part_read (["line"]) (spPartRead K T.c_NoFraction) := by
  refine T.F_part_read.okX sc_part_read (fun vs H Q E h => ?_) (fun cdv A outer s H vs Q E hr h => ?_)
  · obtain ⟨z, rfl, _⟩ := h
    rfl
  obtain ⟨z, rfl, hz, hE, q⟩ := h
  have sz : z.length ≤ sizeLine := size_ok (by omega)
  refine ⟨_, (pss_cons (ps_set (i := 1) sc_part_read.nd rfl (.inl rfl) (pe_cmpR op_eq (pe_slice sl_str (pv 0) po_none (po_some (pe_int))) (pe_str) (nomark _)))
      (pss_cons (ps_set (i := 2) sc_part_read.nd rfl (.inl rfl) (pv 0))
      (C8.pss_cut (ps_if (pt_val (pv 1)) (pss_one (ps_set (i := 2) sc_part_read.nd rfl (.inl rfl) (pe_slice sl_str (pv 0) (po_some (pe_int)) po_none))) pss_nil)
      (pss_cons (ps_set (i := 3) sc_part_read.nd rfl (.inl rfl) (k_bm (K := K) (pe_bm PySem.F.plainAttrs_str PySem.F.slot_str_split PySem.F.type_str_split mt_splitS (pv 2) (pa_cons (pe_str) pa_nil))))
      (pss_cons (ps_if (pt_cmpR op_ne (pe_callB (c_len (K := K)) (by rfl) T.m_len PySem.boot_len (pa_cons (pv 3) pa_nil)) (pe_int) (nomark _)) (pss_one (ps_raise rfl (takes_of rfl rfl rfl rfl) (pmk_own PySem.F.excBase_ValueError T.x_NoFraction T.g_NoFraction T.k_NoFraction (raises_own T.b_NoFraction T.t_NoFraction) rfl))) pss_nil)
      (pss_cons (ps_set (i := 4) sc_part_read.nd rfl (.inl rfl) (pe_call (ok_whole_of T) (hr.mono (by decide)) (by rfl) T.g_whole_of T.F_whole_of.kp T.b_whole_of .nil pass0 (pa_cons (pe_ix (ix_listK (K := K)) (pv 3) (pe_int) (fun _ _ => rfl)) pa_nil)))
      (pss_cons (ps_set (i := 5) sc_part_read.nd rfl (.inl rfl) (pe_call (ok_whole_of T) (hr.mono (by decide)) (by rfl) T.g_whole_of T.F_whole_of.kp T.b_whole_of .nil pass0 (pa_cons (pe_ix (ix_listK (K := K)) (pv 3) (pe_int) (fun _ _ => rfl)) pa_nil)))
      (pss_cons (ps_if (PW.pt (pw_or (pt_cmpR op_lt (pv 4) (pe_int) (nomark _)) (pw_or (pt_cmpR op_lt (pv 5) (pe_int) (nomark _)) (pw_or1 (pt_cmpR op_ne (pe_call (ok_measure T) (hr.mono (by decide)) (by rfl) T.g_measure T.F_measure.kp T.b_measure .nil pass0 (pa_cons (pv 4) (pa_cons (pv 5) pa_nil))) (pe_int) (nomark _)))))) (pss_one (ps_raise rfl (takes_of rfl rfl rfl rfl) (pmk_own PySem.F.excBase_ValueError T.x_NoFraction T.g_NoFraction T.k_NoFraction (raises_own T.b_NoFraction T.t_NoFraction) rfl))) pss_nil)
      (pss_cons (ps_if (PW.pt (pw_and (pt_val (pv 1)) (pw_and1 (pt_cmpR op_eq (pv 4) (pe_int) (nomark _))))) (pss_one (ps_raise rfl (takes_of rfl rfl rfl rfl) (pmk_own PySem.F.excBase_ValueError T.x_NoFraction T.g_NoFraction T.k_NoFraction (raises_own T.b_NoFraction T.t_NoFraction) rfl))) pss_nil)
      (C8.pss_cut (ps_if (pt_val (pv 1)) (pss_one (ps_set (i := 4) sc_part_read.nd rfl (.inl rfl) (pe_un un_neg (pv 4)))) pss_nil)
      (pss_one (ps_ret (pe_tup (pa_cons (pv 4) (pa_cons (pv 5) pa_nil))))))))))))))), ?_⟩
  walk_at "st"
  refine Pm.w_slS sz ?_
  walk_at "st"
  have hd : decide (cutS z none (some 1) = ("-" : Str)) = decide (dash z) := rfl
  rw [hd]
  refine Pm.w_cut (fun σ' H' => σ' = [some (.str z), some (.bl (decide (dash z))), some (.str (restOf z)), none, none, none] ∧ H' = H) ?_ ?_
  · walk_at "st"
    refine Pm.w_ite (fun e => ?_) (fun e => ?_)
    · walk_at "st"
      refine Pm.w_slS sz ?_
      refine ⟨?_, rfl⟩
      unfold restOf
      rw [if_pos e]
      rfl
    · walk_at "st"
      refine ⟨?_, rfl⟩
      unfold restOf
      rw [if_neg e]
      rfl
  rintro σ H' ⟨rfl, rfl⟩
  have rl := rest_len z
  unfold partOf at hE q
  generalize restOf z = rz at hE q rl ⊢
  generalize decide (dash z) = d at hE q ⊢
  walk_at "st"
  refine ⟨rfl, ?_⟩
  walk_at "st"
  refine Pm.w_split (by decide +kernel) (by rw [sizeLine_eq]; omega) (fun l hl => ?_)
  have wl : ∀ x ∈ Txt.split rz ("/" : Str), x.length ≤ 1000000 := fun x hx => Nat.le_trans (split_piece hx) (by omega)
  generalize Txt.split rz ("/" : Str) = ws at hE q wl ⊢
  have s1 := same_new hl (.lst (ws.map V.str))
  have f1 : (upd H' l (.lst (ws.map V.str))) l = some (.lst (ws.map V.str)) := upd_same
  generalize upd H' l (.lst (ws.map V.str)) = H1 at s1 f1 ⊢
  walk_at "st"
  refine Pm.w_lenL (SqL.of f1) ?_
  rw [List.length_map]
  walk_at "st"
  refine Pm.w_iteN (fun e => ?_) (fun e => ?_)
  · refine hE ?_ _ s1
    match ws, e with
    | [], _ => rfl
    | [_], _ => rfl
    | [a, b], e => exact absurd rfl e
    | _ :: _ :: _ :: _, _ => rfl
  have hw : ∃ a b, ws = [a, b] := by
    match ws, e with
    | [a, b], _ => exact ⟨a, b, rfl⟩
    | [], e => exact absurd e (by simp)
    | [_], e => exact absurd e (by simp)
    | _ :: _ :: _ :: _, e => exact absurd e (by simp only [List.length_cons]; omega)
  obtain ⟨a, b, rfl⟩ := hw
  rw [partTwo_ab] at hE q
  have la := wl a (by simp)
  have lb := wl b (by simp)
  walk_at "st"
  refine Pm.w_ixL (SqL.of f1) (v := .str a) rfl ?_
  walk_at "st"
  refine ⟨a, rfl, la, ?_⟩
  walk_at "st"
  refine Pm.w_ixL (SqL.of f1) (v := .str b) rfl ?_
  walk_at "st"
  refine ⟨b, rfl, lb, ?_⟩
  generalize fig a = x at hE q ⊢
  generalize fig b = y at hE q ⊢
  walk_at "st"
  refine Pm.w_ite (fun c1 => ?_) (fun c1 => ?_)
  · exact hE (if_pos (.inl c1)) _ s1
  walk_at "st"
  refine Pm.w_ite (fun c2 => ?_) (fun c2 => ?_)
  · exact hE (if_pos (.inr (.inl c2))) _ s1
  walk_at "st"
  refine ⟨x, y, rfl, ?_⟩
  walk_at "st"
  refine Pm.w_iteN (fun c3 => ?_) (fun c3 => ?_)
  · exact hE (if_pos (.inr (.inr (.inl (by omega))))) _ s1
  have c3 : Int.gcd x y = 1 := by omega
  walk_at "st"
  have fin : ∀ {Q2 : VK} (v : Int), v = (if d = true then -x else x) → ¬ (d = true ∧ x = 0) → (∀ (t : Addr) (H9 : Hp), Same H' H9 → H' t = none → H9 t = some (.tup [.int v, .int y]) → Q2 (.ref t) H9) → TupK Q2 [.int v, .int y] H1 := fun v _ _ h => Pm.w_newT (fun t ht => h t _ (s1.trans (same_new ht _)) (s1.free ht) upd_same)
  have q' : ¬ (d = true ∧ x = 0) → ∀ (t : Addr) (H9 : Hp), Same H' H9 → H' t = none → H9 t = some (.tup [.int (if d = true then -x else x), .int y]) → Q (.ref t) H9 := fun n t H9 a1 a2 a3 => q _ (if_neg (by rintro (h | h | h | h); exact c1 h; exact c2 h; exact h c3; exact n h)) t H9 a1 a2 a3
  have cc : ∀ h4 : ¬ (d = true ∧ x = 0), C8.tCut (tIfS (tB (tVar 1)) (tAsg (tUn (rU fun i => V.int (-i)) (tVar 4)) (gName 4)) tNext) (tRet (tTup (tCons (tVar 4) (tCons (tVar 5) tNil)))) ⟨fun _ H' => Q .non H', Q, fun _ _ => False, fun _ _ => False⟩ [some (.str z), some (.bl d), some (.str rz), some (.ref l), some (.int x), some (.int y)] H1 := by
    intro h4
    refine Pm.w_cut (fun σ' H' => σ' = [some (.str z), some (.bl d), some (.str rz), some (.ref l), some (.int (if d = true then -x else x)), some (.int y)] ∧ H' = H1) ?_ ?_
    · cases d with
      | true =>
        walk_at "st"
        exact ⟨rfl, rfl⟩
      | false =>
        walk_at "st"
        exact ⟨rfl, rfl⟩
    · rintro σ H9 ⟨rfl, rfl⟩
      walk_at "st"
      exact fin _ rfl h4 (q' h4)
  cases d with
  | true =>
    walk_at "st"
    refine Pm.w_ite (fun c4 => ?_) (fun c4 => ?_)
    · exact hE (if_pos (.inr (.inr (.inr ⟨rfl, c4⟩)))) _ s1
    exact cc (fun h => c4 h.2)
  | false =>
    walk_at "st"
    exact cc (fun h => nomatch h.1)
end
section
open TL
variable {P : Program} {w : World} {K : PySem.W.Frag} {mg : Str → Option Value} {base : Heap}
theorem ok_law_number (T : Tx K mg) : FnOk P w K mg base CX0 1 T.a_law_number T.fd_law_number (["_law_word"]) spFig := by
  refine T.F_law_number.ok sc_law_number (fun vs H Q E h => ?_) (fun cdv A outer s H vs Q E hr h => ?_)
  · obtain ⟨z, rfl, _⟩ := h
    rfl
  obtain ⟨z, rfl, hz, q⟩ := h
  have sz : z.length ≤ sizeLine := size_ok (by omega)
  refine ⟨_, (pss_cons (ps_if (PW.pt (pw_or (pt_cmpR op_eq (pv 0) (pe_str) (nomark _)) (pw_or (pt_cmpR op_gt (pe_callB c_lenS (by rfl) T.m_len PySem.boot_len (pa_cons (pv 0) pa_nil)) (pe_int) (nomark _)) (pw_or1 (PW.pt (pw_and (pt_cmpR op_gt (pe_callB c_lenS (by rfl) T.m_len PySem.boot_len (pa_cons (pv 0) pa_nil)) (pe_int) (nomark _)) (pw_and1 (pt_cmpR op_eq (pe_ix ix_str (pv 0) (pe_int) (fun _ _ => rfl)) (pe_str) (nomark _))))))))) (pss_one (ps_ret (pe_un un_neg (pe_int)))) pss_nil)
      (pss_cons (ps_for PassesOwn.never rfl (pi_str (pv 0)) (pg_name (i := 1) sc_law_number.nd rfl (.inl rfl)) (pss_one (ps_if (pt_cmpR o_ninC (pv 1) (pe_str) (by rfl)) (pss_one (ps_ret (pe_un un_neg (pe_int)))) pss_nil)))
      (pss_one (ps_ret (pe_callTy c_intS (by rfl) T.m_int (by decide +kernel) (pa_cons (pv 0) pa_nil)))))), ?_⟩
  walk_at "st"
  refine Pm.w_ite (fun e => ?_) (fun e => ?_)
  · walk_at "st"
    rw [fig_no (.inl (len_zero.mp e))] at q
    exact q
  rw [len_zero] at e
  walk_at "st"
  refine Pm.w_lenS sz ?_
  walk_at "st"
  refine Pm.w_ite (fun e2 => ?_) (fun e2 => ?_)
  · walk_at "st"
    rw [fig_no (.inr (.inl (by omega)))] at q
    exact q
  have ne : tl z ≠ [] := fun y => e ((len0_tl z).mpr y)
  obtain ⟨c0, r, ez⟩ : ∃ c r, tl z = c :: r := by
    cases ez : tl z with
    | nil => exact absurd ez ne
    | cons c r => exact ⟨c, r, rfl⟩
  have hh : (tl z).head? = some c0 := by rw [ez]; rfl
  walk_at "st"
  refine Pm.w_lenS sz ?_
  walk_at "st"
  have lop : ¬ (c0 = 48 ∧ 1 < z.length) → ForB (gName 1) (tIfS (tTest (tOp rNinC (tVar 1) (tC (V.str ("0123456789" : Str))))) (tRet (tUn (rU fun i => V.int (-i)) (tC (V.int 1)))) tNext) (tRet (tCB rIntS (tCons (tVar 0) tNil)) ⟨fun _ H' => Q .non H', Q, fun _ _ => False, fun _ _ => False⟩) Q [some (.str z), none] (Its z) H := by
    intro n0
    refine Pm.w_forS (fun i σ H' => ∃ x, σ = [some (.str z), x] ∧ H' = H ∧ ∀ x ∈ (tl z).take i, 48 ≤ x ∧ x ≤ 57) ⟨_, rfl, rfl, by rw [List.take_zero]; exact fun x h => nomatch h⟩ ?_ ?_
    · rintro i c σ H' hc ⟨x, rfl, rfl, hd⟩
      walk_at "st"
      refine Pm.w_ninC ?_
      walk_at "st"
      refine Pm.w_iteN (fun n => ?_) (fun y => ?_)
      · walk_at "st"
        rw [fig_no (.inr (.inr (.inl fun a => n (figures_mem.mpr (a c (List.mem_of_getElem? hc))))))] at q
        exact q
      · walk_at "st"
        exact ⟨_, rfl, rfl, digits_take hc hd (figures_mem.mp y)⟩
    · rintro σ H' ⟨x, rfl, rfl, hd⟩
      rw [List.take_length] at hd
      walk_at "st"
      refine Pm.w_intS (PySem.intText_digits hd ne (by omega)) (by omega) ?_
      rw [fig_yes (by
        rintro (y | y | y | y)
        · exact e y
        · omega
        · exact y hd
        · rw [hh] at y
          exact n0 ⟨by simpa using y.1, y.2⟩)] at q
      exact q
  refine Pm.w_ite (fun e3 => ?_) (fun e3 => ?_)
  · walk_at "st"
    refine Pm.w_ixS sz (str_head hh) ?_
    walk_at "st"
    rw [show decide ((⟨#[c0]⟩ : Str) = ("0" : Str)) = decide (c0 = 48) from decide_eq_decide.mpr (one_eq (d := 48))]
    refine Pm.w_ite (fun e4 => ?_) (fun e4 => ?_)
    · walk_at "st"
      rw [fig_no (.inr (.inr (.inr ⟨by rw [hh, e4], by omega⟩)))] at q
      exact q
    · walk_at "st"
      exact lop fun y => e4 y.1
  · walk_at "st"
    exact lop fun y => e3 (by have := y.2; omega)
def spDue : Sp := fun vs H Q _ => ∃ z : Str, vs = [.str z] ∧ z.length ≤ 1000000 ∧ (partOf z = none → ∀ H', Same H H' → Q .non H') ∧ (∀ p, partOf z = some p → ∀ (t : Addr) (H' : Hp), Same H H' → H t = none → H' t = some (.tup [.int p.1, .int p.2]) → Q (.ref t) H')
theorem ok_law_due (T : Tx K mg) : FnOk P w K mg base CX0 3 T.a_law_due T.fd_law_due (["_law_line"]) spDue := by
  refine T.F_law_due.ok sc_law_due (fun vs H Q E h => ?_) (fun cdv A outer s H vs Q E hr h => ?_)
  · obtain ⟨z, rfl, _⟩ := h
    rfl
  obtain ⟨z, rfl, hz, hE, q⟩ := h
  have sz : z.length ≤ sizeLine := size_ok (by omega)
  refine ⟨_, (pss_cons (ps_set (i := 1) sc_law_due.nd rfl (.inl rfl) (pv 0))
      (C8.pss_cut (ps_if (pt_cmpR op_eq (pe_slice sl_str (pv 0) po_none (po_some (pe_int))) (pe_str) (nomark _)) (pss_one (ps_set (i := 1) sc_law_due.nd rfl (.inl rfl) (pe_slice sl_str (pv 0) (po_some (pe_int)) po_none))) pss_nil)
      (pss_cons (ps_set (i := 2) sc_law_due.nd rfl (.inl rfl) (k_bm (K := K) (pe_bm PySem.F.plainAttrs_str PySem.F.slot_str_split PySem.F.type_str_split mt_splitS (pv 1) (pa_cons (pe_str) pa_nil))))
      (pss_cons (ps_if (pt_cmpR op_ne (pe_callB (c_len (K := K)) (by rfl) T.m_len PySem.boot_len (pa_cons (pv 2) pa_nil)) (pe_int) (nomark _)) (pss_one (ps_ret (pe_non))) pss_nil)
      (pss_cons (ps_set (i := 3) sc_law_due.nd rfl (.inl rfl) (pe_call (ok_law_number T) (hr.mono (by decide)) (by rfl) T.g_law_number T.F_law_number.kp T.b_law_number .nil pass0 (pa_cons (pe_ix (ix_listK (K := K)) (pv 2) (pe_int) (fun _ _ => rfl)) pa_nil)))
      (pss_cons (ps_set (i := 4) sc_law_due.nd rfl (.inl rfl) (pe_call (ok_law_number T) (hr.mono (by decide)) (by rfl) T.g_law_number T.F_law_number.kp T.b_law_number .nil pass0 (pa_cons (pe_ix (ix_listK (K := K)) (pv 2) (pe_int) (fun _ _ => rfl)) pa_nil)))
      (pss_cons (ps_if (PW.pt (pw_or (pt_cmpR op_lt (pv 3) (pe_int) (nomark _)) (pw_or (pt_cmpR op_lt (pv 4) (pe_int) (nomark _)) (pw_or1 (PW.pt (pw_and (pt_cmpR op_ne (pv 1) (pv 0) (nomark _)) (pw_and1 (pt_cmpR op_eq (pv 3) (pe_int) (nomark _))))))))) (pss_one (ps_ret (pe_non))) pss_nil)
      (pss_cons (ps_if (pt_cmpR (op_neDK (K := K) hr.units) (pe_call (ok_law_low T) (hr.mono (by decide)) (by rfl) T.g_law_low T.F_law_low.kp T.b_law_low .nil pass0 (pa_cons (pv 3) (pa_cons (pv 4) pa_nil))) (pe_tup (pa_cons (pv 3) (pa_cons (pv 4) pa_nil))) (nomark _)) (pss_one (ps_ret (pe_non))) pss_nil)
      (pss_cons (ps_if (pt_cmpR op_ne (pv 1) (pv 0) (nomark _)) (pss_one (ps_ret (pe_tup (pa_cons (pe_un un_neg (pv 3)) (pa_cons (pv 4) pa_nil))))) pss_nil)
      (pss_one (ps_ret (pe_tup (pa_cons (pv 3) (pa_cons (pv 4) pa_nil)))))))))))))), ?_⟩
  walk_at "st"
  refine Pm.w_cut (fun σ' H' => σ' = [some (.str z), some (.str (restOf z)), none, none, none] ∧ H' = H) ?_ ?_
  · walk_at "st"
    refine Pm.w_slS sz ?_
    walk_at "st"
    have hd : decide (cutS z none (some 1) = ("-" : Str)) = decide (dash z) := rfl
    rw [hd]
    refine Pm.w_ite (fun e => ?_) (fun e => ?_)
    · walk_at "st"
      refine Pm.w_slS sz ?_
      refine ⟨?_, rfl⟩
      unfold restOf
      rw [if_pos e]
      rfl
    · walk_at "st"
      refine ⟨?_, rfl⟩
      unfold restOf
      rw [if_neg e]
      rfl
  rintro σ H' ⟨rfl, rfl⟩
  have rl := rest_len z
  have re : (!decide (restOf z = z)) = decide (dash z) := by
    rw [← decide_not]
    exact decide_eq_decide.mpr ⟨fun h => Classical.byContradiction fun n => h (restOf_eq.mpr n), fun h n => restOf_eq.mp n h⟩
  unfold partOf at hE q
  generalize restOf z = rz at hE q rl re ⊢
  generalize decide (dash z) = d at hE q re ⊢
  walk_at "st"
  refine ⟨rfl, ?_⟩
  walk_at "st"
  refine Pm.w_split (by decide +kernel) (by rw [sizeLine_eq]; omega) (fun l hl => ?_)
  have wl : ∀ x ∈ Txt.split rz ("/" : Str), x.length ≤ 1000000 := fun x hx => Nat.le_trans (split_piece hx) (by omega)
  generalize Txt.split rz ("/" : Str) = ws at hE q wl ⊢
  have s1 := same_new hl (.lst (ws.map V.str))
  have f1 : (upd H' l (.lst (ws.map V.str))) l = some (.lst (ws.map V.str)) := upd_same
  generalize upd H' l (.lst (ws.map V.str)) = H1 at s1 f1 ⊢
  walk_at "st"
  refine Pm.w_lenL (SqL.of f1) ?_
  rw [List.length_map]
  walk_at "st"
  refine Pm.w_iteN (fun e => ?_) (fun e => ?_)
  · walk_at "st"
    refine hE ?_ _ s1
    match ws, e with
    | [], _ => rfl
    | [_], _ => rfl
    | [a, b], e => exact absurd rfl e
    | _ :: _ :: _ :: _, _ => rfl
  have hw : ∃ a b, ws = [a, b] := by
    match ws, e with
    | [a, b], _ => exact ⟨a, b, rfl⟩
    | [], e => exact absurd e (by simp)
    | [_], e => exact absurd e (by simp)
    | _ :: _ :: _ :: _, e => exact absurd e (by simp only [List.length_cons]; omega)
  obtain ⟨a, b, rfl⟩ := hw
  rw [partTwo_ab] at hE q
  have la := wl a (by simp)
  have lb := wl b (by simp)
  walk_at "st"
  refine Pm.w_ixL (SqL.of f1) (v := .str a) rfl ?_
  walk_at "st"
  refine ⟨a, rfl, la, ?_⟩
  walk_at "st"
  refine Pm.w_ixL (SqL.of f1) (v := .str b) rfl ?_
  walk_at "st"
  refine ⟨b, rfl, lb, ?_⟩
  have bx := fig_bits (x := a)
  have bound := fig_bits (x := b)
  generalize fig a = x at hE q ⊢
  generalize fig b = y at hE q bound ⊢
  walk_at "st"
  refine Pm.w_ite (fun c1 => ?_) (fun c1 => ?_)
  · walk_at "st"
    exact hE (if_pos (.inl c1)) _ s1
  walk_at "st"
  refine Pm.w_ite (fun c2 => ?_) (fun c2 => ?_)
  · walk_at "st"
    exact hE (if_pos (.inr (.inl c2))) _ s1
  have low : ∀ {Q2 : VK}, (Int.gcd x y = 1 → ∀ H9, Same H' H9 → Q2 (.bl false) H9) → (Int.gcd x y ≠ 1 → ∀ H9, Same H' H9 → Q2 (.bl true) H9) → tOp (rNeD K) (tCall spLow [] E0 (tCons (tVar 3) (tCons (tVar 4) tNil))) (tTup (tCons (tVar 3) (tCons (tVar 4) tNil))) [some (.str z), some (.str rz), some (.ref l), some (.int x), some (.int y)] H1 Q2 := by
    intro Q2 h1 h2
    walk_at "st"
    refine ⟨x, y, 1330, rfl, by omega, bound, by decide, fun t H2 s2 nt ht => ?_⟩
    walk_at "st"
    refine Pm.w_newT (fun u hu => ?_)
    have s3 := same_new hu (.tup [.int x, .int y])
    refine Pm.w_nePair (SqT.of (s3 _ _ ht)) (SqT.of upd_same) ?_
    by_cases g : Int.gcd x y = 1
    · rw [decide_eq_true ((low_eq (by omega)).mpr g)]
      exact h1 g _ (s1.trans (s2.trans s3))
    · rw [decide_eq_false (fun z => g ((low_eq (by omega)).mp z))]
      exact h2 g _ (s1.trans (s2.trans s3))
  have rest : ¬ (d = true ∧ x = 0) → tSeq (tIfS (tTest (tOp (rNeD K) (tCall spLow [] E0 (tCons (tVar 3) (tCons (tVar 4) tNil))) (tTup (tCons (tVar 3) (tCons (tVar 4) tNil))))) (tRet (tC .non)) tNext) (tSeq (tIfS (tTest (tOp rNe (tVar 1) (tVar 0))) (tRet (tTup (tCons (tUn (rU fun i => V.int (-i)) (tVar 3)) (tCons (tVar 4) tNil)))) tNext) (tRet (tTup (tCons (tVar 3) (tCons (tVar 4) tNil))))) ⟨fun _ H' => Q .non H', Q, fun _ _ => False, fun _ _ => False⟩ [some (.str z), some (.str rz), some (.ref l), some (.int x), some (.int y)] H1 := by
    intro n4
    refine Pm.w_seq (Pm.w_if (Pm.w_test (low (fun g H9 s9 => ⟨_, rfl, Pm.w_iteF ?_⟩) (fun g H9 s9 => ⟨_, rfl, Pm.w_iteT ?_⟩))))
    · walk_at "st"
      rw [re]
      have q1 := q _ (if_neg (by rintro (h | h | h | h); exact c1 h; exact c2 h; exact h g; exact n4 h))
      cases d with
      | true =>
        walk_at "st"
        refine Pm.w_newT (fun u hu => ?_)
        exact q1 u _ (s9.trans (same_new hu _)) (s9.free hu) upd_same
      | false =>
        walk_at "st"
        refine Pm.w_newT (fun u hu => ?_)
        exact q1 u _ (s9.trans (same_new hu _)) (s9.free hu) upd_same
    · walk_at "st"
      exact hE (if_pos (.inr (.inr (.inl g)))) _ s9
  walk_at "st"
  rw [re]
  cases d with
  | true =>
    walk_at "st"
    refine Pm.w_ite (fun c4 => ?_) (fun c4 => ?_)
    · walk_at "st"
      exact hE (if_pos (.inr (.inr (.inr ⟨rfl, c4⟩)))) _ s1
    · exact rest fun h => c4 h.2
  | false =>
    refine Pm.w_iteF ?_
    exact rest fun h => nomatch h.1
def spOdd : Sp := fun vs H Q _ => ∃ i : Int, vs = [.int i] ∧ ∀ (z : Str) (H' : Hp), Same H H' → z.length ≤ 10010 → Q (.str z) H'
theorem ok_law_odd (T : Tx K mg) : FnOk P w K mg base CX0 1 T.a_law_odd T.fd_law_odd (["_law_one"]) spOdd := by
  refine T.F_law_odd.ok sc_law_odd (fun vs H Q E h => ?_) (fun cdv A outer s H vs Q E hr h => ?_)
  · obtain ⟨i, rfl, _⟩ := h
    rfl
  obtain ⟨i, rfl, q⟩ := h
  refine ⟨_, (pss_cons (ps_set (i := 1) sc_law_odd.nd rfl (.inl rfl) (pe_lst (pa_cons (pe_str) (pa_cons (pe_str) (pa_cons (pe_str) (pa_cons (pe_str) (pa_cons (pe_str) (pa_cons (pe_str) (pa_cons (pe_str) (pa_cons (pe_str) (pa_cons (pe_str) (pa_cons (pe_str) (pa_cons (pe_str) (pa_cons (pe_str) (pa_cons (pe_str) (pa_cons (pe_str) (pa_cons (pe_str) pa_nil)))))))))))))))))
      (pss_cons (ps_set (i := 1) sc_law_odd.nd rfl (.inl rfl) (pe_op op_cat (pv 1) (pe_lst (pa_cons (pe_str) (pa_cons (pe_str) (pa_cons (pe_str) (pa_cons (pe_str) (pa_cons (pe_str) (pa_cons (pe_str) (pa_cons (pe_str) (pa_cons (pe_op o_catS (pe_str) (pe_op op_mulS (pe_str) (pe_int))) (pa_cons (pe_op o_catS (pe_op op_mulS (pe_str) (pe_int)) (pe_str)) pa_nil))))))))))))
      (pss_cons (ps_set (i := 1) sc_law_odd.nd rfl (.inl rfl) (pe_op op_cat (pv 1) (pe_lst (pa_cons (pe_op o_catS (pe_op o_catS (pe_str) (pe_op op_mulS (pe_str) (pe_int))) (pe_str)) (pa_cons (pe_op o_catS (pe_str) (pe_op op_mulS (pe_str) (pe_int))) (pa_cons (pe_op o_catS (pe_str) (pe_op op_mulS (pe_str) (pe_int))) (pa_cons (pe_op o_catS (pe_op o_catS (pe_str) (pe_op op_mulS (pe_str) (pe_int))) (pe_str)) pa_nil)))))))
      (pss_cons (ps_set (i := 1) sc_law_odd.nd rfl (.inl rfl) (pe_op op_cat (pv 1) (pe_lst (pa_cons (pe_str) (pa_cons (pe_str) (pa_cons (pe_op o_catS (pe_str) (pe_op op_mulS (pe_str) (pe_int))) (pa_cons (pe_op o_catS (pe_op o_catS (pe_str) (pe_op op_mulS (pe_str) (pe_int))) (pe_str)) pa_nil)))))))
      (pss_one (ps_ret (pe_ix (ix_listK (K := K)) (pv 1) (pe_op op_mod (pv 0) (pe_int)) (fun _ _ => rfl)))))))), ?_⟩
  walk_at "st"
  refine w_newLS (B := 10010) (k := 15) ?_ rfl (fun p1 ys1 hp1 ha1 hl1 => ?_)
  · repeat (first | exact trivial | refine ⟨⟨_, rfl, by first | decide +kernel | (simp only [len_app, l_dash, l_over1, l_1over, l_m1over]; omega)⟩, ?_⟩)
  have s1 := same_new hp1 (.lst ys1)
  have f1 : (upd H p1 (.lst ys1)) p1 = some (.lst ys1) := upd_same
  generalize upd H p1 (.lst ys1) = H1 at s1 f1 ⊢
  walk_at "st"
  refine Pm.w_mulA (B := 5000) ⟨by decide +kernel, by decide +kernel, by decide +kernel⟩ (by decide +kernel) (fun m1 hm1 => ?_)
  refine Pm.w_catS (size_ok (by simp only [len_app, l_dash, l_over1, l_1over, l_m1over]; omega)) ?_
  walk_at "st"
  refine Pm.w_mulA (B := 5000) ⟨by decide +kernel, by decide +kernel, by decide +kernel⟩ (by decide +kernel) (fun m2 hm2 => ?_)
  walk_at "st"
  refine Pm.w_catS (size_ok (by simp only [len_app, l_dash, l_over1, l_1over, l_m1over]; omega)) ?_
  walk_at "st"
  refine w_newLS (B := 10010) (k := 9) ?_ rfl (fun p2 ys2 hp2 ha2 hl2 => ?_)
  · repeat (first | exact trivial | refine ⟨⟨_, rfl, by first | decide +kernel | (simp only [len_app, l_dash, l_over1, l_1over, l_m1over]; omega)⟩, ?_⟩)
  have s2 := same_new hp2 (.lst ys2)
  have f2 : (upd H1 p2 (.lst ys2)) p2 = some (.lst ys2) := upd_same
  generalize upd H1 p2 (.lst ys2) = H2 at s2 f2 ⊢
  refine Pm.w_cat (s2 _ _ f1) f2 (size_ok (by omega)) (fun p3 hp3 => ?_)
  have s3 := same_new hp3 (.lst (ys1 ++ ys2))
  have f3 : (upd H2 p3 (.lst (ys1 ++ ys2))) p3 = some (.lst (ys1 ++ ys2)) := upd_same
  generalize upd H2 p3 (.lst (ys1 ++ ys2)) = H3 at s3 f3 ⊢
  have s13 := s1.trans (s2.trans s3)
  have hA := ha1.app ha2
  have hL : (ys1 ++ ys2).length = 24 := by rw [List.length_append, hl1, hl2]
  generalize ys1 ++ ys2 = za at f3 hA hL
  clear ha1 ha2 f1 f2 s1 s2 s3
  walk_at "st"
  refine Pm.w_mulA (B := 5000) ⟨by decide +kernel, by decide +kernel, by decide +kernel⟩ (by decide +kernel) (fun m3 hm3 => ?_)
  walk_at "st"
  refine Pm.w_catS (size_ok (by simp only [len_app, l_dash, l_over1, l_1over, l_m1over]; omega)) ?_
  walk_at "st"
  refine Pm.w_catS (size_ok (by simp only [len_app, l_dash, l_over1, l_1over, l_m1over]; omega)) ?_
  walk_at "st"
  refine Pm.w_mulA (B := 5000) ⟨by decide +kernel, by decide +kernel, by decide +kernel⟩ (by decide +kernel) (fun m4 hm4 => ?_)
  refine Pm.w_catS (size_ok (by simp only [len_app, l_dash, l_over1, l_1over, l_m1over]; omega)) ?_
  walk_at "st"
  refine Pm.w_mulA (B := 5000) ⟨by decide +kernel, by decide +kernel, by decide +kernel⟩ (by decide +kernel) (fun m5 hm5 => ?_)
  refine Pm.w_catS (size_ok (by simp only [len_app, l_dash, l_over1, l_1over, l_m1over]; omega)) ?_
  walk_at "st"
  refine Pm.w_mulA (B := 5000) ⟨by decide +kernel, by decide +kernel, by decide +kernel⟩ (by decide +kernel) (fun m6 hm6 => ?_)
  walk_at "st"
  refine Pm.w_catS (size_ok (by simp only [len_app, l_dash, l_over1, l_1over, l_m1over]; omega)) ?_
  walk_at "st"
  refine Pm.w_catS (size_ok (by simp only [len_app, l_dash, l_over1, l_1over, l_m1over]; omega)) ?_
  walk_at "st"
  refine w_newLS (B := 10010) (k := 4) ?_ rfl (fun p4 ys4 hp4 ha4 hl4 => ?_)
  · repeat (first | exact trivial | refine ⟨⟨_, rfl, by first | decide +kernel | (simp only [len_app, l_dash, l_over1, l_1over, l_m1over]; omega)⟩, ?_⟩)
  have s4 := same_new hp4 (.lst ys4)
  have f4 : (upd H3 p4 (.lst ys4)) p4 = some (.lst ys4) := upd_same
  generalize upd H3 p4 (.lst ys4) = H4 at s4 f4 ⊢
  refine Pm.w_cat (s4 _ _ f3) f4 (size_ok (by omega)) (fun p5 hp5 => ?_)
  have s5 := same_new hp5 (.lst (za ++ ys4))
  have f5 : (upd H4 p5 (.lst (za ++ ys4))) p5 = some (.lst (za ++ ys4)) := upd_same
  generalize upd H4 p5 (.lst (za ++ ys4)) = H5 at s5 f5 ⊢
  have s15 := s13.trans (s4.trans s5)
  have hB := hA.app ha4
  have hLB : (za ++ ys4).length = 28 := by rw [List.length_append, hL, hl4]
  generalize za ++ ys4 = zb at f5 hB hLB
  clear hA ha4 f3 f4 s4 s5 s13
  walk_at "st"
  refine Pm.w_mulA (B := 5000) ⟨by decide +kernel, by decide +kernel, by decide +kernel⟩ (by decide +kernel) (fun m7 hm7 => ?_)
  refine Pm.w_catS (size_ok (by simp only [len_app, l_dash, l_over1, l_1over, l_m1over]; omega)) ?_
  walk_at "st"
  refine Pm.w_mulA (B := 5000) ⟨by decide +kernel, by decide +kernel, by decide +kernel⟩ (by decide +kernel) (fun m8 hm8 => ?_)
  walk_at "st"
  refine Pm.w_catS (size_ok (by simp only [len_app, l_dash, l_over1, l_1over, l_m1over]; omega)) ?_
  walk_at "st"
  refine Pm.w_catS (size_ok (by simp only [len_app, l_dash, l_over1, l_1over, l_m1over]; omega)) ?_
  walk_at "st"
  refine w_newLS (B := 10010) (k := 4) ?_ rfl (fun p6 ys6 hp6 ha6 hl6 => ?_)
  · repeat (first | exact trivial | refine ⟨⟨_, rfl, by first | decide +kernel | (simp only [len_app, l_dash, l_over1, l_1over, l_m1over]; omega)⟩, ?_⟩)
  have s6 := same_new hp6 (.lst ys6)
  have f6 : (upd H5 p6 (.lst ys6)) p6 = some (.lst ys6) := upd_same
  generalize upd H5 p6 (.lst ys6) = H6 at s6 f6 ⊢
  refine Pm.w_cat (s6 _ _ f5) f6 (size_ok (by omega)) (fun p7 hp7 => ?_)
  have s7 := same_new hp7 (.lst (zb ++ ys6))
  have f7 : (upd H6 p7 (.lst (zb ++ ys6))) p7 = some (.lst (zb ++ ys6)) := upd_same
  generalize upd H6 p7 (.lst (zb ++ ys6)) = H7 at s7 f7 ⊢
  have s17 := s15.trans (s6.trans s7)
  have hC := hB.app ha6
  have hLC : (zb ++ ys6).length = 32 := by rw [List.length_append, hLB, hl6]
  generalize zb ++ ys6 = zc at f7 hC hLC
  walk_at "st"
  obtain ⟨j, ej, hj⟩ : ∃ j : Nat, i % 32 = (j : Int) ∧ j < 32 := by
    have h1 := Int.emod_nonneg i (show (32 : Int) ≠ 0 by decide)
    have h2 := Int.emod_lt_of_pos i (show (0 : Int) < 32 by decide)
    exact ⟨(i % 32).toNat, by omega, by omega⟩
  rw [ej]
  obtain ⟨z, hz, lz⟩ := hC.get (i := j) (by omega)
  refine Pm.w_ixL (SqL.of f7) (atI_nat hz) ?_
  exact q z _ s17 lz
def spSpoilt (K : PySem.W.Frag) : Sp := fun vs H Q _ => ∃ (z : Str) (r : Addr) (row : List Int), vs = [.str z, .ref r] ∧ z.length ≤ 100000 ∧ SqL K H r (row.map V.int) ∧ 5 ≤ row.length ∧ ∀ y : Str, y.length ≤ z.length + z.length + 1 → Q (.str y) H
theorem ok_law_spoilt (T : Tx K mg) : FnOk P w K mg base CX0 1 T.a_law_spoilt T.fd_law_spoilt (["_law_line", "_law_row"]) (spSpoilt K) := by
  refine T.F_law_spoilt.ok sc_law_spoilt (fun vs H Q E h => ?_) (fun cdv A outer s H vs Q E hr h => ?_)
  · obtain ⟨z, r, row, rfl, _⟩ := h
    rfl
  obtain ⟨z, r, row, rfl, hz, hR, rl, q⟩ := h
  have sz : z.length ≤ sizeLine := size_ok (by omega)
  have cl := fun lo hi => len_cut z lo hi
  refine ⟨_, (pss_cons (ps_set (i := 2) sc_law_spoilt.nd rfl (.inl rfl) (pe_op op_mod (pe_ix (ix_listK (K := K)) (pv 1) (pe_int) (fun _ _ => rfl)) (pe_op op_add (pe_callB c_lenS (by rfl) T.m_len PySem.boot_len (pa_cons (pv 0) pa_nil)) (pe_int))))
      (pss_cons (ps_set (i := 3) sc_law_spoilt.nd rfl (.inl rfl) (pe_ix ix_str (pe_str) (pe_op op_mod (pe_ix (ix_listK (K := K)) (pv 1) (pe_int) (fun _ _ => rfl)) (pe_int)) (fun _ _ => rfl)))
      (pss_cons (ps_if (pt_cmpR op_eq (pe_op op_mod (pe_ix (ix_listK (K := K)) (pv 1) (pe_int) (fun _ _ => rfl)) (pe_int)) (pe_int) (nomark _)) (pss_one (ps_ret (pe_op o_catS (pe_op o_catS (pe_slice sl_str (pv 0) po_none (po_some (pv 2))) (pv 3)) (pe_slice sl_str (pv 0) (po_some (pv 2)) po_none)))) pss_nil)
      (pss_cons (ps_if (pt_cmpR op_eq (pe_op op_mod (pe_ix (ix_listK (K := K)) (pv 1) (pe_int) (fun _ _ => rfl)) (pe_int)) (pe_int) (nomark _)) (pss_one (ps_ret (pe_op o_catS (pe_op o_catS (pe_slice sl_str (pv 0) po_none (po_some (pv 2))) (pv 3)) (pe_slice sl_str (pv 0) (po_some (pe_op op_add (pv 2) (pe_int))) po_none)))) pss_nil)
      (pss_one (ps_ret (pe_op o_catS (pe_slice sl_str (pv 0) po_none (po_some (pv 2))) (pe_slice sl_str (pv 0) (po_some (pe_op op_add (pv 2) (pe_int))) po_none)))))))), ?_⟩
  walk_at "st"
  refine Pm.w_ixL hR (atI_int (by omega) (by omega)) ?_
  walk_at "st"
  refine Pm.w_lenS sz ?_
  walk_at "st"
  generalize row.getD (3 : Int).toNat 0 % ((z.length : Int) + 1) = at0
  refine Pm.w_ixL hR (atI_int (by omega) (by omega)) ?_
  walk_at "st"
  obtain ⟨j, ej, hj⟩ : ∃ j : Nat, row.getD (4 : Int).toNat 0 % 15 = (j : Int) ∧ j < 15 := by
    have h1 := Int.emod_nonneg (row.getD (4 : Int).toNat 0) (show (15 : Int) ≠ 0 by decide)
    have h2 := Int.emod_lt_of_pos (row.getD (4 : Int).toNat 0) (show (0 : Int) < 15 by decide)
    exact ⟨(row.getD (4 : Int).toNat 0 % 15).toNat, by omega, by omega⟩
  rw [ej]
  have signs : ∀ j : Nat, j < 15 → ∃ c, ("0123789-/ +.\na_" : Str).cps.toList[j]? = some c := fun j hj => ⟨_, List.getElem?_eq_getElem (show j < ("0123789-/ +.\na_" : Str).cps.toList.length by
    rw [show ("0123789-/ +.\na_" : Str).cps.toList.length = 15 by decide +kernel]; exact hj)⟩
  obtain ⟨c, hc⟩ := signs j hj
  refine Pm.w_ixS (size_ok (by decide +kernel)) (atI_nat hc) ?_
  walk_at "st"
  refine Pm.w_ixL hR (atI_int (by omega) (by omega)) ?_
  walk_at "st"
  refine Pm.w_ite (fun e1 => ?_) (fun e1 => ?_)
  · walk_at "st"
    refine Pm.w_slS sz ?_
    walk_at "st"
    have c1 := cl none (some at0)
    refine Pm.w_catS (size_ok (by rw [len_one]; omega)) ?_
    walk_at "st"
    refine Pm.w_slS sz ?_
    have c2 := cl (some at0) none
    refine Pm.w_catS (size_ok (by rw [len_app, len_one]; omega)) ?_
    exact q _ (by rw [len_app, len_app, len_one]; omega)
  walk_at "st"
  refine Pm.w_ixL hR (atI_int (by omega) (by omega)) ?_
  walk_at "st"
  refine Pm.w_ite (fun e2 => ?_) (fun e2 => ?_)
  · walk_at "st"
    refine Pm.w_slS sz ?_
    walk_at "st"
    have c1 := cl none (some at0)
    refine Pm.w_catS (size_ok (by rw [len_one]; omega)) ?_
    walk_at "st"
    refine Pm.w_slS sz ?_
    have c2 := cl (some (at0 + 1)) none
    refine Pm.w_catS (size_ok (by rw [len_app, len_one]; omega)) ?_
    exact q _ (by rw [len_app, len_app, len_one]; omega)
  · walk_at "st"
    refine Pm.w_slS sz ?_
    walk_at "st"
    have c1 := cl none (some at0)
    refine Pm.w_slS sz ?_
    have c2 := cl (some (at0 + 1)) none
    refine Pm.w_catS (size_ok (by omega)) ?_
    exact q _ (by rw [len_app]; omega)
def spLaw (K : PySem.W.Frag) : Sp := fun vs H Q _ => ∃ (a : Addr) (ns : List Int), vs = [.ref a] ∧ SqL K H a (ns.map V.int) ∧ ns.length ≤ 63 ∧ ∀ H', Q (.bl true) H'
theorem ok_law (T : Tx K mg) : FnOk P w K mg base CX0 6 T.a_law T.fd_law ["_law_script"] (spLaw K) := by
  refine T.F_law.ok sc_law (fun vs H Q E h => ?_) (fun cdv A outer s H vs Q E hr h => ?_)
  · obtain ⟨a, ns, rfl, _⟩ := h
    rfl
  obtain ⟨sc, ns, rfl, hS, hl, q⟩ := h
  refine ⟨_, (pss_cons (ps_set (i := 1) sc_law.nd rfl (.inl rfl) (pe_call (ok_law_flow T) (hr.mono (by decide)) (by rfl) T.g_law_flow T.F_law_flow.kp T.b_law_flow .nil pass0 (pa_cons (pv 0) (pa_cons (pe_int) pa_nil))))
      (pss_cons (ps_set (i := 2) sc_law.nd rfl (.inl rfl) (pe_call (ok_law_low T) (hr.mono (by decide)) (by rfl) T.g_law_low T.F_law_low.kp T.b_law_low .nil pass0 (pa_cons (pe_op op_mul (pe_ix (ix_listK (K := K)) (pv 1) (pe_int) (fun _ _ => rfl)) (pe_op op_sub (pe_int) (pe_op op_mul (pe_int) (pe_op op_mod (pe_ix (ix_listK (K := K)) (pv 1) (pe_int) (fun _ _ => rfl)) (pe_int))))) (pa_cons (pe_op op_add (pe_int) (pe_op op_mod (pe_ix (ix_listK (K := K)) (pv 1) (pe_int) (fun _ _ => rfl)) (pe_int))) pa_nil))))
      (C8.pss_cut (ps_if (pt_cmpR op_eq (pe_op op_mod (pe_ix (ix_listK (K := K)) (pv 1) (pe_int) (fun _ _ => rfl)) (pe_int)) (pe_int) (nomark _)) (pss_one (ps_set (i := 2) sc_law.nd rfl (.inl rfl) (pe_call (ok_law_low T) (hr.mono (by decide)) (by rfl) T.g_law_low T.F_law_low.kp T.b_law_low .nil pass0 (pa_cons (pe_op op_add (pe_op op_mulW (pe_op op_mul (pe_ix (ix_tupK (K := K)) (pv 2) (pe_int) (fun _ _ => rfl)) (pe_op op_pow (pe_int) (pe_int))) (pe_op op_pow (pe_int) (pe_int))) (pe_int)) (pa_cons (pe_op op_mul (pe_ix (ix_tupK (K := K)) (pv 2) (pe_int) (fun _ _ => rfl)) (pe_op op_add (pe_op op_pow (pe_int) (pe_int)) (pe_ix (ix_listK (K := K)) (pv 1) (pe_int) (fun _ _ => rfl)))) pa_nil))))) pss_nil)
      (pss_cons (ps_set (i := 3) sc_law.nd rfl (.inl rfl) (pe_call (ok_part_text T) (hr.mono (by decide)) (by rfl) T.g_part_text T.F_part_text.kp T.b_part_text .nil pass0 (pa_cons (pv 2) pa_nil)))
      (pss_cons (ps_if (PW.pt (pw_or (pt_not (pt_val (pe_callB (call_isK (K := K)) (by rfl) T.m_isinstance (by decide +kernel) (pa_cons (pv 3) (pa_cons (pe_bltn (v := .ty "str") (by rfl) T.m_str (by decide +kernel) rfl) pa_nil))))) (pw_or1 (pt_cmpR op_ne (pv 3) (pe_op o_catS (pe_op o_catS (pe_callTy c_strI (by rfl) T.m_str (by decide +kernel) (pa_cons (pe_ix (ix_tupK (K := K)) (pv 2) (pe_int) (fun _ _ => rfl)) pa_nil)) (pe_str)) (pe_callTy c_strI (by rfl) T.m_str (by decide +kernel) (pa_cons (pe_ix (ix_tupK (K := K)) (pv 2) (pe_int) (fun _ _ => rfl)) pa_nil))) (nomark _))))) (pss_one (ps_ret (pe_bl))) pss_nil)
      (C8.pss_cut (ps_if (pt_cmpR op_eq (pe_op op_mod (pe_ix (ix_listK (K := K)) (pv 1) (pe_int) (fun _ _ => rfl)) (pe_int)) (pe_int) (nomark _)) (pss_one (ps_set (i := 3) sc_law.nd rfl (.inl rfl) (pe_call (ok_law_odd T) (hr.mono (by decide)) (by rfl) T.g_law_odd T.F_law_odd.kp T.b_law_odd .nil pass0 (pa_cons (pe_ix (ix_listK (K := K)) (pv 1) (pe_int) (fun _ _ => rfl)) pa_nil)))) pss_nil)
      (C8.pss_cut (ps_if (pt_cmpR op_eq (pe_op op_mod (pe_ix (ix_listK (K := K)) (pv 1) (pe_int) (fun _ _ => rfl)) (pe_int)) (pe_int) (nomark _)) (pss_one (ps_set (i := 3) sc_law.nd rfl (.inl rfl) (pe_call (ok_law_spoilt T) (hr.mono (by decide)) (by rfl) T.g_law_spoilt T.F_law_spoilt.kp T.b_law_spoilt .nil pass0 (pa_cons (pv 3) (pa_cons (pv 1) pa_nil))))) pss_nil)
      (pss_cons (ps_set (i := 4) sc_law.nd rfl (.inl rfl) (pe_call (ok_law_due T) (hr.mono (by decide)) (by rfl) T.g_law_due T.F_law_due.kp T.b_law_due .nil pass0 (pa_cons (pv 3) pa_nil)))
      (pss_cons (ps_try_as (i := 6) rfl rfl sc_law.nd rfl rfl ⟨rfl, by decide, .inl T.g_MeadError⟩ takes0 (fun W pn xe tk _ => (pss_one (ps_set (i := 5) sc_law.nd rfl (.inl rfl) (by exact (pe_callS (ok_part_read T) (hr.mono (by decide)) (by rfl) T.g_part_read T.F_part_read.kp T.b_part_read (fun q => passAt tk q) (by exact (pa_cons (pv 3) pa_nil))))))) (fun a oe cls d pn hz hf => (pss_one (ps_ret ((pe_and (pe_cmpR op_isNK (pv 4) (pe_non) (nomark _)) (pe_one (pe_callB (c_isX (K := K) hz hf) (by rfl) T.m_isinstance (by decide +kernel) (pa_cons (pv 6) (pa_cons (pe_glob (v := .ref T.c_NoFraction) (by rfl) T.g_NoFraction rfl) pa_nil))))))))))
      (pss_one (ps_ret ((pe_and (pe_cmpR op_notNK (pv 4) (pe_non) (nomark _)) (pe_and (pe_call (ok_law_part T) (hr.mono (by decide)) (by rfl) T.g_law_part T.F_law_part.kp T.b_law_part .nil pass0 (pa_cons (pv 5) pa_nil)) (pe_one (pe_cmpR (op_eqDK (K := K) hr.units) (pv 5) (pv 4) (nomark _))))))))))))))))), ?_⟩
  walk_at "st"
  refine ⟨sc, ns, 8, rfl, hS, by decide, fun row H1 r hrow hb s1 nr hr1 => ?_⟩
  have hR : SqL K H1 r (row.map V.int) := SqL.of hr1
  have f0 := flow_get hb (0 : Int).toNat
  have f5 := flow_get hb (5 : Int).toNat
  have f7 := flow_get hb (7 : Int).toNat
  walk_at "st"
  refine Pm.w_ixL hR (atI_int (by omega) (by omega)) ?_
  walk_at "st"
  refine Pm.w_ixL hR (atI_int (by omega) (by omega)) ?_
  walk_at "st"
  refine Pm.w_ixL hR (atI_int (by omega) (by omega)) ?_
  walk_at "st"
  have m6 := Int.emod_nonneg (row.getD (6 : Int).toNat 0) (show (50000 : Int) ≠ 0 by decide)
  have m6' := Int.emod_lt_of_pos (row.getD (6 : Int).toNat 0) (show (0 : Int) < 50000 by decide)
  have m0 := Int.emod_nonneg (row.getD (0 : Int).toNat 0) (show (2 : Int) ≠ 0 by decide)
  have m0' := Int.emod_lt_of_pos (row.getD (0 : Int).toNat 0) (show (0 : Int) < 2 by decide)
  obtain ⟨a, ea, la⟩ : ∃ a : Int, row.getD (5 : Int).toNat 0 * (1 - 2 * (row.getD (0 : Int).toNat 0 % 2)) = a ∧ a.natAbs < 2 ^ 20 := by
    refine ⟨_, rfl, ?_⟩
    rcases (show row.getD (0 : Int).toNat 0 % 2 = 0 ∨ row.getD (0 : Int).toNat 0 % 2 = 1 by omega) with e | e
    · rw [e]; omega
    · rw [e]; omega
  rw [ea]
  generalize hbb : 1 + row.getD (6 : Int).toNat 0 % 50000 = b
  have b0 : 0 < b := by omega
  have lb : b.natAbs < 2 ^ 20 := by omega
  refine ⟨a, b, 20, rfl, by omega, lb, by decide, fun t1 H2 s2 nt1 ht1 => ?_⟩
  have br := rb_div (a := a) (n := 20) (show b ≠ 0 by omega) la lb
  generalize Rat.divInt a b = r1 at ht1 br
  have hR2 := s2.seq hR
  walk_at "st"
  refine Pm.w_cut (fun σ' H' => ∃ (t : Addr) (r2 : Rat), σ' = [some (.ref sc), some (.ref r), some (.ref t), none, none, none, none] ∧ Same H1 H' ∧ H' t = some (.tup [.int r2.num, .int r2.den]) ∧ rb r2 500) ?_ ?_
  · walk_at "st"
    refine Pm.w_ixL hR2 (atI_int (by omega) (by omega)) ?_
    walk_at "st"
    refine Pm.w_ite (fun e => ?_) (fun e => ?_)
    · have bn := br.1
      have bd := br.2
      have rd := r1.den_nz
      walk_at "st"
      refine Pm.w_ixT (SqT.of ht1) (atI2 _ _).1 ?_
      walk_at "st"
      have p64 : ((10 : Int) ^ (64 : Int).toNat).natAbs < 2 ^ 213 := by decide +kernel
      generalize (10 : Int) ^ (64 : Int).toNat = P1 at p64 ⊢
      have q1 : (r1.num * P1).natAbs < 2 ^ 233 := by
        rw [Int.natAbs_mul, show (2 : Nat) ^ 233 = 2 ^ 20 * 2 ^ 213 by decide +kernel]
        exact Nat.mul_lt_mul'' bn p64
      generalize r1.num * P1 = X1 at q1 ⊢
      have q2 : (X1 * P1).natAbs < 2 ^ 446 := by
        rw [Int.natAbs_mul, show (2 : Nat) ^ 446 = 2 ^ 233 * 2 ^ 213 by decide +kernel]
        exact Nat.mul_lt_mul'' q1 p64
      refine Pm.w_i (wide_mul q1 p64 (by decide) (by decide) (by decide)) ?_
      generalize X1 * P1 = X2 at q2 ⊢
      walk_at "st"
      refine Pm.w_ixT (SqT.of ht1) (atI2 _ _).2 ?_
      walk_at "st"
      refine Pm.w_ixL hR2 (atI_int (by omega) (by omega)) ?_
      walk_at "st"
      have p60 : ((10 : Int) ^ (60 : Int).toNat).natAbs < 2 ^ 200 ∧ 0 < (10 : Int) ^ (60 : Int).toNat := by decide +kernel
      generalize (10 : Int) ^ (60 : Int).toNat = P2 at p60 ⊢
      have c7 : (2 : Nat) ^ 200 + 1000000 < 2 ^ 201 := by decide +kernel
      have q3 : (P2 + row.getD (7 : Int).toNat 0).natAbs < 2 ^ 201 := by
        generalize (2 : Nat) ^ 200 = Z at *
        generalize (2 : Nat) ^ 201 = Z2 at *
        omega
      have q4 : 0 < P2 + row.getD (7 : Int).toNat 0 := by omega
      generalize P2 + row.getD (7 : Int).toNat 0 = Y at q3 q4 ⊢
      have q5 : ((r1.den : Int) * Y).natAbs < 2 ^ 221 := by
        rw [Int.natAbs_mul, show (2 : Nat) ^ 221 = 2 ^ 20 * 2 ^ 201 by decide +kernel]
        exact Nat.mul_lt_mul'' (by omega) q3
      have q6 : (r1.den : Int) * Y ≠ 0 := Int.mul_ne_zero (by omega) (by omega)
      generalize (r1.den : Int) * Y = Y2 at q5 q6 ⊢
      have c8 : (2 : Nat) ^ 446 + 1 < 2 ^ 447 := by decide +kernel
      have q7 : (X2 + 1).natAbs < 2 ^ 447 := by
        generalize (2 : Nat) ^ 446 = Z at *
        generalize (2 : Nat) ^ 447 = Z2 at *
        omega
      generalize X2 + 1 = X3 at q7 ⊢
      refine ⟨X3, Y2, 221, rfl, q6, q5, by decide, fun t3 H3 s3 nt3 ht3 => ?_⟩
      exact ⟨t3, _, rfl, s2.trans s3, ht3, (rb_divW q6 q7 q5).mono (by decide)⟩
    · walk_at "st"
      exact ⟨t1, r1, rfl, s2, ht1, br.mono (by decide)⟩
  rintro σ H3 ⟨t, r2, rfl, s13, ht, b2⟩
  have hR3 := s13.seq hR
  have l1 : r2.num.natAbs.log2 < 1920 := log2_lt (k := 1920) (Nat.lt_of_lt_of_le b2.1 (Nat.pow_le_pow_right (by decide) (by decide))) (by decide)
  have l2 : (r2.den : Int).natAbs.log2 < 1920 := log2_lt (k := 1920) (Nat.lt_of_lt_of_le (show (r2.den : Int).natAbs < 2 ^ 500 from rb_den b2) (Nat.pow_le_pow_right (by decide) (by decide))) (by decide)
  have d500 : (2 : Nat) ^ 500 < 10 ^ 151 := by decide +kernel
  have l3 := istr_len (i := r2.num) (k := 151) (by decide) (Nat.lt_trans b2.1 d500)
  have l4 := istr_len (i := (r2.den : Int)) (k := 151) (by decide) (Nat.lt_trans (rb_den b2) d500)
  have l5 : ("/" : Str).length = 1 := by decide +kernel
  have lp : (partStr (rp r2)).length ≤ 1000 := by
    unfold partStr rp
    rw [len_app, len_app, l5]
    simp only
    omega
  walk_at "st"
  refine ⟨t, rp r2, rfl, ⟨t, rfl, .inl ht⟩, l1, l2, by omega, ?_⟩
  walk_at "st"
  refine Pm.w_isiStr (b := true) (by decide +kernel) ?_
  walk_at "st"
  refine Pm.w_ixT (SqT.of ht) (atI2 _ _).1 ?_
  walk_at "st"
  refine Pm.w_strI l1 ?_
  walk_at "st"
  refine Pm.w_catS (size_ok (by omega)) ?_
  walk_at "st"
  refine Pm.w_ixT (SqT.of ht) (atI2 _ _).2 ?_
  walk_at "st"
  refine Pm.w_strI l2 ?_
  refine Pm.w_catS (size_ok (by rw [len_app]; omega)) ?_
  walk_at "st"
  rw [show decide (partStr (rp r2) = Str.ofString (toString r2.num) ++ ("/" : Str) ++ Str.ofString (toString (r2.den : Int))) = true from decide_eq_true rfl]
  walk_at "st"
  generalize partStr (rp r2) = z0 at lp ⊢
  refine Pm.w_cut (fun σ' H' => ∃ z : Str, σ' = [some (.ref sc), some (.ref r), some (.ref t), some (.str z), none, none, none] ∧ Same H1 H' ∧ z.length ≤ 100000) ?_ ?_
  · walk_at "st"
    refine Pm.w_ixL hR3 (atI_int (by omega) (by omega)) ?_
    walk_at "st"
    refine Pm.w_ite (fun e => ?_) (fun e => ?_)
    · walk_at "st"
      refine Pm.w_ixL hR3 (atI_int (by omega) (by omega)) ?_
      walk_at "st"
      refine ⟨_, rfl, fun z H' s hz => ?_⟩
      exact ⟨z, rfl, s13.trans s, by omega⟩
    · walk_at "st"
      exact ⟨z0, rfl, s13, by omega⟩
  rintro σ H4 ⟨z1, rfl, s14, lz1⟩
  have hR4 := s14.seq hR
  walk_at "st"
  refine Pm.w_cut (fun σ' H' => ∃ z : Str, σ' = [some (.ref sc), some (.ref r), some (.ref t), some (.str z), none, none, none] ∧ z.length ≤ 300000) ?_ ?_
  · walk_at "st"
    refine Pm.w_ixL hR4 (atI_int (by omega) (by omega)) ?_
    walk_at "st"
    refine Pm.w_ite (fun e => ?_) (fun e => ?_)
    · walk_at "st"
      refine ⟨z1, r, row, rfl, lz1, hR4, by omega, fun z hz => ?_⟩
      exact ⟨z, rfl, by omega⟩
    · walk_at "st"
      exact ⟨z1, rfl, by omega⟩
  rintro σ H5 ⟨z, rfl, lz⟩
  walk_at "st"
  refine ⟨z, rfl, by omega, fun hno H6 s6 => ?_, fun p hp t6 H6 s6 n6 h6 => ?_⟩
  · walk_at "st"
    refine ⟨z, rfl, by omega, fun _ H7 s7 => ?_, fun p hp => ?_⟩
    · refine ⟨true, T.exm_NoFraction_MeadError, fun _ x hx => ?_, fun z => Bool.noConfusion z⟩
      walk_at "st"
      refine Pm.w_isN_non ?_
      walk_at "st"
      refine Pm.w_isX T.exc_NoFraction (fun u r => r) T.kit_NoFraction_NoFraction ?_
      exact q _
    · rw [hno] at hp
      cases hp
  · walk_at "st"
    refine ⟨z, rfl, by omega, fun hno => ?_, fun p2 hp2 t7 H7 s7 n7 h7 => ?_⟩
    · rw [hno] at hp
      cases hp
    rw [hp] at hp2
    cases hp2
    obtain ⟨g1, g2, g3, g4⟩ := partOf_good hp
    have er := lenOk_rat g1 g2
    have br := rb_div (n := 1330) (show p.2 ≠ 0 by omega) g3 g4
    generalize Rat.divInt p.1 p.2 = rr at er br
    have er1 : p.1 = rr.num := congrArg Prod.fst er
    have er2 : p.2 = (rr.den : Int) := congrArg Prod.snd er
    rw [er1, er2] at h6 h7
    walk_at "st"
    refine Pm.w_notN_ref ?_
    walk_at "st"
    refine ⟨t7, rr, 1330, rfl, SqT.of h7, br.2, by decide, fun H8 s8 => ?_⟩
    walk_at "st"
    refine Pm.w_eqPair (SqT.of (s8 _ _ h7)) (SqT.of ((s7.trans s8) _ _ h6)) ?_
    rw [decide_eq_true ⟨rfl, rfl⟩]
    exact q _
end
def D_measure : He.FnD := ⟨("measure", none), "measure", "measure", defArgs s_measure, defBody s_measure, defScope s_measure⟩
def D_whole_of : He.FnD := ⟨("whole_of", none), "whole_of", "whole_of", defArgs s_whole_of, defBody s_whole_of, defScope s_whole_of⟩
def D_part_text : He.FnD := ⟨("part_text", none), "part_text", "part_text", defArgs s_part_text, defBody s_part_text, defScope s_part_text⟩
def D_part_read : He.FnD := ⟨("part_read", none), "part_read", "part_read", defArgs s_part_read, defBody s_part_read, defScope s_part_read⟩
def D_law_flow : He.FnD := ⟨("_law_flow", none), "_law_flow", "_law_flow", defArgs s_law_flow, defBody s_law_flow, defScope s_law_flow⟩
def D_law_whole : He.FnD := ⟨("_law_whole", none), "_law_whole", "_law_whole", defArgs s_law_whole, defBody s_law_whole, defScope s_law_whole⟩
def D_law_low : He.FnD := ⟨("_law_low", none), "_law_low", "_law_low", defArgs s_law_low, defBody s_law_low, defScope s_law_low⟩
def D_law_part : He.FnD := ⟨("_law_part", none), "_law_part", "_law_part", defArgs s_law_part, defBody s_law_part, defScope s_law_part⟩
def D_law_number : He.FnD := ⟨("_law_number", none), "_law_number", "_law_number", defArgs s_law_number, defBody s_law_number, defScope s_law_number⟩
def D_law_due : He.FnD := ⟨("_law_due", none), "_law_due", "_law_due", defArgs s_law_due, defBody s_law_due, defScope s_law_due⟩
def D_law_odd : He.FnD := ⟨("_law_odd", none), "_law_odd", "_law_odd", defArgs s_law_odd, defBody s_law_odd, defScope s_law_odd⟩
def D_law_spoilt : He.FnD := ⟨("_law_spoilt", none), "_law_spoilt", "_law_spoilt", defArgs s_law_spoilt, defBody s_law_spoilt, defScope s_law_spoilt⟩
def D_law : He.FnD := ⟨("law", none), "law", "law", defArgs s_law, defBody s_law, defScope s_law⟩
def hfn : List He.FnD := [D_measure, D_whole_of, D_part_text, D_part_read, D_law_flow, D_law_whole, D_law_low, D_law_part, D_law_number, D_law_due, D_law_odd, D_law_spoilt, D_law]
def hfa0 : List He.Fa := [.glo "NoFraction",
  .exc "NoFraction",
  .glo "MeadError",
  .exc "MeadError",
  .keep "measure",
  .glo "measure",
  .keep "whole_of",
  .glo "whole_of",
  .keep "part_text",
  .glo "part_text",
  .keep "part_read",
  .glo "part_read",
  .keep "_law_flow",
  .glo "_law_flow",
  .keep "_law_whole",
  .glo "_law_whole",
  .keep "_law_low",
  .glo "_law_low",
  .keep "_law_part",
  .glo "_law_part",
  .keep "_law_number",
  .glo "_law_number",
  .keep "_law_due",
  .glo "_law_due",
  .keep "_law_odd",
  .glo "_law_odd",
  .keep "_law_spoilt",
  .glo "_law_spoilt",
  .keep "law",
  .glo "law",
  .free "abs",
  .free "int",
  .free "len",
  .free "str",
  .free "range",
  .free "isinstance",
  .free "bool",
  .free "tuple",
  .int "MOST_FIGURES" (400),
  .str "FIGURES" "0123456789"]
def hfa : List He.Fa := hfa0
def hex0 (K : PySem.W.Frag) : List Bool := [PySem.W.isClsIn K (He.ga K "NoFraction"),
  decide (PySem.W.subIn K (.ref (He.ga K "NoFraction")) (.ref (He.ga K "NoFraction")) = some true),
  PySem.W.isClsIn K (He.ga K "MeadError"),
  decide (PySem.W.subIn K (.ref (He.ga K "MeadError")) (.ref (He.ga K "MeadError")) = some true),
  decide (PySem.W.findIn K (.ref (He.ga K "NoFraction")) "__getattribute__" = some (some (.builtin "BaseException.__getattribute__"))),
  decide (PySem.W.findIn K (.ref (He.ga K "NoFraction")) "__getattr__" = some none),
  decide (PySem.W.hasDictIn K (He.ga K "NoFraction") = true),
  decide (PySem.W.findIn K (.ref (He.ga K "NoFraction")) "__class__" = some (some (.builtin "object.__class__"))),
  decide (PySem.W.specialIn K (.builtin "object.__class__") "__get__" = some (some (.builtin "getset_descriptor.__get__"))),
  decide (PySem.W.takesIn K (.builtin "object.__class__") = some true),
  decide (PySem.W.mroIn K (He.ga K "NoFraction") (.type "object") = some true),
  decide (PySem.W.kitOne K (.ref (He.ga K "NoFraction")) (.ref (He.ga K "MeadError")) = some true),
  decide (PySem.W.exmOne K (.ref (He.ga K "NoFraction")) (.ref (He.ga K "MeadError")) = some true),
  decide (PySem.W.kitOne K (.ref (He.ga K "NoFraction")) (.ref (He.ga K "NoFraction")) = some true),
  decide (PySem.W.exmOne K (.ref (He.ga K "NoFraction")) (.ref (He.ga K "NoFraction")) = some true)]
def hex (K : PySem.W.Frag) : List Bool := hex0 K
def loose0 : List Str := [("MeadError" : Str), ("NoFraction" : Str), ("FIGURES" : Str), ("MOST_FIGURES" : Str), ("measure" : Str), ("whole_of" : Str), ("part_text" : Str), ("part_read" : Str), ("_law_flow" : Str), ("_law_whole" : Str), ("_law_low" : Str), ("_law_part" : Str), ("_law_number" : Str), ("_law_due" : Str), ("_law_odd" : Str), ("_law_spoilt" : Str)]
def looseA : List Str := loose0
abbrev hRow : PySem.W.OpenRow := PySem.W.OpenLaw.row PySem.Challenge.rw_postmead_k03_fractions_written
abbrev hHook : PySem.W.Hook := hookP 1200 hfa hfn hex
noncomputable abbrev hOb (s : PySem.W.SharedT) : He.Al := obT 1200 hfa hfn hex s
theorem hRunA (w : World) (os : OsState) : (endR hRow 40000 w os).map (fun s => (HandSHeadRun.looksF hRow.prog (PySem.W.boot_heap w.params) s.abs, HandSHeadRun.seenQ (PySem.W.view hRow.prog [19]) looseA (importedModules hRow.prog.main.body) (fun s => PySem.W.xlAt (PySem.W.view hRow.prog [19]) [] s && PySem.W.recOk hRow.toRowW.records s) s.abs)) = some (true, PySem.W.openGood (PySem.W.view hRow.prog [19]) looseA) := by kernel_rfl
theorem hRunD (w : World) : Look hRow 40000 1200 w (fun K => (hfn.map fun d => He.fnObs K d.at_, hfn.all fun d => (He.Fa.code d.at_ d.qual).ok K)) (hfn.map He.FnD.val, true) := by
  intro os
  kernel_rfl
theorem hRunF0 (w : World) : Look hRow 40000 1200 w (fun K => hfa0.all fun f => f.ok K) true := by
  intro os
  kernel_rfl
theorem hRunX0 (w : World) : Look hRow 40000 1200 w (fun K => (hex0 K).all id) true := by
  intro os
  kernel_rfl
theorem hRun (w : World) : HandSHeadRun.RunEq hRow (PySem.W.view hRow.prog [19]) hHook hOb 40000 looseA w := by
  refine run_of (hRunA w) fun os s e => obsP_of (congrArg Prod.fst ((hRunD w).at_ e)) (congrArg Prod.snd ((hRunD w).at_ e)) ?_ ?_
  · simp only [hfa, List.all_append, (hRunF0 w).at_ e, Bool.and_self]
  · simp only [hex, List.all_append, (hRunX0 w).at_ e, Bool.and_self]
theorem qe_NoFraction {K : PySem.W.Frag} {h : Heap} {mg : Str → Option Value} (X : K.In h) (G : h.Ns mainGlobals mg) (c : SaysP hfa hfn hex K) : Nonempty { e : ExAt K mg "NoFraction" // e.c = (He.ga K "NoFraction") } := ⟨⟨{ c := _, g := He.glo_ok X G (c.e.fact 0 (f := .glo "NoFraction") rfl), x := (He.exc_ok (c.e.fact 1 (f := .exc "NoFraction") rfl)).1, k := (He.exc_ok (c.e.fact 1 (f := .exc "NoFraction") rfl)).2.1, b := (He.exc_ok (c.e.fact 1 (f := .exc "NoFraction") rfl)).2.2.1, t := (He.exc_ok (c.e.fact 1 (f := .exc "NoFraction") rfl)).2.2.2, i := (c.b 0 (b := PySem.W.isClsIn K (He.ga K "NoFraction")) rfl), z := (c.d 1 (p := PySem.W.subIn K (.ref (He.ga K "NoFraction")) (.ref (He.ga K "NoFraction")) = some true) rfl) }, rfl⟩⟩
theorem qe_MeadError {K : PySem.W.Frag} {h : Heap} {mg : Str → Option Value} (X : K.In h) (G : h.Ns mainGlobals mg) (c : SaysP hfa hfn hex K) : Nonempty { e : ExAt K mg "MeadError" // e.c = (He.ga K "MeadError") } := ⟨⟨{ c := _, g := He.glo_ok X G (c.e.fact 2 (f := .glo "MeadError") rfl), x := (He.exc_ok (c.e.fact 3 (f := .exc "MeadError") rfl)).1, k := (He.exc_ok (c.e.fact 3 (f := .exc "MeadError") rfl)).2.1, b := (He.exc_ok (c.e.fact 3 (f := .exc "MeadError") rfl)).2.2.1, t := (He.exc_ok (c.e.fact 3 (f := .exc "MeadError") rfl)).2.2.2, i := (c.b 2 (b := PySem.W.isClsIn K (He.ga K "MeadError")) rfl), z := (c.d 3 (p := PySem.W.subIn K (.ref (He.ga K "MeadError")) (.ref (He.ga K "MeadError")) = some true) rfl) }, rfl⟩⟩
theorem qd_measure {K : PySem.W.Frag} {h : Heap} {mg : Str → Option Value} (X : K.In h) (G : h.Ns mainGlobals mg) (c : SaysP hfa hfn hex K) : Nonempty (DefAt K mg "measure" "measure" s_measure ["one", "other"]) := by
  obtain ⟨oc, od, osl, kV, dc, pm, an, cd, ct, l, cc⟩ := c.def_ 0 (D := D_measure) rfl
  have F := fun_mk (st := s_measure) l cc (c.e.fact 4 (f := .keep "measure") rfl)
  exact ⟨{ a := _, fd := _, F := F, g := He.glo_ok X G (c.e.fact 5 (f := .glo "measure") rfl), b := F.binds (ps := ["one", "other"]) fun _ _ _ _ _ _ us hl => match us, hl with | [_, _], _ => rfl }⟩
theorem qd_whole_of {K : PySem.W.Frag} {h : Heap} {mg : Str → Option Value} (X : K.In h) (G : h.Ns mainGlobals mg) (c : SaysP hfa hfn hex K) : Nonempty (DefAt K mg "whole_of" "whole_of" s_whole_of ["word"]) := by
  obtain ⟨oc, od, osl, kV, dc, pm, an, cd, ct, l, cc⟩ := c.def_ 1 (D := D_whole_of) rfl
  have F := fun_mk (st := s_whole_of) l cc (c.e.fact 6 (f := .keep "whole_of") rfl)
  exact ⟨{ a := _, fd := _, F := F, g := He.glo_ok X G (c.e.fact 7 (f := .glo "whole_of") rfl), b := F.binds (ps := ["word"]) fun _ _ _ _ _ _ us hl => match us, hl with | [_], _ => rfl }⟩
theorem qd_part_text {K : PySem.W.Frag} {h : Heap} {mg : Str → Option Value} (X : K.In h) (G : h.Ns mainGlobals mg) (c : SaysP hfa hfn hex K) : Nonempty (DefAt K mg "part_text" "part_text" s_part_text ["one"]) := by
  obtain ⟨oc, od, osl, kV, dc, pm, an, cd, ct, l, cc⟩ := c.def_ 2 (D := D_part_text) rfl
  have F := fun_mk (st := s_part_text) l cc (c.e.fact 8 (f := .keep "part_text") rfl)
  exact ⟨{ a := _, fd := _, F := F, g := He.glo_ok X G (c.e.fact 9 (f := .glo "part_text") rfl), b := F.binds (ps := ["one"]) fun _ _ _ _ _ _ us hl => match us, hl with | [_], _ => rfl }⟩
theorem qd_part_read {K : PySem.W.Frag} {h : Heap} {mg : Str → Option Value} (X : K.In h) (G : h.Ns mainGlobals mg) (c : SaysP hfa hfn hex K) : Nonempty (DefAt K mg "part_read" "part_read" s_part_read ["line"]) := by
  obtain ⟨oc, od, osl, kV, dc, pm, an, cd, ct, l, cc⟩ := c.def_ 3 (D := D_part_read) rfl
  have F := fun_mk (st := s_part_read) l cc (c.e.fact 10 (f := .keep "part_read") rfl)
  exact ⟨{ a := _, fd := _, F := F, g := He.glo_ok X G (c.e.fact 11 (f := .glo "part_read") rfl), b := F.binds (ps := ["line"]) fun _ _ _ _ _ _ us hl => match us, hl with | [_], _ => rfl }⟩
theorem qd_law_flow {K : PySem.W.Frag} {h : Heap} {mg : Str → Option Value} (X : K.In h) (G : h.Ns mainGlobals mg) (c : SaysP hfa hfn hex K) : Nonempty (DefAt K mg "_law_flow" "_law_flow" s_law_flow ["_law_script", "_law_many"]) := by
  obtain ⟨oc, od, osl, kV, dc, pm, an, cd, ct, l, cc⟩ := c.def_ 4 (D := D_law_flow) rfl
  have F := fun_mk (st := s_law_flow) l cc (c.e.fact 12 (f := .keep "_law_flow") rfl)
  exact ⟨{ a := _, fd := _, F := F, g := He.glo_ok X G (c.e.fact 13 (f := .glo "_law_flow") rfl), b := F.binds (ps := ["_law_script", "_law_many"]) fun _ _ _ _ _ _ us hl => match us, hl with | [_, _], _ => rfl }⟩
theorem qd_law_whole {K : PySem.W.Frag} {h : Heap} {mg : Str → Option Value} (X : K.In h) (G : h.Ns mainGlobals mg) (c : SaysP hfa hfn hex K) : Nonempty (DefAt K mg "_law_whole" "_law_whole" s_law_whole ["_law_found"]) := by
  obtain ⟨oc, od, osl, kV, dc, pm, an, cd, ct, l, cc⟩ := c.def_ 5 (D := D_law_whole) rfl
  have F := fun_mk (st := s_law_whole) l cc (c.e.fact 14 (f := .keep "_law_whole") rfl)
  exact ⟨{ a := _, fd := _, F := F, g := He.glo_ok X G (c.e.fact 15 (f := .glo "_law_whole") rfl), b := F.binds (ps := ["_law_found"]) fun _ _ _ _ _ _ us hl => match us, hl with | [_], _ => rfl }⟩
theorem qd_law_low {K : PySem.W.Frag} {h : Heap} {mg : Str → Option Value} (X : K.In h) (G : h.Ns mainGlobals mg) (c : SaysP hfa hfn hex K) : Nonempty (DefAt K mg "_law_low" "_law_low" s_law_low ["_law_top", "_law_bottom"]) := by
  obtain ⟨oc, od, osl, kV, dc, pm, an, cd, ct, l, cc⟩ := c.def_ 6 (D := D_law_low) rfl
  have F := fun_mk (st := s_law_low) l cc (c.e.fact 16 (f := .keep "_law_low") rfl)
  exact ⟨{ a := _, fd := _, F := F, g := He.glo_ok X G (c.e.fact 17 (f := .glo "_law_low") rfl), b := F.binds (ps := ["_law_top", "_law_bottom"]) fun _ _ _ _ _ _ us hl => match us, hl with | [_, _], _ => rfl }⟩
theorem qd_law_part {K : PySem.W.Frag} {h : Heap} {mg : Str → Option Value} (X : K.In h) (G : h.Ns mainGlobals mg) (c : SaysP hfa hfn hex K) : Nonempty (DefAt K mg "_law_part" "_law_part" s_law_part ["_law_found"]) := by
  obtain ⟨oc, od, osl, kV, dc, pm, an, cd, ct, l, cc⟩ := c.def_ 7 (D := D_law_part) rfl
  have F := fun_mk (st := s_law_part) l cc (c.e.fact 18 (f := .keep "_law_part") rfl)
  exact ⟨{ a := _, fd := _, F := F, g := He.glo_ok X G (c.e.fact 19 (f := .glo "_law_part") rfl), b := F.binds (ps := ["_law_found"]) fun _ _ _ _ _ _ us hl => match us, hl with | [_], _ => rfl }⟩
theorem qd_law_number {K : PySem.W.Frag} {h : Heap} {mg : Str → Option Value} (X : K.In h) (G : h.Ns mainGlobals mg) (c : SaysP hfa hfn hex K) : Nonempty (DefAt K mg "_law_number" "_law_number" s_law_number ["_law_word"]) := by
  obtain ⟨oc, od, osl, kV, dc, pm, an, cd, ct, l, cc⟩ := c.def_ 8 (D := D_law_number) rfl
  have F := fun_mk (st := s_law_number) l cc (c.e.fact 20 (f := .keep "_law_number") rfl)
  exact ⟨{ a := _, fd := _, F := F, g := He.glo_ok X G (c.e.fact 21 (f := .glo "_law_number") rfl), b := F.binds (ps := ["_law_word"]) fun _ _ _ _ _ _ us hl => match us, hl with | [_], _ => rfl }⟩
theorem qd_law_due {K : PySem.W.Frag} {h : Heap} {mg : Str → Option Value} (X : K.In h) (G : h.Ns mainGlobals mg) (c : SaysP hfa hfn hex K) : Nonempty (DefAt K mg "_law_due" "_law_due" s_law_due ["_law_line"]) := by
  obtain ⟨oc, od, osl, kV, dc, pm, an, cd, ct, l, cc⟩ := c.def_ 9 (D := D_law_due) rfl
  have F := fun_mk (st := s_law_due) l cc (c.e.fact 22 (f := .keep "_law_due") rfl)
  exact ⟨{ a := _, fd := _, F := F, g := He.glo_ok X G (c.e.fact 23 (f := .glo "_law_due") rfl), b := F.binds (ps := ["_law_line"]) fun _ _ _ _ _ _ us hl => match us, hl with | [_], _ => rfl }⟩
theorem qd_law_odd {K : PySem.W.Frag} {h : Heap} {mg : Str → Option Value} (X : K.In h) (G : h.Ns mainGlobals mg) (c : SaysP hfa hfn hex K) : Nonempty (DefAt K mg "_law_odd" "_law_odd" s_law_odd ["_law_one"]) := by
  obtain ⟨oc, od, osl, kV, dc, pm, an, cd, ct, l, cc⟩ := c.def_ 10 (D := D_law_odd) rfl
  have F := fun_mk (st := s_law_odd) l cc (c.e.fact 24 (f := .keep "_law_odd") rfl)
  exact ⟨{ a := _, fd := _, F := F, g := He.glo_ok X G (c.e.fact 25 (f := .glo "_law_odd") rfl), b := F.binds (ps := ["_law_one"]) fun _ _ _ _ _ _ us hl => match us, hl with | [_], _ => rfl }⟩
theorem qd_law_spoilt {K : PySem.W.Frag} {h : Heap} {mg : Str → Option Value} (X : K.In h) (G : h.Ns mainGlobals mg) (c : SaysP hfa hfn hex K) : Nonempty (DefAt K mg "_law_spoilt" "_law_spoilt" s_law_spoilt ["_law_line", "_law_row"]) := by
  obtain ⟨oc, od, osl, kV, dc, pm, an, cd, ct, l, cc⟩ := c.def_ 11 (D := D_law_spoilt) rfl
  have F := fun_mk (st := s_law_spoilt) l cc (c.e.fact 26 (f := .keep "_law_spoilt") rfl)
  exact ⟨{ a := _, fd := _, F := F, g := He.glo_ok X G (c.e.fact 27 (f := .glo "_law_spoilt") rfl), b := F.binds (ps := ["_law_line", "_law_row"]) fun _ _ _ _ _ _ us hl => match us, hl with | [_, _], _ => rfl }⟩
theorem qd_law {K : PySem.W.Frag} {h : Heap} {mg : Str → Option Value} (X : K.In h) (G : h.Ns mainGlobals mg) (c : SaysP hfa hfn hex K) : Nonempty (DefAt K mg "law" "law" s_law ["_law_script"]) := by
  obtain ⟨oc, od, osl, kV, dc, pm, an, cd, ct, l, cc⟩ := c.def_ 12 (D := D_law) rfl
  have F := fun_mk (st := s_law) l cc (c.e.fact 28 (f := .keep "law") rfl)
  exact ⟨{ a := _, fd := _, F := F, g := He.glo_ok X G (c.e.fact 29 (f := .glo "law") rfl), b := F.binds (ps := ["_law_script"]) fun _ _ _ _ _ _ us hl => match us, hl with | [_], _ => rfl }⟩
theorem tx_of {K : PySem.W.Frag} {h : Heap} {mg : Str → Option Value} (X : K.In h) (G : h.Ns mainGlobals mg) (c : SaysP hfa hfn hex K) : Nonempty (Tx K mg) := by
  obtain ⟨⟨e_NoFraction, ee_NoFraction⟩⟩ := qe_NoFraction X G c
  obtain ⟨⟨e_MeadError, ee_MeadError⟩⟩ := qe_MeadError X G c
  obtain ⟨t_MOST_FIGURES, ht_MOST_FIGURES⟩ := He.int_ok X G (c.e.fact 38 (f := .int "MOST_FIGURES" (400)) rfl)
  obtain ⟨t_FIGURES, ht_FIGURES⟩ := He.str_ok X G (c.e.fact 39 (f := .str "FIGURES" "0123456789") rfl)
  exact ⟨{
    d_measure := Classical.choice (qd_measure X G c),
    d_whole_of := Classical.choice (qd_whole_of X G c),
    d_part_text := Classical.choice (qd_part_text X G c),
    d_part_read := Classical.choice (qd_part_read X G c),
    d_law_flow := Classical.choice (qd_law_flow X G c),
    d_law_whole := Classical.choice (qd_law_whole X G c),
    d_law_low := Classical.choice (qd_law_low X G c),
    d_law_part := Classical.choice (qd_law_part X G c),
    d_law_number := Classical.choice (qd_law_number X G c),
    d_law_due := Classical.choice (qd_law_due X G c),
    d_law_odd := Classical.choice (qd_law_odd X G c),
    d_law_spoilt := Classical.choice (qd_law_spoilt X G c),
    d_law := Classical.choice (qd_law X G c),
    m_abs := He.free_ok X G (c.e.fact 30 (f := .free "abs") rfl),
    m_int := He.free_ok X G (c.e.fact 31 (f := .free "int") rfl),
    m_len := He.free_ok X G (c.e.fact 32 (f := .free "len") rfl),
    m_str := He.free_ok X G (c.e.fact 33 (f := .free "str") rfl),
    m_range := He.free_ok X G (c.e.fact 34 (f := .free "range") rfl),
    m_isinstance := He.free_ok X G (c.e.fact 35 (f := .free "isinstance") rfl),
    m_bool := He.free_ok X G (c.e.fact 36 (f := .free "bool") rfl),
    m_tuple := He.free_ok X G (c.e.fact 37 (f := .free "tuple") rfl),
    e_NoFraction := e_NoFraction,
    e_MeadError := e_MeadError,
    u_MOST_FIGURES := .int (400) t_MOST_FIGURES, g_MOST_FIGURES := ht_MOST_FIGURES, r_MOST_FIGURES := ⟨t_MOST_FIGURES, rfl⟩,
    u_FIGURES := .str "0123456789" t_FIGURES, g_FIGURES := ht_FIGURES, r_FIGURES := ⟨t_FIGURES, rfl⟩,
    ex1_NoFraction := by rw [ee_NoFraction]; exact (c.d 4 (p := PySem.W.findIn K (.ref (He.ga K "NoFraction")) "__getattribute__" = some (some (.builtin "BaseException.__getattribute__"))) rfl),
    ex2_NoFraction := by rw [ee_NoFraction]; exact (c.d 5 (p := PySem.W.findIn K (.ref (He.ga K "NoFraction")) "__getattr__" = some none) rfl),
    ex3_NoFraction := by rw [ee_NoFraction]; exact (c.d 6 (p := PySem.W.hasDictIn K (He.ga K "NoFraction") = true) rfl),
    ex4_NoFraction := by rw [ee_NoFraction]; exact (c.d 7 (p := PySem.W.findIn K (.ref (He.ga K "NoFraction")) "__class__" = some (some (.builtin "object.__class__"))) rfl),
    ex5_NoFraction := by exact (c.d 8 (p := PySem.W.specialIn K (.builtin "object.__class__") "__get__" = some (some (.builtin "getset_descriptor.__get__"))) rfl),
    ex6_NoFraction := by exact (c.d 9 (p := PySem.W.takesIn K (.builtin "object.__class__") = some true) rfl),
    ex7_NoFraction := by rw [ee_NoFraction]; exact (c.d 10 (p := PySem.W.mroIn K (He.ga K "NoFraction") (.type "object") = some true) rfl),
    kit_NoFraction_MeadError := by rw [ee_NoFraction]; rw [ee_MeadError]; exact (c.d 11 (p := PySem.W.kitOne K (.ref (He.ga K "NoFraction")) (.ref (He.ga K "MeadError")) = some true) rfl),
    exm_NoFraction_MeadError := by rw [ee_NoFraction]; rw [ee_MeadError]; exact (c.d 12 (p := PySem.W.exmOne K (.ref (He.ga K "NoFraction")) (.ref (He.ga K "MeadError")) = some true) rfl),
    kit_NoFraction_NoFraction := by rw [ee_NoFraction]; exact (c.d 13 (p := PySem.W.kitOne K (.ref (He.ga K "NoFraction")) (.ref (He.ga K "NoFraction")) = some true) rfl),
    exm_NoFraction_NoFraction := by rw [ee_NoFraction]; exact (c.d 14 (p := PySem.W.exmOne K (.ref (He.ga K "NoFraction")) (.ref (He.ga K "NoFraction")) = some true) rfl) }⟩
theorem all_mk {l : PySem.W.OpenLaw} {w : World} {K : PySem.W.Frag} {mg : Str → Option Value} {fa : Addr} (hfa : mg "law" = some (.ref fa)) (T : Tx K mg) :
    ∃ fd : FuncData, (∀ (s : Shared) (v : Value), BindsTo s fd ⟨[v], []⟩ [("_law_script", v)]) ∧ ∀ b : Heap, K.In b → b.Ns mainGlobals mg → FnOk l.prog w K mg b CX0 6 fa fd ["_law_script"] (spLaw K) := by
  have e := hfa.symm.trans T.g_law
  cases e
  refine ⟨T.fd_law, fun s v => ?_, fun b _ _ => ok_law (base := b) T⟩
  obtain ⟨oc, od, kV, doc, pm, an, cdv, ct, osl, e, lk, hcd⟩ := T.F_law.ex
  rw [e]
  exact .of_eq rfl
end Pm
open PySem PySem.W PySem.Calls PyProof.Rows
set_option maxHeartbeats 0 in
theorem PySem.Challenge.cw_postmead_k03_fractions_written_holds : PySem.Challenge.rw_postmead_k03_fractions_written.Holds := by
  w_on; o_law
  refine HandSHeadRun.head_any (r := PySem.W.OpenLaw.row PySem.Challenge.rw_postmead_k03_fractions_written) (q := PySem.W.view (PySem.W.OpenLaw.row PySem.Challenge.rw_postmead_k03_fractions_written).prog [19]) (H := Pm.hHook) (ob := Pm.hOb) (M := 40000) (loose := Pm.looseA) (d := HandSHeadRun.topDef (PySem.W.OpenLaw.row PySem.Challenge.rw_postmead_k03_fractions_written).prog 19) (kwd := []) Pm.obT_eq
    (by kernel_rfl) (fun s => by kernel_rfl) Pm.hRun (by kernel_rfl) (by kernel_rfl) (by kernel_rfl) (by rfl) (by first | assumption | decide +kernel) (by decide +kernel) ⟨rfl, rfl, rfl, rfl, rfl, by decide +kernel⟩ ?hw ?hc
  case hw => w_witness2
  case hc =>
    refine L2.walk_ofE (l := PySem.Challenge.rw_postmead_k03_fractions_written) (n := 63) (k := 6) (x := "_law_script") (CX := L2.CX0) rfl (by decide) (by kernel_rfl) ⟨rfl, by decide, by decide⟩ ?F (fun _ _ _ _ z => z)
    intro w mg fa h Y G hmg0
    obtain ⟨K, KX, c⟩ := Y
    have hmg : mg ("law" : PySem.Str) = some (.ref fa) := by
      have e : (HandSHeadRun.topDef (PySem.W.OpenLaw.row PySem.Challenge.rw_postmead_k03_fractions_written).prog 19).name = ("law" : PySem.Str) := by kernel_rfl
      rw [← e]
      exact hmg0
    obtain ⟨T⟩ := Pm.tx_of KX G c
    obtain ⟨fd, hb, hF⟩ := Pm.all_mk (l := PySem.Challenge.rw_postmead_k03_fractions_written) (w := w) hmg T
    exact ⟨K, fd, Pm.spLaw K, KX, hb, fun H a ns hl _ hS => ⟨a, ns, rfl, hS, hl, fun _ => rfl⟩, hF⟩
#print axioms PySem.Challenge.cw_postmead_k03_fractions_written_holds
