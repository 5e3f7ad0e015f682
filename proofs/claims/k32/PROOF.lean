import PyProof.Rows.All
import PyProof.NoPylong
import HandS.Ends
import HandS.DictTup
import HandS.TupLen
import KE.KDictWalk
import KE.KDictCopyH
import KE.KDictOf
import HandS.Style
import HandS.SortInts
import KE.KEqDict
import PyProof.DictFindH
import KE.KDictSum
import HandS.SortKw
import KE.KDictKeyed
import HandS.Head0
import HandS.Head1
import HandS.Head2
import HandS.HeadEnd
import HandS.HeadHook1
import HandS.HeadHook2
import Wide.All
import OpenK.AllK
import Wide.FinOn
import PySem.Challenge.RW_postmead_k32_ratios_turned
import HandS.ForMost
import HandS.ForExc
import HandS.IsInst
import HandS.Deep
import HandS.Codes
import HandS.SortRule
import HandS.Wide
import HandS.ExcIs
import HandS.TryOnly
import HandS.TupLe
set_option exponentiation.threshold 2000
set_option exponentiation.threshold 4000
set_option Elab.async false
set_option linter.all false
set_option maxRecDepth 100000
set_option maxHeartbeats 4000000
namespace Pm
open PySem PySem.Spec PyProof.Rows L2
theorem size_ok {n : Nat} (h : n ≤ 16777216) : n ≤ sizeLine := by rw [sizeLine_eq]; exact h
theorem size_lt {n : Nat} (h : n < 16777216) : n < sizeLine := by rw [sizeLine_eq]; exact h
section
variable {X : Cx} {K : PySem.W.Frag}
theorem ix_listK (e : X.K = K := by rfl) : IxR X (rIxL K) := e ▸ ix_list
theorem ix_tupK (e : X.K = K := by rfl) : IxR X (rIxT K) := e ▸ ix_tup
theorem sl_listK (e : X.K = K := by rfl) : SlR X (rSlL K) := e ▸ sl_list
theorem op_eqDK (hu : X.A.units + 64 < cLine) (e : X.K = K := by rfl) : OpR X (compareOp .Eq) (rEqD K) := e ▸ op_eqD hu
theorem op_neDK (hu : X.A.units + 64 < cLine) (e : X.K = K := by rfl) : OpR X (compareOp .NotEq) (rNeD K) := e ▸ op_neD hu
theorem op_inDK (hu : X.A.units + 65 < cLine) (e : X.K = K := by rfl) : OpR X (compareOp .In) (rInD K) := e ▸ op_inD hu
theorem op_notInDK (hu : X.A.units + 65 < cLine) (e : X.K = K := by rfl) : OpR X (compareOp .NotIn) (rNotInD K) := e ▸ op_notInD hu
theorem op_notIn_seqK (e : X.K = K := by rfl) : OpR X (compareOp .NotIn) (rIn K true) := e ▸ op_notIn_seq
theorem cr_sortK (e : X.K = K := by rfl) : CallR X (.builtin "sorted") (rSortedPO K) := e ▸ cr_sortedPO
theorem call_isK (e : X.K = K := by rfl) : CallR X (.builtin "isinstance") (rIsi K) := e ▸ call_isi
theorem k_bm {ex : Expr} {T : String} {r : V → List V → Hp → VK → Prop} {to : TE} {t : TA} (h : PE X ex (tBM X.K T r to t)) (e : X.K = K := by rfl) : PE X ex (tBM K T r to t) := e ▸ h
theorem k_bm0 {ex : Expr} {T : String} {r : V → List V → Hp → VK → Prop} {to : TE} (h : PE X ex (tBM0 X.K T r to)) (e : X.K = K := by rfl) : PE X ex (tBM0 K T r to) := e ▸ h
theorem k_il {tg ex : Expr} {te : TE} (h : PI X tg ex (iList X.K te)) (e : X.K = K := by rfl) : PI X tg ex (iList K te) := e ▸ h
theorem k_it {tg ex : Expr} {te : TE} (h : PI X tg ex (iTup X.K te)) (e : X.K = K := by rfl) : PI X tg ex (iTup K te) := e ▸ h
theorem k_gt {tg : Expr} {n : Nat} {t : TGs} (h : PG X tg (gTup X.K n t)) (e : X.K = K := by rfl) : PG X tg (gTup K n t) := e ▸ h
end
/-- a op1 b op2 c op3 d -/
def tChain3 (r r' r'' : R2) (ta tb tc td : TE) : TE := fun σ H Q => ta σ H fun x H1 => tb σ H1 fun y H2 => r x y H2 fun z H3 => ∃ k, z = .bl k ∧
  (if k = true then tc σ H3 fun w' H4 => r' y w' H4 fun z' H5 => ∃ k', z' = .bl k' ∧ (if k' = true then td σ H5 fun v' H6 => r'' w' v' H6 Q else Q (.bl false) H5) else Q (.bl false) H3)
def rAbs : List V → Hp → VK → Prop := fun xs H Q => ∃ i, xs = [.int i] ∧ Q (.int (if i < 0 then -i else i)) H
theorem c_abs {X : Cx} : CallR X (.builtin "abs") rAbs := call_abs
def rMax2 : List V → Hp → VK → Prop := fun xs H Q => ∃ i j, xs = [.int i, .int j] ∧ Q (.int (if j > i then j else i)) H
theorem c_max {X : Cx} (hc : X.calm = true) : CallR X (.builtin "max") rMax2 := call_max2 hc
def rMin2 : List V → Hp → VK → Prop := fun xs H Q => ∃ i j, xs = [.int i, .int j] ∧ Q (.int (if j < i then j else i)) H
theorem c_min {X : Cx} (hc : X.calm = true) : CallR X (.builtin "min") rMin2 := call_min2 hc
def rLen (K : PySem.W.Frag) : List V → Hp → VK → Prop := fun xs H Q => ∃ p ys, xs = [.ref p] ∧ (SqL K H p ys ∨ SqT K H p ys) ∧ Q (.int ys.length) H
theorem c_len {X : Cx} {K : PySem.W.Frag} (e : X.K = K := by rfl) : CallR X (.builtin "len") (rLen K) := e ▸ call_len_seq
def rInt1 : List V → Hp → VK → Prop := fun xs H Q => (∃ i, xs = [.int i] ∧ Q (.int i) H) ∨ ∃ k, xs = [.bl k] ∧ Q (.int (if k then 1 else 0)) H
def rListOf (K : PySem.W.Frag) : List V → Hp → VK → Prop := fun xs H Q => ∃ p ys, xs = [.ref p] ∧ (SqL K H p ys ∨ SqT K H p ys) ∧ ∀ l, H l = none → Q (.ref l) (upd H l (.lst ys))
theorem c_listOf {X : Cx} {K : PySem.W.Frag} (e : X.K = K := by rfl) : CallR X (.type "list") (rListOf K) := e ▸ call_list_of
def TupK (Q : VK) : List V → Hp → Prop := fun xs H1 => xs.length ≤ sizeLine ∧ ∀ p, H1 p = none → Q (.ref p) (upd H1 p (.tup xs))
def LstK (Q : VK) : List V → Hp → Prop := fun xs H1 => xs.length ≤ sizeLine ∧ ∀ p, H1 p = none → Q (.ref p) (upd H1 p (.lst xs))
/-- isinstance(e, c) of the exception at a that an except suite holds (its class cls, its dict d) -/
def rIsX (K : PySem.W.Frag) (cls : Value) (d : Option Addr) (a : Addr) : List V → Hp → VK → Prop := fun xs H Q => ∃ (D : Addr) (c : V) (cv : Value) (b : Bool), cls = .ref D ∧ d = none ∧ ExcC K D ∧ xs = [.ref a, c] ∧ (∀ u, RelV c u → u = cv) ∧ PySem.W.kitOne K (.ref D) cv = some b ∧ Q (.bl b) H
theorem c_isX {X : Cx} {K : PySem.W.Frag} {a : Addr} {oe : Obj} {cls : Value} {d : Option Addr} {pn : List (Addr × Obj)} (hz : Zc cls d oe) (hf : ∃ vs, oe.data = .fields vs) (e : X.K = K := by rfl) : CallR (X.suite a ((a, oe) :: pn)) (.builtin "isinstance") (rIsX K cls d a) := by
  subst e
  intro pins s σ H xs us Q I r h
  obtain ⟨D, c, cv, b, rfl, rfl, C, ex, hc, k, q⟩ := h
  exact call_isE C hz hf pins s σ H xs us Q I r ⟨c, cv, b, ex, hc, k, q⟩
/-- what is asked of a for's body, once what is walked is there -/
def ForB (g : TG) (t : TS) (nx : L2.St → Hp → Prop) (rt : VK) (σ : L2.St) : It → Hp → Prop := fun J H1 => ∃ W : Nat → Nat → L2.St → Hp → Prop, (∃ m, W 0 m σ H1) ∧ ∀ i m σ H, W i m σ H →
  (J.stop i H ∧ nx σ H) ∨ (J.go i H ∧ ∃ N : L2.St → Hp → Prop, (∀ σ' H', N σ' H' → ∃ m', m' < m ∧ W (i + 1) m' σ' H') ∧ ∀ x H', J.yld i H x H' → g x σ H' fun σ2 H2 => t ⟨N, rt, nx, N⟩ σ2 H2)
def WhB (t : TS) (nx : L2.St → Hp → Prop) (rt : VK) (Pv : Nat → L2.St → Hp → Prop) (m : Nat) (σ : L2.St) : Bool → Hp → Prop := fun b H1 => if b = true then ∃ N : L2.St → Hp → Prop, (∀ σ' H', N σ' H' → ∃ m', m' < m ∧ Pv m' σ' H') ∧ t ⟨N, rt, nx, N⟩ σ H1 else nx σ H1
def ParK (i j : Nat) (nx : L2.St → Hp → Prop) (σ : L2.St) : List V → Hp → Prop := fun vs H1 => ∃ v w, vs = [v, w] ∧ nx ((σ.set i (some v)).set j (some w)) H1
def PartK (O : Option Int → Hp → Prop) : VK := fun x H1 => ∃ i, x = .int i ∧ O (some i) H1
def DPK (nx : L2.St → Hp → Prop) (σ : L2.St) (v x : V) : VK := fun y H3 => ∃ a H4, x = .ref a ∧ DPut H3 a y v H4 ∧ nx σ H4
def DInK (y : V) (Q : VK) : VK := fun x H2 => ∃ a o, x = .ref a ∧ DGet H2 a y o ∧ Q (.bl o.isSome) H2
def DNotInK (y : V) (Q : VK) : VK := fun x H2 => ∃ a o, x = .ref a ∧ DGet H2 a y o ∧ Q (.bl (!o.isSome)) H2
def DGK (x : V) (Q : VK) : VK := fun y H2 => ∃ a v, x = .ref a ∧ DGet H2 a y (some v) ∧ Q v H2
def RdL (K : PySem.W.Frag) (R : It → Hp → Prop) : VK := fun x H1 => ∃ a, x = .ref a ∧ (∃ xs, SqL K H1 a xs) ∧ R (Itl K a) H1
def RdT (K : PySem.W.Frag) (R : It → Hp → Prop) : VK := fun x H1 => ∃ a, x = .ref a ∧ (∃ xs, SqT K H1 a xs) ∧ R (Itt K a) H1
def Rg1 (R : It → Hp → Prop) : List V → Hp → Prop := fun vs H1 => ∃ j : Int, vs = [.int j] ∧ -(2 ^ 62) ≤ j ∧ j < 2 ^ 62 ∧ R (Itr 0 j.toNat) H1
def Rg2 (R : It → Hp → Prop) : List V → Hp → Prop := fun vs H1 => ∃ i j : Int, vs = [.int i, .int j] ∧ (-(2 ^ 62) ≤ i ∧ i < 2 ^ 62 ∧ -(2 ^ 62) ≤ j ∧ j < 2 ^ 62) ∧ R (Itr i (j - i).toNat) H1
/-- what is asked of a list comprehension, once what is walked is there -/
def LcB (g : TG) (tt : TT) (te : TE) (vs : List Nat) (σ : L2.St) (Q : VK) : It → Hp → Prop := fun J H1 => ∀ D, H1 D = none → ∃ W : Nat → Nat → Hp → Prop, (∃ m, W 0 m (upd H1 D (.lst []))) ∧ ∀ i m H, W i m H →
  (J.stop i H ∧ Q (.ref D) H) ∨ (J.go i H ∧ ∃ Nx : Hp → Prop, (∀ H', Nx H' → ∃ m', m' < m ∧ W (i + 1) m' H') ∧ ∀ x H', J.yld i H x H' → g x (wipe σ vs) H' fun σ2 H2 => wipe σ2 vs = wipe σ vs ∧ tt σ2 H2 fun b H3 =>
    if b = true then te σ2 H3 fun y H4 => ∃ acc, H4 D = some (.lst acc) ∧ acc.length < sizeLine ∧ Nx (upd H4 D (.lst (acc ++ [y]))) else Nx H3)
/-- a turn of a comprehension: the item put behind the list at D -/
def LcPut (D : Addr) (Nx : Hp → Prop) : VK := fun y H4 => ∃ acc, H4 D = some (.lst acc) ∧ acc.length < sizeLine ∧ Nx (upd H4 D (.lst (acc ++ [y])))
def LcTurn (tt : TT) (te : TE) (vs : List Nat) (σ : L2.St) (D : Addr) (Nx : Hp → Prop) : L2.St → Hp → Prop := fun σ2 H2 => wipe σ2 vs = wipe σ vs ∧ tt σ2 H2 fun b H3 => if b = true then te σ2 H3 (LcPut D Nx) else Nx H3
section
variable {nx bk ct : L2.St → Hp → Prop} {rt : VK} {σ : L2.St} {H : Hp} {t u : TS} {te ta tb tc : TE} {g : TG} {Q : VK} {B : Bool → Hp → Prop} {c c' : TT} {L : List V → Hp → Prop}
theorem w_seq (h : t ⟨u ⟨nx, rt, bk, ct⟩, rt, bk, ct⟩ σ H) : tSeq t u ⟨nx, rt, bk, ct⟩ σ H := h
theorem w_cut (Mid : L2.St → Hp → Prop) (h : t ⟨Mid, rt, bk, ct⟩ σ H) (h2 : ∀ σ' H', Mid σ' H' → u ⟨nx, rt, bk, ct⟩ σ' H') : C8.tCut t u ⟨nx, rt, bk, ct⟩ σ H := ⟨Mid, h, h2⟩
theorem w_asg (h : te σ H fun x H1 => g x σ H1 nx) : tAsg te g ⟨nx, rt, bk, ct⟩ σ H := h
theorem w_drop (h : te σ H fun _ H1 => nx σ H1) : tDrop te ⟨nx, rt, bk, ct⟩ σ H := h
theorem w_ret (h : te σ H rt) : tRet te ⟨nx, rt, bk, ct⟩ σ H := h
theorem w_retN (h : rt .non H) : tRetN ⟨nx, rt, bk, ct⟩ σ H := h
theorem w_next (h : nx σ H) : tNext ⟨nx, rt, bk, ct⟩ σ H := h
theorem w_brk (h : bk σ H) : tBreak ⟨nx, rt, bk, ct⟩ σ H := h
theorem w_cont (h : ct σ H) : tCont ⟨nx, rt, bk, ct⟩ σ H := h
theorem w_if (h : c σ H fun b H1 => if b = true then t ⟨nx, rt, bk, ct⟩ σ H1 else u ⟨nx, rt, bk, ct⟩ σ H1) : tIfS c t u ⟨nx, rt, bk, ct⟩ σ H := h
theorem w_par {i j : Nat} {t : TA} (h : t σ H (ParK i j nx σ)) : tPar i j t ⟨nx, rt, bk, ct⟩ σ H := h
theorem w_par2 {v w : V} {i j : Nat} (h : nx ((σ.set i (some v)).set j (some w)) H) : ParK i j nx σ [v, w] H := ⟨v, w, rfl, h⟩
theorem w_gname {v : V} {i : Nat} {R : L2.St → Hp → Prop} (h : R (σ.set i (some v)) H) : gName i v σ H R := h
theorem w_gtup {K : PySem.W.Frag} {n : Nat} {t : TGs} {a : Addr} {xs : List V} {R : L2.St → Hp → Prop} (hl : SqT K H a xs) (e : xs.length = n) (h : t xs σ H R) : gTup K n t (.ref a) σ H R := ⟨a, xs, rfl, hl, e, h⟩
theorem w_gcons {t : TG} {u : TGs} {v : V} {r : List V} {R : L2.St → Hp → Prop} (h : t v σ H fun σ' H' => u r σ' H' R) : gCons t u (v :: r) σ H R := ⟨v, r, rfl, h⟩
theorem w_gnil {R : L2.St → Hp → Prop} (h : R σ H) : gNil [] σ H R := ⟨rfl, h⟩
theorem w_gsub {to ti : TE} {t : TSet} {v : V} {R : L2.St → Hp → Prop} (h : to σ H fun o H1 => ti σ H1 fun i H2 => t o i v H2 fun H3 => R σ H3) : gSub to ti t v σ H R := h
theorem w_var {i : Nat} {v : V} (e : σ[i]? = some (some v)) (h : Q v H) : tVar i σ H Q := ⟨v, e, h⟩
theorem w_c {v : V} (h : Q v H) : tC v σ H Q := h
theorem w_op {r : R2} (h : ta σ H fun x H1 => tb σ H1 fun y H2 => r x y H2 Q) : tOp r ta tb σ H Q := h
theorem w_un {r : V → Hp → VK → Prop} (h : ta σ H fun x H1 => r x H1 Q) : tUn r ta σ H Q := h
theorem w_i0 {k : Int → Int → V} {i j : Int} (h : Q (k i j) H) : rI0 k (.int i) (.int j) H Q := ⟨i, j, rfl, rfl, h⟩
theorem w_i {C : Int → Int → Prop} {k : Int → Int → V} {i j : Int} (hc : C i j) (h : Q (k i j) H) : rI C k (.int i) (.int j) H Q := ⟨i, j, rfl, rfl, hc, h⟩
theorem w_u {k : Int → V} {i : Int} (h : Q (k i) H) : rU k (.int i) H Q := ⟨i, rfl, h⟩
theorem w_eqi {i j : Int} (h : Q (.bl (decide (i = j))) H) : rEq (.int i) (.int j) H Q := by
  refine ⟨rfl, ?_⟩
  have e : decide (V.int i = V.int j) = decide (i = j) := by simp
  rw [e]; exact h
theorem w_nei {i j : Int} (h : Q (.bl (!decide (i = j))) H) : rNe (.int i) (.int j) H Q := by
  refine ⟨rfl, ?_⟩
  have e : decide (V.int i = V.int j) = decide (i = j) := by simp
  rw [e]; exact h
theorem w_eqb {i j : Bool} (h : Q (.bl (i == j)) H) : rEq (.bl i) (.bl j) H Q := by
  refine ⟨rfl, ?_⟩
  have e : decide (V.bl i = V.bl j) = (i == j) := by cases i <;> cases j <;> rfl
  rw [e]; exact h
theorem w_neb {i j : Bool} (h : Q (.bl (!(i == j))) H) : rNe (.bl i) (.bl j) H Q := by
  refine ⟨rfl, ?_⟩
  have e : decide (V.bl i = V.bl j) = (i == j) := by cases i <;> cases j <;> rfl
  rw [e]; exact h
theorem w_eqs {i j : Str} (h : Q (.bl (decide (i = j))) H) : rEq (.str i) (.str j) H Q := by
  refine ⟨rfl, ?_⟩
  have e : decide (V.str i = V.str j) = decide (i = j) := by simp
  rw [e]; exact h
theorem w_cb {r : List V → Hp → VK → Prop} {t : TA} (h : t σ H fun vs H1 => r vs H1 Q) : tCB r t σ H Q := h
theorem w_nil (h : L [] H) : tNil σ H L := h
theorem w_cons {t : TA} (h : ta σ H fun x H1 => t σ H1 fun xs H2 => L (x :: xs) H2) : tCons ta t σ H L := h
theorem w_call {sp : Sp} {E : XK} {t : TA} (h : t σ H fun vs H1 => sp (vs ++ []) H1 Q E) : tCall sp [] E t σ H Q := h
theorem w_tup {t : TA} (h : t σ H (TupK Q)) : tTup t σ H Q := h
theorem w_lst {t : TA} (h : t σ H (LstK Q)) : tLst t σ H Q := h
theorem w_newT {xs : List V} (h : ∀ p, H p = none → Q (.ref p) (upd H p (.tup xs))) (hz : xs.length ≤ sizeLine := by exact Pm.size_ok (Nat.le_of_ble_eq_true rfl)) : TupK Q xs H := ⟨hz, h⟩
theorem w_newL {xs : List V} (h : ∀ p, H p = none → Q (.ref p) (upd H p (.lst xs))) (hz : xs.length ≤ sizeLine := by exact Pm.size_ok (Nat.le_of_ble_eq_true rfl)) : LstK Q xs H := ⟨hz, h⟩
theorem w_test (h : te σ H fun x H' => ∃ k, x = .bl k ∧ B k H') : tTest te σ H B := h
theorem w_b (h : te σ H fun x H' => ∃ k, x = .bl k ∧ B k H') : tB te σ H B := h
theorem w_bl {k : Bool} (h : B k H) : ∃ k', V.bl k = .bl k' ∧ B k' H := ⟨k, rfl, h⟩
theorem w_and (h : c σ H fun b H1 => if b = true then c' σ H1 B else B false H1) : tAnd c c' σ H B := h
theorem w_or (h : c σ H fun b H1 => if b = true then B true H1 else c' σ H1 B) : tOr c c' σ H B := h
theorem w_not (h : c σ H fun b H1 => B (!b) H1) : tNot c σ H B := h
theorem w_andV (h : ta σ H fun x H1 => ∃ k, x = .bl k ∧ if k = true then tb σ H1 Q else Q (.bl false) H1) : tAndV ta tb σ H Q := h
theorem w_orV (h : ta σ H fun x H1 => ∃ k, x = .bl k ∧ if k = true then Q (.bl true) H1 else tb σ H1 Q) : tOrV ta tb σ H Q := h
theorem w_notV (h : ta σ H fun x H1 => ∃ k, x = .bl k ∧ Q (.bl (!k)) H1) : tNotV ta σ H Q := h
theorem w_ifE (h : c σ H fun b H1 => if b = true then ta σ H1 Q else tb σ H1 Q) : tIf c ta tb σ H Q := h
theorem w_chain {r r' : R2} (h : ta σ H fun x H1 => tb σ H1 fun y H2 => r x y H2 fun z H3 => ∃ k, z = .bl k ∧ (if k = true then tc σ H3 fun w H4 => r' y w H4 Q else Q (.bl false) H3)) : tChain r r' ta tb tc σ H Q := h
theorem w_chain3 {r r' r'' : R2} {td : TE} (h : ta σ H fun x H1 => tb σ H1 fun y H2 => r x y H2 fun z H3 => ∃ k, z = .bl k ∧
  (if k = true then tc σ H3 fun w' H4 => r' y w' H4 fun z' H5 => ∃ k', z' = .bl k' ∧ (if k' = true then td σ H5 fun v' H6 => r'' w' v' H6 Q else Q (.bl false) H5) else Q (.bl false) H3)) : tChain3 r r' r'' ta tb tc td σ H Q := h
theorem w_blx {k : Bool} {R : Bool → Prop} (h : R k) : ∃ k', V.bl k = .bl k' ∧ R k' := ⟨k, rfl, h⟩
theorem w_iteT {A C : Prop} (h : A) : if true = true then A else C := by rw [if_pos rfl]; exact h
theorem w_iteF {A C : Prop} (h : C) : if false = true then A else C := by rw [if_neg Bool.false_ne_true]; exact h
theorem w_iteN1 {A C : Prop} (h : C) : if (!true) = true then A else C := w_iteF h
theorem w_iteN0 {A C : Prop} (h : A) : if (!false) = true then A else C := w_iteT h
theorem w_ite {p A C : Prop} [Decidable p] (h1 : p → A) (h2 : ¬ p → C) : if decide p = true then A else C := by
  by_cases h : p
  · rw [decide_eq_true h, if_pos rfl]; exact h1 h
  · rw [decide_eq_false h, if_neg Bool.false_ne_true]; exact h2 h
theorem w_iteN {p A C : Prop} [Decidable p] (h1 : ¬ p → A) (h2 : p → C) : if (!decide p) = true then A else C := by
  by_cases h : p
  · rw [decide_eq_true h]; exact w_iteF (h2 h)
  · rw [decide_eq_false h]; exact w_iteT (h1 h)
theorem w_abs {i : Int} (h : Q (.int (if i < 0 then -i else i)) H) : rAbs [.int i] H Q := ⟨i, rfl, h⟩
theorem w_max {i j : Int} (h : Q (.int (max i j)) H) : rMax2 [V.int i, V.int j] H Q := by
  refine ⟨i, j, rfl, ?_⟩
  have e : (if j > i then j else i) = max i j := by rw [Int.max_def]; split <;> split <;> omega
  rw [e]; exact h
theorem w_min {i j : Int} (h : Q (.int (min i j)) H) : rMin2 [V.int i, V.int j] H Q := by
  refine ⟨i, j, rfl, ?_⟩
  have e : (if j < i then j else i) = min i j := by rw [Int.min_def]; split <;> split <;> omega
  rw [e]; exact h
theorem w_mul1 {i j : Int} (h : -(2 ^ 64) < i ∧ i < 2 ^ 64) : CMul i j := .inl h
theorem w_mul2 {i j : Int} (h : -(2 ^ 64) < j ∧ j < 2 ^ 64) : CMul i j := .inr h
theorem w_ixL {K : PySem.W.Frag} {p : Addr} {xs : List V} {i : Int} {v : V} (hl : SqL K H p xs) (e : atI xs i = some v) (h : Q v H) : rIxL K (.ref p) (.int i) H Q := ⟨p, xs, i, v, rfl, rfl, hl, e, h⟩
theorem w_ixT {K : PySem.W.Frag} {p : Addr} {xs : List V} {i : Int} {v : V} (hl : SqT K H p xs) (e : atI xs i = some v) (h : Q v H) : rIxT K (.ref p) (.int i) H Q := ⟨p, xs, i, v, rfl, rfl, hl, e, h⟩
theorem w_bm {K : PySem.W.Frag} {T : String} {r : V → List V → Hp → VK → Prop} {t : TA} (h : ta σ H fun x H1 => tyV K T x H1 ∧ t σ H1 fun xs H2 => r x xs H2 Q) : tBM K T r ta t σ H Q := h
theorem w_bm0 {K : PySem.W.Frag} {T : String} {r : V → List V → Hp → VK → Prop} (h : ta σ H fun x H1 => tyV K T x H1 ∧ r x [] H1 Q) : tBM0 K T r ta σ H Q := h
theorem w_append {l : Addr} {xs : List V} {y : V} (hl : H l = some (.lst xs)) (hz : xs.length < sizeLine) (h : Q .non (upd H l (.lst (xs ++ [y])))) : rAppend (.ref l) [y] H Q := ⟨l, xs, y, rfl, rfl, hl, hz, h⟩
theorem w_len {K : PySem.W.Frag} {p : Addr} {ys : List V} (hl : SqL K H p ys ∨ SqT K H p ys) (h : Q (.int ys.length) H) : rLen K [V.ref p] H Q := ⟨p, ys, rfl, hl, h⟩
theorem w_lenL {K : PySem.W.Frag} {p : Addr} {ys : List V} (hl : SqL K H p ys) (h : Q (.int ys.length) H) : rLen K [V.ref p] H Q := ⟨p, ys, rfl, .inl hl, h⟩
theorem w_lenT {K : PySem.W.Frag} {p : Addr} {ys : List V} (hl : SqT K H p ys) (h : Q (.int ys.length) H) : rLen K [V.ref p] H Q := ⟨p, ys, rfl, .inr hl, h⟩
theorem w_int1 {b : Bool} (h : Q (.int (if b then 1 else 0)) H) : rInt1 [.bl b] H Q := .inr ⟨b, rfl, h⟩
theorem w_listOf {K : PySem.W.Frag} {p : Addr} {ys : List V} (hl : SqL K H p ys) (h : ∀ l, H l = none → Q (.ref l) (upd H l (.lst ys))) : rListOf K [.ref p] H Q := ⟨p, ys, rfl, .inl hl, h⟩
theorem w_sl {r : V → Option Int → Option Int → Hp → VK → Prop} {tl th : TO} (h : te σ H fun x H1 => tl σ H1 fun l H2 => th σ H2 fun u H3 => r x l u H3 Q) : tSl r te tl th σ H Q := h
theorem w_noPart {O : Option Int → Hp → Prop} (h : O none H) : tNoPart σ H O := h
theorem w_part {O : Option Int → Hp → Prop} (h : te σ H (PartK O)) : tPart te σ H O := h
theorem w_partK {O : Option Int → Hp → Prop} {i : Int} (h : O (some i) H) : PartK O (.int i) H := ⟨i, rfl, h⟩
theorem w_slL {K : PySem.W.Frag} {a : Addr} {xs : List V} {lo hi : Option Int} (hl : SqL K H a xs) (h : ∀ p, H p = none → Q (.ref p) (upd H p (.lst (cutV xs lo hi)))) : rSlL K (.ref a) lo hi H Q := ⟨a, xs, rfl, hl, h⟩
theorem w_cat {l b : Addr} {xs zs : List V} (h1 : H l = some (.lst xs)) (h2 : H b = some (.lst zs)) (hz : xs.length + zs.length ≤ sizeLine) (h : ∀ p, H p = none → Q (.ref p) (upd H p (.lst (xs ++ zs)))) : rCat (.ref l) (.ref b) H Q := ⟨l, b, xs, zs, rfl, rfl, h1, h2, hz, h⟩
theorem w_dput {td ty tv : TE} (h : tv σ H fun v H1 => td σ H1 fun x H2 => ty σ H2 (DPK nx σ v x)) : sDPut td ty tv ⟨nx, rt, bk, ct⟩ σ H := h
theorem w_dpT {a b : Addr} {kvs : List (List L2.Key × V)} {k : List L2.Key} {v : V} (h1 : H a = some (.dT kvs)) (h2 : H b = some (.tup (k.map kV))) (hl : kvs.length < sizeLine) (h : nx σ (upd H a (.dT (putK kvs k v)))) : DPK nx σ v (.ref a) (.ref b) H := ⟨a, _, rfl, DPut.t h1 h2 hl, h⟩
theorem w_dpK {a : Addr} {kvs : List (L2.Key × V)} {k : L2.Key} {v : V} (h1 : H a = some (.dK kvs)) (hl : kvs.length < sizeLine) (h : nx σ (upd H a (.dK (putK kvs k v)))) : DPK nx σ v (.ref a) (kV k) H := ⟨a, _, rfl, DPut.k h1 hl, h⟩
theorem w_din {ty td : TE} (h : ty σ H fun y H1 => td σ H1 (DInK y Q)) : tDIn ty td σ H Q := h
theorem w_dnotin {ty td : TE} (h : ty σ H fun y H1 => td σ H1 (DNotInK y Q)) : tDNotIn ty td σ H Q := h
theorem w_diT {a b : Addr} {kvs : List (List L2.Key × V)} {k : List L2.Key} (h1 : H a = some (.dT kvs)) (h2 : H b = some (.tup (k.map kV))) (h : Q (.bl (valV kvs k).isSome) H) : DInK (.ref b) Q (.ref a) H := ⟨a, _, rfl, DGet.t h1 h2, h⟩
theorem w_dniT {a b : Addr} {kvs : List (List L2.Key × V)} {k : List L2.Key} (h1 : H a = some (.dT kvs)) (h2 : H b = some (.tup (k.map kV))) (h : Q (.bl (!(valV kvs k).isSome)) H) : DNotInK (.ref b) Q (.ref a) H := ⟨a, _, rfl, DGet.t h1 h2, h⟩
theorem w_diK {a : Addr} {kvs : List (L2.Key × V)} {k : L2.Key} (h1 : H a = some (.dK kvs)) (h : Q (.bl (valV kvs k).isSome) H) : DInK (kV k) Q (.ref a) H := ⟨a, _, rfl, DGet.k h1, h⟩
theorem w_dniK {a : Addr} {kvs : List (L2.Key × V)} {k : L2.Key} (h1 : H a = some (.dK kvs)) (h : Q (.bl (!(valV kvs k).isSome)) H) : DNotInK (kV k) Q (.ref a) H := ⟨a, _, rfl, DGet.k h1, h⟩
theorem w_dget {td ty : TE} (h : td σ H fun x H1 => ty σ H1 (DGK x Q)) : tDGet td ty σ H Q := h
theorem w_dgT {a b : Addr} {kvs : List (List L2.Key × V)} {k : List L2.Key} {v : V} (h1 : H a = some (.dT kvs)) (h2 : H b = some (.tup (k.map kV))) (e : valV kvs k = some v) (h : Q v H) : DGK (.ref a) Q (.ref b) H := ⟨a, v, rfl, by rw [← e]; exact DGet.t h1 h2, h⟩
theorem w_dgK {a : Addr} {kvs : List (L2.Key × V)} {k : L2.Key} {v : V} (h1 : H a = some (.dK kvs)) (e : valV kvs k = some v) (h : Q v H) : DGK (.ref a) Q (kV k) H := ⟨a, v, rfl, by rw [← e]; exact DGet.k h1, h⟩
theorem w_dnewT (h : ∀ p, H p = none → Q (.ref p) (upd H p (.dT []))) : tDNewT σ H Q := h
theorem w_for {wi : TI} (h : wi σ H (ForB g t nx rt σ)) : tFor wi g t ⟨nx, rt, bk, ct⟩ σ H := h
theorem w_iList {K : PySem.W.Frag} {R : It → Hp → Prop} (h : te σ H (RdL K R)) : iList K te σ H R := h
theorem w_iTup {K : PySem.W.Frag} {R : It → Hp → Prop} (h : te σ H (RdT K R)) : iTup K te σ H R := h
theorem w_rdL {K : PySem.W.Frag} {R : It → Hp → Prop} {a : Addr} {xs : List V} (hl : SqL K H a xs) (h : R (Itl K a) H) : RdL K R (.ref a) H := ⟨a, rfl, ⟨xs, hl⟩, h⟩
theorem w_rdT {K : PySem.W.Frag} {R : It → Hp → Prop} {a : Addr} {xs : List V} (hl : SqT K H a xs) (h : R (Itt K a) H) : RdT K R (.ref a) H := ⟨a, rfl, ⟨xs, hl⟩, h⟩
theorem w_iRng1 {t : TA} {R : It → Hp → Prop} (h : t σ H (Rg1 R)) : iRng1 t σ H R := h
theorem w_iRng2 {t : TA} {R : It → Hp → Prop} (h : t σ H (Rg2 R)) : iRng2 t σ H R := h
theorem w_rg1 {j : Int} {R : It → Hp → Prop} (h1 : -(2 ^ 62) ≤ j ∧ j < 2 ^ 62) (h : R (Itr 0 j.toNat) H) : Rg1 R [.int j] H := ⟨j, rfl, h1.1, h1.2, h⟩
theorem w_rg2 {i j : Int} {R : It → Hp → Prop} (h1 : (-(2 ^ 62) ≤ i ∧ i < 2 ^ 62) ∧ (-(2 ^ 62) ≤ j ∧ j < 2 ^ 62)) (h : R (Itr i (j - i).toNat) H) : Rg2 R [.int i, .int j] H := ⟨i, j, rfl, ⟨h1.1.1, h1.1.2, h1.2.1, h1.2.2⟩, h⟩
/-- for over a range, by what holds ahead of turn i -/
theorem w_forR {lo : Int} {n : Nat} (Pv : Nat → L2.St → Hp → Prop) (h0 : Pv 0 σ H) (hs : ∀ i σ H, i < n → Pv i σ H → g (.int (lo + i)) σ H fun σ2 H2 => t ⟨Pv (i + 1), rt, nx, Pv (i + 1)⟩ σ2 H2) (hd : ∀ σ H, Pv n σ H → nx σ H) : ForB g t nx rt σ (Itr lo n) H :=
  for_range (D := ⟨nx, rt, fun _ _ => False, fun _ _ => False⟩) Pv h0 hs hd
theorem w_forL {K : PySem.W.Frag} {a : Addr} {xs : List V} (Pv : Nat → L2.St → Hp → Prop) (h0 : Pv 0 σ H) (hl : ∀ i σ H, i ≤ xs.length → Pv i σ H → SqL K H a xs) (hs : ∀ i x σ H, xs[i]? = some x → Pv i σ H → g x σ H fun σ2 H2 => t ⟨Pv (i + 1), rt, nx, Pv (i + 1)⟩ σ2 H2) (hd : ∀ σ H, Pv xs.length σ H → nx σ H) : ForB g t nx rt σ (Itl K a) H :=
  for_list (D := ⟨nx, rt, fun _ _ => False, fun _ _ => False⟩) Pv h0 hl hs hd
theorem w_forT {K : PySem.W.Frag} {a : Addr} {xs : List V} (Pv : Nat → L2.St → Hp → Prop) (h0 : Pv 0 σ H) (hl : ∀ i σ H, i ≤ xs.length → Pv i σ H → SqT K H a xs) (hs : ∀ i x σ H, xs[i]? = some x → Pv i σ H → g x σ H fun σ2 H2 => t ⟨Pv (i + 1), rt, nx, Pv (i + 1)⟩ σ2 H2) (hd : ∀ σ H, Pv xs.length σ H → nx σ H) : ForB g t nx rt σ (Itt K a) H :=
  for_tup (D := ⟨nx, rt, fun _ _ => False, fun _ _ => False⟩) Pv h0 hl hs hd
/-- while, by an invariant with a measure -/
theorem w_while {c : TT} (Pv : Nat → L2.St → Hp → Prop) (m : Nat) (h0 : Pv m σ H) (hs : ∀ m σ H, Pv m σ H → c σ H (WhB t nx rt Pv m σ)) : tWhile c t ⟨nx, rt, bk, ct⟩ σ H := ⟨Pv, ⟨m, h0⟩, hs⟩
theorem w_whT {Pv : Nat → L2.St → Hp → Prop} {m : Nat} (h : t ⟨fun σ' H' => ∃ m', m' < m ∧ Pv m' σ' H', rt, nx, fun σ' H' => ∃ m', m' < m ∧ Pv m' σ' H'⟩ σ H) : WhB t nx rt Pv m σ true H := w_iteT ⟨_, fun _ _ h => h, h⟩
theorem w_whF {Pv : Nat → L2.St → Hp → Prop} {m : Nat} (h : nx σ H) : WhB t nx rt Pv m σ false H := w_iteF h
theorem w_wh {Pv : Nat → L2.St → Hp → Prop} {m : Nat} {p : Prop} [Decidable p] (h1 : p → t ⟨fun σ' H' => ∃ m', m' < m ∧ Pv m' σ' H', rt, nx, fun σ' H' => ∃ m', m' < m ∧ Pv m' σ' H'⟩ σ H) (h2 : ¬ p → nx σ H) : WhB t nx rt Pv m σ (decide p) H := by
  by_cases h : p
  · rw [decide_eq_true h]; exact w_whT (h1 h)
  · rw [decide_eq_false h]; exact w_whF (h2 h)
theorem w_lc {wi : TI} {tt : TT} {vs : List Nat} (h : wi σ H (LcB g tt te vs σ Q)) : tLc wi g tt te vs σ H Q := h
theorem w_yes (h : B true H) : tYes σ H B := h
theorem w_lcR {lo : Int} {n : Nat} {tt : TT} {vs : List Nat} (h : ∀ D, H D = none → ∃ Pv : Nat → Hp → Prop, Pv 0 (upd H D (.lst [])) ∧
    (∀ i H1, i < n → Pv i H1 → g (.int (lo + i)) (wipe σ vs) H1 (LcTurn tt te vs σ D (Pv (i + 1)))) ∧ ∀ H1, Pv n H1 → Q (.ref D) H1) : LcB g tt te vs σ Q (Itr lo n) H := fun D hD => by
  obtain ⟨Pv, h0, hs, hd⟩ := h D hD
  exact lc_range (Qd := Q (.ref D)) Pv h0 hs hd
theorem w_lcL {K : PySem.W.Frag} {a : Addr} {xs : List V} {tt : TT} {vs : List Nat} (h : ∀ D, H D = none → ∃ Pv : Nat → Hp → Prop, Pv 0 (upd H D (.lst [])) ∧ (∀ i H1, i ≤ xs.length → Pv i H1 → SqL K H1 a xs) ∧
    (∀ i x H1, xs[i]? = some x → Pv i H1 → g x (wipe σ vs) H1 (LcTurn tt te vs σ D (Pv (i + 1)))) ∧ ∀ H1, Pv xs.length H1 → Q (.ref D) H1) : LcB g tt te vs σ Q (Itl K a) H := fun D hD => by
  obtain ⟨Pv, h0, hl, hs, hd⟩ := h D hD
  exact lc_list (Qd := Q (.ref D)) Pv h0 hl hs hd
theorem w_turn {tt : TT} {vs : List Nat} {σ2 : L2.St} {D : Addr} {Nx : Hp → Prop} (e : wipe σ2 vs = wipe σ vs) (h : tt σ2 H fun b H3 => if b = true then te σ2 H3 (LcPut D Nx) else Nx H3) : LcTurn tt te vs σ D Nx σ2 H := ⟨e, h⟩
theorem w_put {D : Addr} {Nx : Hp → Prop} {acc : List V} {y : V} (hl : H D = some (.lst acc)) (hz : acc.length < sizeLine) (h : Nx (upd H D (.lst (acc ++ [y])))) : LcPut D Nx y H := ⟨acc, hl, hz, h⟩
theorem w_isiInt {K : PySem.W.Frag} {i : Int} {n : String} {b : Bool} (e : kitB "int" n = some b) (h : Q (.bl b) H) : rIsi K [.int i, .ty n] H Q := ⟨_, _, _, _, b, rfl, .ty n, .base (.int i), kit_ty e, h⟩
theorem w_isiTup {K : PySem.W.Frag} {a : Addr} {xs : List V} {n : String} {b : Bool} (hl : SqT K H a xs) (e : kitB "tuple" n = some b) (h : Q (.bl b) H) : rIsi K [.ref a, .ty n] H Q := by
  rcases hl with (h1 | ⟨o, h1⟩) | ⟨o, its, m, h1, h2, h3⟩
  · exact ⟨_, _, _, _, b, rfl, .ty n, .base (.tup h1), kit_ty e, h⟩
  · exact ⟨_, _, _, _, b, rfl, .ty n, .fTuple h1, kit_ty e, h⟩
  · exact ⟨_, _, _, _, b, rfl, .ty n, .kTuple h1 h2, kit_ty e, h⟩
theorem inV_ints (i : Int) : ∀ ns : List Int, inV (.int i) (ns.map V.int) = decide (i ∈ ns)
  | [] => rfl
  | x :: r => by
    have ih := inV_ints i r
    show (eqV (.int x) (.int i) || inV (.int i) (r.map V.int)) = _
    rw [ih]
    show ((x == i) || decide (i ∈ r)) = _
    by_cases h : x = i
    · subst h; simp
    · have h2 : ¬ i = x := fun e => h e.symm
      simp [h, h2]
theorem w_ninInts {K : PySem.W.Frag} {a : Addr} {i : Int} {ns : List Int} (hl : SqL K H a (ns.map V.int) ∨ SqT K H a (ns.map V.int)) (h : Q (.bl (!decide (i ∈ ns))) H) : rIn K true (.int i) (.ref a) H Q := by
  refine ⟨a, _, rfl, hl, rfl, ?_, ?_⟩
  · rw [List.all_map]; exact List.all_eq_true.mpr fun _ _ => rfl
  · rw [if_pos rfl, inV_ints]
    exact h
theorem w_isX {K : PySem.W.Frag} {D a : Addr} {c : V} {cv : Value} {b : Bool} (C : ExcC K D) (hc : ∀ u, RelV c u → u = cv) (k : PySem.W.kitOne K (.ref D) cv = some b) (h : Q (.bl b) H) : rIsX K (.ref D) none a [.ref a, c] H Q := ⟨D, c, cv, b, rfl, rfl, C, rfl, hc, k, h⟩
theorem w_callS {sp : Sp} {E : L2.St → XK} {t : TA} (h : t σ H fun vs H1 => sp vs H1 Q (E σ)) : tCallS sp E t σ H Q := h
theorem eqv_ints2 (a b c d : Int) : PyData.eqv (.tuple [.int a, .int b]) (.tuple [.int c, .int d]) = decide (a = c ∧ b = d) := by
  simp only [PyData.eqv, PyData.eqvAll, Bool.and_true]
  by_cases h : a = c <;> by_cases h2 : b = d <;> simp [h, h2]
theorem dp_ints2 {K : PySem.W.Frag} {t : Addr} {a b : Int} (h : SqT K H t [.int a, .int b]) : Dp K H (.ref t) (.tuple [.int a, .int b]) := .tup h (.cons (.int a) (.cons (.int b) .nil))
theorem w_eqPair {K : PySem.W.Frag} {t u : Addr} {a b c d : Int} (h1 : SqT K H t [.int a, .int b]) (h2 : SqT K H u [.int c, .int d]) (h : Q (.bl (decide (a = c ∧ b = d))) H) : rEqD K (.ref t) (.ref u) H Q :=
  ⟨_, _, dp_ints2 h1, dp_ints2 h2, rfl, rfl, by rw [eqv_ints2]; exact h⟩
theorem Same.tup {K : PySem.W.Frag} {H H' : Hp} {a : Addr} {xs : List V} (e : Same H H') (h : SqT K H a xs) : SqT K H' a xs := by
  rcases h with (h | ⟨o, h⟩) | h
  · exact .inl (.inl (e _ _ h))
  · exact .inl (.inr ⟨o, e _ _ h⟩)
  · exact .inr h
end
theorem same_new {H : Hp} {p : Addr} (h : H p = none) (o : HO) : Same H (upd H p o) := fun b u q => by rw [upd_ne (ne_of_none q h)]; exact q
theorem cut_take {xs : List V} {k : Int} (h0 : 0 ≤ k) (h : k ≤ (xs.length : Int)) : cutV xs none (some k) = xs.take k.toNat := by
  unfold cutV HT.sIx
  simp only
  rw [if_neg (by omega), List.drop_zero, Nat.sub_zero, Nat.min_eq_left (by omega)]
theorem cut_drop {xs : List V} {k : Int} (h0 : 0 ≤ k) (h : k ≤ (xs.length : Int)) : cutV xs (some k) none = xs.drop k.toNat := by
  unfold cutV HT.sIx
  simp only
  rw [if_neg (by omega), Nat.min_eq_left (by omega)]
  exact List.take_of_length_le (by rw [List.length_drop]; omega)
theorem putK_len {κ : Type} [DecidableEq κ] (kvs : List (κ × V)) (k : κ) (v : V) : (putK kvs k v).length ≤ kvs.length + 1 := by
  unfold putK
  split
  · rw [List.length_map]; omega
  · rw [List.length_append, List.length_singleton]; exact Nat.le_refl _
theorem _root_.L2.Room.u65 {A : Around} {k : Nat} (hr : Room k A) : A.units + 65 < cLine := by have := hr.un; omega
theorem atI2 (a b : V) : atI [a, b] 0 = some a ∧ atI [a, b] 1 = some b := ⟨rfl, rfl⟩
theorem atI_int {ns : List Int} {i : Int} (h0 : 0 ≤ i) (h : i < (ns.length : Int)) : atI (ns.map V.int) i = some (.int (ns.getD i.toNat 0)) := by
  have hk : i.toNat < ns.length := by omega
  have ek : i = ((i.toNat : Nat) : Int) := by omega
  have q : atI (ns.map V.int) ((i.toNat : Nat) : Int) = some (.int ns[i.toNat]) := atI_nat (by rw [List.getElem?_map, List.getElem?_eq_getElem hk] <;> rfl)
  rw [← ek] at q
  rw [q, List.getD_eq_getElem?_getD, List.getElem?_eq_getElem hk] <;> rfl
theorem atI_getD {ns : List Int} {i : Nat} (h : i < ns.length) : atI (ns.map V.int) (i : Int) = some (.int (ns.getD i 0)) := by
  have := atI_int (ns := ns) (i := (i : Int)) (by omega) (by omega)
  rw [Int.toNat_natCast] at this
  exact this
end Pm
namespace Pm
open PySem PySem.Spec PyProof.Rows L2
/-- * of two factors of together less than a hundred million bits -/
def CMulL (i j : Int) : Prop := i.natAbs.log2 + j.natAbs.log2 < 130000000
theorem CMulL.fits {i j : Int} (h : CMulL i j) : IntMulOk i j := by
  have bits : ∀ z : Int, Builtin.Int.intBits z ≤ z.natAbs.log2 + 1 := fun z => by
    unfold Builtin.Int.intBits
    split <;> omega
  have b1 := bits i
  have b2 := bits j
  have b3 : i.natAbs.log2 + j.natAbs.log2 < 130000000 := h
  have el : bitsLine = 134217728 := by decide
  unfold IntMulOk
  intro c
  have c2 := (Bool.and_eq_true _ _ ▸ c).2
  unfold Builtin.Int.intTooBig at c2
  have c3 := of_decide_eq_true c2
  rw [el] at c3
  omega
@[irreducible] def CDivL (_ j : Int) : Prop := 0 < j
theorem CDivL.pos {i j : Int} (h : CDivL i j) : 0 < j := by unfold CDivL at h; exact h
theorem long_mul {i j : Int} {a b : Nat} (ha : i.natAbs < 2 ^ a) (hb : j.natAbs < 2 ^ b) (h0 : 0 < a) (h1 : 0 < b) (h : a + b ≤ 130000000) : CMulL i j := by
  have l1 := PySem.Flt.log2_lt_of h0 ha
  have l2 := PySem.Flt.log2_lt_of h1 hb
  unfold CMulL
  omega
theorem long_div {i j : Int} {b : Nat} (h : 0 < j) (_ : j.natAbs < 2 ^ b) (_ : 0 < b) (_ : b ≤ 120000000) : CDivL i j := by unfold CDivL; exact h
section
variable {X : Cx}
theorem op_mulL : OpR X (binaryOp .Mult) (rI CMulL fun i j => .int (i * j)) := opI fun _ _ _ _ _ _ _ hc q => mul_int q hc.fits
theorem op_fdivL {env : Env} {l : List Env} (hs : X.base.NoSeer) (ht : X.prog.given.tree = none) (hd : X.A.depth + Builtin.pylongFrames < recursionLimit) (hst : X.stack = env :: l := by rfl) (hgen : env.scope.isGenerator = false := by rfl) (hco : env.scope.isCoroutine = false := by rfl)
    (hb : env.builtins = builtinsNs := by rfl) (hg : env.globals = mainGlobals := by rfl) : OpR X (binaryOp .FloorDiv) (rI CDivL fun i j => .int (i / j)) := by
  intro pins s σ H x y v u Q I rx ry h
  obtain ⟨i, j, rfl, rfl, hc, q⟩ := h
  obtain ⟨t1, rfl⟩ := rx
  obtain ⟨t2, rfl⟩ := ry
  have hj : (0 : Int) < j := hc.pos
  have seer : SeerAt (model X.prog X.w) X.A s.heap := SeerAt.of (hs.keeps I.bk) ht (by rw [← hst]; exact I.ok.frames) hgen hco hb hg
  refine floordiv_int (by omega) ?_ (.inr (PylongRoom.of I.nolimit hd seer))
  rw [Int.fdiv_eq_ediv_of_nonneg i (by omega)]
  exact ⟨.int (i / j), H, I.tok _, ⟨_, rfl⟩, q⟩
end
theorem room_long {k : Nat} {A : Around} (hr : Room k A) (h : 32 ≤ k) : A.depth + Builtin.pylongFrames < recursionLimit := by
  have e : Builtin.pylongFrames = 100 := rfl
  have := hr.dp
  omega
/-- the law's call, where its base has no seer -/
theorem law_seer {P : Program} {w : World} {K : PySem.W.Frag} {mg mb : Str → Option Value} {CX : CXT} {k : Nat} {fa a : Addr} {fd : FuncData} {x : Str} {sp : Sp} {s1 : Shared} {us : List Value} {ms : List Int}
    (KX : K.In s1.heap) (gl : s1.heap.Ns mainGlobals mg) (bl : s1.heap.Ns builtinsNs mb) (boot : ∀ y : Str, y ≠ "__name__" → mb y = bootBuiltins y) (lim : s1.heap.NoLimit) (seer : s1.heap.NoSeer) (gens : s1.gens = #[])
    (at_a : s1.heap.get? a = some { cls := .type "list", data := .seq us.toArray }) (hin : IntsAre us ms) (few : ms.length ≤ sizeLine) (room : Room k callerA)
    (F : ∀ b : Heap, K.In b → b.Ns mainGlobals mg → b.NoSeer → FnOk P w K mg b CX k fa fd [x] sp) (binds : ∀ (s : Shared) (u : Value), BindsTo s fd ⟨[u], []⟩ [(x, u)])
    (want : ∀ G : Hp, SqL K G a (ms.map V.int) → sp [.ref a] G (fun v _ => v = .bl true) fun _ _ _ => False)
    (noX : ∀ G e s2, CX [] G s1 (fun _ _ _ => False) e s2 → False) :
    codeAny (model P w) callerA (.call (.ref fa) ⟨[.ref a], []⟩) (fun r s2 => r = .ok (.ret (.bool true)) ∧ OldK s1.heap s2.heap ∧ s2.os = s1.os ∧ AllBare s2.gens) s1 := by
  have vals := vals_ints hin
  have len := hin.length
  have main : ∀ G : Hp, (∀ b, G b = none ∨ ∃ o xs, G b = some (.frz o (.lst xs))) → SqL K G a (ms.map V.int) → HOk P w G s1.heap → (∀ b, b ≠ a → G b = none) → (G a = none ∨ K.lookup a = none) →
      codeAny (model P w) callerA (.call (.ref fa) ⟨[.ref a], []⟩) (fun r s2 => r = .ok (.ret (.bool true)) ∧ OldK s1.heap s2.heap ∧ s2.os = s1.os ∧ AllBare s2.gens) s1 := by
    intro G hG hS ok none_but orK
    have off : ∀ {b : Addr} {o : Obj}, s1.heap.get? b = some o → o.cls ≠ .type "list" → (hidT s1.heap G).get? b = some o := fun {b o} e n => by
      refine hidT_get e (none_but b fun z => n ?_)
      rw [z, at_a] at e
      cases e
      rfl
    have ns : ∀ {b : Addr} {m : Str → Option Value}, s1.heap.Ns b m → (hidT s1.heap G).Ns b m := fun {b m} ⟨o, es, ep, e, d, r⟩ => by
      refine ⟨o, es, ep, hidT_get e (none_but b fun z => ?_), d, r⟩
      rw [z, at_a] at e
      cases e
      cases d
    have inK : K.In (hidT s1.heap G) := fun b o e => by
      refine hidT_get (KX b o e) ?_
      by_cases z : b = a
      · rcases orK with h | h
        · rw [z]; exact h
        · rw [z, h] at e; cases e
      · exact none_but b z
    have sb : (hidT s1.heap G).NoSeer := by
      refine ⟨?_, ?_, ?_, ?_⟩
      · obtain ⟨m, h1, h2⟩ := seer.statics; exact ⟨m, ns h1, h2⟩
      · obtain ⟨m, h1, h2⟩ := seer.mods; exact ⟨m, ns h1, h2⟩
      · obtain ⟨m, h1, h2⟩ := seer.imp; exact ⟨m, ns h1, h2⟩
      · obtain ⟨m, bm, ob, h1, h2, h3, h4, h5⟩ := seer.main
        exact ⟨m, bm, ob, ns h1, h2, off h3 (by rw [h4]; simp), h4, h5⟩
    have md : Mod K mg (hidT s1.heap G) := ⟨inK, ns gl, ⟨mb, ns bl, boot⟩, by obtain ⟨m, h1, h2⟩ := lim; exact ⟨m, ns h1, h2⟩⟩
    have env : Env0 P w K mg (hidT s1.heap G) callerA [] s1 G := ⟨rfl, md, fun _ _ e => of_hidT e, Nat.le_of_eq (hidT_size _ _), trivial, (fun b hb => absurd (show b ∈ ([] : List Addr) from hb) List.not_mem_nil), ok, .of_eq gens⟩
    have run := (F _ inK (ns gl) sb).run callerA [] s1 G ⟨[.ref a], []⟩ [.ref a] [.ref a] _ _ room env (binds s1 (.ref a)) (.cons rfl .nil) (want G hS)
    refine codeAny_mono run fun r s2 h => ?_
    match r, h with
    | .error e, h => exact (noX G e s2 h).elim
    | .ok .next, h => exact False.elim h
    | .ok .brk, h => exact False.elim h
    | .ok .cont, h => exact False.elim h
    | .ok (.ret u), h =>
      obtain ⟨v, G2, os, bare, un, ok2, rv, qv⟩ := h
      have ev : v = .bl true := qv
      rw [ev] at rv
      have eu : u = Value.bool true := rv
      refine ⟨by rw [eu], OldK.of_keep fun b o e => ?_, os, bare⟩
      rcases hG b with z | ⟨ob, xs, z⟩
      · exact un.keep b o e z (fun hb => by cases hb) (fun hb => by cases hb)
      · have z2 := un.frzs b ob _ z
        have k1 := (ok b _ z).1
        have k2 := (ok2 b _ z2).1
        rw [e] at k1
        rw [k2, ← k1]
  cases lk : K.lookup a with
  | some o =>
    have e := KX a o lk
    rw [at_a] at e
    cases e
    have sq : SqL K (fun _ => none) a (ms.map V.int) := .inr ⟨_, us.toArray, _, lk, rfl, rfl, rfl, by rw [List.size_toArray, len]; exact few, by simpa using vals⟩
    exact main (fun _ => none) (fun _ => .inl rfl) sq (fun b u z => nomatch z) (fun _ _ => rfl) (.inl rfl)
  | none =>
    have put : ∀ b, b ≠ a → (fun b => if b = a then some (HO.frz { cls := .type "list", data := .seq us.toArray } (.lst (ms.map V.int))) else none : Hp) b = none := fun b z => if_neg z
    refine main (fun b => if b = a then some (.frz { cls := .type "list", data := .seq us.toArray } (.lst (ms.map V.int))) else none) (fun b => ?_) (.inl (.inr ⟨{ cls := .type "list", data := .seq us.toArray }, if_pos rfl⟩)) (fun b u z => ?_) put (.inr lk)
    · by_cases c : b = a
      · exact .inr ⟨_, _, if_pos c⟩
      · exact .inl (if_neg c)
    · by_cases c : b = a
      · have z2 := (if_pos c).symm.trans z
        cases z2
        rw [c]
        exact ⟨at_a, by rw [List.length_map]; exact few, us, _, vals, at_a⟩
      · have z2 := (if_neg c).symm.trans z
        cases z2
end Pm
namespace Pm
open PySem PySem.Spec PyProof.Rows L2
/-- item by item -/
def All2 {α β : Type} (R : α → β → Prop) : List α → List β → Prop
  | [], [] => True
  | x :: xs, y :: ys => R x y ∧ All2 R xs ys
  | _, _ => False
section
variable {α β : Type} {R S : α → β → Prop}
theorem All2.nil : All2 R [] [] := trivial
theorem All2.cons {x : α} {y : β} {xs : List α} {ys : List β} (h : R x y) (t : All2 R xs ys) : All2 R (x :: xs) (y :: ys) := ⟨h, t⟩
theorem All2.length : ∀ {xs : List α} {ys : List β}, All2 R xs ys → xs.length = ys.length
  | [], [], _ => rfl
  | _ :: _, _ :: _, h => by rw [List.length_cons, List.length_cons, h.2.length]
theorem All2.mono (f : ∀ x y, R x y → S x y) : ∀ {xs : List α} {ys : List β}, All2 R xs ys → All2 S xs ys
  | [], [], _ => trivial
  | _ :: _, _ :: _, h => ⟨f _ _ h.1, h.2.mono f⟩
theorem All2.get : ∀ {xs : List α} {ys : List β} {i : Nat} {x : α}, All2 R xs ys → xs[i]? = some x → ∃ y, ys[i]? = some y ∧ R x y
  | [], [], _, _, _, e => by simp at e
  | _ :: _, _ :: _, 0, _, h, e => by simp at e; subst e; exact ⟨_, rfl, h.1⟩
  | _ :: _, _ :: _, i + 1, x, h, e => by
    obtain ⟨y, e1, r⟩ := All2.get (i := i) (x := x) h.2 (by simpa using e)
    exact ⟨y, by simpa using e1, r⟩
theorem All2.get' : ∀ {xs : List α} {ys : List β} {i : Nat} {y : β}, All2 R xs ys → ys[i]? = some y → ∃ x, xs[i]? = some x ∧ R x y
  | [], [], _, _, _, e => by simp at e
  | _ :: _, _ :: _, 0, _, h, e => by simp at e; subst e; exact ⟨_, rfl, h.1⟩
  | _ :: _, _ :: _, i + 1, y, h, e => by
    obtain ⟨x, e1, r⟩ := All2.get' (i := i) (y := y) h.2 (by simpa using e)
    exact ⟨x, by simpa using e1, r⟩
theorem All2.append : ∀ {xs : List α} {ys : List β} {xs' : List α} {ys' : List β}, All2 R xs ys → All2 R xs' ys' → All2 R (xs ++ xs') (ys ++ ys')
  | [], [], _, _, _, h => h
  | _ :: _, _ :: _, _, _, h, h' => ⟨h.1, h.2.append h'⟩
theorem All2.snoc {xs : List α} {ys : List β} {x : α} {y : β} (h : All2 R xs ys) (r : R x y) : All2 R (xs ++ [x]) (ys ++ [y]) := h.append ⟨r, trivial⟩
theorem All2.take : ∀ {xs : List α} {ys : List β} (n : Nat), All2 R xs ys → All2 R (xs.take n) (ys.take n)
  | [], [], n, _ => by rw [List.take_nil, List.take_nil]; trivial
  | _ :: _, _ :: _, 0, _ => trivial
  | _ :: _, _ :: _, n + 1, h => ⟨h.1, h.2.take n⟩
theorem All2.drop : ∀ {xs : List α} {ys : List β} (n : Nat), All2 R xs ys → All2 R (xs.drop n) (ys.drop n)
  | [], [], n, _ => by rw [List.drop_nil, List.drop_nil]; trivial
  | _ :: _, _ :: _, 0, h => h
  | _ :: _, _ :: _, n + 1, h => h.2.drop n
theorem All2.set : ∀ {xs : List α} {ys : List β} (i : Nat) {x : α} {y : β}, All2 R xs ys → R x y → All2 R (xs.set i x) (ys.set i y)
  | [], [], _, _, _, _, _ => trivial
  | _ :: _, _ :: _, 0, _, _, h, r => ⟨r, h.2⟩
  | _ :: _, _ :: _, i + 1, _, _, h, r => ⟨h.1, h.2.set i r⟩
theorem All2.mem : ∀ {xs : List α} {ys : List β} {x : α}, All2 R xs ys → x ∈ xs → ∃ y, y ∈ ys ∧ R x y
  | [], [], _, _, e => by simp at e
  | a :: _, b :: _, x, h, e => by
    rcases List.mem_cons.mp e with e | e
    · subst e; exact ⟨b, List.mem_cons_self, h.1⟩
    · obtain ⟨y, e1, r⟩ := h.2.mem e
      exact ⟨y, List.mem_cons_of_mem _ e1, r⟩
theorem All2.map_eq {f : α → β} : ∀ {xs : List α} {ys : List β}, All2 R xs ys → (∀ x y, R x y → f x = y) → xs.map f = ys
  | [], [], _, _ => rfl
  | _ :: _, _ :: _, h, q => by rw [List.map_cons, q _ _ h.1, h.2.map_eq q]
theorem All2.of_map {f : α → β} : ∀ {xs : List α}, (∀ x ∈ xs, R x (f x)) → All2 R xs (xs.map f)
  | [], _ => trivial
  | _ :: _, h => ⟨h _ List.mem_cons_self, All2.of_map fun x hx => h x (List.mem_cons_of_mem _ hx)⟩
end
/-- tuples stay -/
def Keeps (H H' : Hp) : Prop := ∀ t xs, H t = some (.tup xs) → H' t = some (.tup xs)
theorem Keeps.refl (H : Hp) : Keeps H H := fun _ _ h => h
theorem Keeps.trans {H H1 H2 : Hp} (a : Keeps H H1) (b : Keeps H1 H2) : Keeps H H2 := fun t xs h => b t xs (a t xs h)
theorem keeps {H H' : Hp} (s : Same H H') : Keeps H H' := fun _ _ h => s _ _ h
theorem keeps_lst {H : Hp} {a : Addr} {xs ys : List V} (h : H a = some (.lst xs)) : Keeps H (upd H a (.lst ys)) := fun t zs e => by
  rw [upd_ne (fun z => by subst z; rw [e] at h; cases h)]
  exact e
theorem keeps_dT {H : Hp} {a : Addr} {xs ys : List (List L2.Key × V)} (h : H a = some (.dT xs)) : Keeps H (upd H a (.dT ys)) := fun t zs e => by
  rw [upd_ne (fun z => by subst z; rw [e] at h; cases h)]
  exact e
theorem keeps_dK {H : Hp} {a : Addr} {xs ys : List (L2.Key × V)} (h : H a = some (.dK xs)) : Keeps H (upd H a (.dK ys)) := fun t zs e => by
  rw [upd_ne (fun z => by subst z; rw [e] at h; cases h)]
  exact e
/-- all but the object at a stays -/
theorem same_but {H H' : Hp} {a : Addr} {o : HO} (h0 : H a = none) (s : Same H H') : Same H (upd H' a o) := fun b u e => by
  rw [upd_ne (fun z => by subst z; rw [h0] at e; cases e)]
  exact s b u e
abbrev IP := Int × Int
def Pr (H : Hp) (v : V) (p : IP) : Prop := ∃ t, v = .ref t ∧ H t = some (.tup [.int p.1, .int p.2])
abbrev Prs (H : Hp) : List V → List IP → Prop := All2 (Pr H)
theorem Pr.keep {H H' : Hp} (k : Keeps H H') {v : V} {p : IP} (h : Pr H v p) : Pr H' v p := by
  obtain ⟨t, e, ht⟩ := h
  exact ⟨t, e, k _ _ ht⟩
theorem prs_keep {H H' : Hp} (k : Keeps H H') {vs : List V} {ps : List IP} (h : Prs H vs ps) : Prs H' vs ps := h.mono fun _ _ r => r.keep k
theorem Pr.inj {H : Hp} {v : V} {p q : IP} (h : Pr H v p) (k : Pr H v q) : p = q := by
  obtain ⟨t, rfl, ht⟩ := h
  obtain ⟨u, e, hu⟩ := k
  cases e
  rw [ht] at hu
  have e := HO.tup.inj (Option.some.inj hu)
  injection e with e1 e2
  injection e2 with e2 _
  obtain ⟨a, b⟩ := p
  obtain ⟨c, d⟩ := q
  rw [show a = c from V.int.inj e1, show b = d from V.int.inj e2]
/-- the pair at a value -/
def kOf (H : Hp) : V → IP
  | .ref t => match H t with
    | some (.tup [.int a, .int b]) => (a, b)
    | _ => (0, 0)
  | _ => (0, 0)
theorem Pr.k {H : Hp} {v : V} {p : IP} (h : Pr H v p) : kOf H v = p := by
  obtain ⟨t, rfl, ht⟩ := h
  show (match H t with | some (.tup [.int a, .int b]) => (a, b) | _ => (0, 0)) = p
  rw [ht]
theorem Pr.tup {K : PySem.W.Frag} {H : Hp} {t : Addr} {p : IP} (h : Pr H (.ref t) p) : SqT K H t [.int p.1, .int p.2] := by
  obtain ⟨u, e, hu⟩ := h
  cases e
  exact SqT.of hu
theorem pr_new {H : Hp} {t : Addr} {a b : Int} (h : H t = some (.tup [.int a, .int b])) : Pr H (.ref t) (a, b) := ⟨t, rfl, h⟩
def pD (p : IP) : PyData := .tuple [.int p.1, .int p.2]
theorem dp_pr {K : PySem.W.Frag} {H : Hp} {v : V} {p : IP} (h : Pr H v p) : Dp K H v (pD p) := by
  obtain ⟨t, rfl, ht⟩ := h
  exact dp_ints2 (SqT.of ht)
theorem dp_prs {K : PySem.W.Frag} {H : Hp} : ∀ {vs : List V} {ps : List IP}, Prs H vs ps → DpAll K H vs (ps.map pD)
  | [], [], _ => .nil
  | _ :: _, _ :: _, h => .cons (dp_pr h.1) (dp_prs h.2)
theorem eqv_pD (p q : IP) : PyData.eqv (pD p) (pD q) = decide (p = q) := by
  obtain ⟨a, b⟩ := p
  obtain ⟨c, d⟩ := q
  rw [show PyData.eqv (pD (a, b)) (pD (c, d)) = decide (a = c ∧ b = d) from eqv_ints2 a b c d]
  exact decide_eq_decide.mpr ⟨fun h => by rw [h.1, h.2], fun h => ⟨congrArg Prod.fst h, congrArg Prod.snd h⟩⟩
theorem eqvAll_pD : ∀ ps qs : List IP, PyData.eqvAll (ps.map pD) (qs.map pD) = decide (ps = qs)
  | [], [] => by simp [PyData.eqvAll]
  | [], q :: qs => by simp [PyData.eqvAll]
  | p :: ps, [] => by simp [PyData.eqvAll]
  | p :: ps, q :: qs => by
    rw [List.map_cons, List.map_cons, PyData.eqvAll, eqv_pD, eqvAll_pD ps qs]
    by_cases h : p = q <;> by_cases h2 : ps = qs <;> simp [h, h2]
theorem eqv_list (ps qs : List IP) : PyData.eqv (.list (ps.map pD)) (.list (qs.map pD)) = decide (ps = qs) := by
  rw [PyData.eqv, eqvAll_pD]
theorem any_pD (q : IP) : ∀ ps : List IP, ((ps.map pD).any fun z => PyData.eqv z (pD q)) = decide (q ∈ ps)
  | [] => by simp
  | p :: ps => by
    rw [List.map_cons, List.any_cons, eqv_pD, any_pD q ps]
    by_cases h : p = q
    · subst h; simp
    · have h2 : ¬ q = p := fun e => h e.symm
      simp [h, h2]
theorem lay_pD (p : IP) : (pD p).canLay0 = true := by simp [pD, PyData.canLay0, PyData.canLayAll0]
theorem lays_pD : ∀ ps : List IP, PyData.canLayAll0 (ps.map pD) = true
  | [] => by simp [PyData.canLayAll0]
  | p :: ps => by simp [PyData.canLayAll0, lay_pD p, lays_pD ps]
theorem depth_pD (p : IP) : (pD p).depth = 1 := by simp [pD, PyData.depth, PyData.depthAll]
theorem depths_pD : ∀ ps : List IP, PyData.depthAll (ps.map pD) ≤ 1
  | [] => by simp [PyData.depthAll]
  | p :: ps => by
    have h1 := depths_pD ps
    have h2 := depth_pD p
    simp only [List.map_cons, PyData.depthAll]
    omega
theorem shaped_pD (p : IP) : SeqAt.shaped (pD p) = true := by
  show ((pD p).canLay0 && decide ((pD p).depth ≤ 64)) = true
  rw [lay_pD, depth_pD]
  rfl
theorem shaped_pDs (ps : List IP) : SeqAt.shaped (.list (ps.map pD)) = true := by
  have h1 := depths_pD ps
  have h2 : PyData.depth (.list (ps.map pD)) ≤ 64 := by
    simp only [PyData.depth]
    omega
  show (PyData.canLay0 (.list (ps.map pD)) && decide (PyData.depth (.list (ps.map pD)) ≤ 64)) = true
  rw [Bool.and_eq_true]
  exact ⟨by simp only [PyData.canLay0]; exact lays_pD ps, decide_eq_true h2⟩
section
variable {K : PySem.W.Frag} {H : Hp} {Q : VK} {a b t u : Addr} {v : V} {vs ws : List V} {p q : IP} {ps qs : List IP}
theorem w_nePL (h1 : SqL K H a vs) (p1 : Prs H vs ps) (h2 : SqL K H b ws) (p2 : Prs H ws qs) (h : Q (.bl (!decide (ps = qs))) H) : rNeD K (.ref a) (.ref b) H Q :=
  ⟨_, _, .lst h1 (dp_prs p1), .lst h2 (dp_prs p2), shaped_pDs _, shaped_pDs _, by rw [eqv_list]; exact h⟩
theorem w_neP (h1 : Pr H (.ref t) p) (h2 : Pr H (.ref u) q) (h : Q (.bl (!decide (p = q))) H) : rNeD K (.ref t) (.ref u) H Q :=
  ⟨_, _, dp_pr h1, dp_pr h2, shaped_pD _, shaped_pD _, by rw [eqv_pD]; exact h⟩
theorem w_inPL (h1 : Pr H v p) (h2 : SqL K H a vs) (p2 : Prs H vs ps) (h : Q (.bl (decide (p ∈ ps))) H) : rInD K v (.ref a) H Q :=
  ⟨_, _, dp_pr h1, .lst h2 (dp_prs p2), shaped_pD _, shaped_pDs _, by rw [any_pD]; exact h⟩
theorem w_ninPL (h1 : Pr H v p) (h2 : SqL K H a vs) (p2 : Prs H vs ps) (h : Q (.bl (!decide (p ∈ ps))) H) : rNotInD K v (.ref a) H Q :=
  ⟨_, _, dp_pr h1, .lst h2 (dp_prs p2), shaped_pD _, shaped_pDs _, by rw [any_pD]; exact h⟩
end
def lexLe (p q : IP) : Bool := decide (p.1 < q.1 ∨ (p.1 = q.1 ∧ p.2 ≤ q.2))
theorem lexLe_iff {p q : IP} : lexLe p q = true ↔ (p.1 < q.1 ∨ (p.1 = q.1 ∧ p.2 ≤ q.2)) := decide_eq_true_iff
theorem lexLe_trans (p q r : IP) (h : lexLe p q = true) (k : lexLe q r = true) : lexLe p r = true := by
  have h := lexLe_iff.mp h
  have k := lexLe_iff.mp k
  exact lexLe_iff.mpr (by omega)
theorem lexLe_total (p q : IP) : (lexLe p q || lexLe q p) = true := by
  rw [Bool.or_eq_true, lexLe_iff, lexLe_iff]
  omega
theorem lexLe_anti {p q : IP} (h : lexLe p q = true) (k : lexLe q p = true) : p = q := by
  have h := lexLe_iff.mp h
  have k := lexLe_iff.mp k
  obtain ⟨a, b⟩ := p
  obtain ⟨c, d⟩ := q
  simp only at h k
  have e1 : a = c := by omega
  have e2 : b = d := by omega
  rw [e1, e2]
abbrev Rising (ps : List IP) : Prop := ps.Pairwise fun p q => lexLe p q = true
def sortP (ps : List IP) : List IP := ps.mergeSort lexLe
theorem sortP_perm (ps : List IP) : (sortP ps).Perm ps := List.mergeSort_perm ps lexLe
theorem sortP_rising (ps : List IP) : Rising (sortP ps) := List.pairwise_mergeSort lexLe_trans lexLe_total ps
theorem rising_eq {ps qs : List IP} (h : Rising ps) (k : Rising qs) (e : ps.Perm qs) : ps = qs := List.Perm.eq_of_pairwise (fun _ _ _ _ a b => lexLe_anti a b) h k e
theorem sortP_eq {ps qs : List IP} (h : Rising ps) (e : ps.Perm qs) : sortP qs = ps := rising_eq (sortP_rising qs) h ((sortP_perm qs).trans e.symm)
theorem sortP_congr {ps qs : List IP} (e : ps.Perm qs) : sortP ps = sortP qs := sortP_eq (sortP_rising qs) ((sortP_perm qs).trans e.symm)
theorem sortP_len (ps : List IP) : (sortP ps).length = ps.length := (sortP_perm ps).length_eq
theorem mem_sortP {p : IP} {ps : List IP} : p ∈ sortP ps ↔ p ∈ ps := (sortP_perm ps).mem_iff
theorem lexB_le {p q : IP} (h : SrtO.lexB q p = false) : lexLe p q = true := by
  have h := SrtO.lexB_no.mp h
  exact lexLe_iff.mpr (by omega)
theorem w_sortP {K : PySem.W.Frag} {H : Hp} {Q : VK} {a : Addr} {vs : List V} {ps : List IP} (h1 : SqL K H a vs) (p1 : Prs H vs ps) (h : ∀ ys p, H p = none → Prs H ys (sortP ps) → Q (.ref p) (upd H p (.lst ys))) : rSortedPO K [.ref a] H Q := by
  refine ⟨a, vs, kOf H, rfl, h1, fun x hx => ?_, fun ys p hs hb hp => h ys p hp ?_⟩
  · obtain ⟨q, _, r⟩ := p1.mem hx
    rw [r.k]
    obtain ⟨t, rfl, ht⟩ := r
    exact ⟨t, rfl, ht⟩
  · have e1 : vs.map (kOf H) = ps := p1.map_eq fun _ _ r => r.k
    have pm : (ys.map (kOf H)).Perm ps := by rw [← e1]; exact hb.perm.map _
    have rs : Rising (ys.map (kOf H)) := List.pairwise_map.mpr (hs.imp fun {x y} q => lexB_le q)
    rw [sortP_eq rs pm]
    refine All2.of_map fun y hy => ?_
    obtain ⟨q, _, r⟩ := p1.mem (hb.perm.mem_iff.mp hy)
    rw [r.k]
    exact r
/-- a new list of pairs -/
def PLNew (H : Hp) (ps : List IP) (Q : VK) : Prop := ∀ (p : Addr) (H' : Hp) (ws : List V), Same H H' → H p = none → H' p = some (.lst ws) → Prs H' ws ps → Q (.ref p) H'
/-- a list of pairs that is handed in -/
def PL (K : PySem.W.Frag) (H : Hp) (a : Addr) (ps : List IP) : Prop := ∃ vs, SqL K H a vs ∧ Prs H vs ps
theorem PL.same {K : PySem.W.Frag} {H H' : Hp} {a : Addr} {ps : List IP} (h : PL K H a ps) (s : Same H H') : PL K H' a ps := by
  obtain ⟨vs, h1, h2⟩ := h
  exact ⟨vs, s.seq h1, prs_keep (keeps s) h2⟩
section
variable {H : Hp} {Q : VK} {σ : L2.St} {g : TG} {tt : TT} {te : TE} {vs : List Nat} {β : Type} {R : Hp → V → β → Prop}
theorem put_next (mono : ∀ H H' v b, Keeps H H' → R H v b → R H' v b) {H0 H1 H4 : Hp} {D : Addr} {acc : List V} {bs : List β} {y : V} {b : β} {Pv : Hp → Prop} (hD : H0 D = none) (s1 : Same H0 H1) (hd : H1 D = some (.lst acc)) (ha : All2 (R H1) acc bs) (hz : bs.length < 1000000)
    (s4 : Same H1 H4) (hy : R H4 y b) (hp : ∀ H5 acc', Same H0 H5 → H5 D = some (.lst acc') → All2 (R H5) acc' (bs ++ [b]) → Pv H5) : LcPut D Pv y H4 := by
  refine w_put (s4 _ _ hd) (size_lt (by rw [ha.length]; omega)) (hp _ _ (same_but hD (s1.trans s4)) upd_same ?_)
  have k := keeps_lst (ys := acc ++ [y]) (s4 _ _ hd)
  exact (ha.mono fun _ _ r => mono _ _ _ _ k (mono _ _ _ _ (keeps s4) r)).snoc (mono _ _ _ _ k hy)
/-- [f(k) for k in range(n)] -/
theorem w_lcRm (mono : ∀ H H' v b, Keeps H H' → R H v b → R H' v b) {lo : Int} {n : Nat} (f : Nat → β) (hn : n < 1000000)
    (body : ∀ D i H1 (Nx : Hp → Prop), H D = none → i < n → Same H H1 → (∀ y H4, Same H1 H4 → R H4 y (f i) → LcPut D Nx y H4) → g (.int (lo + i)) (wipe σ vs) H1 (LcTurn tt te vs σ D Nx))
    (done : ∀ D H1 ws, H D = none → Same H H1 → H1 D = some (.lst ws) → All2 (R H1) ws ((List.range n).map f) → Q (.ref D) H1) : LcB g tt te vs σ Q (Itr lo n) H := by
  refine w_lcR fun D hD => ⟨fun i H1 => Same H H1 ∧ ∃ acc, H1 D = some (.lst acc) ∧ All2 (R H1) acc ((List.range i).map f), ⟨same_new hD _, [], upd_same, trivial⟩, ?_, ?_⟩
  · rintro i H1 hi ⟨s1, acc, hd, ha⟩
    refine body D i H1 _ hD hi s1 fun y H4 s4 hy => ?_
    refine put_next mono hD s1 hd ha (by rw [List.length_map, List.length_range]; omega) s4 hy fun H5 acc' s5 h5 a5 => ⟨s5, acc', h5, ?_⟩
    rw [List.range_succ, List.map_append]
    exact a5
  · rintro H1 ⟨s1, acc, hd, ha⟩
    exact done D H1 acc hD s1 hd ha
/-- [f(x) for x in xs if p(x)]: the items taken by a relation of their own -/
theorem w_lcLf (mono : ∀ H H' v b, Keeps H H' → R H v b → R H' v b) {K : PySem.W.Frag} {a : Addr} {xs : List V} {γ : Type} {S : Hp → V → γ → Prop} (monoS : ∀ H H' v b, Keeps H H' → S H v b → S H' v b) {cs : List γ} (hl : SqL K H a xs) (hx : All2 (S H) xs cs) (f : γ → β) (pr : γ → Bool) (hn : cs.length < 1000000)
    (body : ∀ D (x : V) (c : γ) H1 (Nx : Hp → Prop), H D = none → c ∈ cs → S H1 x c → Same H H1 → (∀ y H4, pr c = true → Same H1 H4 → R H4 y (f c) → LcPut D Nx y H4) → (∀ H4, pr c = false → Same H1 H4 → Nx H4) → g x (wipe σ vs) H1 (LcTurn tt te vs σ D Nx))
    (done : ∀ D H1 ws, H D = none → Same H H1 → H1 D = some (.lst ws) → All2 (R H1) ws ((cs.filter pr).map f) → Q (.ref D) H1) : LcB g tt te vs σ Q (Itl K a) H := by
  have hlen := hx.length
  refine w_lcL (xs := xs) fun D hD => ⟨fun i H1 => Same H H1 ∧ ∃ acc, H1 D = some (.lst acc) ∧ All2 (R H1) acc (((cs.take i).filter pr).map f), ⟨same_new hD _, [], upd_same, trivial⟩, ?_, ?_, ?_⟩
  · rintro i H1 _ ⟨s1, _⟩
    exact s1.seq hl
  · rintro i x H1 hi ⟨s1, acc, hd, ha⟩
    obtain ⟨c, hc, hs⟩ := hx.get hi
    have hlt : i < cs.length := (List.getElem?_eq_some_iff.mp hc).1
    have hle : (((cs.take i).filter pr).map f).length < 1000000 := by
      rw [List.length_map]
      have := List.length_filter_le pr (cs.take i)
      rw [List.length_take] at this
      omega
    have et : cs.take (i + 1) = cs.take i ++ [c] := by rw [List.take_add_one, hc] <;> rfl
    refine body D x c H1 _ hD (List.mem_of_getElem? hc) (monoS _ _ _ _ (keeps s1) hs) s1 (fun y H4 hp s4 hy => ?_) (fun H4 hp s4 => ?_)
    · refine put_next mono hD s1 hd ha hle s4 hy fun H5 acc' s5 h5 a5 => ⟨s5, acc', h5, ?_⟩
      rw [et, List.filter_append, List.map_append]
      have e1 : List.filter pr [c] = [c] := by simp [hp]
      rw [e1]
      exact a5
    · refine ⟨s1.trans s4, acc, s4 _ _ hd, ?_⟩
      have e1 : List.filter pr [c] = [] := by simp [hp]
      rw [et, List.filter_append, e1, List.append_nil]
      exact ha.mono fun _ _ r => mono _ _ _ _ (keeps s4) r
  · rintro H1 ⟨s1, acc, hd, ha⟩
    rw [hlen, List.take_length] at ha
    exact done D H1 acc hD s1 hd ha
end
theorem pr_mono (H H' : Hp) (v : V) (b : IP) (k : Keeps H H') (h : Pr H v b) : Pr H' v b := h.keep k
/-- an int as an item -/
def In (_ : Hp) (v : V) (i : Int) : Prop := v = .int i
theorem in_mono (H H' : Hp) (v : V) (b : Int) (_ : Keeps H H') (h : In H v b) : In H' v b := h
theorem ins_map {H : Hp} : ∀ {vs : List V} {ns : List Int}, All2 (In H) vs ns → vs = ns.map V.int
  | [], [], _ => rfl
  | _ :: _, _ :: _, h => by rw [List.map_cons, ← ins_map h.2, h.1]
theorem ins_of {H : Hp} : ∀ ns : List Int, All2 (In H) (ns.map V.int) ns
  | [] => trivial
  | _ :: r => ⟨rfl, ins_of r⟩
theorem take_snoc {α : Type} {l : List α} {i : Nat} {x : α} (h : l[i]? = some x) : l.take (i + 1) = l.take i ++ [x] := by rw [List.take_add_one, h] <;> rfl
end Pm
namespace Pm
inductive Tr where
  | leaf
  | node (l r : Tr)
namespace Tr
def w : Tr → Nat
  | leaf => 1
  | node l r => l.w + r.w
theorem w_pos : ∀ t : Tr, 1 ≤ t.w
  | leaf => Nat.le_refl _
  | node l r => by have := l.w_pos; show 1 ≤ l.w + r.w; omega
/-- all ties -/
def all : Nat → Tr → List (Nat × Nat)
  | lo, leaf => [(lo, lo + 1)]
  | lo, node l r => (lo, lo + (l.w + r.w)) :: (l.all lo ++ r.all (lo + l.w))
/-- the ties of nodes -/
def inn : Nat → Tr → List (Nat × Nat)
  | _, leaf => []
  | lo, node l r => (lo, lo + (l.w + r.w)) :: (l.inn lo ++ r.inn (lo + l.w))
/-- the ropes of the whole -/
def ropes : Nat → Tr → List (Nat × Nat)
  | _, leaf => []
  | lo, node l r => l.inn lo ++ r.inn (lo + l.w)
theorem inn_node {lo : Nat} {t : Tr} (h : 2 ≤ t.w) : t.inn lo = (lo, lo + t.w) :: t.ropes lo := by
  cases t with
  | leaf => exact absurd h (by show ¬ 2 ≤ 1; omega)
  | node l r => rfl
theorem bd : ∀ {t : Tr} {lo : Nat} {p : Nat × Nat}, p ∈ t.all lo → lo ≤ p.1 ∧ p.1 < p.2 ∧ p.2 ≤ lo + t.w
  | leaf, lo, p, h => by
    rw [List.mem_singleton.mp h]
    exact ⟨Nat.le_refl _, Nat.lt_succ_self _, Nat.le_refl _⟩
  | node l r, lo, p, h => by
    have wl := l.w_pos
    have wr := r.w_pos
    show lo ≤ p.1 ∧ p.1 < p.2 ∧ p.2 ≤ lo + (l.w + r.w)
    rcases List.mem_cons.mp h with h | h
    · rw [h]; simp only; omega
    · rcases List.mem_append.mp h with h | h
      · have := bd h; omega
      · have := bd h; omega
theorem mem_node {l r : Tr} {lo : Nat} {p : Nat × Nat} : p ∈ (node l r).all lo ↔ p = (lo, lo + (l.w + r.w)) ∨ p ∈ l.all lo ∨ p ∈ r.all (lo + l.w) := by
  show p ∈ _ :: (_ ++ _) ↔ _
  rw [List.mem_cons, List.mem_append]
theorem root_mem {t : Tr} {lo : Nat} : (lo, lo + t.w) ∈ t.all lo := by
  cases t with
  | leaf => exact List.mem_singleton.mpr rfl
  | node l r => exact List.mem_cons_self
theorem inn_all : ∀ {t : Tr} {lo : Nat} {p : Nat × Nat}, p ∈ t.inn lo → p ∈ t.all lo
  | leaf, _, _, h => by cases h
  | node l r, lo, p, h => by
    rw [mem_node]
    rcases List.mem_cons.mp h with h | h
    · exact .inl h
    · rcases List.mem_append.mp h with h | h
      · exact .inr (.inl (inn_all h))
      · exact .inr (.inr (inn_all h))
theorem inn_wide : ∀ {t : Tr} {lo : Nat} {p : Nat × Nat}, p ∈ t.inn lo → p.1 + 2 ≤ p.2
  | leaf, _, _, h => by cases h
  | node l r, lo, p, h => by
    have wl := l.w_pos
    have wr := r.w_pos
    rcases List.mem_cons.mp h with h | h
    · rw [h]; simp only; omega
    · rcases List.mem_append.mp h with h | h
      · exact inn_wide h
      · exact inn_wide h
/-- a tie is one of a node, or of two neighbours -/
theorem all_iff : ∀ {t : Tr} {lo : Nat} {p : Nat × Nat}, p ∈ t.all lo ↔ p ∈ t.inn lo ∨ (lo ≤ p.1 ∧ p.2 = p.1 + 1 ∧ p.2 ≤ lo + t.w)
  | leaf, lo, p => by
    show p ∈ [(lo, lo + 1)] ↔ p ∈ [] ∨ (lo ≤ p.1 ∧ p.2 = p.1 + 1 ∧ p.2 ≤ lo + 1)
    obtain ⟨a, b⟩ := p
    simp only [List.mem_singleton, Prod.mk.injEq, List.not_mem_nil, false_or]
    omega
  | node l r, lo, p => by
    have wl := l.w_pos
    have wr := r.w_pos
    rw [mem_node, all_iff (t := l), all_iff (t := r)]
    show _ ↔ p ∈ _ :: (_ ++ _) ∨ (lo ≤ p.1 ∧ p.2 = p.1 + 1 ∧ p.2 ≤ lo + (l.w + r.w))
    rw [List.mem_cons, List.mem_append]
    constructor
    · rintro (h | (h | h) | (h | h))
      · exact .inl (.inl h)
      · exact .inl (.inr (.inl h))
      · exact .inr (by omega)
      · exact .inl (.inr (.inr h))
      · exact .inr (by omega)
    · rintro ((h | h | h) | h)
      · exact .inl h
      · exact .inr (.inl (.inl h))
      · exact .inr (.inr (.inl h))
      · by_cases c : p.2 ≤ lo + l.w
        · exact .inr (.inl (.inr (by omega)))
        · exact .inr (.inr (.inr (by omega)))
/-- the one post between the ends of a node's tie -/
theorem apex_in : ∀ {t : Tr} {lo a b : Nat}, (a, b) ∈ t.inn lo → ∃ m, (a < m ∧ m < b) ∧ (a, m) ∈ t.all lo ∧ (m, b) ∈ t.all lo ∧ ∀ m', a < m' → m' < b → (a, m') ∈ t.all lo → (m', b) ∈ t.all lo → m' = m
  | leaf, _, _, _, h => by cases h
  | node l r, lo, a, b, h => by
    have wl := l.w_pos
    have wr := r.w_pos
    rcases List.mem_cons.mp h with h | h
    · obtain ⟨rfl, rfl⟩ := Prod.mk.inj h
      refine ⟨a + l.w, ⟨by omega, by omega⟩, mem_node.mpr (.inr (.inl root_mem)), mem_node.mpr (.inr (.inr (by rw [← Nat.add_assoc]; exact root_mem))), fun m' h1 h2 h3 h4 => ?_⟩
      rcases mem_node.mp h3 with e | e | e
      · have := (Prod.mk.inj e).2; omega
      · have q := (bd e).2.2
        simp only at q
        rcases mem_node.mp h4 with e | e | e
        · have := (Prod.mk.inj e).1; omega
        · have := (bd e).2.2; simp only at this; omega
        · have := (bd e).1; simp only at this; omega
      · have := (bd e).1; simp only at this; omega
    · rcases List.mem_append.mp h with h | h
      · have q := bd (inn_all h)
        simp only at q
        obtain ⟨m, hm, h1, h2, u⟩ := apex_in h
        refine ⟨m, hm, mem_node.mpr (.inr (.inl h1)), mem_node.mpr (.inr (.inl h2)), fun m' g1 g2 g3 g4 => u m' g1 g2 ?_ ?_⟩
        · rcases mem_node.mp g3 with e | e | e
          · have := (Prod.mk.inj e).2; omega
          · exact e
          · have := (bd e).1; simp only at this; omega
        · rcases mem_node.mp g4 with e | e | e
          · have := (Prod.mk.inj e).1; omega
          · exact e
          · have := (bd e).1; simp only at this; omega
      · have q := bd (inn_all h)
        simp only at q
        obtain ⟨m, hm, h1, h2, u⟩ := apex_in h
        refine ⟨m, hm, mem_node.mpr (.inr (.inr h1)), mem_node.mpr (.inr (.inr h2)), fun m' g1 g2 g3 g4 => u m' g1 g2 ?_ ?_⟩
        · rcases mem_node.mp g3 with e | e | e
          · have := (Prod.mk.inj e).1; omega
          · have := (bd e).2.2; simp only at this; omega
          · exact e
        · rcases mem_node.mp g4 with e | e | e
          · have := (Prod.mk.inj e).1; omega
          · have := (bd e).2.2; simp only at this; omega
          · exact e
/-- m makes a plot with (a, b) from outside -/
def Out (t : Tr) (lo a b m : Nat) : Prop := (m < a ∧ (m, a) ∈ t.all lo ∧ (m, b) ∈ t.all lo) ∨ (b < m ∧ (a, m) ∈ t.all lo ∧ (b, m) ∈ t.all lo)
theorem Out.up_l {l r : Tr} {lo a b m : Nat} (h : Out l lo a b m) : Out (node l r) lo a b m := by
  rcases h with ⟨h, h1, h2⟩ | ⟨h, h1, h2⟩
  · exact .inl ⟨h, mem_node.mpr (.inr (.inl h1)), mem_node.mpr (.inr (.inl h2))⟩
  · exact .inr ⟨h, mem_node.mpr (.inr (.inl h1)), mem_node.mpr (.inr (.inl h2))⟩
theorem Out.up_r {l r : Tr} {lo a b m : Nat} (h : Out r (lo + l.w) a b m) : Out (node l r) lo a b m := by
  rcases h with ⟨h, h1, h2⟩ | ⟨h, h1, h2⟩
  · exact .inl ⟨h, mem_node.mpr (.inr (.inr h1)), mem_node.mpr (.inr (.inr h2))⟩
  · exact .inr ⟨h, mem_node.mpr (.inr (.inr h1)), mem_node.mpr (.inr (.inr h2))⟩
theorem Out.down_l {l r : Tr} {lo a b m : Nat} (q : lo ≤ a ∧ a < b ∧ b ≤ lo + l.w) (n : ¬ (a = lo ∧ b = lo + l.w)) (h : Out (node l r) lo a b m) : Out l lo a b m := by
  have wr := r.w_pos
  rcases h with ⟨h, h1, h2⟩ | ⟨h, h1, h2⟩
  · refine .inl ⟨h, ?_, ?_⟩
    · rcases mem_node.mp h1 with e | e | e
      · have := (Prod.mk.inj e).2; omega
      · exact e
      · have := (bd e).1; simp only at this; omega
    · rcases mem_node.mp h2 with e | e | e
      · have := (Prod.mk.inj e).2; omega
      · exact e
      · have := (bd e).1; simp only at this; omega
  · have hb : (b, m) ∈ l.all lo ∨ b = lo + l.w := by
      rcases mem_node.mp h2 with e | e | e
      · have := (Prod.mk.inj e).1; omega
      · exact .inl e
      · have := (bd e).1; simp only at this; exact .inr (by omega)
    rcases hb with hb | hb
    · have z := (bd hb).2.2
      simp only at z
      refine .inr ⟨h, ?_, hb⟩
      rcases mem_node.mp h1 with e | e | e
      · have := (Prod.mk.inj e).2; omega
      · exact e
      · have := (bd e).1; simp only at this; omega
    · exfalso
      rcases mem_node.mp h1 with e | e | e
      · have := (Prod.mk.inj e).1; omega
      · have := (bd e).2.2; simp only at this; omega
      · have := (bd e).1; simp only at this; omega
theorem Out.down_r {l r : Tr} {lo a b m : Nat} (q : lo + l.w ≤ a ∧ a < b ∧ b ≤ lo + l.w + r.w) (n : ¬ (a = lo + l.w ∧ b = lo + l.w + r.w)) (h : Out (node l r) lo a b m) : Out r (lo + l.w) a b m := by
  have wl := l.w_pos
  rcases h with ⟨h, h1, h2⟩ | ⟨h, h1, h2⟩
  · have ha : (m, a) ∈ r.all (lo + l.w) ∨ a = lo + l.w := by
      rcases mem_node.mp h1 with e | e | e
      · have := (Prod.mk.inj e).2; omega
      · have := (bd e).2.2; simp only at this; exact .inr (by omega)
      · exact .inl e
    rcases ha with ha | ha
    · have z := (bd ha).1
      simp only at z
      refine .inl ⟨h, ha, ?_⟩
      rcases mem_node.mp h2 with e | e | e
      · have := (Prod.mk.inj e).1; omega
      · have := (bd e).2.2; simp only at this; omega
      · exact e
    · exfalso
      rcases mem_node.mp h2 with e | e | e
      · have := (Prod.mk.inj e).2; omega
      · have := (bd e).2.2; simp only at this; omega
      · have := (bd e).1; simp only at this; omega
  · refine .inr ⟨h, ?_, ?_⟩
    · rcases mem_node.mp h1 with e | e | e
      · have := (Prod.mk.inj e).1; omega
      · have := (bd e).2.2; simp only at this; omega
      · exact e
    · rcases mem_node.mp h2 with e | e | e
      · have := (Prod.mk.inj e).1; omega
      · have := (bd e).2.2; simp only at this; omega
      · exact e
theorem Out.bd {t : Tr} {lo a b m : Nat} (h : Out t lo a b m) : lo ≤ m ∧ m ≤ lo + t.w := by
  rcases h with ⟨h, h1, h2⟩ | ⟨h, h1, h2⟩
  · have := Tr.bd h1; simp only at this; omega
  · have := Tr.bd h1; simp only at this; omega
/-- the one post outside a tie that is not the whole's -/
theorem apex_out : ∀ {t : Tr} {lo a b : Nat}, (a, b) ∈ t.all lo → ¬ (a = lo ∧ b = lo + t.w) → ∃ m, Out t lo a b m ∧ ∀ m', Out t lo a b m' → m' = m
  | leaf, lo, a, b, h, n => by
    exfalso
    obtain ⟨e1, e2⟩ := Prod.mk.inj (List.mem_singleton.mp h)
    exact n ⟨e1, e2⟩
  | node l r, lo, a, b, h, n => by
    have wl := l.w_pos
    have wr := r.w_pos
    rcases mem_node.mp h with h | h | h
    · exact absurd (Prod.mk.inj h) n
    · have q := Tr.bd h
      simp only at q
      by_cases c : a = lo ∧ b = lo + l.w
      · obtain ⟨rfl, rfl⟩ := c
        refine ⟨a + (l.w + r.w), .inr ⟨by omega, mem_node.mpr (.inl rfl), mem_node.mpr (.inr (.inr (by rw [← Nat.add_assoc]; exact root_mem)))⟩, fun m' o => ?_⟩
        rcases o with ⟨h, h1, h2⟩ | ⟨h, h1, h2⟩
        · have := (Tr.bd h1).1; simp only at this; omega
        · rcases mem_node.mp h1 with e | e | e
          · exact (Prod.mk.inj e).2
          · have := (Tr.bd e).2.2; simp only at this; omega
          · have := (Tr.bd e).1; simp only at this; omega
      · obtain ⟨m, o, u⟩ := apex_out h c
        exact ⟨m, o.up_l, fun m' o' => u m' (o'.down_l q c)⟩
    · have q := Tr.bd h
      simp only at q
      by_cases c : a = lo + l.w ∧ b = lo + l.w + r.w
      · obtain ⟨rfl, rfl⟩ := c
        refine ⟨lo, .inl ⟨by omega, mem_node.mpr (.inr (.inl root_mem)), mem_node.mpr (.inl (by rw [Nat.add_assoc]))⟩, fun m' o => ?_⟩
        rcases o with ⟨h, h1, h2⟩ | ⟨h, h1, h2⟩
        · rcases mem_node.mp h2 with e | e | e
          · exact (Prod.mk.inj e).1
          · have := (Tr.bd e).2.2; simp only at this; omega
          · have := (Tr.bd e).1; simp only at this; omega
        · have := (Tr.bd h1).2.2; simp only at this; change m' ≤ lo + (l.w + r.w) at this; omega
      · obtain ⟨m, o, u⟩ := apex_out h c
        exact ⟨m, o.up_r, fun m' o' => u m' (o'.down_r q c)⟩
end Tr
end Pm
namespace Pm
namespace Tr
def graft : Tr → Nat → Tr
  | leaf, _ => node leaf leaf
  | node l r, j => if j < l.w then node (l.graft j) r else node l (r.graft (j - l.w))
theorem w_graft : ∀ {t : Tr} {j : Nat}, j < t.w → (t.graft j).w = t.w + 1
  | leaf, _, _ => rfl
  | node l r, j, h => by
    unfold graft
    split
    · rename_i c
      show (l.graft j).w + r.w = l.w + r.w + 1
      rw [w_graft c]; omega
    · rename_i c
      show l.w + (r.graft (j - l.w)).w = l.w + r.w + 1
      have : j < l.w + r.w := h
      rw [w_graft (by omega)]; omega
def sk (c i : Nat) : Nat := if i < c then i else i + 1
def skp (c : Nat) (p : Nat × Nat) : Nat × Nat := (sk c p.1, sk c p.2)
theorem inn_shift : ∀ (t : Tr) (lo : Nat), t.inn (lo + 1) = (t.inn lo).map fun p => (p.1 + 1, p.2 + 1)
  | leaf, _ => rfl
  | node l r, lo => by
    show (lo + 1, lo + 1 + (l.w + r.w)) :: (l.inn (lo + 1) ++ r.inn (lo + 1 + l.w)) = ((lo, lo + (l.w + r.w)) :: (l.inn lo ++ r.inn (lo + l.w))).map _
    rw [List.map_cons, List.map_append, inn_shift l lo, show lo + 1 + l.w = lo + l.w + 1 by omega, inn_shift r (lo + l.w)]
    congr 2
    omega
theorem ropes_shift (t : Tr) (lo : Nat) : t.ropes (lo + 1) = (t.ropes lo).map fun p => (p.1 + 1, p.2 + 1) := by
  cases t with
  | leaf => rfl
  | node l r =>
    show l.inn (lo + 1) ++ r.inn (lo + 1 + l.w) = (l.inn lo ++ r.inn (lo + l.w)).map _
    rw [List.map_append, inn_shift l lo, show lo + 1 + l.w = lo + l.w + 1 by omega, inn_shift r (lo + l.w)]
theorem skp_up {t : Tr} {lo c : Nat} (h : c ≤ lo) : (t.inn lo).map (skp c) = t.inn (lo + 1) := by
  rw [inn_shift]
  refine List.map_congr_left fun p hp => ?_
  have q := bd (inn_all hp)
  unfold skp sk
  rw [if_neg (by omega), if_neg (by omega)]
theorem skp_down {t : Tr} {lo c : Nat} (h : lo + t.w < c) : (t.inn lo).map (skp c) = t.inn lo := by
  conv => rhs; rw [← List.map_id (t.inn lo)]
  refine List.map_congr_left fun p hp => ?_
  have q := bd (inn_all hp)
  unfold skp sk
  rw [if_pos (by omega), if_pos (by omega)]
  rfl
theorem inn_graft : ∀ {t : Tr} {lo j : Nat}, j < t.w → ((t.graft j).inn lo).Perm ((lo + j, lo + j + 2) :: (t.inn lo).map (skp (lo + j + 1)))
  | leaf, lo, j, h => by
    have : j = 0 := by have h : j < 1 := h; omega
    subst this
    exact List.Perm.refl _
  | node l r, lo, j, h => by
    have h : j < l.w + r.w := h
    have wr := r.w_pos
    have wl := l.w_pos
    show ((graft (node l r) j).inn lo).Perm ((lo + j, lo + j + 2) :: ((lo, lo + (l.w + r.w)) :: (l.inn lo ++ r.inn (lo + l.w))).map _)
    rw [List.map_cons, List.map_append]
    have e0 : skp (lo + j + 1) (lo, lo + (l.w + r.w)) = (lo, lo + (l.w + r.w) + 1) := by
      unfold skp sk
      rw [if_pos (by omega), if_neg (by omega)]
    rw [e0]
    unfold graft
    split
    · rename_i c
      show ((lo, lo + ((l.graft j).w + r.w)) :: ((l.graft j).inn lo ++ r.inn (lo + (l.graft j).w))).Perm _
      rw [w_graft c, skp_up (t := r) (show lo + j + 1 ≤ lo + l.w by omega), show lo + (l.w + 1 + r.w) = lo + (l.w + r.w) + 1 by omega, show lo + (l.w + 1) = lo + l.w + 1 by omega]
      exact ((inn_graft c).append_right _).cons _ |>.trans (List.Perm.swap _ _ _)
    · rename_i c
      have c' : j - l.w < r.w := by omega
      show ((lo, lo + (l.w + (r.graft (j - l.w)).w)) :: (l.inn lo ++ (r.graft (j - l.w)).inn (lo + l.w))).Perm _
      have ih := inn_graft (t := r) (lo := lo + l.w) c'
      rw [show lo + l.w + (j - l.w) = lo + j by omega] at ih
      rw [w_graft c', skp_down (t := l) (show lo + l.w < lo + j + 1 by omega), show lo + (l.w + (r.w + 1)) = lo + (l.w + r.w) + 1 by omega]
      refine ((ih.append_left _).cons _).trans ?_
      refine (List.Perm.cons _ List.perm_middle).trans (List.Perm.swap _ _ _)
theorem ropes_graft {t : Tr} {j : Nat} (h : j < t.w) (h2 : 2 ≤ t.w) : ((t.graft j).ropes 0).Perm ((j, j + 2) :: (t.ropes 0).map (skp (j + 1))) := by
  have q := inn_graft (lo := 0) h
  rw [inn_node (t := t) h2, inn_node (t := t.graft j) (by rw [w_graft h]; omega), w_graft h, List.map_cons] at q
  have e0 : skp (0 + j + 1) (0, 0 + t.w) = (0, 0 + (t.w + 1)) := by
    unfold skp sk
    rw [if_pos (by omega), if_neg (by omega)]
    congr 1
  rw [e0] at q
  have q2 := q.trans (List.Perm.swap _ _ _)
  have q3 := q2.cons_inv
  rw [Nat.zero_add] at q3
  exact q3
end Tr
abbrev Ear := Int × Int × Int
/-- all ears of a ring, cut off one by one -/
inductive Ears : List Int → List Ear → Prop
  | done {L : List Int} (h : L.length ≤ 3) : Ears L []
  | step {L : List Int} {es : List Ear} (k : Nat) (h3 : 3 < L.length) (hk : k < L.length) (t : Ears (L.eraseIdx k) es) :
      Ears L ((L.getD k 0, L.getD ((k + L.length - 1) % L.length) 0, L.getD ((k + 1) % L.length) 0) :: es)
def tieOf (a b : Int) : IP := (min a b, max a b)
def ropeOf (e : Ear) : IP := tieOf e.2.1 e.2.2
theorem getD_erase (L : List Int) (k i : Nat) : (L.eraseIdx k).getD i 0 = L.getD (Tr.sk k i) 0 := by
  rw [List.getD_eq_getElem?_getD, List.getD_eq_getElem?_getD, List.getElem?_eraseIdx]
  unfold Tr.sk
  split <;> rfl
theorem rise_get {L : List Int} (h : L.Pairwise (· < ·)) {i j : Nat} (hij : i < j) (hj : j < L.length) : L.getD i 0 < L.getD j 0 := by
  have q := List.pairwise_iff_getElem.mp h i j (by omega) hj hij
  rw [List.getD_eq_getElem?_getD, List.getD_eq_getElem?_getD, List.getElem?_eq_getElem (by omega), List.getElem?_eq_getElem hj]
  exact q
def atP (L : List Int) (p : Nat × Nat) : IP := (L.getD p.1 0, L.getD p.2 0)
theorem atP_erase (L : List Int) (k : Nat) (p : Nat × Nat) : atP (L.eraseIdx k) p = atP L (Tr.skp k p) := by
  unfold atP Tr.skp
  rw [getD_erase, getD_erase]
theorem tie_lt {a b : Int} (h : a < b) : tieOf a b = (a, b) := by unfold tieOf; rw [Int.min_eq_left (by omega), Int.max_eq_right (by omega)]
theorem tie_gt {a b : Int} (h : a < b) : tieOf b a = (a, b) := by unfold tieOf; rw [Int.min_eq_right (by omega), Int.max_eq_left (by omega)]
theorem drawn_tree {L : List Int} {es : List Ear} (h : Ears L es) : L.Pairwise (· < ·) → 3 ≤ L.length → ∃ t : Tr, t.w + 1 = L.length ∧ (es.map ropeOf).Perm ((t.ropes 0).map (atP L)) := by
  induction h with
  | done h =>
    intro _ h3
    exact ⟨.node .leaf .leaf, by show 2 + 1 = _; omega, List.Perm.refl _⟩
  | @step L es k h3 hk _ ih =>
    intro rise _
    have le : (L.eraseIdx k).length = L.length - 1 := List.length_eraseIdx_of_lt hk
    obtain ⟨t, hw, hp⟩ := ih (rise.sublist (List.eraseIdx_sublist L k)) (by omega)
    have w2 : 2 ≤ t.w := by omega
    have hp : (es.map ropeOf).Perm ((t.ropes 0).map fun p => atP L (Tr.skp k p)) := by
      rw [show (fun p => atP L (Tr.skp k p)) = atP (L.eraseIdx k) from funext fun p => (atP_erase L k p).symm]
      exact hp
    by_cases k0 : k = 0
    · subst k0
      refine ⟨.node .leaf t, by show 1 + t.w + 1 = _; omega, ?_⟩
      have e1 : (Tr.node .leaf t).ropes 0 = (1, 1 + t.w) :: (t.ropes 0).map (Tr.skp 0) := by
        show [] ++ t.inn (0 + 1) = _
        rw [List.nil_append, Tr.inn_node w2, Tr.ropes_shift]
        rfl
      have e2 : (0 + L.length - 1) % L.length = L.length - 1 := by rw [Nat.zero_add]; exact Nat.mod_eq_of_lt (by omega)
      have e3 : (0 + 1) % L.length = 1 := Nat.mod_eq_of_lt (by omega)
      rw [List.map_cons, e1, List.map_cons, List.map_map]
      have e4 : ropeOf (L.getD 0 0, L.getD ((0 + L.length - 1) % L.length) 0, L.getD ((0 + 1) % L.length) 0) = atP L (1, 1 + t.w) := by
        unfold ropeOf atP
        rw [e2, e3]
        simp only
        rw [show 1 + t.w = L.length - 1 by omega]
        exact tie_gt (rise_get rise (by omega) (by omega))
      rw [e4]
      exact hp.cons _
    · by_cases km : k = L.length - 1
      · refine ⟨.node t .leaf, by show t.w + 1 + 1 = _; omega, ?_⟩
        have e1 : (Tr.node t .leaf).ropes 0 = (0, t.w) :: t.ropes 0 := by
          show t.inn 0 ++ [] = _
          rw [List.append_nil, Tr.inn_node w2, Nat.zero_add]
        have e2 : (k + L.length - 1) % L.length = k - 1 := by
          rw [show k + L.length - 1 = (k - 1) + L.length by omega, Nat.add_mod_right]
          exact Nat.mod_eq_of_lt (by omega)
        have e3 : (k + 1) % L.length = 0 := by
          rw [show k + 1 = L.length by omega]
          exact Nat.mod_self _
        have e5 : (t.ropes 0).map (fun p => atP L (Tr.skp k p)) = (t.ropes 0).map (atP L) := by
          refine List.map_congr_left fun p hp => ?_
          have hin : p ∈ t.inn 0 := by rw [Tr.inn_node w2]; exact List.mem_cons_of_mem _ hp
          have q := Tr.bd (Tr.inn_all hin)
          unfold Tr.skp Tr.sk
          rw [if_pos (by omega), if_pos (by omega)]
        rw [e5] at hp
        rw [List.map_cons, e1, List.map_cons]
        have e4 : ropeOf (L.getD k 0, L.getD ((k + L.length - 1) % L.length) 0, L.getD ((k + 1) % L.length) 0) = atP L (0, t.w) := by
          unfold ropeOf atP
          rw [e2, e3]
          simp only
          rw [show t.w = k - 1 by omega]
          exact tie_gt (rise_get rise (by omega) (by omega))
        rw [e4]
        exact hp.cons _
      · refine ⟨t.graft (k - 1), by rw [Tr.w_graft (by omega)]; omega, ?_⟩
        have e1 := Tr.ropes_graft (t := t) (j := k - 1) (by omega) w2
        rw [show k - 1 + 1 = k by omega, show k - 1 + 2 = k + 1 by omega] at e1
        have e2 : (k + L.length - 1) % L.length = k - 1 := by
          rw [show k + L.length - 1 = (k - 1) + L.length by omega, Nat.add_mod_right]
          exact Nat.mod_eq_of_lt (by omega)
        have e3 : (k + 1) % L.length = k + 1 := Nat.mod_eq_of_lt (by omega)
        have e4 : ropeOf (L.getD k 0, L.getD ((k + L.length - 1) % L.length) 0, L.getD ((k + 1) % L.length) 0) = atP L (k - 1, k + 1) := by
          unfold ropeOf atP
          rw [e2, e3]
          exact tie_lt (rise_get rise (by omega) (by omega))
        rw [List.map_cons, e4]
        refine (hp.cons _).trans ?_
        have q := (e1.map (atP L)).symm
        rw [List.map_cons, List.map_map] at q
        exact q
def castP (p : Nat × Nat) : IP := ((p.1 : Int), (p.2 : Int))
/-- the posts of a ring -/
def posts (n : Nat) : List Int := (List.range n).map fun i : Nat => (i : Int)
theorem posts_len (n : Nat) : (posts n).length = n := by rw [posts, List.length_map, List.length_range]
theorem posts_rise (n : Nat) : (posts n).Pairwise (· < ·) := by
  rw [posts, List.pairwise_map]
  exact List.pairwise_lt_range.imp fun h => by omega
theorem posts_get {n i : Nat} (h : i < n) : (posts n).getD i 0 = (i : Int) := by
  rw [posts, List.getD_eq_getElem?_getD, List.getElem?_map, List.getElem?_range h] <;> rfl
theorem ropes_bd {t : Tr} {p : Nat × Nat} (hp : p ∈ t.ropes 0) : p ∈ t.inn 0 ∧ ¬ (p.1 = 0 ∧ p.2 = t.w) := by
  cases t with
  | leaf => cases hp
  | node l r =>
    have wl := l.w_pos
    have wr := r.w_pos
    refine ⟨List.mem_cons_of_mem _ hp, ?_⟩
    show ¬ (p.1 = 0 ∧ p.2 = l.w + r.w)
    rcases List.mem_append.mp hp with h | h
    · have := Tr.bd (Tr.inn_all h); omega
    · have := Tr.bd (Tr.inn_all h); omega
theorem drawn_posts {n : Nat} {es : List Ear} (h : Ears (posts n) es) (hn : 3 ≤ n) : ∃ t : Tr, t.w + 1 = n ∧ (es.map ropeOf).Perm ((t.ropes 0).map castP) := by
  obtain ⟨t, hw, hp⟩ := drawn_tree h (posts_rise n) (by rw [posts_len]; exact hn)
  rw [posts_len] at hw
  refine ⟨t, hw, ?_⟩
  have e : (t.ropes 0).map (atP (posts n)) = (t.ropes 0).map castP := by
    refine List.map_congr_left fun p hp => ?_
    have q := Tr.bd (Tr.inn_all (ropes_bd hp).1)
    unfold atP castP
    rw [posts_get (by omega), posts_get (by omega)]
  rw [e] at hp
  exact hp
end Pm
namespace Pm
open PySem PySem.Spec PyProof.Rows L2
def sides0 (n : Nat) : List IP := ((List.range (n - 1)).map fun k : Nat => ((k : Int), (k : Int) + 1)) ++ [(0, (n : Int) - 1)]
def sidesL (n : Nat) : List IP := sortP (sides0 n)
def tiesL (n : Nat) (cut : List IP) : List IP := sortP (sides0 n ++ cut)
theorem sides0_len {n : Nat} (h : 1 ≤ n) : (sides0 n).length = n := by
  rw [sides0, List.length_append, List.length_map, List.length_range, List.length_singleton]; omega
theorem tiesL_eq (n : Nat) (cut : List IP) : sortP (sidesL n ++ cut) = tiesL n cut := sortP_congr ((sortP_perm _).append_right _)
theorem mem_ties {n : Nat} {cut : List IP} {p : IP} : p ∈ tiesL n cut ↔ p ∈ sides0 n ∨ p ∈ cut := by rw [tiesL, mem_sortP, List.mem_append]
def isBeside (T : List IP) (a b : Int) (c : Nat) : Bool := decide (tieOf a c ∈ T) && decide (tieOf b c ∈ T)
def besideL (n : Nat) (T : List IP) (a b : Int) : List Int := ((List.range n).filter (isBeside T a b)).map fun c : Nat => (c : Int)
/-- a tracked list of pairs -/
def PLt (H : Hp) (a : Addr) (ps : List IP) : Prop := ∃ vs, H a = some (.lst vs) ∧ Prs H vs ps
theorem PLt.same {H H' : Hp} {a : Addr} {ps : List IP} (h : PLt H a ps) (s : Same H H') : PLt H' a ps := by
  obtain ⟨vs, h1, h2⟩ := h
  exact ⟨vs, s _ _ h1, prs_keep (keeps s) h2⟩
/-- an ear as a tuple -/
def Er (H : Hp) (v : V) (e : Ear) : Prop := ∃ t, v = .ref t ∧ H t = some (.tup [.int e.1, .int e.2.1, .int e.2.2])
theorem er_mono (H H' : Hp) (v : V) (e : Ear) (k : Keeps H H') (h : Er H v e) : Er H' v e := by
  obtain ⟨t, rfl, ht⟩ := h
  exact ⟨t, rfl, k _ _ ht⟩
end Pm
namespace Pm
open PySem PySem.Spec PyProof.Rows L2
/-- cut is the cutting of the tree t -/
structure Cutting (n : Nat) (cut : List IP) (t : Tr) : Prop where
  w : t.w + 1 = n
  n3 : 3 ≤ n
  perm : cut.Perm ((t.ropes 0).map castP)
  rise : Rising cut
theorem drawn_cutting {n : Nat} {es : List Ear} (h : Ears (posts n) es) (hn : 3 ≤ n) : ∃ t, Cutting n (sortP (es.map ropeOf)) t := by
  obtain ⟨t, hw, hp⟩ := drawn_posts h hn
  exact ⟨t, hw, hn, (sortP_perm _).trans hp, sortP_rising _⟩
theorem castP_inj {p q : Nat × Nat} (h : castP p = castP q) : p = q := by
  obtain ⟨a, b⟩ := p
  obtain ⟨c, d⟩ := q
  have e1 := congrArg Prod.fst h
  have e2 := congrArg Prod.snd h
  simp only [castP] at e1 e2
  rw [show a = c by omega, show b = d by omega]
theorem mem_sides0 {n : Nat} {p : IP} (hn : 2 ≤ n) : p ∈ sides0 n ↔ (∃ k : Nat, k + 1 < n ∧ p = castP (k, k + 1)) ∨ p = castP (0, n - 1) := by
  unfold sides0
  rw [List.mem_append, List.mem_map, List.mem_singleton]
  constructor
  · rintro (⟨k, hk, rfl⟩ | rfl)
    · exact .inl ⟨k, by have := List.mem_range.mp hk; omega, by simp [castP]⟩
    · exact .inr (by simp only [castP]; congr 1; omega)
  · rintro (⟨k, hk, rfl⟩ | rfl)
    · exact .inl ⟨k, List.mem_range.mpr (by omega), by simp [castP]⟩
    · exact .inr (by simp only [castP]; congr 1; omega)
section
variable {n : Nat} {cut : List IP} {t : Tr}
theorem Cutting.mem (C : Cutting n cut t) {p : IP} : p ∈ cut ↔ ∃ q, q ∈ t.ropes 0 ∧ p = castP q := by
  rw [C.perm.mem_iff, List.mem_map]
  exact ⟨fun ⟨q, h, e⟩ => ⟨q, h, e.symm⟩, fun ⟨q, h, e⟩ => ⟨q, h, e.symm⟩⟩
theorem Cutting.w2 (C : Cutting n cut t) : 2 ≤ t.w := by have := C.w; have := C.n3; omega
theorem inn_iff {q : Nat × Nat} (h : 2 ≤ t.w) : q ∈ t.inn 0 ↔ q = (0, t.w) ∨ q ∈ t.ropes 0 := by
  rw [Tr.inn_node h, List.mem_cons, Nat.zero_add]
theorem ropes_iff {q : Nat × Nat} (h : 2 ≤ t.w) : q ∈ t.ropes 0 ↔ q ∈ t.inn 0 ∧ q ≠ (0, t.w) := by
  constructor
  · intro hq
    have z := ropes_bd hq
    exact ⟨z.1, fun e => z.2 (by rw [e]; exact ⟨rfl, rfl⟩)⟩
  · rintro ⟨h1, h2⟩
    exact ((inn_iff h).mp h1).resolve_left h2
theorem Cutting.ties (C : Cutting n cut t) {p : IP} : p ∈ tiesL n cut ↔ ∃ q, q ∈ t.all 0 ∧ p = castP q := by
  have h2 := C.w2
  have hw := C.w
  rw [mem_ties, mem_sides0 (by omega), C.mem]
  constructor
  · rintro ((⟨k, hk, rfl⟩ | rfl) | ⟨q, hq, rfl⟩)
    · exact ⟨_, Tr.all_iff.mpr (.inr ⟨Nat.zero_le _, rfl, by simp only; omega⟩), rfl⟩
    · refine ⟨_, Tr.inn_all ((inn_iff h2).mpr (.inl rfl)), ?_⟩
      rw [← hw] <;> rfl
    · exact ⟨q, Tr.inn_all ((inn_iff h2).mpr (.inr hq)), rfl⟩
  · rintro ⟨q, hq, rfl⟩
    rcases Tr.all_iff.mp hq with h | ⟨_, h, h'⟩
    · rcases (inn_iff h2).mp h with rfl | h
      · refine .inl (.inr ?_)
        rw [← hw] <;> rfl
      · exact .inr ⟨q, h, rfl⟩
    · refine .inl (.inl ⟨q.1, by omega, ?_⟩)
      obtain ⟨a, b⟩ := q
      simp only at h
      rw [h]
theorem Cutting.tied (C : Cutting n cut t) {a b : Nat} : castP (a, b) ∈ tiesL n cut ↔ (a, b) ∈ t.all 0 := by
  rw [C.ties]
  exact ⟨fun ⟨q, h, e⟩ => by rw [castP_inj e]; exact h, fun h => ⟨_, h, rfl⟩⟩
theorem tie_cast (a c : Nat) : tieOf (a : Int) (c : Int) = castP (min a c, max a c) := by
  unfold tieOf castP
  simp only
  congr 1 <;> omega
theorem tie_comm (a b : Int) : tieOf a b = tieOf b a := by unfold tieOf; rw [Int.min_comm, Int.max_comm]
theorem beside_comm (T : List IP) (a b : Int) : besideL n T a b = besideL n T b a := by
  unfold besideL
  congr 2
  funext c
  unfold isBeside
  rw [Bool.and_comm]
/-- beside: between, or outside -/
theorem Cutting.beside_iff (C : Cutting n cut t) {a b c : Nat} (hab : a < b) : isBeside (tiesL n cut) a b c = true ↔ ((a < c ∧ c < b) ∧ (a, c) ∈ t.all 0 ∧ (c, b) ∈ t.all 0) ∨ Tr.Out t 0 a b c := by
  unfold isBeside
  rw [Bool.and_eq_true, decide_eq_true_iff, decide_eq_true_iff, tie_cast, tie_cast, C.tied, C.tied]
  rcases Nat.lt_trichotomy c a with h | h | h
  · rw [Nat.min_eq_right (by omega), Nat.max_eq_left (by omega), Nat.min_eq_right (by omega), Nat.max_eq_left (by omega)]
    unfold Tr.Out
    constructor
    · exact fun q => .inr (.inl ⟨h, q⟩)
    · rintro (⟨q, _⟩ | ⟨_, q⟩ | ⟨q, _⟩)
      · omega
      · exact q
      · omega
  · subst h
    rw [Nat.min_self, Nat.max_self]
    constructor
    · rintro ⟨q, _⟩
      have := (Tr.bd q).2.1
      simp only at this
      omega
    · unfold Tr.Out
      rintro (⟨q, _⟩ | ⟨q, _⟩ | ⟨q, _⟩) <;> omega
  · rw [Nat.min_eq_left (by omega), Nat.max_eq_right (by omega)]
    rcases Nat.lt_trichotomy c b with h' | h' | h'
    · rw [Nat.min_eq_right (by omega), Nat.max_eq_left (by omega)]
      unfold Tr.Out
      constructor
      · exact fun q => .inl ⟨⟨h, h'⟩, q⟩
      · rintro (⟨_, q⟩ | ⟨q, _⟩ | ⟨q, _⟩)
        · exact q
        · omega
        · omega
    · subst h'
      rw [Nat.min_self, Nat.max_self]
      constructor
      · rintro ⟨_, q⟩
        have := (Tr.bd q).2.1
        simp only at this
        omega
      · unfold Tr.Out
        rintro (⟨q, _⟩ | ⟨q, _⟩ | ⟨q, _⟩) <;> omega
    · rw [Nat.min_eq_left (by omega), Nat.max_eq_right (by omega)]
      unfold Tr.Out
      constructor
      · exact fun q => .inr (.inr ⟨h', q⟩)
      · rintro (⟨q, _⟩ | ⟨q, _⟩ | ⟨_, q⟩)
        · omega
        · omega
        · exact q
end
theorem filter_range_eq {n : Nat} {p : Nat → Bool} {l : List Nat} (hl : l.Pairwise (· < ·)) (h : ∀ c, c ∈ l ↔ c < n ∧ p c = true) : (List.range n).filter p = l := by
  have h1 : ((List.range n).filter p).Pairwise (· < ·) := List.pairwise_lt_range.sublist List.filter_sublist
  have nd : ∀ {l : List Nat}, l.Pairwise (· < ·) → l.Nodup := fun q => q.imp fun z => by omega
  refine List.Perm.eq_of_pairwise (le := (· < ·)) (fun a b _ _ h1 h2 => absurd h1 (by omega)) h1 hl ((List.perm_ext_iff_of_nodup (nd h1) (nd hl)).mpr fun c => ?_)
  rw [List.mem_filter, List.mem_range, h]
section
variable {n : Nat} {cut : List IP} {t : Tr}
/-- the posts beside a rope: the one between, the one outside -/
theorem Cutting.beside_rope (C : Cutting n cut t) {a b : Nat} (h : (a, b) ∈ t.ropes 0) : ∃ m o : Nat, (a < m ∧ m < b) ∧ (a, m) ∈ t.all 0 ∧ (m, b) ∈ t.all 0 ∧ Tr.Out t 0 a b o ∧ (o < a ∨ b < o) ∧ o < n ∧
    besideL n (tiesL n cut) a b = [((min m o : Nat) : Int), ((max m o : Nat) : Int)] := by
  have hw := C.w
  have hi := (ropes_bd h)
  have hb := Tr.bd (Tr.inn_all hi.1)
  simp only at hb
  obtain ⟨m, hm, h1, h2, u⟩ := Tr.apex_in hi.1
  obtain ⟨o, ho, uo⟩ := Tr.apex_out (Tr.inn_all hi.1) (by rw [Nat.zero_add]; exact hi.2)
  have bo := ho.bd
  have oo : o < a ∨ b < o := by
    rcases ho with ⟨q, _⟩ | ⟨q, _⟩
    · exact .inl q
    · exact .inr q
  refine ⟨m, o, hm, h1, h2, ho, oo, by omega, ?_⟩
  have e : (List.range n).filter (isBeside (tiesL n cut) a b) = [min m o, max m o] := by
    refine filter_range_eq ?_ fun c => ?_
    · refine List.pairwise_cons.mpr ⟨fun c hc => ?_, List.pairwise_singleton _ _⟩
      rw [List.mem_singleton.mp hc]
      omega
    · rw [C.beside_iff hb.2.1, List.mem_cons, List.mem_singleton]
      constructor
      · intro hc
        have : c = m ∨ c = o := by omega
        rcases this with rfl | rfl
        · exact ⟨by omega, .inl ⟨hm, h1, h2⟩⟩
        · exact ⟨by omega, .inr ho⟩
      · rintro ⟨_, ⟨hc, q1, q2⟩ | hc⟩
        · have := u c hc.1 hc.2 q1 q2; omega
        · have := uo c hc; omega
  unfold besideL
  rw [e]
  rfl
/-- one post beside a side -/
theorem Cutting.beside_side (C : Cutting n cut t) {a b : Nat} (h : (a, b) ∈ t.all 0) (h' : (a, b) ∉ t.ropes 0) : ∃ m : Nat, m < n ∧ besideL n (tiesL n cut) a b = [(m : Int)] := by
  have hw := C.w
  have w2 := C.w2
  have hb := Tr.bd h
  simp only at hb
  suffices hs : ∃ m : Nat, m < n ∧ ∀ c, (((a < c ∧ c < b) ∧ (a, c) ∈ t.all 0 ∧ (c, b) ∈ t.all 0) ∨ Tr.Out t 0 a b c) ↔ c = m by
    obtain ⟨m, hm, hc⟩ := hs
    refine ⟨m, hm, ?_⟩
    have e : (List.range n).filter (isBeside (tiesL n cut) a b) = [m] := by
      refine filter_range_eq (List.pairwise_singleton _ _) fun c => ?_
      rw [C.beside_iff hb.2.1, hc, List.mem_singleton]
      exact ⟨fun e => ⟨by omega, e⟩, fun e => e.2⟩
    unfold besideL
    rw [e]
    rfl
  rcases Tr.all_iff.mp h with hi | hi
  · have er : (a, b) = (0, t.w) := by
      rcases (inn_iff w2).mp hi with e | e
      · exact e
      · exact absurd e h'
    obtain ⟨rfl, rfl⟩ := Prod.mk.inj er
    obtain ⟨m, hm, h1, h2, u⟩ := Tr.apex_in hi
    refine ⟨m, by omega, fun c => ⟨?_, fun e => .inl (by rw [e]; exact ⟨hm, h1, h2⟩)⟩⟩
    rintro (⟨q, q1, q2⟩ | q)
    · exact u c q.1 q.2 q1 q2
    · have := q.bd
      rcases q with ⟨q, _⟩ | ⟨q, _⟩ <;> omega
  · simp only at hi
    have nr : ¬ (a = 0 ∧ b = 0 + t.w) := by omega
    obtain ⟨o, ho, uo⟩ := Tr.apex_out h nr
    have := ho.bd
    refine ⟨o, by omega, fun c => ⟨?_, fun e => .inr (by rw [e]; exact ho)⟩⟩
    rintro (⟨q, _⟩ | q)
    · omega
    · exact uo c q
/-- how many posts are beside a tie -/
theorem Cutting.beside_len (C : Cutting n cut t) {a b : Int} (h : tieOf a b ∈ tiesL n cut) : (besideL n (tiesL n cut) a b).length = 1 + (if tieOf a b ∈ cut then 1 else 0) := by
  obtain ⟨⟨x, y⟩, hq, e⟩ := C.ties.mp h
  have hb := Tr.bd hq
  simp only at hb
  have main : (besideL n (tiesL n cut) (x : Int) (y : Int)).length = 1 + (if castP (x, y) ∈ cut then 1 else 0) := by
    by_cases hr : (x, y) ∈ t.ropes 0
    · obtain ⟨m, o, _, _, _, _, _, _, z⟩ := C.beside_rope hr
      rw [z, if_pos (C.mem.mpr ⟨_, hr, rfl⟩)]
      rfl
    · obtain ⟨m, _, z⟩ := C.beside_side hq hr
      rw [z, if_neg (fun hc => by
        obtain ⟨q, h1, h2⟩ := C.mem.mp hc
        rw [← castP_inj h2] at h1
        exact hr h1)]
      rfl
  rw [e]
  have e1 := congrArg Prod.fst e
  have e2 := congrArg Prod.snd e
  simp only [tieOf, castP] at e1 e2
  by_cases hab : a ≤ b
  · rw [Int.min_eq_left hab] at e1
    rw [Int.max_eq_right hab] at e2
    rw [e1, e2]
    exact main
  · rw [Int.min_eq_right (by omega)] at e1
    rw [Int.max_eq_left (by omega)] at e2
    rw [beside_comm, e1, e2]
    exact main
end
end Pm
namespace Pm
namespace Tr
theorem noncross : ∀ {t : Tr} {lo : Nat} {p q : Nat × Nat}, p ∈ t.all lo → q ∈ t.all lo → ¬ (p.1 < q.1 ∧ q.1 < p.2 ∧ p.2 < q.2)
  | leaf, lo, p, q, hp, hq => by
    rw [List.mem_singleton.mp hp, List.mem_singleton.mp hq]
    simp only
    omega
  | node l r, lo, p, q, hp, hq => by
    have bp := bd hp
    have bq := bd hq
    have e : (node l r).w = l.w + r.w := rfl
    rw [e] at bp bq
    rcases mem_node.mp hp with h | h | h <;> rcases mem_node.mp hq with k | k | k
    · rw [h, k]; simp only; omega
    · rw [h]; simp only; omega
    · rw [h]; simp only; omega
    · rw [k]; simp only; omega
    · exact noncross h k
    · have := bd h; have := bd k; omega
    · rw [k]; simp only; omega
    · have := bd h; have := bd k; omega
    · exact noncross h k
theorem inn_nodup : ∀ (t : Tr) (lo : Nat), (t.inn lo).Nodup
  | leaf, _ => List.nodup_nil
  | node l r, lo => by
    have wl := l.w_pos
    have wr := r.w_pos
    show ((lo, lo + (l.w + r.w)) :: (l.inn lo ++ r.inn (lo + l.w))).Nodup
    refine List.nodup_cons.mpr ⟨fun h => ?_, List.nodup_append.mpr ⟨inn_nodup l lo, inn_nodup r _, fun a ha b hb e => ?_⟩⟩
    · rcases List.mem_append.mp h with h | h
      · have := bd (inn_all h); simp only at this; omega
      · have := bd (inn_all h); simp only at this; omega
    · subst e
      have := bd (inn_all ha)
      have := bd (inn_all hb)
      omega
theorem ropes_nodup (t : Tr) (lo : Nat) : (t.ropes lo).Nodup := by
  cases t with
  | leaf => exact List.nodup_nil
  | node l r => exact (List.nodup_cons.mp (inn_nodup (node l r) lo)).2
/-- the tree turned at the rope (x, y), its ropes by a common rest R; m between, o outside -/
structure Flip (t t' : Tr) (lo x y m o : Nat) (R : List (Nat × Nat)) : Prop where
  w : t'.w = t.w
  old : (t.ropes lo).Perm ((x, y) :: R)
  new : (t'.ropes lo).Perm ((min m o, max m o) :: R)
  btw : x < m ∧ m < y
  out : Out t lo x y o
  am : (x, m) ∈ t.all lo
  mb : (m, y) ∈ t.all lo
theorem flip_up_l {l l' r : Tr} {lo x y m o : Nat} {R : List (Nat × Nat)} (hl : 2 ≤ l.w) (F : Flip l l' lo x y m o R) : Flip (node l r) (node l' r) lo x y m o ((lo, lo + l.w) :: (R ++ r.inn (lo + l.w))) := by
  refine ⟨?_, ?_, ?_, F.btw, F.out.up_l, mem_node.mpr (.inr (.inl F.am)), mem_node.mpr (.inr (.inl F.mb))⟩
  · show l'.w + r.w = l.w + r.w
    rw [F.w]
  · show (l.inn lo ++ r.inn (lo + l.w)).Perm _
    rw [inn_node hl]
    exact ((F.old.append_right _).cons _).trans (List.Perm.swap _ _ _)
  · show (l'.inn lo ++ r.inn (lo + l'.w)).Perm _
    rw [inn_node (show 2 ≤ l'.w by rw [F.w]; exact hl), F.w]
    exact ((F.new.append_right _).cons _).trans (List.Perm.swap _ _ _)
theorem flip_up_r {l r r' : Tr} {lo x y m o : Nat} {R : List (Nat × Nat)} (hr : 2 ≤ r.w) (F : Flip r r' (lo + l.w) x y m o R) : Flip (node l r) (node l r') lo x y m o ((lo + l.w, lo + l.w + r.w) :: (R ++ l.inn lo)) := by
  refine ⟨?_, ?_, ?_, F.btw, F.out.up_r, mem_node.mpr (.inr (.inr F.am)), mem_node.mpr (.inr (.inr F.mb))⟩
  · show l.w + r'.w = l.w + r.w
    rw [F.w]
  · show (l.inn lo ++ r.inn (lo + l.w)).Perm _
    rw [inn_node hr]
    refine List.perm_append_comm.trans ?_
    exact ((F.old.append_right _).cons _).trans (List.Perm.swap _ _ _)
  · show (l.inn lo ++ r'.inn (lo + l.w)).Perm _
    rw [inn_node (show 2 ≤ r'.w by rw [F.w]; exact hr), F.w]
    refine List.perm_append_comm.trans ?_
    exact ((F.new.append_right _).cons _).trans (List.Perm.swap _ _ _)
theorem flip : ∀ {t : Tr} {lo x y : Nat}, (x, y) ∈ t.ropes lo → ∃ t' m o R, Flip t t' lo x y m o R
  | leaf, _, _, _, h => by cases h
  | node l r, lo, x, y, h => by
    have wl := l.w_pos
    have wr := r.w_pos
    rcases List.mem_append.mp h with h | h
    · have wl2 : 2 ≤ l.w := by
        cases l with
        | leaf => cases h
        | node a b => have := a.w_pos; have := b.w_pos; show 2 ≤ a.w + b.w; omega
      rw [inn_node wl2] at h
      rcases List.mem_cons.mp h with h | h
      · obtain ⟨rfl, rfl⟩ := Prod.mk.inj h
        cases l with
        | leaf => exact absurd wl2 (by show ¬ 2 ≤ 1; omega)
        | node a b =>
          have wa := a.w_pos
          have wb := b.w_pos
          refine ⟨node a (node b r), x + a.w, x + (a.w + b.w + r.w), a.inn x ++ (b.inn (x + a.w) ++ r.inn (x + (a.w + b.w))), ?_, ?_, ?_, ?_, ?_, ?_, ?_⟩
          · show a.w + (b.w + r.w) = a.w + b.w + r.w; omega
          · show (((x, x + (a.w + b.w)) :: (a.inn x ++ b.inn (x + a.w))) ++ r.inn (x + (a.w + b.w))).Perm _
            rw [List.cons_append, List.append_assoc]
            exact List.Perm.refl _
          · show (a.inn x ++ ((x + a.w, x + a.w + (b.w + r.w)) :: (b.inn (x + a.w) ++ r.inn (x + a.w + b.w)))).Perm _
            rw [Nat.min_eq_left (by omega), Nat.max_eq_right (by omega), show x + a.w + (b.w + r.w) = x + (a.w + b.w + r.w) by omega, show x + a.w + b.w = x + (a.w + b.w) by omega]
            exact List.perm_middle
          · show x < x + a.w ∧ x + a.w < x + (a.w + b.w); omega
          · refine .inr ⟨?_, mem_node.mpr (.inl rfl), mem_node.mpr (.inr (.inr ?_))⟩
            · show x + (a.w + b.w) < x + (a.w + b.w + r.w); omega
            · show (x + (a.w + b.w), x + (a.w + b.w + r.w)) ∈ r.all (x + (a.w + b.w))
              rw [show x + (a.w + b.w + r.w) = x + (a.w + b.w) + r.w by omega]; exact root_mem
          · exact mem_node.mpr (.inr (.inl (mem_node.mpr (.inr (.inl root_mem)))))
          · refine mem_node.mpr (.inr (.inl (mem_node.mpr (.inr (.inr ?_)))))
            show (x + a.w, x + (a.w + b.w)) ∈ b.all (x + a.w)
            rw [show x + (a.w + b.w) = x + a.w + b.w by omega]; exact root_mem
      · obtain ⟨l', m, o, R, F⟩ := flip h
        exact ⟨node l' r, m, o, _, flip_up_l wl2 F⟩
    · have wr2 : 2 ≤ r.w := by
        cases r with
        | leaf => cases h
        | node a b => have := a.w_pos; have := b.w_pos; show 2 ≤ a.w + b.w; omega
      rw [inn_node wr2] at h
      rcases List.mem_cons.mp h with h | h
      · obtain ⟨rfl, rfl⟩ := Prod.mk.inj h
        cases r with
        | leaf => exact absurd wr2 (by show ¬ 2 ≤ 1; omega)
        | node a b =>
          have wa := a.w_pos
          have wb := b.w_pos
          refine ⟨node (node l a) b, lo + l.w + a.w, lo, l.inn lo ++ (a.inn (lo + l.w) ++ b.inn (lo + l.w + a.w)), ?_, ?_, ?_, ?_, ?_, ?_, ?_⟩
          · show l.w + a.w + b.w = l.w + (a.w + b.w); omega
          · show (l.inn lo ++ ((lo + l.w, lo + l.w + (a.w + b.w)) :: (a.inn (lo + l.w) ++ b.inn (lo + l.w + a.w)))).Perm _
            exact List.perm_middle
          · show (((lo, lo + (l.w + a.w)) :: (l.inn lo ++ a.inn (lo + l.w))) ++ b.inn (lo + (l.w + a.w))).Perm _
            rw [Nat.min_eq_right (by omega), Nat.max_eq_left (by omega), List.cons_append, List.append_assoc, show lo + (l.w + a.w) = lo + l.w + a.w by omega]
          · show lo + l.w < lo + l.w + a.w ∧ lo + l.w + a.w < lo + l.w + (a.w + b.w); omega
          · refine .inl ⟨by omega, mem_node.mpr (.inr (.inl root_mem)), mem_node.mpr (.inl ?_)⟩
            show (lo, lo + l.w + (a.w + b.w)) = (lo, lo + (l.w + (a.w + b.w)))
            congr 1
            omega
          · exact mem_node.mpr (.inr (.inr (mem_node.mpr (.inr (.inl root_mem)))))
          · refine mem_node.mpr (.inr (.inr (mem_node.mpr (.inr (.inr ?_)))))
            show (lo + l.w + a.w, lo + l.w + (a.w + b.w)) ∈ b.all (lo + l.w + a.w)
            rw [show lo + l.w + (a.w + b.w) = lo + l.w + a.w + b.w by omega]; exact root_mem
      · obtain ⟨r', m, o, R, F⟩ := flip h
        exact ⟨node l r', m, o, _, flip_up_r wr2 F⟩
end Tr
open PySem PySem.Spec PyProof.Rows L2
/-- the cutting behind a turning -/
def turnedL (n : Nat) (cut : List IP) (a b : Int) : List IP :=
  let e := besideL n (tiesL n cut) a b
  sortP (cut.filter (fun p => !decide (p = tieOf a b)) ++ [(e.getD 0 0, e.getD 1 0)])
structure Turning (n : Nat) (cut : List IP) (t t' : Tr) (x y m o : Nat) (R : List (Nat × Nat)) : Prop where
  F : Tr.Flip t t' 0 x y m o R
  bes : besideL n (tiesL n cut) x y = [((min m o : Nat) : Int), ((max m o : Nat) : Int)]
  out : o < x ∨ y < o
  on : o < n
  rest : (cut.filter (fun p => !decide (p = castP (x, y)))).Perm (R.map castP)
  cut' : Cutting n (turnedL n cut x y) t'
theorem Cutting.turn {n : Nat} {cut : List IP} {t : Tr} (C : Cutting n cut t) {x y : Nat} (h : (x, y) ∈ t.ropes 0) : ∃ t' m o R, Turning n cut t t' x y m o R := by
  obtain ⟨t', m, o, R, F⟩ := Tr.flip h
  obtain ⟨m2, o2, hm2, h1, h2, ho2, oo, on, eb⟩ := C.beside_rope h
  have hi := (ropes_bd h).1
  obtain ⟨m3, _, _, _, u⟩ := Tr.apex_in hi
  have em : m = m2 := (u m F.btw.1 F.btw.2 F.am F.mb).trans (u m2 hm2.1 hm2.2 h1 h2).symm
  obtain ⟨o3, _, uo⟩ := Tr.apex_out (Tr.inn_all hi) (by rw [Nat.zero_add]; exact (ropes_bd h).2)
  have eo : o = o2 := (uo o F.out).trans (uo o2 ho2).symm
  subst em; subst eo
  have pc : cut.Perm (castP (x, y) :: R.map castP) := C.perm.trans (F.old.map castP)
  have hb := Tr.bd (Tr.inn_all hi)
  simp only at hb
  have nR : castP (x, y) ∉ R.map castP := fun q => by
    obtain ⟨z, hz, e⟩ := List.mem_map.mp q
    rw [castP_inj e] at hz
    have nd := (F.old.nodup_iff).mp (Tr.ropes_nodup t 0)
    exact (List.nodup_cons.mp nd).1 hz
  have rest : (cut.filter (fun p => !decide (p = castP (x, y)))).Perm (R.map castP) := by
    refine (pc.filter _).trans ?_
    rw [List.filter_cons_of_neg (by simp)]
    rw [List.filter_eq_self.mpr]
    intro p hp
    have : p ≠ castP (x, y) := fun e => nR (by rw [← e]; exact hp)
    simp [this]
  have tx : tieOf (x : Int) (y : Int) = castP (x, y) := by rw [tie_cast, Nat.min_eq_left (by omega), Nat.max_eq_right (by omega)]
  refine ⟨t', m, o, R, F, eb, oo, on, rest, ?_, C.n3, ?_, sortP_rising _⟩
  · rw [F.w]; exact C.w
  · unfold turnedL
    simp only
    rw [eb, tx]
    refine (sortP_perm _).trans ?_
    refine (rest.append_right _).trans ?_
    refine (List.perm_append_singleton _ _).trans ?_
    exact (F.new.map castP).symm
/-- the new rope of a turning -/
theorem turned_comm (n : Nat) (cut : List IP) (a b : Int) : turnedL n cut a b = turnedL n cut b a := by
  unfold turnedL
  rw [beside_comm, tie_comm]
section
variable {n : Nat} {cut : List IP} {t t' : Tr} {x y m o : Nat} {R : List (Nat × Nat)}
theorem Turning.all_iff (C : Cutting n cut t) (U : Turning n cut t t' x y m o R) {q : Nat × Nat} : q ∈ t'.all 0 ↔ (q ∈ t.all 0 ∧ q ≠ (x, y)) ∨ q = (min m o, max m o) := by
  have h : (x, y) ∈ t.ropes 0 := U.F.old.mem_iff.mpr List.mem_cons_self
  have w2 := C.w2
  have w2' : 2 ≤ t'.w := by rw [U.F.w]; exact w2
  have nd := (U.F.old.nodup_iff).mp (Tr.ropes_nodup t 0)
  have wide := Tr.inn_wide (ropes_bd h).1
  simp only at wide
  have hr := (ropes_iff w2).mp h
  rw [Tr.all_iff, Tr.all_iff, inn_iff w2, inn_iff w2', U.F.old.mem_iff, U.F.new.mem_iff, List.mem_cons, List.mem_cons, U.F.w]
  constructor
  · rintro ((e | e | e) | e)
    · refine .inl ⟨.inl (.inl e), fun z => hr.2 (by rw [← z]; exact e)⟩
    · exact .inr e
    · refine .inl ⟨.inl (.inr (.inr e)), fun z => (List.nodup_cons.mp nd).1 (by rw [← z]; exact e)⟩
    · refine .inl ⟨.inr e, fun z => ?_⟩
      rw [z] at e
      simp only at e
      omega
  · rintro (⟨(e | e | e) | e, ne⟩ | e)
    · exact .inl (.inl e)
    · exact absurd e ne
    · exact .inl (.inr (.inr e))
    · exact .inr e
    · exact .inl (.inr (.inl e))
/-- the new rope crosses the old one -/
theorem Turning.cross (C : Cutting n cut t) (U : Turning n cut t t' x y m o R) : (x < m ∧ m < y ∧ y < o ∧ min m o = m ∧ max m o = o) ∨ (o < x ∧ x < m ∧ m < y ∧ min m o = o ∧ max m o = m) := by
  have b := U.F.btw
  rcases U.out with h | h <;> omega
/-- turned again, the old cutting -/
theorem Turning.back (C : Cutting n cut t) (U : Turning n cut t t' x y m o R) : (min m o, max m o) ∈ t'.ropes 0 ∧ turnedL n (turnedL n cut x y) ((min m o : Nat) : Int) ((max m o : Nat) : Int) = cut := by
  have hnew : (min m o, max m o) ∈ t'.ropes 0 := U.F.new.mem_iff.mpr List.mem_cons_self
  refine ⟨hnew, ?_⟩
  obtain ⟨t2, m2, o2, R2, U2⟩ := U.cut'.turn hnew
  have hold : (x, y) ∈ t.ropes 0 := U.F.old.mem_iff.mpr List.mem_cons_self
  have b := U.F.btw
  have cr := U.cross C
  -- the four ties round the rope stay
  have keep : ∀ {q : Nat × Nat}, q ∈ t.all 0 → q ≠ (x, y) → q ∈ t'.all 0 := fun h1 h2 => (U.all_iff C).mpr (.inl ⟨h1, h2⟩)
  have hi2 := (ropes_bd hnew).1
  obtain ⟨m3, hm3, _, _, u⟩ := Tr.apex_in hi2
  obtain ⟨o3, ho3, uo⟩ := Tr.apex_out (Tr.inn_all hi2) (by rw [Nat.zero_add]; exact (ropes_bd hnew).2)
  have em2 : m2 = m3 := u m2 U2.F.btw.1 U2.F.btw.2 U2.F.am U2.F.mb
  have eo2 : o2 = o3 := uo o2 U2.F.out
  have kam : (x, m) ∈ t'.all 0 := keep U.F.am (fun e => by have := (Prod.mk.inj e).2; omega)
  have kmb : (m, y) ∈ t'.all 0 := keep U.F.mb (fun e => by have := (Prod.mk.inj e).1; omega)
  have both : min m2 o2 = x ∧ max m2 o2 = y := by
    rcases U.F.out with ⟨ho, h1, h2⟩ | ⟨ho, h1, h2⟩
    · have k1 := keep h1 (fun e => by have := (Prod.mk.inj e).2; omega)
      have k2 := keep h2 (fun e => by have := (Prod.mk.inj e).1; omega)
      have e1 : min m o = o := by omega
      have e2 : max m o = m := by omega
      rw [e1, e2] at u uo
      have ex : x = m3 := u x ho b.1 k1 kam
      have ey : y = o3 := uo y (.inr ⟨b.2, k2, kmb⟩)
      omega
    · have k1 := keep h1 (fun e => by have := (Prod.mk.inj e).2; omega)
      have k2 := keep h2 (fun e => by have := (Prod.mk.inj e).1; omega)
      have e1 : min m o = m := by omega
      have e2 : max m o = o := by omega
      rw [e1, e2] at u uo
      have ey : y = m3 := u y b.2 ho kmb k2
      have ex : x = o3 := uo x (.inl ⟨b.1, kam, k1⟩)
      omega
  refine rising_eq (sortP_rising _) C.rise ?_
  have p2 := U2.cut'.perm
  refine p2.trans ?_
  have q1 : (t2.ropes 0).Perm ((x, y) :: R2) := by have := U2.F.new; rw [both.1, both.2] at this; exact this
  have q2 : R2.Perm R := by
    have z := (U2.F.old.symm.trans U.F.new).cons_inv
    exact z
  refine (q1.map castP).trans ?_
  refine ((q2.cons _).map castP).trans ?_
  exact ((C.perm.trans (U.F.old.map castP))).symm
end
end Pm
namespace Pm
open PySem PySem.Spec PyProof.Rows L2
def crossP (a b c d : Int) : Prop := (c ≠ min a b ∧ c ≠ max a b ∧ d ≠ min a b ∧ d ≠ max a b) ∧ ¬ ((min a b < c ∧ c < max a b) ↔ (min a b < d ∧ d < max a b))
instance (a b c d : Int) : Decidable (crossP a b c d) := by unfold crossP; exact inferInstance
theorem cross_iff {a b c d : Int} (h1 : a < b) (h2 : c < d) : crossP a b c d ↔ (a < c ∧ c < b ∧ b < d) ∨ (c < a ∧ a < d ∧ d < b) := by
  unfold crossP
  rw [Int.min_eq_left (by omega), Int.max_eq_right (by omega)]
  omega
/-- ties of a cutting do not cross -/
theorem Cutting.nocross {n : Nat} {cut : List IP} {t : Tr} (C : Cutting n cut t) {p q : IP} (hp : p ∈ tiesL n cut) (hq : q ∈ tiesL n cut) : ¬ crossP p.1 p.2 q.1 q.2 := by
  obtain ⟨⟨a, b⟩, ha, rfl⟩ := C.ties.mp hp
  obtain ⟨⟨c, d⟩, hc, rfl⟩ := C.ties.mp hq
  have h1 := Tr.bd ha
  have h2 := Tr.bd hc
  simp only at h1 h2
  have n1 := Tr.noncross ha hc
  have n2 := Tr.noncross hc ha
  simp only at n1 n2
  simp only [castP]
  rw [cross_iff (by omega) (by omega)]
  omega
section
variable {n : Nat} {cut : List IP} {t t' : Tr} {x y m o : Nat} {R : List (Nat × Nat)}
theorem Turning.rope_mem (U : Turning n cut t t' x y m o R) : (x, y) ∈ t.ropes 0 := U.F.old.mem_iff.mpr List.mem_cons_self
theorem Turning.new_mem (U : Turning n cut t t' x y m o R) : (min m o, max m o) ∈ t'.ropes 0 := U.F.new.mem_iff.mpr List.mem_cons_self
theorem Turning.cutP (C : Cutting n cut t) (U : Turning n cut t t' x y m o R) : cut.Perm (castP (x, y) :: R.map castP) := C.perm.trans (U.F.old.map castP)
theorem Turning.newP (U : Turning n cut t t' x y m o R) : (turnedL n cut x y).Perm (castP (min m o, max m o) :: R.map castP) := U.cut'.perm.trans (U.F.new.map castP)
theorem Turning.len (C : Cutting n cut t) (U : Turning n cut t t' x y m o R) : (turnedL n cut x y).length = cut.length := by
  rw [U.newP.length_eq, (U.cutP C).length_eq] <;> rfl
theorem Turning.new_cross (C : Cutting n cut t) (U : Turning n cut t t' x y m o R) : crossP (castP (min m o, max m o)).1 (castP (min m o, max m o)).2 (castP (x, y)).1 (castP (x, y)).2 := by
  have c := U.cross C
  have b := U.F.btw
  simp only [castP]
  rw [cross_iff (by omega) (by omega)]
  omega
theorem Turning.new_notin (C : Cutting n cut t) (U : Turning n cut t t' x y m o R) : castP (min m o, max m o) ∉ tiesL n cut := fun h => by
  exact C.nocross h (mem_ties.mpr (.inr (C.mem.mpr ⟨_, U.rope_mem, rfl⟩))) (U.new_cross C)
theorem Turning.old_notin (C : Cutting n cut t) (U : Turning n cut t t' x y m o R) : castP (x, y) ∉ turnedL n cut x y := fun h => by
  have h2 : castP (x, y) ∈ tiesL n (turnedL n cut x y) := mem_ties.mpr (.inr h)
  have h3 : castP (min m o, max m o) ∈ tiesL n (turnedL n cut x y) := mem_ties.mpr (.inr (U.cut'.mem.mpr ⟨_, U.new_mem, rfl⟩))
  exact U.cut'.nocross h3 h2 (U.new_cross C)
theorem Turning.fresh (C : Cutting n cut t) (U : Turning n cut t t' x y m o R) : (turnedL n cut x y).filter (fun p => !decide (p ∈ cut)) = [castP (min m o, max m o)] := by
  have pp := U.newP.filter (fun p => !decide (p ∈ cut))
  rw [List.filter_cons_of_pos (by
    have : castP (min m o, max m o) ∉ cut := fun h => U.new_notin C (mem_ties.mpr (.inr h))
    simp [this])] at pp
  have e2 : (R.map castP).filter (fun p => !decide (p ∈ cut)) = [] := List.filter_eq_nil_iff.mpr (fun p hp => by
    have : p ∈ cut := (U.cutP C).mem_iff.mpr (List.mem_cons_of_mem _ hp)
    simp [this])
  rw [e2] at pp
  exact List.perm_singleton.mp pp
theorem Turning.keeps (C : Cutting n cut t) (U : Turning n cut t t' x y m o R) {p : IP} (hp : p ∈ cut) (hne : p ≠ castP (x, y)) : p ∈ turnedL n cut x y ∧ ¬ crossP p.1 p.2 (castP (min m o, max m o)).1 (castP (min m o, max m o)).2 := by
  have h1 : p ∈ turnedL n cut x y := by
    rcases List.mem_cons.mp ((U.cutP C).mem_iff.mp hp) with e | e
    · exact absurd e hne
    · exact U.newP.mem_iff.mpr (List.mem_cons_of_mem _ e)
  exact ⟨h1, U.cut'.nocross (mem_ties.mpr (.inr h1)) (mem_ties.mpr (.inr (U.cut'.mem.mpr ⟨_, U.new_mem, rfl⟩)))⟩
theorem Turning.new_bd (C : Cutting n cut t) (U : Turning n cut t t' x y m o R) : min m o < max m o ∧ max m o < n := by
  have h := Tr.bd (Tr.inn_all (ropes_bd U.new_mem).1)
  have := U.cut'.w
  simp only at h
  omega
end
/-- any two numbers that are a rope -/
theorem Cutting.rope_of {n : Nat} {cut : List IP} {t : Tr} (C : Cutting n cut t) {a b : Int} (h : tieOf a b ∈ cut) : ∃ x y : Nat, (x, y) ∈ t.ropes 0 ∧ tieOf a b = castP (x, y) ∧ x < y ∧ y < n ∧ ((a = x ∧ b = y) ∨ (a = y ∧ b = x)) := by
  obtain ⟨⟨x, y⟩, hq, e⟩ := C.mem.mp h
  have hb := Tr.bd (Tr.inn_all (ropes_bd hq).1)
  have hw := C.w
  simp only at hb
  refine ⟨x, y, hq, e, hb.2.1, by omega, ?_⟩
  have e1 := congrArg Prod.fst e
  have e2 := congrArg Prod.snd e
  simp only [tieOf, castP] at e1 e2
  omega
theorem Cutting.turned_any {n : Nat} {cut : List IP} {t : Tr} (C : Cutting n cut t) {a b : Int} (h : tieOf a b ∈ cut) : ∃ t' x y m o R, Turning n cut t t' x y m o R ∧ tieOf a b = castP (x, y) ∧ turnedL n cut a b = turnedL n cut x y := by
  obtain ⟨x, y, hq, e, _, _, c⟩ := C.rope_of h
  obtain ⟨t', m, o, R, U⟩ := C.turn hq
  refine ⟨t', x, y, m, o, R, U, e, ?_⟩
  rcases c with ⟨rfl, rfl⟩ | ⟨rfl, rfl⟩
  · rfl
  · exact turned_comm _ _ _ _
end Pm
namespace Pm
inductive ND where
  | i (n : Int)
  | t (xs : List ND)
namespace ND
mutual
def cmp : ND → ND → Ordering
  | .i a, .i b => compare a b
  | .i _, .t _ => .lt
  | .t _, .i _ => .gt
  | .t xs, .t ys => cmpL xs ys
def cmpL : List ND → List ND → Ordering
  | [], [] => .eq
  | [], _ :: _ => .lt
  | _ :: _, [] => .gt
  | x :: xs, y :: ys => (cmp x y).then (cmpL xs ys)
end
mutual
theorem cmp_swap : ∀ x y : ND, cmp y x = (cmp x y).swap
  | .i a, .i b => by simp only [cmp]; exact Std.OrientedCmp.eq_swap
  | .i _, .t _ => rfl
  | .t _, .i _ => rfl
  | .t xs, .t ys => by simp only [cmp]; exact cmpL_swap xs ys
theorem cmpL_swap : ∀ xs ys : List ND, cmpL ys xs = (cmpL xs ys).swap
  | [], [] => rfl
  | [], _ :: _ => rfl
  | _ :: _, [] => rfl
  | x :: xs, y :: ys => by
    simp only [cmpL]
    rw [cmp_swap x y, cmpL_swap xs ys]
    cases cmp x y <;> cases cmpL xs ys <;> rfl
end
mutual
theorem cmp_eq : ∀ {x y : ND}, cmp x y = .eq → x = y
  | .i a, .i b, h => by
    simp only [cmp] at h
    rw [show a = b from Std.LawfulEqCmp.eq_of_compare h]
  | .i _, .t _, h => by cases h
  | .t _, .i _, h => by cases h
  | .t xs, .t ys, h => by
    simp only [cmp] at h
    rw [cmpL_eq h]
theorem cmpL_eq : ∀ {xs ys : List ND}, cmpL xs ys = .eq → xs = ys
  | [], [], _ => rfl
  | [], _ :: _, h => by cases h
  | _ :: _, [], h => by cases h
  | x :: xs, y :: ys, h => by
    simp only [cmpL] at h
    cases e : cmp x y with
    | eq =>
      rw [e] at h
      rw [cmp_eq e, cmpL_eq (xs := xs) (ys := ys) h]
    | lt => rw [e] at h; cases h
    | gt => rw [e] at h; cases h
end
theorem int_lt {a b : Int} : compare a b = .lt ↔ a < b := Int.compare_eq_lt
mutual
theorem cmp_trans : ∀ {x y z : ND}, cmp x y = .lt → cmp y z = .lt → cmp x z = .lt
  | .i a, .i b, .i c, h, k => by
    simp only [cmp] at h k ⊢
    rw [int_lt] at h k ⊢
    omega
  | .i _, .i _, .t _, _, _ => rfl
  | .i _, .t _, .i _, _, k => by cases k
  | .i _, .t _, .t _, _, _ => rfl
  | .t _, .i _, _, h, _ => by cases h
  | .t _, .t _, .i _, _, k => by cases k
  | .t xs, .t ys, .t zs, h, k => by
    simp only [cmp] at h k ⊢
    exact cmpL_trans h k
theorem cmpL_trans : ∀ {xs ys zs : List ND}, cmpL xs ys = .lt → cmpL ys zs = .lt → cmpL xs zs = .lt
  | [], [], _, h, _ => by cases h
  | [], _ :: _, [], _, k => by cases k
  | [], _ :: _, _ :: _, _, _ => rfl
  | _ :: _, [], _, h, _ => by cases h
  | _ :: _, _ :: _, [], _, k => by cases k
  | x :: xs, y :: ys, z :: zs, h, k => by
    simp only [cmpL] at h k ⊢
    cases e1 : cmp x y with
    | gt => rw [e1] at h; cases h
    | lt =>
      cases e2 : cmp y z with
      | gt => rw [e2] at k; cases k
      | lt => rw [cmp_trans e1 e2]; rfl
      | eq => rw [← cmp_eq e2, e1]; rfl
    | eq =>
      rw [e1] at h
      have h : cmpL xs ys = .lt := h
      have e := cmp_eq e1
      subst e
      cases e2 : cmp x z with
      | gt => rw [e2] at k; cases k
      | lt => rfl
      | eq =>
        rw [e2] at k
        have k : cmpL ys zs = .lt := k
        show (Ordering.eq).then (cmpL xs zs) = .lt
        exact cmpL_trans (xs := xs) h k
end
def ltB (x y : ND) : Bool := cmp x y == .lt
theorem ltB_iff {x y : ND} : ltB x y = true ↔ cmp x y = .lt := by unfold ltB; cases cmp x y <;> simp
theorem ltB_no {x y : ND} : ltB x y = false ↔ cmp x y ≠ .lt := by unfold ltB; cases cmp x y <;> simp
theorem ltB_asym {x y : ND} (h : ltB x y = true) : ltB y x = false := by
  rw [ltB_iff] at h
  rw [ltB_no, cmp_swap x y, h]
  simp
theorem ltB_tr {x y z : ND} (h1 : ltB y x = false) (h2 : ltB z y = false) : ltB z x = false := by
  rw [ltB_no] at *
  intro h
  cases e : cmp x y with
  | lt => exact h2 (cmp_trans h e)
  | eq => exact h2 (by rw [← cmp_eq e]; exact h)
  | gt => exact h1 (by rw [cmp_swap x y, e]; rfl)
def leB (x y : ND) : Bool := !ltB y x
theorem leB_trans (x y z : ND) (h : leB x y = true) (k : leB y z = true) : leB x z = true := by
  unfold leB at *
  rw [Bool.not_eq_true'] at *
  exact ltB_tr h k
theorem leB_total (x y : ND) : (leB x y || leB y x) = true := by
  unfold leB
  cases e : ltB y x with
  | false => rfl
  | true => rw [ltB_asym e]; rfl
theorem leB_anti {x y : ND} (h : leB x y = true) (k : leB y x = true) : x = y := by
  unfold leB at *
  rw [Bool.not_eq_true', ltB_no] at *
  cases e : cmp x y with
  | eq => exact cmp_eq e
  | lt => exact absurd e k
  | gt => exact absurd (by rw [cmp_swap x y, e]; rfl) h
abbrev Ris (ds : List ND) : Prop := ds.Pairwise fun x y => leB x y = true
def sort (ds : List ND) : List ND := ds.mergeSort leB
theorem sort_perm (ds : List ND) : (sort ds).Perm ds := List.mergeSort_perm ds leB
theorem sort_ris (ds : List ND) : Ris (sort ds) := List.pairwise_mergeSort leB_trans leB_total ds
theorem ris_eq {ds es : List ND} (h : Ris ds) (k : Ris es) (e : ds.Perm es) : ds = es := List.Perm.eq_of_pairwise (fun _ _ _ _ a b => leB_anti a b) h k e
theorem sort_eq {ds es : List ND} (h : Ris ds) (e : ds.Perm es) : sort es = ds := ris_eq (sort_ris es) h ((sort_perm es).trans e.symm)
mutual
def py : ND → PySem.PyData
  | .i n => .int n
  | .t xs => .tuple (pyL xs)
def pyL : List ND → List PySem.PyData
  | [] => []
  | x :: xs => py x :: pyL xs
end
theorem pyL_map : ∀ xs : List ND, pyL xs = xs.map py
  | [] => rfl
  | x :: xs => by rw [pyL, pyL_map xs]; rfl
mutual
def of : PySem.PyData → ND
  | .int n => .i n
  | .tuple xs => .t (ofL xs)
  | .list _ => .i 0
  | .dict _ => .i 0
  | .none => .i 0
  | .bool _ => .i 0
  | .str _ => .i 0
def ofL : List PySem.PyData → List ND
  | [] => []
  | x :: xs => of x :: ofL xs
end
mutual
theorem of_py : ∀ d : ND, of (py d) = d
  | .i n => by simp only [py, of]
  | .t xs => by simp only [py, of]; rw [ofL_pyL xs]
theorem ofL_pyL : ∀ ds : List ND, ofL (pyL ds) = ds
  | [] => rfl
  | x :: xs => by simp only [pyL, ofL]; rw [of_py x, ofL_pyL xs]
end
mutual
theorem lay : ∀ d : ND, (py d).canLay0 = true
  | .i n => by simp only [py, PySem.PyData.canLay0]
  | .t xs => by simp only [py, PySem.PyData.canLay0]; exact layL xs
theorem layL : ∀ ds : List ND, PySem.PyData.canLayAll0 (pyL ds) = true
  | [] => by simp only [pyL, PySem.PyData.canLayAll0]
  | x :: xs => by simp only [pyL, PySem.PyData.canLayAll0]; rw [lay x, layL xs]; rfl
end
mutual
theorem eqv_py : ∀ x y : ND, PySem.PyData.eqv (py x) (py y) = (cmp x y == .eq)
  | .i a, .i b => by
    simp only [py, PySem.PyData.eqv, cmp]
    by_cases h : a = b
    · subst h; simp
    · have : compare a b ≠ .eq := fun e => h (Std.LawfulEqCmp.eq_of_compare e)
      cases e : compare a b <;> simp_all
  | .i _, .t _ => by simp only [py, PySem.PyData.eqv, cmp]; rfl
  | .t _, .i _ => by simp only [py, PySem.PyData.eqv, cmp]; rfl
  | .t xs, .t ys => by simp only [py, PySem.PyData.eqv, cmp]; exact eqvAll_py xs ys
theorem eqvAll_py : ∀ xs ys : List ND, PySem.PyData.eqvAll (pyL xs) (pyL ys) = (cmpL xs ys == .eq)
  | [], [] => by simp [pyL, PySem.PyData.eqvAll, cmpL]
  | [], _ :: _ => by simp [pyL, PySem.PyData.eqvAll, cmpL]
  | _ :: _, [] => by simp [pyL, PySem.PyData.eqvAll, cmpL]
  | x :: xs, y :: ys => by
    simp only [pyL, PySem.PyData.eqvAll, cmpL]
    rw [eqv_py x y, eqvAll_py xs ys]
    cases cmp x y <;> cases cmpL xs ys <;> rfl
end
theorem eqv_false {x y : ND} (h : PySem.PyData.eqv (py x) (py y) = false) : cmp x y ≠ .eq := fun e => by
  rw [eqv_py, e] at h
  cases h
theorem eqv_true {x y : ND} (h : PySem.PyData.eqv (py x) (py y) = true) : cmp x y = .eq := by
  rw [eqv_py] at h
  cases e : cmp x y with
  | eq => rfl
  | lt => rw [e] at h; cases h
  | gt => rw [e] at h; cases h
mutual
def hom : ND → ND → Bool
  | .i _, .i _ => true
  | .t xs, .t ys => homL xs ys
  | .i _, .t _ => false
  | .t _, .i _ => false
def homL : List ND → List ND → Bool
  | [], _ => true
  | _ :: _, [] => true
  | x :: xs, y :: ys => hom x y && homL xs ys
end
def dep (d : ND) : Nat := (py d).depth
end ND
open PySem PySem.Spec PyProof.Rows L2
theorem readsAll_at {h : Heap} : ∀ {vs : List Value} {ds : List PyData} {as : List Addr} {j : Nat} (_ : ReadsAll h vs ds as) (h1 : j < vs.length) (h2 : j < ds.length), ∃ bs, Reads h vs[j] ds[j] bs
  | _ :: _, _ :: _, _, 0, .cons r _, _, _ => ⟨_, r⟩
  | _ :: _, _ :: _, _, j + 1, .cons _ t, h1, h2 => readsAll_at t (Nat.lt_of_succ_lt_succ h1) (Nat.lt_of_succ_lt_succ h2)
theorem lexAt_shift (e r : Nat → Bool) (z : Bool) : ∀ (k i : Nat), Ob.lexAt (fun j => e (j + 1)) (fun j => r (j + 1)) z i k = Ob.lexAt e r z (i + 1) k
  | 0, _ => rfl
  | k + 1, i => by
    show (if e (i + 1) = true then Ob.lexAt _ _ z (i + 1) k else r (i + 1)) = (if e (i + 1) = true then Ob.lexAt e r z (i + 1 + 1) k else r (i + 1))
    rw [lexAt_shift e r z k (i + 1)]
theorem lexAt_cmp : ∀ (xs ys : List ND), Ob.lexAt (fun j => ND.cmp (xs.getD j (.i 0)) (ys.getD j (.i 0)) == .eq) (fun j => ND.ltB (xs.getD j (.i 0)) (ys.getD j (.i 0))) (decide (xs.length < ys.length)) 0 (min xs.length ys.length) = (ND.cmpL xs ys == .lt)
  | [], [] => rfl
  | [], y :: ys => by simp [Ob.lexAt, ND.cmpL]
  | x :: xs, [] => by simp [Ob.lexAt, ND.cmpL]
  | x :: xs, y :: ys => by
    have ih := lexAt_cmp xs ys
    rw [List.length_cons, List.length_cons, show min (xs.length + 1) (ys.length + 1) = min xs.length ys.length + 1 by omega, Ob.lexAt_succ]
    rw [← lexAt_shift]
    show (if (ND.cmp x y == .eq) = true then Ob.lexAt (fun j => ND.cmp (xs.getD j (.i 0)) (ys.getD j (.i 0)) == .eq) (fun j => ND.ltB (xs.getD j (.i 0)) (ys.getD j (.i 0))) (decide (xs.length + 1 < ys.length + 1)) 0 _ else ND.ltB x y) = ((ND.cmp x y).then (ND.cmpL xs ys) == .lt)
    rw [show decide (xs.length + 1 < ys.length + 1) = decide (xs.length < ys.length) from decide_eq_decide.mpr (by omega), ih]
    unfold ND.ltB
    cases ND.cmp x y <;> rfl
theorem py_getD (xs : List ND) {j : Nat} (h : j < (ND.pyL xs).length) : (ND.pyL xs)[j] = ND.py (xs.getD j (.i 0)) := by
  have h' : j < xs.length := by rw [ND.pyL_map, List.length_map] at h; exact h
  rw [List.getD_eq_getElem?_getD, List.getElem?_eq_getElem h']
  simp only [ND.pyL_map, List.getElem_map, Option.getD_some]
theorem depL (xs : List ND) (j : Nat) : (ND.py (xs.getD j (.i 0))).depth ≤ PyData.depthAll (ND.pyL xs) := by
  induction xs generalizing j with
  | nil => show PyData.depth (.int 0) ≤ _; simp [PyData.depth]
  | cons x xs ih =>
    cases j with
    | zero =>
      show (ND.py x).depth ≤ PyData.depthAll (ND.py x :: ND.pyL xs)
      simp only [PyData.depthAll]
      omega
    | succ j =>
      have := ih j
      show (ND.py (xs.getD j (.i 0))).depth ≤ PyData.depthAll (ND.py x :: ND.pyL xs)
      simp only [PyData.depthAll]
      omega
theorem hom_at : ∀ {xs ys : List ND} {j : Nat}, ND.homL xs ys = true → j < xs.length → j < ys.length → ND.hom (xs.getD j (.i 0)) (ys.getD j (.i 0)) = true
  | x :: xs, y :: ys, 0, h, _, _ => by
    simp only [ND.homL, Bool.and_eq_true] at h
    exact h.1
  | x :: xs, y :: ys, j + 1, h, h1, h2 => by
    simp only [ND.homL, Bool.and_eq_true] at h
    exact hom_at (xs := xs) (ys := ys) h.2 (Nat.lt_of_succ_lt_succ h1) (Nat.lt_of_succ_lt_succ h2)
theorem nd_size : ∀ (xs : List ND) (j : Nat), j < xs.length → sizeOf (xs.getD j (.i 0)) < sizeOf xs
  | x :: xs, 0, _ => by show sizeOf x < sizeOf (x :: xs); simp; omega
  | x :: xs, j + 1, h => by
    have := nd_size xs j (Nat.lt_of_succ_lt_succ h)
    show sizeOf (xs.getD j (.i 0)) < sizeOf (x :: xs)
    simp only [List.cons.sizeOf_spec]
    omega
/-- x < y of nested tuples of numbers of one form -/
theorem rc_lt : ∀ (x y : ND) (A : Around) (s : Shared) (a b : Value) (as bs : List Addr), Reads s.heap a x.py as → Reads s.heap b y.py bs → ND.hom x y = true → A.units + min x.dep y.dep < cLine → Ob.RcOp .Lt A s a b (ND.ltB x y)
  | .i p, .i q, A, s, a, b, as, bs, ra, rb, _, hu => by
    simp only [ND.py] at ra rb
    cases ra
    cases rb
    have e : ND.ltB (.i p) (.i q) = decide (p < q) := by
      unfold ND.ltB
      simp only [ND.cmp]
      by_cases h : p < q
      · rw [decide_eq_true h, ND.int_lt.mpr h]; rfl
      · rw [decide_eq_false h]
        have : compare p q ≠ .lt := fun e => h (ND.int_lt.mp e)
        cases e : compare p q <;> simp_all
    rw [e]
    exact Ob.RcOp.lt_int _ _ _ _
  | .t xs, .t ys, A, s, a, b, as, bs, ra, rb, hh, hu => by
    simp only [ND.py] at ra rb
    cases ra with
    | tuple k1 k2 k3 k4 =>
      cases rb with
      | tuple l1 l2 l3 l4 =>
        rename_i a oa vs na b ob ws nb
        have n1 := SeqAt.ReadsAll.length _ _ _ k4
        have n2 := SeqAt.ReadsAll.length _ _ _ l4
        simp only [ND.hom] at hh
        have dx : (ND.t xs).dep = PyData.depthAll (ND.pyL xs) + 1 := by simp only [ND.dep, ND.py, PyData.depth]
        have dy : (ND.t ys).dep = PyData.depthAll (ND.pyL ys) + 1 := by simp only [ND.dep, ND.py, PyData.depth]
        rw [dx, dy] at hu
        have px : (ND.pyL xs).length = xs.length := by rw [ND.pyL_map, List.length_map]
        have py' : (ND.pyL ys).length = ys.length := by rw [ND.pyL_map, List.length_map]
        have e1 : vs.size = xs.length := by rw [← px, ← n1, Array.length_toList]
        have e2 : ws.size = ys.length := by rw [← py', ← n2, Array.length_toList]
        have in1 : A.in1.units = A.units + 1 := rfl
        have R := Ob.RcOp.tuples_lt (A := A) (s := s) (e := fun j => ND.cmp (xs.getD j (.i 0)) (ys.getD j (.i 0)) == .eq) (r := fun j => ND.ltB (xs.getD j (.i 0)) (ys.getD j (.i 0))) ⟨_, k1, k2, _, k3⟩ ⟨_, l1, l2, _, l3⟩ (by omega)
          (fun j h1 h2 => by
            obtain ⟨cs, r1⟩ := readsAll_at (j := j) k4 (by simpa using h1) (by omega)
            obtain ⟨ds, r2⟩ := readsAll_at (j := j) l4 (by simpa using h2) (by omega)
            rw [py_getD] at r1 r2
            have z := SeqAt.eqAt_reads _ _ A.in1 s _ _ _ _ r1 r2 (ND.lay _) (ND.lay _) (by have := depL xs j; have := depL ys j; rw [in1]; omega)
            rw [ND.eqv_py] at z
            simpa using z)
          (fun j h1 h2 _ => by
            obtain ⟨cs, r1⟩ := readsAll_at (j := j) k4 (by simpa using h1) (by omega)
            obtain ⟨ds, r2⟩ := readsAll_at (j := j) l4 (by simpa using h2) (by omega)
            rw [py_getD] at r1 r2
            have sz := nd_size xs j (by omega)
            have z := rc_lt (xs.getD j (.i 0)) (ys.getD j (.i 0)) A.in1 s _ _ _ _ r1 r2 (hom_at hh (by omega) (by omega)) (by have := depL xs j; have := depL ys j; rw [in1]; simp only [ND.dep]; omega)
            simpa using z)
        rw [e1, e2, lexAt_cmp] at R
        exact R
  | .i _, .t _, _, _, _, _, _, _, _, _, h, _ => by simp [ND.hom] at h
  | .t _, .i _, _, _, _, _, _, _, _, _, h, _ => by simp [ND.hom] at h
termination_by x => sizeOf x
decreasing_by simp only [ND.t.sizeOf_spec]; omega
mutual
theorem reads_keep {h h' : Heap} (k : ∀ b o, h.get? b = some o → o.cls = .type "tuple" → h'.get? b = some o) : ∀ (d : ND) (v : Value) (as : List Addr), Reads h v d.py as → Reads h' v d.py as
  | .i n, v, as, r => by
    simp only [ND.py] at r ⊢
    cases r
    exact .int _ _
  | .t xs, v, as, r => by
    simp only [ND.py] at r ⊢
    cases r with
    | tuple k1 k2 k3 k4 => exact .tuple (k _ _ k1 k2) k2 k3 (readsL_keep k xs _ _ k4)
theorem readsL_keep {h h' : Heap} (k : ∀ b o, h.get? b = some o → o.cls = .type "tuple" → h'.get? b = some o) : ∀ (ds : List ND) (vs : List Value) (as : List Addr), ReadsAll h vs (ND.pyL ds) as → ReadsAll h' vs (ND.pyL ds) as
  | [], vs, as, r => by
    simp only [ND.pyL] at r ⊢
    cases r
    exact .nil
  | d :: ds, vs, as, r => by
    simp only [ND.pyL] at r ⊢
    cases r with
    | cons r1 r2 => exact .cons (reads_keep k d _ _ r1) (readsL_keep k ds _ _ r2)
end
section
variable {prog : Program} {w : World} {A : Around} {E : Value → Shared → Prop} {s : Shared}
theorem kat_all {b : Bool} : ∀ (xs ys : List ND) (vs ws : List Value) (as bs : List Addr) (i : Nat), ReadsAll s.heap vs (ND.pyL xs) as → ReadsAll s.heap ws (ND.pyL ys) bs → ND.homL xs ys = true → A.units + max (PyData.depthAll (ND.pyL xs)) (PyData.depthAll (ND.pyL ys)) < cLine →
    ((b && i == 0) = true → ∀ x ∈ xs, ∃ n r, xs = .i n :: r) → PySem.W.KatLex prog w A b (decide (xs.length < ys.length)) (fun r s' => s' = s ∧ r = (ND.cmpL xs ys == .lt)) (vs.zip ws) i s
  | [], [], vs, ws, as, bs, i, ra, rb, _, _, _ => by
    simp only [ND.pyL] at ra rb
    cases ra
    cases rb
    exact PySem.W.kat_nil ⟨rfl, rfl⟩
  | [], y :: ys, vs, ws, as, bs, i, ra, rb, _, _, _ => by
    simp only [ND.pyL] at ra rb
    cases ra
    exact PySem.W.kat_nil ⟨rfl, by simp [ND.cmpL]⟩
  | x :: xs, [], vs, ws, as, bs, i, ra, rb, _, _, _ => by
    simp only [ND.pyL] at ra rb
    cases rb
    rw [List.zip_nil_right]
    exact PySem.W.kat_nil ⟨rfl, by simp [ND.cmpL]⟩
  | x :: xs, y :: ys, vs, ws, as, bs, i, ra, rb, hh, hu, hb => by
    simp only [ND.pyL] at ra rb hu
    simp only [PyData.depthAll] at hu
    simp only [ND.homL, Bool.and_eq_true] at hh
    cases ra with
    | cons r1 r2 =>
      cases rb with
      | cons q1 q2 =>
        rename_i v vs' as1 as2 u us' bs1 bs2
        rw [List.zip_cons_cons]
        have ee := SeqAt.eqAt_reads _ _ A s _ _ _ _ r1 q1 (ND.lay x) (ND.lay y) (by omega)
        refine PySem.W.kat_cons (ee prog w _ _ ?_)
        refine PySem.W.kat_go (fun e1 => ?_) (fun e1 => ?_)
        · have ec := ND.eqv_true e1
          have ih := kat_all (b := b) xs ys vs' us' _ _ (i + 1) r2 q2 hh.2 (by omega) (fun z => by simp at z)
          rw [List.length_cons, List.length_cons, show decide (xs.length + 1 < ys.length + 1) = decide (xs.length < ys.length) from decide_eq_decide.mpr (by omega)]
          refine PySem.W.kat_yes ?_
          have ev : ND.cmpL (x :: xs) (y :: ys) = ND.cmpL xs ys := by simp only [ND.cmpL]; rw [ec]; rfl
          rw [ev]
          exact ih
        · have ec := ND.eqv_false e1
          have ev : (ND.cmpL (x :: xs) (y :: ys) == .lt) = ND.ltB x y := by
            simp only [ND.cmpL, ND.ltB]
            cases e : ND.cmp x y with
            | eq => exact absurd e ec
            | lt => rfl
            | gt => rfl
          rw [ev]
          refine PySem.W.kat_no ?_
          cases hc : (b && i == 0) with
          | true =>
            obtain ⟨n, r, en⟩ := hb hc x List.mem_cons_self
            injection en with en _
            subst en
            cases y with
            | t _ => simp [ND.hom] at hh
            | i m =>
              simp only [ND.py] at r1 q1
              cases r1
              cases q1
              refine TS.oneLt_ints true ?_
              refine ⟨rfl, ?_⟩
              unfold ND.ltB
              simp only [ND.cmp]
              by_cases h : n < m
              · rw [decide_eq_true h, ND.int_lt.mpr h]; rfl
              · rw [decide_eq_false h]
                have : compare n m ≠ .lt := fun e => h (ND.int_lt.mp e)
                cases e : compare n m <;> simp_all
          | false =>
            refine PySem.W.kat_one _ _ ?_
            exact rc_lt x y A s _ _ _ _ r1 q1 hh.1 (by simp only [ND.dep]; omega) prog w _ _ ⟨rfl, rfl⟩
noncomputable def datOf (h : Heap) (v : Value) : ND := ND.of (SeqAt.readOf h v)
theorem datOf_eq {h : Heap} {v : Value} {d : ND} {as : List Addr} (r : Reads h v d.py as) : datOf h v = d := by
  unfold datOf
  rw [SeqAt.readOf_eq (ND.lay d) r, ND.of_py]
/-- what a list to be sorted holds: tuples, not empty, of one form -/
structure SrtOk (ds : List ND) : Prop where
  tup : ∀ d ∈ ds, ∃ f r, d = .t (f :: r)
  hom : ∀ d ∈ ds, ∀ e ∈ ds, ND.hom d e = true
  dep : ∀ d ∈ ds, d.dep ≤ 8
theorem swo_dat (f : Value → ND) : SrtO.Swo fun v u => ND.ltB (f v) (f u) := ⟨fun _ _ h => ND.ltB_asym h, fun _ _ _ h1 h2 => ND.ltB_tr h1 h2⟩
theorem firsts_nd : ∀ {h : Heap} {vs : List Value} {ds : List ND}, All2 (fun v d => ∃ as, Reads h v (ND.py d) as) vs ds → (∀ d ∈ ds, ∃ f r, d = .t (f :: r)) →
    ∃ fs : List Value, PySem.W.KatTups h vs fs ∧ fs.length = vs.length ∧ ∀ f ∈ fs, ∃ d g r as, d ∈ ds ∧ d = .t (g :: r) ∧ Reads h f g.py as
  | _, [], [], _, _ => ⟨[], .nil, rfl, fun _ hf => absurd hf List.not_mem_nil⟩
  | h, v :: vs, d :: ds, ha, ht => by
    obtain ⟨⟨as, r⟩, ha'⟩ := ha
    obtain ⟨fs, k, kl, kf⟩ := firsts_nd ha' fun d hd => ht d (List.mem_cons_of_mem _ hd)
    obtain ⟨g, rr, e⟩ := ht d List.mem_cons_self
    subst e
    simp only [ND.py, ND.pyL] at r
    cases r with
    | tuple k1 k2 k3 k4 =>
      rename_i a o ws n
      obtain ⟨wl⟩ := ws
      cases k4 with
      | cons q1 q2 =>
        rename_i x xs bs cs
        refine ⟨x :: fs, .cons k1 k2 k3 (by simp) k, by simp [kl], fun f hf => ?_⟩
        rcases List.mem_cons.mp hf with e | e
        · subst e
          exact ⟨_, g, rr, _, List.mem_cons_self, rfl, q1⟩
        · obtain ⟨d, g', r', as', h1, h2, h3⟩ := kf f e
          exact ⟨d, g', r', as', List.mem_cons_of_mem _ h1, h2, h3⟩
theorem nd_sortable {a : Addr} {vs : List Value} {ds : List ND} (h0 : 0 < vs.length) (hp : All2 (fun v d => ∃ as, Reads s.heap v (ND.py d) as) vs ds) (ok : SrtOk ds) (hu : A.units + 16 < cLine) (ha : ∀ o, s.heap.get? a = some o → o.cls ≠ .type "tuple") (f : Value → ND) (hf : ∀ v ∈ vs, ∀ d as, Reads s.heap v (ND.py d) as → f v = d) : SrtO.SortableO prog w A s a vs fun v u => ND.ltB (f v) (f u) := by
  intro h' keep
  have kt : ∀ b o, s.heap.get? b = some o → o.cls = .type "tuple" → h'.get? b = some o := fun b o e c => keep b o (fun z => by subst z; exact ha o e c) e
  have hp' : All2 (fun v d => ∃ as, Reads h' v (ND.py d) as) vs ds := hp.mono fun v d ⟨as, r⟩ => ⟨as, reads_keep kt d v as r⟩
  obtain ⟨fs, k1, k2, k3⟩ := firsts_nd hp' ok.tup
  -- the kind
  obtain ⟨f0, hf0⟩ : ∃ f0, f0 ∈ fs := by
    match fs, k2 with
    | [], k => simp at k; omega
    | x :: _, _ => exact ⟨x, List.mem_cons_self⟩
  obtain ⟨d0, g0, r0, as0, hd0, e0, rd0⟩ := k3 f0 hf0
  have same : ∀ f ∈ fs, ∃ g as, Reads h' f (ND.py g) as ∧ ND.hom g g0 = true := fun f hf => by
    obtain ⟨d, g, r, as, hd, e, rd⟩ := k3 f hf
    have hh := ok.hom d hd d0 hd0
    rw [e, e0] at hh
    simp only [ND.hom, ND.homL, Bool.and_eq_true] at hh
    exact ⟨g, as, rd, hh.1⟩
  have cmpB : ∀ b : Bool, (b = true → ∀ d ∈ ds, ∃ n r, d = .t (.i n :: r)) → SrtO.Cmp prog w A { s with heap := h' } (tuples' b) (fun p => p.1 ∈ vs) (SrtO.lt2 fun v u => ND.ltB (f v) (f u)) := fun b hb p q hm hm' => by
    obtain ⟨d, hd, as, rd⟩ := hp.mem hm
    obtain ⟨e, he, bs, re⟩ := hp.mem hm'
    have ef := hf _ hm d as rd
    have eg := hf _ hm' e bs re
    show wpAny (model prog w) A (keyLt' (tuples' b) p.1 q.1) (fun r s' => s' = _ ∧ r = ND.ltB (f p.1) (f q.1)) (fun _ _ => False) _
    rw [ef, eg]
    have rd' := reads_keep kt d _ _ rd
    have re' := reads_keep kt e _ _ re
    have hh := ok.hom d hd e he
    have dd := ok.dep d hd
    have de := ok.dep e he
    obtain ⟨g, r, rfl⟩ := ok.tup d hd
    obtain ⟨g', r', rfl⟩ := ok.tup e he
    have hb' : b = true → ∃ n, g = .i n := fun z => by
      obtain ⟨n, rr, en⟩ := hb z _ hd
      injection en with en
      injection en with en _
      exact ⟨n, en⟩
    generalize hv : p.1 = v at rd'
    generalize hw : q.1 = u at re'
    have dx : ∀ xs : List ND, (ND.t xs).dep = PyData.depthAll (ND.pyL xs) + 1 := fun xs => by simp only [ND.dep, ND.py, PyData.depth]
    rw [dx] at dd de
    have rd2 : Reads h' v (.tuple (ND.pyL (g :: r))) as := by simpa only [ND.py] using rd'
    have re2 : Reads h' u (.tuple (ND.pyL (g' :: r'))) bs := by simpa only [ND.py] using re'
    cases rd2 with
    | tuple k1 k2 k3 k4 =>
      cases re2 with
      | tuple l1 l2 l3 l4 =>
        rename_i va vo vvs vn ua uo uvs un
        refine PySem.W.kat_lt k1 k3 l1 l3 ?_
        have z := kat_all (prog := prog) (w := w) (A := A) (s := { s with heap := h' }) (b := b) (g :: r) (g' :: r') vvs.toList uvs.toList _ _ 0 k4 l4 (by simpa only [ND.hom] using hh) (by omega) (fun z x _ => by
          obtain ⟨n, en⟩ := hb' (by simpa using z)
          exact ⟨n, r, by rw [en]⟩)
        have n1 := SeqAt.ReadsAll.length _ _ _ k4
        have n2 := SeqAt.ReadsAll.length _ _ _ l4
        have m1 : vvs.size = (g :: r).length := by rw [← Array.length_toList, n1, ND.pyL_map, List.length_map]
        have m2 : uvs.size = (g' :: r').length := by rw [← Array.length_toList, n2, ND.pyL_map, List.length_map]
        rw [m1, m2]
        have ev : ND.ltB (.t (g :: r)) (.t (g' :: r')) = (ND.cmpL (g :: r) (g' :: r') == .lt) := by simp only [ND.ltB, ND.cmp]
        rw [ev]
        exact z
  cases g0 with
  | i n0 =>
    refine ⟨tuples' true, fun Q E hq => ?_, cmpB true fun _ d hd => ?_⟩
    · refine PySem.W.kat_kind (T := .type "int") k1 (by omega) (fun f hm => ?_) (by rfl) ?_
      · obtain ⟨g, as, rd, hh⟩ := same f hm
        cases g with
        | t _ => simp [ND.hom] at hh
        | i n =>
          simp only [ND.py] at rd
          cases rd
          exact PySem.W.Looks.now
      · have e : (Value.type "int" != Value.type "tuple") = true := by first | decide +kernel | rfl | decide
        rw [e]
        exact hq
    · have hh := ok.hom d hd d0 hd0
      obtain ⟨g, r, rfl⟩ := ok.tup d hd
      rw [e0] at hh
      simp only [ND.hom, ND.homL, Bool.and_eq_true] at hh
      cases g with
      | t _ => simp [ND.hom] at hh
      | i n => exact ⟨n, r, rfl⟩
  | t x0 =>
    refine ⟨tuples' false, fun Q E hq => ?_, cmpB false fun z => by cases z⟩
    refine PySem.W.kat_kind (T := .type "tuple") k1 (by omega) (fun f hm => ?_) (by rfl) ?_
    · obtain ⟨g, as, rd, hh⟩ := same f hm
      cases g with
      | i _ => simp [ND.hom] at hh
      | t xs =>
        simp only [ND.py] at rd
        cases rd with
        | tuple q1 q2 q3 q4 =>
          rename_i ga go gvs gn
          have z : PySem.W.Looks (model prog w) h' (typeOf (.ref ga)) go.cls := (PySem.W.Looks.ld q1).andThen .now
          rw [q2] at z
          exact z
    · have e : (Value.type "tuple" != Value.type "tuple") = false := by first | decide +kernel | rfl | decide
      rw [e]
      exact hq
end
section
variable {X : Cx} {K : PySem.W.Frag}
def rSortN (K : PySem.W.Frag) : List V → Hp → VK → Prop := fun vs H Q => ∃ (a : Addr) (xs : List V) (ds : List ND), vs = [V.ref a] ∧ SqL K H a xs ∧ All2 (fun x d => Dp K H x (ND.py d)) xs ds ∧ (∀ x ∈ xs, ∃ t, x = .ref t) ∧ SrtOk ds ∧
  ∀ (zs : List (V × ND)) p, zs.Perm (xs.zip ds) → zs.map (·.2) = ND.sort ds → H p = none → Q (.ref p) (upd H p (.lst (zs.map (·.1))))
theorem zip_map2 {α β γ : Type} (f : α → β) (g : α → γ) : ∀ l : List α, (l.map f).zip (l.map g) = l.map fun x => (f x, g x)
  | [] => rfl
  | x :: l => by rw [List.map_cons, List.map_cons, List.zip_cons_cons, zip_map2 f g l]; rfl
theorem reads2 {pins : List (Addr × Obj)} {σ : L2.St} {H : Hp} {s : Shared} (I : Inv X pins σ H s) : ∀ {xs : List V} {us : List Value} {ds : List ND}, Vals xs us → All2 (fun x d => Dp X.K H x (ND.py d)) xs ds → All2 (fun v d => ∃ as, Reads s.heap v (ND.py d) as) us ds
  | [], [], [], _, _ => trivial
  | _ :: _, _ :: _, _ :: _, .cons r t, h => ⟨Dp.reads I _ _ _ h.1 r, reads2 I t h.2⟩
  | [], _ :: _, _, r, _ => by cases r
  | _ :: _, [], _, r, _ => by cases r
theorem cr_sortN (hu : X.A.units + 40 < cLine) (e : X.K = K := by rfl) : CallR X (.builtin "sorted") (rSortN K) := by
  subst e
  intro pins s σ H vs us Q I r h
  obtain ⟨a, xs, ds, rfl, hs, hx, hrf, ok, q⟩ := h
  obtain ⟨its, rv, hl, hz⟩ := I.list hs
  obtain ⟨u, rfl, ru⟩ := vals1 r
  obtain rfl : u = Value.ref a := ru
  obtain ⟨e1, e2⟩ := refs_back rv fun x m => hrf x m
  have hR := reads2 I rv hx
  have hf : ∀ v ∈ its, ∀ d as, Reads s.heap v (ND.py d) as → datOf s.heap v = d := fun v _ d as r => datOf_eq r
  have hd : ∀ v ∈ its, ∃ as, Reads s.heap v (ND.py (datOf s.heap v)) as := fun v hv => by
    obtain ⟨d, _, as, rd⟩ := hR.mem hv
    rw [hf v hv d as rd]
    exact ⟨as, rd⟩
  have em : its.map (datOf s.heap) = ds := hR.map_eq fun v d ⟨as, rd⟩ => datOf_eq rd
  refine SrtO.sorted_ord (swo_dat (datOf s.heap)) hl.isList (by rw [← rv.length]; exact hz) (fun h2 h₁ b hb kk => ?_) fun out hs1 hs2 => ?_
  · have kt : ∀ c o, s.heap.get? c = some o → o.cls = .type "tuple" → h₁.get? c = some o := fun c o e _ => (kk c o e).2
    refine nd_sortable (s := { s with heap := h₁ }) (ds := ds) (by omega) (hR.mono fun v d ⟨as, rd⟩ => ⟨as, reads_keep kt d v as rd⟩) ok (by show X.A.units + 1 + 1 + 16 < cLine; omega) (fun o e => ?_) (datOf s.heap) (fun v hv d as rd => ?_)
    · have e' : some o = some (seqObj "list" its.toArray 0) := e.symm.trans hb
      cases e'
      intro c
      exact absurd (Value.type.inj c) (by decide)
    · obtain ⟨d', _, as', rd'⟩ := hR.mem hv
      rw [hf v hv d' as' rd']
      have z1 := datOf_eq (reads_keep kt d' v as' rd')
      have z2 := datOf_eq rd
      exact z1.symm.trans z2
  · have h3 : ∀ u ∈ out, ∃ a, u = Value.ref a := fun u hu => e2 u (hs2.perm.mem_iff.mp hu)
    have pm : (out.map backV).Perm xs := by rw [e1]; exact hs2.perm.map _
    have so : out.map (datOf s.heap) = ND.sort ds := by
      refine (ND.sort_eq ?_ ?_).symm
      · refine List.pairwise_map.mpr (hs1.imp fun {x y} z => ?_)
        have z : ND.ltB (datOf s.heap y) (datOf s.heap x) = false := z
        unfold ND.leB
        rw [z]
        rfl
      · rw [← em]; exact hs2.perm.map _
    obtain ⟨n, hn⟩ := sortedAll_at s.heap its out.toArray
    have ez : (out.map fun v => (backV v, datOf s.heap v)).map (·.1) = out.map backV := by rw [List.map_map]; rfl
    have ez2 : (out.map fun v => (backV v, datOf s.heap v)).map (·.2) = out.map (datOf s.heap) := by rw [List.map_map]; rfl
    refine ⟨.ref (s.heap.objs.size + 1), upd H (s.heap.objs.size + 1) (.lst (out.map backV)), I.laid (t' := s.toks) (fun b o e => sortedAll_old e) (Nat.le_succ _) ⟨?_, out, n, vals_back h3, hn⟩, rfl, ?_⟩
    · rw [pm.length_eq]; exact hz
    · have z := q (out.map fun v => (backV v, datOf s.heap v)) (s.heap.objs.size + 1) ?_ (by rw [ez2]; exact so) (I.hok.fresh (Nat.le_succ _))
      · rw [ez] at z
        exact z
      · rw [← em, e1, zip_map2]
        exact hs2.perm.map _
end
theorem all2_zip {α : Type} {R : V → α → Prop} {enc : α → ND} (inj : ∀ a b, enc a = enc b → a = b) : ∀ {zs : List (V × ND)} {qs : List α}, (∀ z ∈ zs, ∃ p, R z.1 p ∧ z.2 = enc p) → zs.map (·.2) = qs.map enc → All2 R (zs.map (·.1)) qs
  | [], [], _, _ => trivial
  | [], _ :: _, _, e => by cases e
  | _ :: _, [], _, e => by cases e
  | z :: zs, q :: qs, h, e => by
    rw [List.map_cons, List.map_cons] at e
    injection e with e1 e2
    obtain ⟨p, r, ep⟩ := h z List.mem_cons_self
    rw [ep] at e1
    have := inj _ _ e1
    subst this
    exact ⟨r, all2_zip inj (fun z hz => h z (List.mem_cons_of_mem _ hz)) e2⟩
theorem zip_mem {α : Type} {R : V → α → Prop} {enc : α → ND} : ∀ {xs : List V} {ps : List α}, All2 R xs ps → ∀ z ∈ xs.zip (ps.map enc), ∃ p, R z.1 p ∧ z.2 = enc p
  | [], [], _, z, hz => by simp at hz
  | x :: xs, p :: ps, h, z, hz => by
    rw [List.map_cons, List.zip_cons_cons] at hz
    rcases List.mem_cons.mp hz with e | e
    · subst e
      exact ⟨p, h.1, rfl⟩
    · exact zip_mem h.2 z e
/-- sorted of a list of things that are written by enc -/
theorem w_sortN {α : Type} {K : PySem.W.Frag} {H : Hp} {Q : VK} {a : Addr} {vs : List V} {ps qs : List α} {R : V → α → Prop} {enc : α → ND} (inj : ∀ a b, enc a = enc b → a = b) (hd : ∀ v p, R v p → Dp K H v (enc p).py ∧ ∃ t, v = .ref t)
    (h1 : SqL K H a vs) (p1 : All2 R vs ps) (ok : SrtOk (ps.map enc)) (hs : ND.sort (ps.map enc) = qs.map enc) (h : ∀ ys p, H p = none → All2 R ys qs → Q (.ref p) (upd H p (.lst ys))) : rSortN K [.ref a] H Q := by
  refine ⟨a, vs, ps.map enc, rfl, h1, ?_, fun x hx => ?_, ok, fun zs p pm hz hp => h _ p hp ?_⟩
  · clear h h1 ok hs
    induction vs generalizing ps with
    | nil => cases ps with
      | nil => trivial
      | cons _ _ => exact p1.elim
    | cons v vs ih => cases ps with
      | nil => exact p1.elim
      | cons q qs => exact ⟨(hd _ _ p1.1).1, ih p1.2⟩
  · obtain ⟨q, _, r⟩ := p1.mem hx
    exact (hd _ _ r).2
  · exact all2_zip inj (fun z hz' => zip_mem p1 z (pm.mem_iff.mp hz')) (hz.trans hs)
theorem _root_.L2.Room.u40 {A : Around} {k : Nat} (hr : Room k A) : A.units + 40 < cLine := by have := hr.un; omega
theorem sort_enc {α : Type} {enc : α → ND} {le : α → α → Bool} (he : ∀ a b, ND.leB (enc a) (enc b) = le a b) (tr : ∀ a b c, le a b = true → le b c = true → le a c = true) (tot : ∀ a b, (le a b || le b a) = true) (xs : List α) : ND.sort (xs.map enc) = (xs.mergeSort le).map enc := by
  refine ND.sort_eq (List.pairwise_map.mpr ((List.pairwise_mergeSort tr tot xs).imp fun {a b} h => ?_)) ((List.mergeSort_perm xs le).map enc)
  rw [he]
  exact h
theorem leB_i (a b : Int) : ND.leB (.i a) (.i b) = decide (a ≤ b) := by
  unfold ND.leB ND.ltB
  simp only [ND.cmp]
  by_cases h : b < a
  · rw [ND.int_lt.mpr h, decide_eq_false (by omega)]; rfl
  · rw [decide_eq_true (by omega)]
    have : compare b a ≠ .lt := fun e => h (ND.int_lt.mp e)
    cases e : compare b a <;> simp_all
theorem leB_tcons (x y : ND) (xs ys : List ND) : ND.leB (.t (x :: xs)) (.t (y :: ys)) = (if ND.cmp x y = .eq then ND.leB (.t xs) (.t ys) else ND.leB x y) := by
  unfold ND.leB ND.ltB
  simp only [ND.cmp, ND.cmpL]
  rw [ND.cmp_swap x y]
  cases e : ND.cmp x y with
  | eq => rfl
  | lt => rfl
  | gt => rfl
theorem leB_tnil (ys : List ND) : ND.leB (.t []) (.t ys) = true := by
  unfold ND.leB ND.ltB
  cases ys <;> simp [ND.cmp, ND.cmpL]
theorem cmp_i_eq (a b : Int) : (ND.cmp (.i a) (.i b) = .eq) ↔ a = b := by
  simp only [ND.cmp]
  exact ⟨fun h => Std.LawfulEqCmp.eq_of_compare h, fun h => by subst h; exact Std.ReflCmp.compare_self⟩
end Pm
namespace Pm
abbrev I3 := Int × Int × Int
namespace Tr
def plots : Nat → Tr → List (Nat × Nat × Nat)
  | _, leaf => []
  | lo, node l r => (lo, lo + l.w, lo + (l.w + r.w)) :: (l.plots lo ++ r.plots (lo + l.w))
theorem plots_len : ∀ (t : Tr) (lo : Nat), (t.plots lo).length + 1 = t.w
  | leaf, _ => rfl
  | node l r, lo => by
    show ((lo, lo + l.w, lo + (l.w + r.w)) :: (l.plots lo ++ r.plots (lo + l.w))).length + 1 = l.w + r.w
    rw [List.length_cons, List.length_append]
    have h1 := plots_len l lo
    have h2 := plots_len r (lo + l.w)
    omega
theorem plots_bd : ∀ {t : Tr} {lo : Nat} {p : Nat × Nat × Nat}, p ∈ t.plots lo → lo ≤ p.1 ∧ p.1 < p.2.1 ∧ p.2.1 < p.2.2 ∧ p.2.2 ≤ lo + t.w
  | leaf, _, _, h => by cases h
  | node l r, lo, p, h => by
    have wl := l.w_pos
    have wr := r.w_pos
    show lo ≤ p.1 ∧ p.1 < p.2.1 ∧ p.2.1 < p.2.2 ∧ p.2.2 ≤ lo + (l.w + r.w)
    rcases List.mem_cons.mp h with h | h
    · rw [h]; simp only; omega
    · rcases List.mem_append.mp h with h | h
      · have := plots_bd h; omega
      · have := plots_bd h; omega
theorem plots_nodup : ∀ (t : Tr) (lo : Nat), (t.plots lo).Nodup
  | leaf, _ => List.nodup_nil
  | node l r, lo => by
    have wl := l.w_pos
    have wr := r.w_pos
    refine List.nodup_cons.mpr ⟨fun h => ?_, List.nodup_append.mpr ⟨plots_nodup l lo, plots_nodup r _, fun a ha b hb e => ?_⟩⟩
    · rcases List.mem_append.mp h with h | h
      · have := plots_bd h; simp only at this; omega
      · have := plots_bd h; simp only at this; omega
    · subst e
      have := plots_bd ha
      have := plots_bd hb
      omega
/-- three posts each two of which are tied -/
theorem plots_iff : ∀ {t : Tr} {lo a b c : Nat}, (a, b, c) ∈ t.plots lo ↔ (a < b ∧ b < c) ∧ (a, b) ∈ t.all lo ∧ (b, c) ∈ t.all lo ∧ (a, c) ∈ t.all lo
  | leaf, lo, a, b, c => by
    constructor
    · intro h; cases h
    · rintro ⟨h, h1, h2, h3⟩
      have := Prod.mk.inj (List.mem_singleton.mp h1)
      have := Prod.mk.inj (List.mem_singleton.mp h3)
      omega
  | node l r, lo, a, b, c => by
    have wl := l.w_pos
    have wr := r.w_pos
    constructor
    · intro h
      rcases List.mem_cons.mp h with h | h
      · obtain ⟨rfl, h⟩ := Prod.mk.inj h
        obtain ⟨rfl, rfl⟩ := Prod.mk.inj h
        exact ⟨⟨by omega, by omega⟩, mem_node.mpr (.inr (.inl root_mem)), mem_node.mpr (.inr (.inr (by rw [← Nat.add_assoc]; exact root_mem))), mem_node.mpr (.inl rfl)⟩
      · rcases List.mem_append.mp h with h | h
        · obtain ⟨q, h1, h2, h3⟩ := plots_iff.mp h
          exact ⟨q, mem_node.mpr (.inr (.inl h1)), mem_node.mpr (.inr (.inl h2)), mem_node.mpr (.inr (.inl h3))⟩
        · obtain ⟨q, h1, h2, h3⟩ := plots_iff.mp h
          exact ⟨q, mem_node.mpr (.inr (.inr h1)), mem_node.mpr (.inr (.inr h2)), mem_node.mpr (.inr (.inr h3))⟩
    · rintro ⟨q, h1, h2, h3⟩
      show (a, b, c) ∈ _ :: (_ ++ _)
      rw [List.mem_cons, List.mem_append]
      rcases mem_node.mp h3 with e | e | e
      · obtain ⟨rfl, rfl⟩ := Prod.mk.inj e
        have eb : b = a + l.w := by
          rcases mem_node.mp h1 with e | e | e
          · have := (Prod.mk.inj e).2; omega
          · have x1 := (bd e).2.2
            simp only at x1
            rcases mem_node.mp h2 with e | e | e
            · have := (Prod.mk.inj e).1; omega
            · have := (bd e).2.2; simp only at this; omega
            · have := (bd e).1; simp only at this; omega
          · have := (bd e).1; simp only at this; omega
        rw [eb]
        exact .inl rfl
      · have b3 := bd e
        simp only at b3
        refine .inr (.inl (plots_iff.mpr ⟨q, ?_, ?_, e⟩))
        · rcases mem_node.mp h1 with e | e | e
          · have := (Prod.mk.inj e).2; omega
          · exact e
          · have := (bd e).1; simp only at this; omega
        · rcases mem_node.mp h2 with e | e | e
          · have := (Prod.mk.inj e).1; omega
          · exact e
          · have := (bd e).1; simp only at this; omega
      · have b3 := bd e
        simp only at b3
        refine .inr (.inr (plots_iff.mpr ⟨q, ?_, ?_, e⟩))
        · rcases mem_node.mp h1 with e | e | e
          · have := (Prod.mk.inj e).1; omega
          · have := (bd e).2.2; simp only at this; omega
          · exact e
        · rcases mem_node.mp h2 with e | e | e
          · have := (Prod.mk.inj e).1; omega
          · have := (bd e).2.2; simp only at this; omega
          · exact e
end Tr
def lex3 (p q : I3) : Bool := decide (p.1 < q.1 ∨ (p.1 = q.1 ∧ (p.2.1 < q.2.1 ∨ (p.2.1 = q.2.1 ∧ p.2.2 ≤ q.2.2))))
theorem lex3_iff {p q : I3} : lex3 p q = true ↔ (p.1 < q.1 ∨ (p.1 = q.1 ∧ (p.2.1 < q.2.1 ∨ (p.2.1 = q.2.1 ∧ p.2.2 ≤ q.2.2)))) := decide_eq_true_iff
theorem lex3_trans (p q r : I3) (h : lex3 p q = true) (k : lex3 q r = true) : lex3 p r = true := by
  have h := lex3_iff.mp h
  have k := lex3_iff.mp k
  exact lex3_iff.mpr (by omega)
theorem lex3_total (p q : I3) : (lex3 p q || lex3 q p) = true := by
  rw [Bool.or_eq_true, lex3_iff, lex3_iff]
  omega
def sort3 (ps : List I3) : List I3 := ps.mergeSort lex3
theorem sort3_perm (ps : List I3) : (sort3 ps).Perm ps := List.mergeSort_perm ps lex3
def cast3 (p : Nat × Nat × Nat) : I3 := ((p.1 : Int), (p.2.1 : Int), (p.2.2 : Int))
theorem cast3_inj {p q : Nat × Nat × Nat} (h : cast3 p = cast3 q) : p = q := by
  obtain ⟨a, b, e⟩ := p
  obtain ⟨c, d, f⟩ := q
  have e1 := congrArg Prod.fst h
  have e2 := congrArg (fun z => z.2.1) h
  have e3 := congrArg (fun z => z.2.2) h
  simp only [cast3] at e1 e2 e3
  rw [show a = c by omega, show b = d by omega, show e = f by omega]
/-- the third posts above a tie -/
def above (n : Nat) (T : List IP) (p : IP) : List Nat := (List.range (((n : Int) - (p.2 + 1)).toNat)).filter fun i => decide ((p.1, p.2 + 1 + (i : Int)) ∈ T) && decide ((p.2, p.2 + 1 + (i : Int)) ∈ T)
def plots0 (n : Nat) (T S : List IP) : List I3 := S.flatMap fun p => (above n T p).map fun i : Nat => (p.1, p.2, p.2 + 1 + (i : Int))
def plotsL (n : Nat) (cut : List IP) : List I3 := sort3 (plots0 n (tiesL n cut) (tiesL n cut))
theorem mem_plots0 {n : Nat} {T S : List IP} {q : I3} : q ∈ plots0 n T S ↔ (q.1, q.2.1) ∈ S ∧ q.2.1 < q.2.2 ∧ q.2.2 < n ∧ (q.1, q.2.2) ∈ T ∧ (q.2.1, q.2.2) ∈ T := by
  unfold plots0
  rw [List.mem_flatMap]
  constructor
  · rintro ⟨p, hp, hq⟩
    obtain ⟨i, hi, rfl⟩ := List.mem_map.mp hq
    unfold above at hi
    rw [List.mem_filter, List.mem_range, Bool.and_eq_true, decide_eq_true_iff, decide_eq_true_iff] at hi
    exact ⟨hp, by simp only; omega, by simp only; omega, hi.2.1, hi.2.2⟩
  · rintro ⟨h1, h2, h3, h4, h5⟩
    refine ⟨_, h1, List.mem_map.mpr ⟨(q.2.2 - (q.2.1 + 1)).toNat, ?_, ?_⟩⟩
    · unfold above
      rw [List.mem_filter, List.mem_range, Bool.and_eq_true, decide_eq_true_iff, decide_eq_true_iff]
      have e : q.2.1 + 1 + ((q.2.2 - (q.2.1 + 1)).toNat : Int) = q.2.2 := by omega
      simp only
      rw [e]
      exact ⟨by omega, h4, h5⟩
    · obtain ⟨a, b, c⟩ := q
      simp only at h2 ⊢
      have e : b + 1 + ((c - (b + 1)).toNat : Int) = c := by omega
      rw [e]
section
variable {n : Nat} {cut : List IP} {t : Tr}
theorem plots0_nodup {T S : List IP} (h : S.Nodup) : (plots0 n T S).Nodup := by
  unfold plots0
  induction S with
  | nil => exact List.nodup_nil
  | cons p S ih =>
    obtain ⟨h1, h2⟩ := List.nodup_cons.mp h
    rw [List.flatMap_cons]
    refine List.nodup_append.mpr ⟨?_, ih h2, fun a ha b hb e => ?_⟩
    · have nd : (above n T p).Nodup := (List.nodup_range (n := ((n : Int) - (p.2 + 1)).toNat)).sublist List.filter_sublist
      refine List.Pairwise.map _ ?_ nd
      intro i j hij e
      have := congrArg (fun z => z.2.2) e
      simp only at this
      exact hij (by omega)
    · subst e
      obtain ⟨i, _, rfl⟩ := List.mem_map.mp ha
      have := mem_plots0.mp hb
      exact h1 this.1
theorem Cutting.ties_nodup (C : Cutting n cut t) : (tiesL n cut).Nodup := by
  have w2 := C.w2
  have hw := C.w
  refine ((sortP_perm _).nodup_iff).mpr (List.nodup_append.mpr ⟨?_, ?_, fun a ha b hb e => ?_⟩)
  · unfold sides0
    refine List.nodup_append.mpr ⟨?_, by simp, fun a ha b hb e => ?_⟩
    · refine List.Pairwise.map _ ?_ (List.nodup_range (n := n - 1))
      intro i j hij e
      have := congrArg Prod.fst e
      simp only at this
      exact hij (by omega)
    · subst e
      obtain ⟨k, hk, rfl⟩ := List.mem_map.mp ha
      have := List.mem_singleton.mp hb
      have e1 := congrArg Prod.fst this
      have e2 := congrArg Prod.snd this
      simp only at e1 e2
      omega
  · refine (C.perm.nodup_iff).mpr (List.Pairwise.map _ ?_ (Tr.ropes_nodup t 0))
    intro p q hpq e
    exact hpq (castP_inj e)
  · subst e
    obtain ⟨q, hq, rfl⟩ := C.mem.mp hb
    have hr := (ropes_iff w2).mp hq
    have hwid := Tr.inn_wide hr.1
    rcases (mem_sides0 (by omega)).mp ha with ⟨k, hk, e⟩ | e
    · rw [castP_inj e] at hwid
      simp only at hwid
      omega
    · refine hr.2 ?_
      rw [castP_inj e, ← hw] <;> rfl
theorem Cutting.plots_perm (C : Cutting n cut t) : (plots0 n (tiesL n cut) (tiesL n cut)).Perm ((t.plots 0).map cast3) := by
  have hw := C.w
  refine (List.perm_ext_iff_of_nodup (plots0_nodup C.ties_nodup) (List.Pairwise.map _ (fun p q hpq e => hpq (cast3_inj e)) (Tr.plots_nodup t 0))).mpr fun q => ?_
  rw [mem_plots0, List.mem_map]
  obtain ⟨a, b, c⟩ := q
  simp only
  constructor
  · rintro ⟨h1, h2, h3, h4, h5⟩
    obtain ⟨⟨x, y⟩, hx, ex⟩ := C.ties.mp h1
    obtain ⟨⟨x2, z⟩, hz, ez⟩ := C.ties.mp h4
    obtain ⟨⟨y2, z2⟩, hy, ey⟩ := C.ties.mp h5
    simp only [castP, Prod.mk.injEq] at ex ez ey
    obtain ⟨rfl, rfl⟩ := ex
    obtain ⟨e1, rfl⟩ := ez
    obtain ⟨e2, e3⟩ := ey
    have f1 : x2 = x := by omega
    have f2 : y2 = y := by omega
    have f3 : z2 = z := by omega
    subst f1 f2 f3
    have b1 := Tr.bd hx
    have b2 := Tr.bd hy
    simp only at b1 b2
    exact ⟨(x2, y2, z2), Tr.plots_iff.mpr ⟨⟨by omega, by omega⟩, hx, hy, hz⟩, rfl⟩
  · rintro ⟨⟨x, y, z⟩, hp, e⟩
    obtain ⟨q, h1, h2, h3⟩ := Tr.plots_iff.mp hp
    have b1 := Tr.plots_bd hp
    simp only at b1
    have e1 := congrArg Prod.fst e
    have e2 := congrArg (fun z => z.2.1) e
    have e3 := congrArg (fun z => z.2.2) e
    simp only [cast3] at e1 e2 e3
    subst e1 e2 e3
    exact ⟨C.tied.mpr h1, by omega, by omega, C.tied.mpr h3, C.tied.mpr h2⟩
theorem Cutting.plots_len (C : Cutting n cut t) : (plotsL n cut).length + 2 = n := by
  have hw := C.w
  have h := Tr.plots_len t 0
  rw [plotsL, (sort3_perm _).length_eq, C.plots_perm.length_eq, List.length_map]
  omega
theorem Cutting.mem_plots (C : Cutting n cut t) {q : I3} : q ∈ plotsL n cut ↔ ∃ p, p ∈ t.plots 0 ∧ q = cast3 p := by
  rw [plotsL, (sort3_perm _).mem_iff, C.plots_perm.mem_iff, List.mem_map]
  exact ⟨fun ⟨q, h, e⟩ => ⟨q, h, e.symm⟩, fun ⟨q, h, e⟩ => ⟨q, h, e.symm⟩⟩
end
section
open PySem PySem.Spec PyProof.Rows L2
def nd3 (q : I3) : ND := .t [.i q.1, .i q.2.1, .i q.2.2]
theorem leB_nd3 (p q : I3) : ND.leB (nd3 p) (nd3 q) = lex3 p q := by
  unfold nd3
  rw [leB_tcons, leB_tcons, leB_tcons, leB_tnil, leB_i, leB_i, leB_i]
  simp only [cmp_i_eq]
  unfold lex3
  by_cases h1 : p.1 = q.1 <;> by_cases h2 : p.2.1 = q.2.1 <;> by_cases h3 : p.2.2 = q.2.2 <;> simp [h1, h2, h3] <;> omega
theorem sort_nd3 (ps : List I3) : ND.sort (ps.map nd3) = (sort3 ps).map nd3 := sort_enc leB_nd3 lex3_trans lex3_total ps
theorem nd3_inj {p q : I3} (h : nd3 p = nd3 q) : p = q := by
  obtain ⟨a, b, c⟩ := p
  obtain ⟨d, e, f⟩ := q
  unfold nd3 at h
  injection h with h
  injection h with h1 h
  injection h with h2 h
  injection h with h3 _
  injection h1 with h1
  injection h2 with h2
  injection h3 with h3
  simp only at h1 h2 h3
  rw [h1, h2, h3]
theorem dp_er {K : PySem.W.Frag} {H : Hp} {v : V} {q : I3} (h : Er H v q) : Dp K H v (nd3 q).py := by
  obtain ⟨t, rfl, ht⟩ := h
  simp only [nd3, ND.py, ND.pyL]
  exact .tup (SqT.of ht) (.cons (.int _) (.cons (.int _) (.cons (.int _) .nil)))
theorem srt3 (ps : List I3) : SrtOk (ps.map nd3) := by
  refine ⟨fun d hd => ?_, fun d hd e he => ?_, fun d hd => ?_⟩
  · obtain ⟨p, _, rfl⟩ := List.mem_map.mp hd
    exact ⟨_, _, rfl⟩
  · obtain ⟨p, _, rfl⟩ := List.mem_map.mp hd
    obtain ⟨q, _, rfl⟩ := List.mem_map.mp he
    simp [nd3, ND.hom, ND.homL]
  · obtain ⟨p, _, rfl⟩ := List.mem_map.mp hd
    simp [nd3, ND.dep, ND.py, ND.pyL, PyData.depth, PyData.depthAll]
/-- sorted of a list of triples -/
theorem w_sort3 {K : PySem.W.Frag} {H : Hp} {Q : VK} {a : Addr} {vs : List V} {ps : List I3} (h1 : SqL K H a vs) (p1 : All2 (Er H) vs ps) (h : ∀ ys p, H p = none → All2 (Er H) ys (sort3 ps) → Q (.ref p) (upd H p (.lst ys))) : rSortN K [.ref a] H Q :=
  w_sortN (fun _ _ => nd3_inj) (fun v p r => ⟨dp_er r, by obtain ⟨t, e, _⟩ := r; exact ⟨t, e⟩⟩) h1 p1 (srt3 ps) (sort_nd3 ps) h
end
end Pm
namespace Pm
open PySem PySem.Spec PyProof.Rows L2
theorem gcd_turn (x y : Nat) (hy : 0 < y) : Nat.gcd y (x % y) = Nat.gcd x y := by
  rw [Nat.gcd_comm x y, Nat.gcd_rec y x, Nat.gcd_comm]
theorem gcd_abs (a b : Int) : Nat.gcd (if a < 0 then -a else a).natAbs (if b < 0 then -b else b).natAbs = Int.gcd a b := by
  unfold Int.gcd
  have e : ∀ c : Int, (if c < 0 then -c else c).natAbs = c.natAbs := fun c => by split <;> omega
  rw [e, e]
theorem div_pos_num {a b : Int} (h : 0 < b) : a / ((Int.gcd a b : Nat) : Int) = (Rat.divInt a b).num ∧ b / ((Int.gcd a b : Nat) : Int) = ((Rat.divInt a b).den : Int) := by
  rw [Rat.num_divInt, Rat.den_divInt, if_neg (by omega), Int.sign_eq_one_of_pos h, Int.one_mul, Int.gcd_comm b a]
  refine ⟨rfl, ?_⟩
  rw [Int.natCast_ediv]
  congr 1
  omega
theorem gcd_le_right {a b : Int} (h : 0 < b) : ((Int.gcd a b : Nat) : Int) ≤ b := Int.gcd_le_right a h
theorem gcd_pos {a b : Int} (h : b ≠ 0) : 0 < ((Int.gcd a b : Nat) : Int) := by
  have := Int.gcd_pos_of_ne_zero_right a h
  omega
/-- the size of a fraction -/
def rb (r : Rat) (n : Nat) : Prop := r.num.natAbs < 2 ^ n ∧ r.den < 2 ^ n
theorem rb.mono {r : Rat} {n m : Nat} (h : rb r n) (k : n ≤ m) : rb r m :=
  ⟨Nat.lt_of_lt_of_le h.1 (Nat.pow_le_pow_right (by decide) k), Nat.lt_of_lt_of_le h.2 (Nat.pow_le_pow_right (by decide) k)⟩
theorem rb_div {a b : Int} {n : Nat} (hb : b ≠ 0) (h1 : a.natAbs < 2 ^ n) (h2 : b.natAbs < 2 ^ n) : rb (Rat.divInt a b) n := by
  have hg : 0 < Int.gcd b a := Int.gcd_pos_of_ne_zero_left a hb
  constructor
  · rw [Rat.num_divInt]
    refine Nat.lt_of_le_of_lt ?_ h1
    have e : (b.sign * a).natAbs ≤ a.natAbs := by
      rw [Int.natAbs_mul]
      have := Int.natAbs_sign_of_ne_zero hb
      rw [this, Nat.one_mul]
      exact Nat.le_refl _
    refine Nat.le_trans ?_ e
    exact Int.natAbs_ediv_le_natAbs _ _
  · rw [Rat.den_divInt, if_neg hb]
    exact Nat.lt_of_le_of_lt (Nat.div_le_self _ _) h2
theorem wide_add {i j : Int} {a b : Nat} (ha : i.natAbs < 2 ^ a) (hb : j.natAbs < 2 ^ a) : (i + j).natAbs < 2 ^ (a + 1) := by
  have := Int.natAbs_add_le i j
  rw [Nat.pow_succ]
  omega
theorem den_ne (r : Rat) : (r.den : Int) ≠ 0 := by have := r.den_nz; omega
theorem divInt_self' (r : Rat) : Rat.divInt r.num r.den = r := Rat.num_divInt_den r
theorem plus_is (x y : Rat) : Rat.divInt (x.num * y.den + y.num * x.den) (x.den * y.den) = x + y := by
  rw [← Rat.divInt_add_divInt _ _ (den_ne x) (den_ne y), divInt_self', divInt_self']
theorem less_is (x y : Rat) : Rat.divInt (x.num * y.den - y.num * x.den) (x.den * y.den) = x - y := by
  rw [← Rat.divInt_sub_divInt _ _ (den_ne x) (den_ne y), divInt_self', divInt_self']
theorem times_is (x y : Rat) : Rat.divInt (x.num * y.num) (x.den * y.den) = x * y := by
  rw [← Rat.divInt_mul_divInt, divInt_self', divInt_self']
theorem over_is (x y : Rat) : Rat.divInt (x.num * y.den) (x.den * y.num) = x / y := by
  rw [← Rat.divInt_mul_divInt, divInt_self', Rat.div_def, Rat.inv_def]
theorem rb_pos {r : Rat} {n : Nat} (h : rb r n) : 0 < n := by
  rcases Nat.eq_zero_or_pos n with z | z
  · subst z
    have := h.2
    have := r.den_nz
    omega
  · exact z
theorem rb_den {r : Rat} {n : Nat} (h : rb r n) : (r.den : Int).natAbs < 2 ^ n := by have := h.2; omega
theorem den_mul (x y : Rat) : (x.den : Int) * (y.den : Int) ≠ 0 := Int.mul_ne_zero (den_ne x) (den_ne y)
theorem rb_add {x y : Rat} {n m : Nat} (h : rb x n) (k : rb y m) : rb (x + y) (n + m + 1) := by
  rw [← plus_is]
  refine rb_div (den_mul x y) (wide_add (b := 0) (wide_lt h.1 (rb_den k)) ?_) ?_
  · rw [Nat.add_comm n m]; exact wide_lt k.1 (rb_den h)
  · exact Nat.lt_of_lt_of_le (wide_lt (rb_den h) (rb_den k)) (Nat.pow_le_pow_right (by decide) (by omega))
theorem rb_mul {x y : Rat} {n m : Nat} (h : rb x n) (k : rb y m) : rb (x * y) (n + m) := by
  rw [← times_is]
  exact rb_div (den_mul x y) (wide_lt h.1 k.1) (wide_lt (rb_den h) (rb_den k))
theorem rb_quot {x y : Rat} {n m : Nat} (hy : y ≠ 0) (h : rb x n) (k : rb y m) : rb (x / y) (n + m) := by
  rw [← over_is]
  exact rb_div (Int.mul_ne_zero (den_ne x) (fun z => hy (Rat.num_eq_zero.mp z))) (wide_lt h.1 (rb_den k)) (wide_lt (rb_den h) k.1)
/-- a new tuple that is the fraction r -/
def FrNew (H : Hp) (r : Rat) (Q : VK) : Prop := ∀ (t : Addr) (H' : Hp), Same H H' → H t = none → H' t = some (.tup [.int r.num, .int r.den]) → Q (.ref t) H'
end Pm
namespace Pm
structure V2 where
  p : Rat
  q : Rat
def det (a b : V2) : Rat := a.p * b.q - b.p * a.q
theorem det_pl (a b c d : V2) : det a c * det b d = det a b * det c d + det b c * det a d := by unfold det; grind
theorem det_anti (a b : V2) : det b a = - det a b := by unfold det; grind
theorem det_self (a : V2) : det a a = 0 := by unfold det; grind
def mix (a : V2) (x : Rat) (b : V2) (y : Rat) : V2 := ⟨a.p * x + b.p * y, a.q * x + b.q * y⟩
theorem det_mix_l (a b : V2) (x y : Rat) : det a (mix a x b y) = y * det a b := by unfold det mix; grind
theorem det_mix_r (a b : V2) (x y : Rat) : det (mix a x b y) b = x * det a b := by unfold det mix; grind
theorem rat_mul_pos {a b : Rat} (h : 0 < a) (k : 0 < b) : 0 < a * b := Rat.mul_pos h k
theorem rat_pos_of_mul {a b : Rat} (hb : 0 < b) (h : 0 < a * b) : 0 < a := by
  by_cases z : 0 < a
  · exact z
  · have z1 : a ≤ 0 := by grind
    have z2 : 0 ≤ -a := by grind
    have := Rat.mul_nonneg z2 (show (0 : Rat) ≤ b by grind)
    grind
theorem rat_div_pos {a b : Rat} (h : 0 < a) (k : 0 < b) : 0 < a / b := by
  refine rat_pos_of_mul k ?_
  have : a / b * b = a := by grind
  rw [this]; exact h
abbrev Len := Nat × Nat → Rat
namespace Tr
def Stood (t : Tr) (lo : Nat) (L : Len) (S : Nat → V2) : Prop := ∀ p ∈ t.all lo, det (S p.1) (S p.2) = L p
def Pos (t : Tr) (lo : Nat) (L : Len) : Prop := ∀ p ∈ t.all lo, 0 < L p
theorem mem_l {l r : Tr} {lo : Nat} {p : Nat × Nat} (h : p ∈ l.all lo) : p ∈ (node l r).all lo := mem_node.mpr (.inr (.inl h))
theorem mem_r {l r : Tr} {lo : Nat} {p : Nat × Nat} (h : p ∈ r.all (lo + l.w)) : p ∈ (node l r).all lo := mem_node.mpr (.inr (.inr h))
theorem mem_root {l r : Tr} {lo : Nat} : (lo, lo + (l.w + r.w)) ∈ (node l r).all lo := mem_node.mpr (.inl rfl)
def std : Tr → Nat → Len → V2 → V2 → Nat → V2
  | leaf, lo, _, a, b, i => if i ≤ lo then a else b
  | node l r, lo, L, a, b, i =>
    if i ≤ lo + l.w then std l lo L a (mix a (L (lo + l.w, lo + (l.w + r.w)) / L (lo, lo + (l.w + r.w))) b (L (lo, lo + l.w) / L (lo, lo + (l.w + r.w)))) i
    else std r (lo + l.w) L (mix a (L (lo + l.w, lo + (l.w + r.w)) / L (lo, lo + (l.w + r.w))) b (L (lo, lo + l.w) / L (lo, lo + (l.w + r.w)))) b i
theorem std_lo : ∀ (t : Tr) (lo : Nat) (L : Len) (a b : V2), t.std lo L a b lo = a
  | leaf, lo, L, a, b => by unfold std; rw [if_pos (Nat.le_refl _)]
  | node l r, lo, L, a, b => by unfold std; rw [if_pos (by omega), std_lo l]
theorem std_hi : ∀ (t : Tr) (lo : Nat) (L : Len) (a b : V2), t.std lo L a b (lo + t.w) = b
  | leaf, lo, L, a, b => by unfold std w; rw [if_neg (by omega)]
  | node l r, lo, L, a, b => by
    have := w_pos r
    unfold std
    rw [if_neg (by simp only [w]; omega), show lo + (node l r).w = lo + l.w + r.w by simp only [w]; omega, std_hi r]
theorem std_stood : ∀ {t : Tr} {lo : Nat} {L : Len} {a b : V2}, t.Pos lo L → det a b = L (lo, lo + t.w) → t.Stood lo L (t.std lo L a b)
  | leaf, lo, L, a, b, _, h, p, hp => by
    have e : p = (lo, lo + 1) := by simpa [all] using hp
    subst e
    have e2 : lo + 1 = lo + leaf.w := rfl
    simp only
    rw [std_lo, e2, std_hi]
    exact h
  | node l r, lo, L, a, b, hP, h, p, hp => by
    have hL0 : 0 < L (lo, lo + (l.w + r.w)) := hP _ mem_root
    have hw : (node l r).w = l.w + r.w := rfl
    rw [hw] at h
    generalize hc : mix a (L (lo + l.w, lo + (l.w + r.w)) / L (lo, lo + (l.w + r.w))) b (L (lo, lo + l.w) / L (lo, lo + (l.w + r.w))) = c
    have h1 : det a c = L (lo, lo + l.w) := by
      rw [← hc, det_mix_l, h]; grind
    have h2 : det c b = L (lo + l.w, lo + l.w + r.w) := by
      rw [← hc, det_mix_r, h, Nat.add_assoc]; grind
    have ihl := std_stood (t := l) (lo := lo) (L := L) (a := a) (b := c) (fun p hp => hP p (mem_l hp)) h1
    have ihr := std_stood (t := r) (lo := lo + l.w) (L := L) (a := c) (b := b) (fun p hp => hP p (mem_r hp)) h2
    have eL : ∀ i, i ≤ lo + l.w → (node l r).std lo L a b i = l.std lo L a c i := fun i hi => by
      show (if i ≤ lo + l.w then _ else _) = _
      rw [if_pos hi, hc]
    have eR : ∀ i, lo + l.w ≤ i → (node l r).std lo L a b i = r.std (lo + l.w) L c b i := fun i hi => by
      rcases Nat.eq_or_lt_of_le hi with e | e
      · subst e
        rw [eL _ (Nat.le_refl _), std_hi, std_lo]
      · show (if i ≤ lo + l.w then _ else _) = _
        rw [if_neg (by omega), hc]
    rcases mem_node.mp hp with rfl | q | q
    · simp only
      have := std_hi (node l r) lo L a b
      rw [hw] at this
      rw [std_lo, this]; exact h
    · have b1 := bd q
      rw [eL _ (by omega), eL _ (by omega)]
      exact ihl p q
    · have b1 := bd q
      rw [eR _ (by omega), eR _ (by omega)]
      exact ihr p q
theorem ends_pos : ∀ {t : Tr} {lo : Nat} {L : Len} {S : Nat → V2}, t.Pos lo L → t.Stood lo L S → ∀ i, (lo < i → i ≤ lo + t.w → 0 < det (S lo) (S i)) ∧ (lo ≤ i → i < lo + t.w → 0 < det (S i) (S (lo + t.w)))
  | leaf, lo, L, S, hP, h, i => by
    have e := h (lo, lo + 1) (by simp [all])
    have p := hP (lo, lo + 1) (by simp [all])
    simp only [w] at *
    refine ⟨fun h1 h2 => ?_, fun h1 h2 => ?_⟩
    · have z : i = lo + 1 := by omega
      subst z
      rw [e]; exact p
    · have z : i = lo := by omega
      subst z
      rw [e]; exact p
  | node l r, lo, L, S, hP, h, i => by
    have hw : (node l r).w = l.w + r.w := rfl
    rw [hw]
    have r0 := h _ (mem_root (l := l) (r := r) (lo := lo))
    have l0 := h _ (mem_l (r := r) (root_mem (t := l) (lo := lo)))
    have k0 := h _ (mem_r (l := l) (root_mem (t := r) (lo := lo + l.w)))
    have pp := hP _ (mem_root (l := l) (r := r) (lo := lo))
    have pl := hP _ (mem_l (r := r) (root_mem (t := l) (lo := lo)))
    have pr := hP _ (mem_r (l := l) (root_mem (t := r) (lo := lo + l.w)))
    simp only at r0 l0 k0 pl pr
    rw [Nat.add_assoc] at k0 pr
    have il := ends_pos (t := l) (fun p hp => hP p (mem_l hp)) (fun p hp => h p (mem_l hp)) i
    have ir := ends_pos (t := r) (lo := lo + l.w) (fun p hp => hP p (mem_r hp)) (fun p hp => h p (mem_r hp)) i
    rw [Nat.add_assoc] at ir
    refine ⟨fun h1 h2 => ?_, fun h1 h2 => ?_⟩
    · by_cases z : i ≤ lo + l.w
      · exact il.1 h1 z
      · have a1 := ir.1 (by omega) (by omega)
        have p1 := det_pl (S lo) (S (lo + l.w)) (S i) (S (lo + (l.w + r.w)))
        rw [l0, r0, k0] at p1
        refine rat_pos_of_mul pr ?_
        rw [p1]
        have := rat_mul_pos a1 pp
        rcases Nat.eq_or_lt_of_le h2 with z2 | z2
        · subst z2
          rw [det_self]
          grind
        · have a2 := ir.2 (by omega) (by omega)
          have := rat_mul_pos pl a2
          grind
    · by_cases z : lo + l.w ≤ i
      · exact ir.2 z (by omega)
      · have a1 := il.2 (by omega) (by omega)
        have p1 := det_pl (S lo) (S i) (S (lo + l.w)) (S (lo + (l.w + r.w)))
        rw [l0, r0, k0] at p1
        refine rat_pos_of_mul pl ?_
        rw [Rat.mul_comm, p1]
        have := rat_mul_pos a1 pp
        rcases Nat.eq_or_lt_of_le h1 with z2 | z2
        · subst z2
          rw [det_self]
          grind
        · have a2 := il.1 (by omega) (by omega)
          have := rat_mul_pos a2 pr
          grind
theorem det_pos : ∀ {t : Tr} {lo : Nat} {L : Len} {S : Nat → V2}, t.Pos lo L → t.Stood lo L S → ∀ i k, lo ≤ i → i < k → k ≤ lo + t.w → 0 < det (S i) (S k)
  | leaf, lo, L, S, hP, h, i, k, h1, h2, h3 => by
    have e := h (lo, lo + 1) (by simp [all])
    have p := hP (lo, lo + 1) (by simp [all])
    simp only [w] at *
    have z : i = lo := by omega
    have z2 : k = lo + 1 := by omega
    subst z z2
    rw [e]; exact p
  | node l r, lo, L, S, hP, h, i, k, h1, h2, h3 => by
    have hw : (node l r).w = l.w + r.w := rfl
    have il := det_pos (t := l) (fun p hp => hP p (mem_l hp)) (fun p hp => h p (mem_l hp)) i
    have ir := det_pos (t := r) (lo := lo + l.w) (fun p hp => hP p (mem_r hp)) (fun p hp => h p (mem_r hp))
    have ie := (ends_pos hP h i).2
    rw [hw] at h3 ie
    by_cases z : k ≤ lo + l.w
    · exact il k h1 h2 z
    · by_cases z2 : lo + l.w ≤ i
      · exact ir i k z2 h2 (by omega)
      · have a1 := il (lo + l.w) h1 (by omega) (Nat.le_refl _)
        have a2 := ir (lo + l.w) k (by omega) (by omega) (by omega)
        have a3 := ie (by omega) (by omega)
        have a4 := ir (lo + l.w) (lo + (l.w + r.w)) (by omega) (by have := w_pos r; omega) (by omega)
        have p1 := det_pl (S i) (S (lo + l.w)) (S k) (S (lo + (l.w + r.w)))
        refine rat_pos_of_mul a4 ?_
        rw [p1]
        have := rat_mul_pos a2 a3
        rcases Nat.eq_or_lt_of_le h3 with z2 | z2
        · subst z2
          rw [det_self]
          grind
        · have a5 := ir k (lo + (l.w + r.w)) (by omega) z2 (by omega)
          have := rat_mul_pos a1 a5
          grind
def Closed (t : Tr) (lo : Nat) (Z : Nat → Prop) : Prop := ∀ a b c, (a, b, c) ∈ t.plots lo → (Z a → Z b → Z c) ∧ (Z a → Z c → Z b) ∧ (Z b → Z c → Z a)
theorem mem_plots_node {l r : Tr} {lo : Nat} {q : Nat × Nat × Nat} : q ∈ (node l r).plots lo ↔ q = (lo, lo + l.w, lo + (l.w + r.w)) ∨ q ∈ l.plots lo ∨ q ∈ r.plots (lo + l.w) := by
  simp only [plots, List.mem_cons, List.mem_append]
theorem closed_down : ∀ {t : Tr} {lo : Nat} {Z : Nat → Prop}, t.Closed lo Z → Z lo → Z (lo + t.w) → ∀ i, lo ≤ i → i ≤ lo + t.w → Z i
  | leaf, lo, Z, _, h1, h2, i, h3, h4 => by
    simp only [w] at *
    rcases Nat.eq_or_lt_of_le h3 with z | z
    · subst z; exact h1
    · rw [show i = lo + 1 by omega]; exact h2
  | node l r, lo, Z, hC, h1, h2, i, h3, h4 => by
    have hw : (node l r).w = l.w + r.w := rfl
    rw [hw] at h2 h4
    have hm := (hC lo (lo + l.w) (lo + (l.w + r.w)) (mem_plots_node.mpr (.inl rfl))).2.1 h1 h2
    by_cases z : i ≤ lo + l.w
    · exact closed_down (t := l) (fun a b c h => hC a b c (mem_plots_node.mpr (.inr (.inl h)))) h1 hm i h3 z
    · exact closed_down (t := r) (lo := lo + l.w) (fun a b c h => hC a b c (mem_plots_node.mpr (.inr (.inr h)))) hm (by rw [Nat.add_assoc]; exact h2) i (by omega) (by omega)
theorem closed_up : ∀ {t : Tr} {lo : Nat} {Z : Nat → Prop}, t.Closed lo Z → ∀ {a b : Nat}, (a, b) ∈ t.all lo → Z a → Z b → Z lo ∧ Z (lo + t.w)
  | leaf, lo, Z, _, a, b, h, ha, hb => by
    have e : a = lo ∧ b = lo + 1 := by simpa [all] using h
    obtain ⟨rfl, rfl⟩ := e
    exact ⟨ha, hb⟩
  | node l r, lo, Z, hC, a, b, h, ha, hb => by
    have hw : (node l r).w = l.w + r.w := rfl
    rw [hw]
    have hp := hC lo (lo + l.w) (lo + (l.w + r.w)) (mem_plots_node.mpr (.inl rfl))
    rcases mem_node.mp h with e | q | q
    · injection e with e1 e2
      subst e1 e2
      exact ⟨ha, hb⟩
    · have := closed_up (t := l) (fun a b c h => hC a b c (mem_plots_node.mpr (.inr (.inl h)))) q ha hb
      exact ⟨this.1, hp.1 this.1 this.2⟩
    · have := closed_up (t := r) (lo := lo + l.w) (fun a b c h => hC a b c (mem_plots_node.mpr (.inr (.inr h)))) q ha hb
      rw [Nat.add_assoc] at this
      exact ⟨hp.2.2 this.1 this.2, this.2⟩
theorem closed_all {t : Tr} {Z : Nat → Prop} (hC : t.Closed 0 Z) {a b : Nat} (h : (a, b) ∈ t.all 0) (ha : Z a) (hb : Z b) {i : Nat} (hi : i ≤ t.w) : Z i := by
  obtain ⟨h1, h2⟩ := closed_up hC h ha hb
  exact closed_down hC h1 h2 i (by omega) (by omega)
end Tr
structure Meas (n : Nat) (t : Tr) (L : Len) (D : Nat → Nat → Rat) : Prop where
  w : t.w + 1 = n
  pos : t.Pos 0 L
  ex : ∃ S, t.Stood 0 L S ∧ ∀ i k, i < n → k < n → D i k = det (S i) (S k)
section
variable {n : Nat} {t : Tr} {L : Len} {D : Nat → Nat → Rat}
theorem Meas.tie (M : Meas n t L D) {i k : Nat} (h : (i, k) ∈ t.all 0) : D i k = L (i, k) := by
  obtain ⟨S, h1, h2⟩ := M.ex
  have b := Tr.bd h
  have := M.w
  rw [h2 i k (by omega) (by omega)]
  exact h1 _ h
theorem Meas.anti (M : Meas n t L D) {i k : Nat} (hi : i < n) (hk : k < n) : D k i = - D i k := by
  obtain ⟨S, h1, h2⟩ := M.ex
  rw [h2 i k hi hk, h2 k i hk hi, det_anti]
theorem Meas.self (M : Meas n t L D) {i : Nat} (hi : i < n) : D i i = 0 := by
  obtain ⟨S, h1, h2⟩ := M.ex
  rw [h2 i i hi hi, det_self]
theorem Meas.pl (M : Meas n t L D) {a b c d : Nat} (ha : a < n) (hb : b < n) (hc : c < n) (hd : d < n) : D a c * D b d = D a b * D c d + D b c * D a d := by
  obtain ⟨S, h1, h2⟩ := M.ex
  rw [h2 a c ha hc, h2 b d hb hd, h2 a b ha hb, h2 c d hc hd, h2 b c hb hc, h2 a d ha hd]
  exact det_pl _ _ _ _
theorem Meas.above (M : Meas n t L D) {i k : Nat} (h : i < k) (hk : k < n) : 0 < D i k := by
  obtain ⟨S, h1, h2⟩ := M.ex
  have := M.w
  rw [h2 i k (by omega) hk]
  exact Tr.det_pos M.pos h1 i k (by omega) h (by omega)
theorem Meas.ne (M : Meas n t L D) {i k : Nat} (h : i ≠ k) (hi : i < n) (hk : k < n) : D i k ≠ 0 := by
  rcases Nat.lt_or_gt_of_ne h with z | z
  · have := M.above z hk; grind
  · have := M.above z hi
    have := M.anti hk hi
    grind
end
def Mt (t : Tr) (L : Len) (i k : Nat) : Rat := det (t.std 0 L ⟨1, 0⟩ ⟨0, L (0, t.w)⟩ i) (t.std 0 L ⟨1, 0⟩ ⟨0, L (0, t.w)⟩ k)
theorem meas_mt {n : Nat} {t : Tr} {L : Len} (hw : t.w + 1 = n) (hP : t.Pos 0 L) : Meas n t L (Mt t L) :=
  ⟨hw, hP, _, Tr.std_stood (t := t) (lo := 0) (a := ⟨1, 0⟩) (b := ⟨0, L (0, t.w)⟩) hP (by unfold det; rw [Nat.zero_add]; grind), fun _ _ _ _ => rfl⟩
/-- a rope turned: the same lengths are measured -/
theorem Meas.turn {n : Nat} {cut : List IP} {t t' : Tr} {x y m o : Nat} {R : List (Nat × Nat)} {L L' : Len} {D : Nat → Nat → Rat} (M : Meas n t L D) (C : Cutting n cut t) (U : Turning n cut t t' x y m o R)
    (h1 : ∀ p ∈ t.all 0, p ≠ (x, y) → L' p = L p) (h2 : L' (min m o, max m o) = D (min m o) (max m o)) : Meas n t' L' D := by
  have hw := U.cut'.w
  have bd : min m o < max m o ∧ max m o < n := by
    have z := U.cross C
    have z2 := Tr.bd (U.all_iff C |>.mpr (.inr rfl))
    omega
  refine ⟨U.cut'.w, fun p hp => ?_, ?_⟩
  · rcases (U.all_iff C).mp hp with ⟨q, ne⟩ | rfl
    · rw [h1 p q ne]; exact M.pos p q
    · rw [h2]; exact M.above bd.1 bd.2
  · obtain ⟨S, s1, s2⟩ := M.ex
    refine ⟨S, fun p hp => ?_, s2⟩
    rcases (U.all_iff C).mp hp with ⟨q, ne⟩ | rfl
    · rw [h1 p q ne]; exact s1 p q
    · rw [h2, s2 _ _ (by omega) (by omega)]
structure Bd (n : Nat) (D : Nat → Nat → Rat) (F : Nat) (B : Nat) : Prop where
  f0 : 0 < F
  fb : F < 2 ^ B
  all : ∀ i k, i < n → k < n → ∃ z : Int, D i k * F = z ∧ z.natAbs < 2 ^ B
theorem rat_of_mul {x : Rat} {F : Nat} {z : Int} (f0 : 0 < F) (h : x * F = z) : x = Rat.divInt z F := by
  rw [Rat.divInt_eq_div]
  have : (F : Rat) ≠ 0 := by
    intro e
    have : (F : Rat) = ((0 : Nat) : Rat) := by rw [e]; rfl
    have := Rat.natCast_inj.mp this
    omega
  have e2 : ((F : Int) : Rat) = (F : Rat) := rfl
  rw [e2, ← h]
  grind
theorem Bd.rb {n : Nat} {D : Nat → Nat → Rat} {F B : Nat} (h : Bd n D F B) {i k : Nat} (hi : i < n) (hk : k < n) : rb (D i k) B := by
  obtain ⟨z, h1, h2⟩ := h.all i k hi hk
  rw [rat_of_mul h.f0 h1]
  have := h.fb
  exact rb_div (by have := h.f0; omega) h2 (by omega)
theorem Bd.quot {n : Nat} {D : Nat → Nat → Rat} {F B : Nat} (h : Bd n D F B) {i k a b : Nat} (hi : i < n) (hk : k < n) (ha : a < n) (hb : b < n) (ne : D a b ≠ 0) : Pm.rb (D i k / D a b) B := by
  obtain ⟨z, h1, h2⟩ := h.all i k hi hk
  obtain ⟨y, h3, h4⟩ := h.all a b ha hb
  have y0 : y ≠ 0 := by
    rintro rfl
    have e := rat_of_mul h.f0 h3
    rw [Rat.zero_divInt] at e
    exact ne e
  have e : D i k / D a b = Rat.divInt z y := by
    rw [Rat.divInt_eq_div, ← h1, ← h3]
    have f : (F : Rat) ≠ 0 := by
      intro e
      have : (F : Rat) = ((0 : Nat) : Rat) := by rw [e]; rfl
      have := Rat.natCast_inj.mp this
      have := h.f0
      omega
    grind
  rw [e]
  exact rb_div y0 h2 h4
end Pm
namespace Pm
open PySem PySem.Spec PyProof.Rows L2
/-- the pairs of the locked dict at d, each a new tuple of the key's own tuple and the value -/
def Itit (d : Addr) (o : Obj) (kvs : List (List L2.Key × V)) : It :=
  ⟨fun i H => H d = some (.frz o (.dT kvs)) ∧ i < kvs.length, fun i H x H' => ∃ (T : Addr) (k : List L2.Key) (v : V) (q : Addr), kvs[i]? = some (k, v) ∧ x = .ref T ∧ H T = none ∧ H q = some (.tup (k.map kV)) ∧ H' = upd H T (.tup [.ref q, v]), fun i H => H d = some (.frz o (.dT kvs)) ∧ kvs.length ≤ i⟩
section
variable {X : Cx} {pins : List (Addr × Obj)} {σ : L2.St} {H : Hp} {s : Shared} {d : Addr} {o : Obj}
theorem frzT2 {kvs : List (List L2.Key × V)} (I : Inv X pins σ H s) (h : H d = some (.frz o (.dT kvs))) :
    (d == sysModules) = false ∧ s.heap.get? d = some o ∧ o.ExactDict ∧ ∃ (es : Array DictEntry) (ep : Nat), o.data = .dict es ep ∧ es.size = kvs.length ∧
      ∀ (i : Nat) (k : List L2.Key) (v : V), kvs[i]? = some (k, v) → ∃ (en : DictEntry) (q : Addr), es[i]? = some en ∧ en.key = .ref q ∧ H q = some (.tup (k.map kV)) ∧ RelV v en.val := by
  obtain ⟨hd, z, hs, xs, pr, o', es, ep, ho, hx, hdt, he, _⟩ := I.hok d _ h
  rw [hd] at ho
  cases ho
  refine ⟨hs, hd, hx, es, ep, hdt, ?_, fun i k v e => ?_⟩
  · have l1 : es.size = xs.length := size_of_entries he
    have l2 : kvs.length = xs.length := Paired.length pr
    omega
  · obtain ⟨b, hb, e1, e2, e3⟩ := paired_get pr e
    have q := entry_at he i
    rw [hb] at q
    exact ⟨_, b.2.1, q, rfl, e2, e3⟩
end
section
variable {P : Program} {w : World} {K : PySem.W.Frag} {d : Addr} {o : Obj} {es : Array DictEntry} {ep : Nat}
theorem turn_itemsT {kvs : List (List L2.Key × V)} {elts : List Expr} {kk : Nat} {tpos : Pos} (it : Addr) (hod : o.data = .dict es ep) :
    Turn P w K (.Tuple elts kk tpos) (Itit d o kvs) [it] it (fun i h => ∃ ok ov, IsItemIter h it d i kvs.length ep ok ov) where
  mem := by simp
  obj := fun i h st b hb => by
    have e : b = it := by simpa using hb
    subst e
    obtain ⟨ok, ov, e⟩ := st
    exact ⟨_, e, fun v z => nomatch z⟩
  keep := fun i h h' st k => let ⟨ok, ov, e⟩ := st; ⟨ok, ov, k it (by simp) _ e⟩
  item := by
    intro X hP hw hK hc i pins s σ H E I hf st hg
    subst hP hw hK
    obtain ⟨hd, hi⟩ := hg
    obtain ⟨hs, hgd, hx, es', ep', hdt, hsz, ent⟩ := frzT2 I hd
    obtain ⟨rfl, rfl⟩ := dict_ep hod hdt
    obtain ⟨⟨k, v⟩, hkv⟩ : ∃ p, kvs[i]? = some p := ⟨kvs[i], List.getElem?_eq_getElem hi⟩
    obtain ⟨en, q, hen, hkey, hq, rv⟩ := ent i k v hkv
    obtain ⟨ok, ov, he⟩ := st
    have hlt : it < s.heap.objs.size := Heap.lt_size he
    have hie : i < es'.size := by omega
    have een : es'[i] = en := by rw [Array.getElem?_eq_getElem hie] at hen; exact Option.some.inj hen
    rw [← hsz] at he
    refine DT.nextI he ⟨o, hgd, hx, hdt⟩ hie fun h' ho hT hz hk => ?_
    rw [een] at ho hT
    refine ⟨_, rfl, wpAny_letOwnedTupleGo_items (s := { s with heap := h' }) ho fun h'' he' sb => ?_⟩
    have hT2 : h''.get? s.heap.objs.size = some { cls := .type "tuple", data := .seq #[en.key, en.val] } := (sb.2 _ (Nat.ne_of_gt hlt)).trans hT
    have new : ObjOk X.prog X.w (upd H s.heap.objs.size (.tup [.ref q, v])) h'' s.heap.objs.size (.tup [.ref q, v]) :=
      ⟨by show 2 ≤ sizeLine; decide, [en.key, en.val], .cons hkey (.cons rv .nil), ⟨_, hT2, rfl, _, rfl⟩⟩
    have I1 : Inv X pins σ (upd H s.heap.objs.size (.tup [.ref q, v])) { s with heap := h'' } :=
      I.turnedNew (t' := s.toks) (ch := [it]) (fun b ob hb e => (sb.2 b (by simpa using hb)).trans (hk b ob (by simpa using hb) e)) hf (Nat.le_refl _) new
    refine ⟨.ref s.heap.objs.size, _, I1, rfl, ⟨_, k, v, q, hkv, rfl, I.hok.fresh (Nat.le_refl _), hq, rfl⟩, ⟨en.key, en.val, ?_⟩, fun b hb => ?_⟩
    · rw [← hsz]; exact he'
    · have e : b = it := by simpa using hb
      rw [e, upd_ne (Nat.ne_of_lt hlt)]
      exact (hf it (by simp)).1
  done := by
    intro X hP hw hK hc i pins s σ H E I hf st hg
    subst hP hw hK
    obtain ⟨hd, hi⟩ := hg
    obtain ⟨f0, f1, f2, f3, f4, f5⟩ := hf it (by simp)
    obtain ⟨hs, hgd, hx, es', ep', hdt, hsz, ent⟩ := frzT2 I hd
    obtain ⟨rfl, rfl⟩ := dict_ep hod hdt
    obtain ⟨ok, ov, he⟩ := st
    rw [← hsz] at he
    exact DT.endI (I.ok.hd hc) he ⟨o, hgd, hx, hdt⟩ (by omega) fun h' eb => ⟨rfl, I.turned (t' := s.toks) (fun b ob hb e => eb b ob hb e) f0 f1 f3 f4 f5⟩
  self := fun A i s Q E st h => let ⟨_, _, e⟩ := st; PySem.W.kcp_self e h
end
def iItemsT (td : TE) : TI := fun σ H R => td σ H fun x H1 => ∃ d o kvs, x = .ref d ∧ H1 d = some (.frz o (.dT kvs)) ∧ R (Itit d o kvs) H1
section
variable {X : Cx} {e : Expr} {td : TE} {apos cpos : Pos}
theorem pi_itemsT {elts : List Expr} {kk : Nat} {tpos : Pos} (he : PE X e td) (hbase : attributeBase e "items" X.env (eval e X.env) = eval e X.env := by rfl) (hline : (apos.endLine == cpos.line) = true := by rfl) :
    PI X (.Tuple elts kk tpos) (.Call (.Attribute e "items" apos) [] [] cpos) (iItemsT td) := by
  refine ⟨fun pins s σ H R I h => ?_⟩
  refine wpAny_Call_method (T := "dict") (id := "dict.items") hbase rfl hline F.plainAttrs_dict F.slot_dict_items F.type_dict_items (thn (he.run pins s σ H _ I h) fun u s1 ⟨x, H1, I1, rx, d, o, kvs, ex, hd, q⟩ => ?_)
  subst ex
  obtain rfl : u = Value.ref d := rx
  obtain ⟨hs, hgd, hx, es, ep, hdt, hsz, ent⟩ := frzT2 I1 hd
  have hraw : DT.Raw s1.heap d es ep := ⟨o, hgd, hx, hdt⟩
  refine ⟨hraw.typeIs, fun o' ho' => ?_, ?_⟩
  · cases ho'
    exact ⟨o, hgd, hx.2.1⟩
  have I2 : Inv X pins σ H1 { s1 with heap := s1.heap.push { cls := .type "dict_items", data := .fields #[.ref d] } } := I1.kept (t' := s1.toks) fun b ob q => Heap.get?_push_of_some _ q
  have fin : wpAny (model X.prog X.w) X.A (pyIter (.ref s1.heap.objs.size)) (PIE X pins σ (.Tuple elts kk tpos) R) X.xe { s1 with heap := s1.heap.push { cls := .type "dict_items", data := .fields #[.ref d] } } := by
    refine DT.iterI (d := d) ⟨_, Heap.get?_push_size _ rfl, rfl, rfl⟩ (hraw.push _) (pi_one (tk := s1.toks) I2 _ (turn_itemsT _ hdt) ⟨.none, .none, ?_⟩ q)
    rw [← hsz]
    exact Heap.get?_push_size _ rfl
  show wpAny _ _ (callWith cpos (.builtin "dict.items") [.ref d] [] []) _ X.xe s1
  exact method_meetsIn F.slot_dict_items F.entry_dict_items rfl (PySem.evalArgs_none ⟨rfl, hraw.typeIs, F.args_dict_items_1 _, _, DT.meetsItems (es := es) (ep := ep) hs, hraw, fin⟩)
end
def iKeysT (td : TE) : TI := fun σ H R => td σ H fun x H1 => ∃ d o kvs, x = .ref d ∧ H1 d = some (.frz o (.dT kvs)) ∧ R (Itkt d o kvs) H1
section
variable {X : Cx} {tg e : Expr} {td : TE} {apos cpos : Pos}
theorem pi_keysT (he : PE X e td) (hbase : attributeBase e "keys" X.env (eval e X.env) = eval e X.env := by rfl) (hline : (apos.endLine == cpos.line) = true := by rfl) : PI X tg (.Call (.Attribute e "keys" apos) [] [] cpos) (iKeysT td) := by
  refine ⟨fun pins s σ H R I h => ?_⟩
  refine wpAny_Call_method (T := "dict") (id := "dict.keys") hbase rfl hline F.plainAttrs_dict F.slot_dict_keys F.type_dict_keys (thn (he.run pins s σ H _ I h) fun u s1 ⟨x, H1, I1, rx, d, o, kvs, ex, hd, q⟩ => ?_)
  subst ex
  obtain rfl : u = Value.ref d := rx
  obtain ⟨hs, hgd, hx, es, ep, hdt, hsz, ent⟩ := I1.frzT hd
  have hraw : s1.heap.DictRaw d es ep := ⟨o, hgd, hx, hdt⟩
  refine ⟨hraw.typeIs, fun o' ho' => ?_, ?_⟩
  · cases ho'
    exact ⟨o, hgd, hx.2.1⟩
  have I2 : Inv X pins σ H1 { s1 with heap := s1.heap.push { cls := .type "dict_keys", data := .fields #[.ref d] } } := I1.kept (t' := s1.toks) fun b ob q => Heap.get?_push_of_some _ q
  have fin : wpAny (model X.prog X.w) X.A (pyIter (.ref s1.heap.objs.size)) (PIE X pins σ tg R) X.xe { s1 with heap := s1.heap.push { cls := .type "dict_keys", data := .fields #[.ref d] } } := by
    refine wpAny_pyIter_keys_raw (d := d) ⟨_, Heap.get?_push_size _ rfl, rfl, rfl⟩ (hraw.push _) (pi_one (tk := s1.toks) I2 _ (turn_keysT _ hdt) ⟨_, Heap.get?_push_size _ rfl, rfl, ?_⟩ q)
    rw [hsz] <;> rfl
  show wpAny _ _ (callWith cpos (.builtin "dict.keys") [.ref d] [] []) _ X.xe s1
  exact method_meetsIn F.slot_dict_keys F.entry_dict_keys rfl (PySem.evalArgs_none ⟨rfl, hraw.typeIs, F.args_dict_keys_1 _, _, meets_dict_keys_raw d hs, ⟨⟨es, ep, hraw⟩, fin⟩⟩)
end
section
variable {prog : Program} {w : World} {κ : Type} [DecidableEq κ] {knd : HeapKind prog w κ} {A : Around} {E : Value → Shared → Prop} {s : Shared}
theorem call_dictH {o : Addr} {more : List (κ × Addr × Value)} {Q : Value → Shared → Prop} (hu : ∀ A' : Around, A'.units ≤ A.units + 2 → knd.room A') (hoS : (o == sysModules) = false) (ho : s.heap.DictOfH knd o more) (hsz : more.length ≤ sizeLine)
    (hty : ∀ x ∈ more, s.TypeIs (.ref x.2.1) "tuple") (hap : (more.map fun x => knd.hash x.1).Nodup) (hst : ∀ x ∈ more, knd.is (s.heap.push { cls := .type "dict", data := .dict #[] }) x.1 x.2.1)
    (h : ∀ h', h'.DictOfH knd s.heap.objs.size more → Heap.SameBut s.heap.objs.size (s.heap.push { cls := .type "dict", data := .dict #[] }) h' → Q (.ref s.heap.objs.size) { s with heap := h' }) :
    wpAny (model prog w) A (call (.type "dict") [.ref o]) Q E s := by
  refine callType_codes (Q₁ := fun obj s₁ => obj = .ref s.heap.objs.size ∧ s₁ = { s with heap := s.heap.push { cls := .type "dict", data := .dict #[] } }) F.kt_called_dict (F.kt_typeCall_dict_1 _) F.entry_dict_init (kt_code_dict_new _ ⟨rfl, rfl⟩) ?_
  rintro obj s₁ ⟨rfl, rfl⟩
  have hnew : (s.heap.push { cls := .type "dict", data := .dict #[] }).DictOfH knd s.heap.objs.size [] := Heap.DictOfH.new s.heap
  have hdo : s.heap.objs.size ≠ o := by
    obtain ⟨_, _, _, hg, _⟩ := ho
    exact fun e => absurd (Heap.lt_size hg) (by rw [e]; exact Nat.lt_irrefl _)
  have ho' : (s.heap.push { cls := .type "dict", data := .dict #[] }).DictOfH knd o more := by
    obtain ⟨ob, es, ep, h1, h2, h3, h4, h5, h6⟩ := ho
    exact ⟨ob, es, ep, Heap.get?_push_of_some _ h1, h2, h3, h4, hst, h6⟩
  have hn := ho.nodup
  refine ⟨hnew.typeIs, F.args_dict_init_2 _ _, ?_⟩
  unfold Builtin.«dict.__init__»
  refine wpAny_bind ?_
  unfold Builtin.Dict.selfAndRest
  refine wpAny_bind (wpAny_notOrdered_dict hnew.typeIs ?_)
  show wpAny _ _ (pure (s.heap.objs.size, [Value.ref o])) _ _ _
  refine wpAny_pure ?_
  show wpAny _ _ (Builtin.Dict.updateFrom "dict.__init__" s.heap.objs.size (.ref o) [] .none) _ _ _
  unfold Builtin.Dict.updateFrom
  refine wpAny_bind (wpAny_typeOf ho'.typeIs ?_)
  rw [if_neg (by decide)]
  refine wpAny_bind ?_
  unfold Builtin.Dict.merge
  refine wpAny_bind ?_
  unfold Builtin.Dict.readDirectly
  refine wpAny_bind (wpAny_isInstance ho'.typeIs isSubtype_dict_dict ?_)
  simp only [Bool.not_true, Bool.false_eq_true, if_false]
  refine wpAny_bind (wpAny_specialOf ho'.typeIs F.slot_dict_iter.lookup (wpAny_pure ?_))
  simp only [beq_self_eq_true, if_true]
  refine wpAny_bind (wpAny_pure ?_)
  refine wpAny_mergeDict_heap (hsz := by simpa using hsz) (hu _ ?_) hdo hoS hnew ho' (.inr ⟨fun x hx => ?_, hap⟩) fun h' hd' _ hs' => ?_
  · exact Nat.le_refl _
  · obtain ⟨ob, h1, h2⟩ := hty x hx
    exact ⟨ob, Heap.get?_push_of_some _ h1, h2⟩
  show wpAny _ _ (Builtin.Dict.addKeywords s.heap.objs.size [] >>= _) _ _ _
  rw [storedAllH_nil_of_nodup more hn] at hd'
  exact wpAny_bind (wpAny_pure (wpAny_pure ⟨rfl, h h' hd' hs'⟩))
end
/-- the hash of a pair of small numbers -/
def ph (p : Int × Int) : Int := reduceHash (Builtin.Tuple.tupleHashOf [hashInt p.1, hashInt p.2])
def smalls : List (Int × Int) := (List.range 16).flatMap fun a : Nat => (List.range 16).map fun b : Nat => ((a : Int) - 1, (b : Int) - 1)
theorem ph_nodup : (smalls.map ph).Nodup := by decide +kernel
def smallP (p : Int × Int) : Prop := (-1 ≤ p.1 ∧ p.1 ≤ 14) ∧ (-1 ≤ p.2 ∧ p.2 ≤ 14)
theorem mem_smalls {p : Int × Int} (h : smallP p) : p ∈ smalls := by
  unfold smalls
  rw [List.mem_flatMap]
  obtain ⟨a, b⟩ := p
  obtain ⟨⟨h1, h2⟩, h3, h4⟩ := h
  simp only at h1 h2 h3 h4
  refine ⟨(a + 1).toNat, List.mem_range.mpr (by omega), List.mem_map.mpr ⟨(b + 1).toNat, List.mem_range.mpr (by omega), ?_⟩⟩
  congr 1 <;> omega
theorem inj_of_nodup_map {α β : Type} {f : α → β} : ∀ {l : List α}, (l.map f).Nodup → ∀ {x y}, x ∈ l → y ∈ l → f x = f y → x = y
  | [], _, x, y, h, _, _ => nomatch h
  | z :: l, h, x, y, hx, hy, e => by
    rw [List.map_cons, List.nodup_cons] at h
    rcases List.mem_cons.mp hx with ex | mx
    · rcases List.mem_cons.mp hy with ey | my
      · rw [ex, ey]
      · rw [ex] at e
        exact absurd (List.mem_map.mpr ⟨y, my, e.symm⟩) h.1
    · rcases List.mem_cons.mp hy with ey | my
      · rw [ey] at e
        exact absurd (List.mem_map.mpr ⟨x, mx, e⟩) h.1
      · exact inj_of_nodup_map h.2 mx my e
/-- a pair as a key -/
def kk (p : IP) : List L2.Key := [.inl p.1, .inl p.2]
theorem kk_inj {p q : IP} (h : kk p = kk q) : p = q := by
  unfold kk at h
  injection h with h1 h2
  injection h2 with h2 _
  injection h1 with h1
  injection h2 with h2
  exact Prod.ext h1 h2
theorem ph_is {prog : Program} {w : World} (p : IP) : (tupleKind (mixKind prog w)).hash (kk p) = ph p := rfl
/-- dict(d) of a dict with keys that are pairs of small numbers -/
def rDictT : List V → Hp → VK → Prop := fun xs H Q => ∃ (a : Addr) (kvs : List (List L2.Key × V)), xs = [.ref a] ∧ Rd H a (.dT kvs) ∧ (∀ e ∈ kvs, ∃ p, e.1 = kk p ∧ smallP p) ∧ ∀ p, H p = none → Q (.ref p) (upd H p (.dT kvs))
theorem KT_mem {H : Hp} : ∀ {kvs : List (List L2.Key × V)} {xs : List (List L2.Key × Addr × Value)}, KT H kvs xs → ∀ x ∈ xs, ∃ v, (x.1, v) ∈ kvs ∧ H x.2.1 = some (.tup (x.1.map kV))
  | [], _, h, x, hx => by cases h; exact nomatch hx
  | e :: kvs, _, h, x, hx => by
    cases h with
    | cons h1 h2 =>
      rcases List.mem_cons.mp hx with rfl | hx
      · exact ⟨e.2, List.mem_cons.mpr (.inl (by rw [← h1.1])), by rw [← h1.1]; exact h1.2.1⟩
      · obtain ⟨v, m, q⟩ := KT_mem h2 x hx
        exact ⟨v, List.mem_cons_of_mem _ m, q⟩
theorem KT_stay {H H' : Hp} (k : ∀ t ys, H t = some (.tup ys) → H' t = some (.tup ys)) : ∀ {kvs : List (List L2.Key × V)} {xs : List (List L2.Key × Addr × Value)}, KT H kvs xs → KT H' kvs xs
  | [], _, h => by cases h; exact .nil
  | e :: kvs, _, h => by
    cases h with
    | cons h1 h2 => exact .cons ⟨h1.1, k _ _ h1.2.1, h1.2.2⟩ (KT_stay k h2)
theorem nodup_map_inj {α β : Type} {f : α → β} : ∀ {l : List α}, (∀ x ∈ l, ∀ y ∈ l, f x = f y → x = y) → l.Nodup → (l.map f).Nodup
  | [], _, _ => List.nodup_nil
  | x :: l, h, n => by
    rw [List.nodup_cons] at n
    rw [List.map_cons, List.nodup_cons]
    refine ⟨fun m => ?_, nodup_map_inj (fun a ha b hb => h a (List.mem_cons_of_mem _ ha) b (List.mem_cons_of_mem _ hb)) n.2⟩
    obtain ⟨y, hy, e⟩ := List.mem_map.mp m
    have := h y (List.mem_cons_of_mem _ hy) x List.mem_cons_self e
    subst this
    exact n.1 hy
section
variable {X : Cx}
theorem call_dictT (hu : X.A.units + 2 < cLine) : CallR X (.type "dict") rDictT := by
  intro pins s σ H xs us Q I r q
  obtain ⟨a, kvs, ex, hd, hk, q⟩ := q
  subst ex
  obtain ⟨u, eu, rx⟩ := vals1 r
  subst eu
  cases rx
  obtain ⟨z, lo, vs, rel, dd⟩ := dt_rd I.hok hd
  have keyOk : ∀ x ∈ vs, ∃ p, x.1 = kk p ∧ smallP p := fun x hx => by
    obtain ⟨v, m, _⟩ := KT_mem rel x hx
    exact hk _ m
  have hap : (vs.map fun x => (tupleKind (mixKind X.prog X.w)).hash x.1).Nodup := by
    have e : (vs.map fun x => (tupleKind (mixKind X.prog X.w)).hash x.1) = (vs.map (·.1)).map (tupleKind (mixKind X.prog X.w)).hash := by rw [List.map_map] <;> rfl
    rw [e]
    refine nodup_map_inj (fun x hx y hy exy => ?_) dd.nodup
    obtain ⟨x', hx', rfl⟩ := List.mem_map.mp hx
    obtain ⟨y', hy', rfl⟩ := List.mem_map.mp hy
    obtain ⟨p, ep, sp⟩ := keyOk x' hx'
    obtain ⟨p', ep', sp'⟩ := keyOk y' hy'
    rw [ep, ep'] at exy ⊢
    rw [ph_is, ph_is] at exy
    rw [inj_of_nodup_map ph_nodup (mem_smalls sp) (mem_smalls sp') exy]
  have tupOf : ∀ x ∈ vs, ∃ its : List Value, IsTup s.heap x.2.1 its.toArray := fun x hx => by
    obtain ⟨v, m, e⟩ := KT_mem rel x hx
    obtain ⟨_, its, _, it⟩ := (show ObjOk X.prog X.w H s.heap x.2.1 (.tup (x.1.map kV)) from I.hok _ _ e)
    exact ⟨its, it⟩
  refine call_dictH (knd := tupleKind (mixKind X.prog X.w)) (fun A' hA => show A'.units < cLine by omega) lo dd (by rw [← Paired.length rel]; exact z) (fun x hx => ?_) hap (fun x hx => ?_) fun h' d' hs => ?_
  · obtain ⟨its, o, h1, h2, _⟩ := tupOf x hx
    exact ⟨o, h1, h2⟩
  · obtain ⟨_, _, _, _, _, _, _, his, _⟩ := dd
    obtain ⟨o, items, n, h1, h2, h3, h4⟩ := his x hx
    exact ⟨o, items, n, Heap.get?_push_of_some _ h1, h2, h3, h4⟩
  have hm : (s.heap.objs.size == sysModules) = false := beq_eq_false_iff_ne.mpr (Nat.ne_of_gt I.big)
  have hfree := I.hok.fresh (Nat.le_refl _)
  obtain ⟨o, es, ep, g1, g2, g3, g4, _, g6⟩ := d'
  refine ⟨.ref s.heap.objs.size, upd H s.heap.objs.size (.dT kvs), I.laid (t' := s.toks) (fun b u e => (hs.2 b (Nat.ne_of_lt (Heap.lt_size e))).trans (Heap.get?_push_of_some _ e)) (Nat.le_refl _)
    (show ObjOk X.prog X.w _ _ _ (.dT kvs) from ⟨z, hm, vs, KT_stay (fun t ys e => by rw [upd_ne (ne_of_none e hfree)]; exact e) rel, o, es, ep, g1, g2, g3, g4, g6⟩), rfl, q _ hfree⟩
end
theorem _root_.L2.Room.u2 {A : Around} {k : Nat} (hr : Room k A) : A.units + 2 < cLine := by have := hr.un; omega
theorem meetsPop1 {prog : Program} {w : World} {κ : Type} [DecidableEq κ] {knd : HeapKind prog w κ} {d b : Addr} {k : κ} (hd : (d == sysModules) = false) :
    MeetsIn prog w (Builtin.«dict.pop» ⟨[.ref d, .ref b], []⟩) (fun A R s => ∃ xs, knd.room A.in1 ∧ knd.is s.heap k b ∧ s.heap.DictOfH knd d xs ∧ xs.length ≤ sizeLine ∧ (∃ p, atKey xs k = some p) ∧
      ∀ p, atKey xs k = some p → ∀ h' tk, h'.DictOfH knd d (DT.dropH xs k) → Heap.SameBut d s.heap h' → R (.ok (.ret p.2)) { s with heap := h', toks := tk }) :=
  .of_wp fun A R s ⟨xs, hu, hkey, hm, hsz, ⟨p0, hp0⟩, hsome⟩ => by
    obtain ⟨o, es, ep, ho, hc, hdat, he, his, hn⟩ := id hm
    have hes : es.size = xs.length := size_of_entries he
    have hpart : (keyPart (Value.ref b)).isSome = false := rfl
    unfold Builtin.«dict.pop»
    refine wpAny_bind ?_
    unfold Builtin.Dict.keyAndDefault
    refine wpAny_bind (wpAny_notOrdered_dict hm.typeIs ?_)
    show wpAny _ _ (pure (d, Value.ref b, none)) _ _ s
    refine wpAny_pure ?_
    simp only [hpart, Bool.false_eq_true, if_false]
    refine wpAny_bind (wpAny_dictEntries ho hdat (wpAny_bind (wpAny_pure ?_)))
    cases hem : es.isEmpty with
    | true =>
      have h0 : xs = [] := by
        have z : es.size = 0 := by simpa using hem
        exact List.length_eq_zero_iff.mp (by omega)
      subst h0
      exact nomatch hp0
    | false =>
      simp only [Bool.false_eq_true, if_false]
      refine wpAny_bind (DT.takeH hu hkey hm hsz (fun hno => ?_) fun p e hp hev h' hm' hs' => ?_)
      · rw [hno] at hp0
        exact nomatch hp0
      · simp only [Option.isNone_some, Bool.false_eq_true, if_false]
        exact wpAny_bind (wpAny_letGo (wpAny_pure ⟨e.val, rfl, by rw [hev]; exact hsome p hp h' _ hm' hs'⟩))
def rPop1T : V → List V → Hp → VK → Prop := fun x xs H Q => ∃ (a : Addr) (kvs : List (List L2.Key × V)) (k : List L2.Key) (b : Addr) (v : V), x = .ref a ∧ xs = [.ref b] ∧ H a = some (.dT kvs) ∧ H b = some (.tup (k.map kV)) ∧ valV kvs k = some v ∧ Q v (upd H a (.dT (dropK kvs k)))
theorem mt_pop1T {X : Cx} (hu : X.A.units + 2 < cLine) : MtR X "dict.pop" rPop1T := by
  intro pins s σ H x xs v us Q I rx rxs h
  obtain ⟨a, kvs, k, b, v1, rfl, rfl, ha, hb, ev, q1⟩ := h
  cases rx
  obtain ⟨u1, rfl, r1⟩ := vals1 rxs
  cases r1
  obtain ⟨z, hd, xs', rel, dd⟩ := dt_of I.hok ha
  have hz : xs'.length ≤ sizeLine := by rw [← Paired.length rel]; exact z
  have r := rel.val k
  rw [ev] at r
  refine call_meetsIn PySem.F.slot_dict_pop dd.typeIs PySem.F.entry_dict_pop (PySem.F.args_dict_pop_2 _ _) (meetsPop1 (knd := tupleKind (mixKind X.prog X.w)) (k := k) hd)
    ⟨xs', tupleKind_room_in1 (by omega), key_of I.hok hb, dd, hz, ?_, fun p hp h' tk dd' hs => ?_⟩
  · cases ea : atKey xs' k with
    | none => rw [ea] at r; exact (show False from r).elim
    | some p => exact ⟨p, rfl⟩
  · rw [hp] at r
    obtain ⟨o, es, ep, hq, h2, h3, h4, _, h5⟩ := dd'
    have I2 : Inv X pins σ (upd H a (.dT (dropK kvs k))) { s with heap := h', toks := tk } :=
      d_write I (by rw [ha]; exact True.intro) hs ⟨o, hq⟩ ⟨Nat.le_trans (dropK_le kvs k) z, hd, _, (DX.KT_drop k rel).keeps (fun c ys ec => (by rw [upd_ne (ne_of ec ha (fun z => nomatch z))]; exact ec)), o, es, ep, hq, h2, h3, h4, h5⟩
    show EP X pins σ Q p.2 _
    exact ⟨v1, _, I2, r, q1⟩
end Pm
namespace Pm
open PySem PySem.Spec PyProof.Rows L2
/-- a pair of numbers: tracked, or written in the top -/
def FrV (K : PySem.W.Frag) (H : Hp) (v : V) (p : IP) : Prop := ∃ t, v = .ref t ∧ (H t = some (.tup [.int p.1, .int p.2]) ∨ ∀ H', SqT K H' t [.int p.1, .int p.2])
section
variable {K : PySem.W.Frag} {H H' : Hp} {v : V} {p q : IP}
theorem FrV.keep (k : Keeps H H') (h : FrV K H v p) : FrV K H' v p := by
  obtain ⟨t, e, h | h⟩ := h
  · exact ⟨t, e, .inl (k _ _ h)⟩
  · exact ⟨t, e, .inr h⟩
theorem FrV.tup {t : Addr} (h : FrV K H (.ref t) p) : SqT K H t [.int p.1, .int p.2] := by
  obtain ⟨t, e, h | h⟩ := h
  · cases e; exact SqT.of h
  · cases e; exact h H
theorem FrV.of (h : Pr H v p) : FrV K H v p := by
  obtain ⟨t, e, h⟩ := h
  exact ⟨t, e, .inl h⟩
theorem frv_mono (H H' : Hp) (v : V) (p : IP) (k : Keeps H H') (h : FrV K H v p) : FrV K H' v p := h.keep k
theorem FrV.dp (h : FrV K H v p) : Dp K H v (pD p) := by
  obtain ⟨t, rfl, h⟩ := h
  exact .tup (FrV.tup ⟨t, rfl, h⟩) (.cons (.int _) (.cons (.int _) .nil))
end
theorem w_neFr {K : PySem.W.Frag} {H : Hp} {Q : VK} {v u : V} {p q : IP} (h1 : FrV K H v p) (h2 : FrV K H u q) (h : Q (.bl (!decide (p = q))) H) : rNeD K v u H Q :=
  ⟨_, _, h1.dp, h2.dp, shaped_pD _, shaped_pD _, by rw [eqv_pD]; exact h⟩
/-- the fraction as a pair -/
def rp (r : Rat) : IP := (r.num, (r.den : Int))
def En (K : PySem.W.Frag) (H : Hp) (L : IP → IP) (e : List L2.Key × V) (k : IP) : Prop := e.1 = kk k ∧ FrV K H e.2 (L k)
/-- the dict at d: its keys in order, and what each holds -/
structure LD (K : PySem.W.Frag) (H : Hp) (d : Addr) (ks : List IP) (L : IP → IP) : Prop where
  nd : ks.Nodup
  ex : ∃ es, H d = some (.dT es) ∧ All2 (En K H L) es ks
def updF (L : IP → IP) (k : IP) (p : IP) : IP → IP := fun j => if j = k then p else L j
theorem updF_same {L : IP → IP} {k p : IP} : updF L k p k = p := if_pos rfl
theorem updF_ne {L : IP → IP} {k p j : IP} (h : j ≠ k) : updF L k p j = L j := if_neg h
def putk (ks : List IP) (k : IP) : List IP := if k ∈ ks then ks else ks ++ [k]
theorem mem_putk {ks : List IP} {k j : IP} : j ∈ putk ks k ↔ j ∈ ks ∨ j = k := by
  unfold putk
  split
  · rename_i h
    constructor
    · exact .inl
    · rintro (z | rfl)
      · exact z
      · exact h
  · rw [List.mem_append, List.mem_singleton]
theorem putk_new {ks : List IP} {k : IP} (h : k ∉ ks) : putk ks k = ks ++ [k] := if_neg h
theorem putk_old {ks : List IP} {k : IP} (h : k ∈ ks) : putk ks k = ks := if_pos h
theorem putk_nodup {ks : List IP} {k : IP} (h : ks.Nodup) : (putk ks k).Nodup := by
  unfold putk
  split
  · exact h
  · rename_i n
    rw [List.nodup_append]
    exact ⟨h, by simp, fun a ha b hb => by rw [List.mem_singleton.mp hb]; rintro rfl; exact n ha⟩
theorem putk_len (ks : List IP) (k : IP) : (putk ks k).length ≤ ks.length + 1 := by
  unfold putk
  split
  · omega
  · rw [List.length_append, List.length_singleton]; exact Nat.le_refl _
section
variable {K : PySem.W.Frag} {H H' : Hp} {L : IP → IP}
theorem ens_keep (k : Keeps H H') {es : List (List L2.Key × V)} {ks : List IP} (h : All2 (En K H L) es ks) : All2 (En K H' L) es ks := h.mono fun _ _ q => ⟨q.1, q.2.keep k⟩
theorem ens_congr {L' : IP → IP} : ∀ {es : List (List L2.Key × V)} {ks : List IP}, (∀ k ∈ ks, L' k = L k) → All2 (En K H L) es ks → All2 (En K H L') es ks
  | [], [], _, _ => trivial
  | _ :: _, _ :: _, e, h => ⟨⟨h.1.1, by rw [e _ List.mem_cons_self]; exact h.1.2⟩, ens_congr (fun k hk => e k (List.mem_cons_of_mem _ hk)) h.2⟩
theorem ens_val : ∀ {es : List (List L2.Key × V)} {ks : List IP}, All2 (En K H L) es ks → ∀ k, (k ∉ ks → valV es (kk k) = none) ∧ (k ∈ ks → ∃ v, valV es (kk k) = some v ∧ FrV K H v (L k))
  | [], [], _, k => ⟨fun _ => rfl, fun h => nomatch h⟩
  | e :: es, j :: ks, h, k => by
    have ih := ens_val h.2 k
    by_cases z : j = k
    · subst z
      refine ⟨fun n => absurd List.mem_cons_self n, fun _ => ⟨e.2, valV_pos h.1.1, h.1.2⟩⟩
    · have ne : ¬ e.1 = kk k := fun q => z (kk_inj (h.1.1.symm.trans q))
      rw [valV_neg ne]
      refine ⟨fun n => ih.1 fun m => n (List.mem_cons_of_mem _ m), fun m => ih.2 ?_⟩
      rcases List.mem_cons.mp m with q | q
      · exact absurd q.symm z
      · exact q
theorem ens_some {es : List (List L2.Key × V)} {ks : List IP} (h : All2 (En K H L) es ks) (k : IP) : (valV es (kk k)).isSome = decide (k ∈ ks) := by
  obtain ⟨h1, h2⟩ := ens_val h k
  by_cases m : k ∈ ks
  · obtain ⟨v, e, _⟩ := h2 m
    rw [e, decide_eq_true m] <;> rfl
  · rw [h1 m, decide_eq_false m] <;> rfl
theorem ens_map {v : V} {k p : IP} (hv : FrV K H v p) : ∀ {es : List (List L2.Key × V)} {ks : List IP}, All2 (En K H L) es ks → All2 (En K H (updF L k p)) (es.map fun kv => if kv.1 = kk k then (kv.1, v) else kv) ks
  | [], [], _ => trivial
  | e :: es, j :: ks, h => by
    refine ⟨?_, ens_map hv h.2⟩
    by_cases z : j = k
    · subst z
      show En K H _ (if e.1 = kk j then (e.1, v) else e) j
      rw [if_pos h.1.1]
      exact ⟨h.1.1, by rw [updF_same]; exact hv⟩
    · have ne : ¬ e.1 = kk k := fun q => z (kk_inj (h.1.1.symm.trans q))
      show En K H _ (if e.1 = kk k then (e.1, v) else e) j
      rw [if_neg ne]
      exact ⟨h.1.1, by rw [updF_ne z]; exact h.1.2⟩
theorem ens_put {v : V} {k p : IP} (hv : FrV K H v p) {es : List (List L2.Key × V)} {ks : List IP} (h : All2 (En K H L) es ks) : All2 (En K H (updF L k p)) (putK es (kk k) v) (putk ks k) := by
  unfold putK putk
  rw [valV_any, ens_some h]
  by_cases m : k ∈ ks
  · rw [decide_eq_true m, if_pos rfl, if_pos m]
    exact ens_map hv h
  · rw [decide_eq_false m, if_neg Bool.false_ne_true, if_neg m]
    refine All2.snoc (ens_congr (fun j hj => updF_ne (fun z => m (z ▸ hj))) h) ⟨rfl, by rw [updF_same]; exact hv⟩
theorem ens_drop {k : IP} : ∀ {es : List (List L2.Key × V)} {ks : List IP}, All2 (En K H L) es ks → All2 (En K H L) (dropK es (kk k)) (ks.filter fun j => decide (j ≠ k))
  | [], [], _ => trivial
  | e :: es, j :: ks, h => by
    have ih := ens_drop (k := k) h.2
    unfold dropK at ih ⊢
    by_cases z : j = k
    · subst z
      rw [List.filter_cons_of_neg (by simp [h.1.1]), List.filter_cons_of_neg (by simp)]
      exact ih
    · have ne : ¬ e.1 = kk k := fun q => z (kk_inj (h.1.1.symm.trans q))
      rw [List.filter_cons_of_pos (by simp [ne]), List.filter_cons_of_pos (by simp [z])]
      exact ⟨h.1, ih⟩
end
section
variable {K : PySem.W.Frag} {H H' : Hp} {d b : Addr} {ks : List IP} {L : IP → IP} {k : IP} {Q : VK} {nx : L2.St → Hp → Prop} {σ : L2.St}
theorem LD.same (h : LD K H d ks L) (s : Same H H') : LD K H' d ks L := by
  obtain ⟨n, es, h1, h2⟩ := h
  exact ⟨n, es, s _ _ h1, ens_keep (keeps s) h2⟩
theorem LD.keep {o : HO} (h : LD K H d ks L) (k : Keeps H H') (e : H' d = H d) : LD K H' d ks L := by
  obtain ⟨n, es, h1, h2⟩ := h
  exact ⟨n, es, by rw [e]; exact h1, ens_keep k h2⟩
theorem LD.congr {L' : IP → IP} (h : LD K H d ks L) (e : ∀ k ∈ ks, L' k = L k) : LD K H d ks L' := by
  obtain ⟨n, es, h1, h2⟩ := h
  exact ⟨n, es, h1, ens_congr e h2⟩
theorem ld_nil (h : H d = some (.dT [])) (L : IP → IP) : LD K H d [] L := ⟨List.nodup_nil, [], h, trivial⟩
theorem kk_map (p : IP) : (kk p).map kV = [.int p.1, .int p.2] := rfl
theorem Pr.kkey (h : Pr H (.ref b) k) : H b = some (.tup ((kk k).map kV)) := by
  obtain ⟨t, e, h⟩ := h
  cases e
  exact h
theorem w_ldIn (h : LD K H d ks L) (hb : Pr H (.ref b) k) (q : Q (.bl (decide (k ∈ ks))) H) : DInK (.ref b) Q (.ref d) H := by
  obtain ⟨n, es, h1, h2⟩ := h
  exact w_diT h1 hb.kkey (by rw [ens_some h2]; exact q)
theorem w_ldNotIn (h : LD K H d ks L) (hb : Pr H (.ref b) k) (q : Q (.bl (!decide (k ∈ ks))) H) : DNotInK (.ref b) Q (.ref d) H := by
  obtain ⟨n, es, h1, h2⟩ := h
  exact w_dniT h1 hb.kkey (by rw [ens_some h2]; exact q)
theorem w_ldGet (h : LD K H d ks L) (hb : Pr H (.ref b) k) (m : k ∈ ks) (q : ∀ t, FrV K H (.ref t) (L k) → Q (.ref t) H) : DGK (.ref d) Q (.ref b) H := by
  obtain ⟨n, es, h1, h2⟩ := h
  obtain ⟨v, e, hv⟩ := (ens_val h2 k).2 m
  obtain ⟨t, rfl, ht⟩ := id hv
  exact w_dgT h1 hb.kkey e (q t hv)
theorem w_ldPut {v : V} {p : IP} (h : LD K H d ks L) (hb : Pr H (.ref b) k) (hv : FrV K H v p) (hl : ks.length < 1000000) (q : ∀ es, LD K (upd H d (.dT es)) d (putk ks k) (updF L k p) → Keeps H (upd H d (.dT es)) → nx σ (upd H d (.dT es))) : DPK nx σ v (.ref d) (.ref b) H := by
  obtain ⟨n, es, h1, h2⟩ := h
  have k0 : Keeps H (upd H d (.dT (putK es (kk k) v))) := keeps_dT h1
  exact w_dpT h1 hb.kkey (size_lt (by rw [h2.length]; omega)) (q _ ⟨putk_nodup n, _, upd_same, ens_keep k0 (ens_put hv h2)⟩ k0)
theorem w_ldLen (h : LD K H d ks L) (q : Q (.int ks.length) H) : rLenT [.ref d] H Q := by
  obtain ⟨n, es, h1, h2⟩ := h
  exact ⟨d, es, rfl, h1, by rw [h2.length]; exact q⟩
theorem w_ldDict (h : LD K H d ks L) (sm : ∀ k ∈ ks, smallP k) (q : ∀ p es, H p = none → LD K (upd H p (.dT es)) p ks L → Q (.ref p) (upd H p (.dT es))) : rDictT [.ref d] H Q := by
  obtain ⟨n, es, h1, h2⟩ := h
  refine ⟨d, es, rfl, .inl h1, fun e he => ?_, fun p hp => q p es hp ⟨n, es, upd_same, ens_keep (keeps (same_new hp _)) h2⟩⟩
  obtain ⟨k, hk, r⟩ := h2.mem he
  exact ⟨k, r.1, sm k hk⟩
theorem w_isiLd {nm : String} {bb : Bool} (h : LD K H d ks L) (e : kitB "dict" nm = some bb) (q : Q (.bl bb) H) : rIsi K [.ref d, .ty nm] H Q := by
  obtain ⟨n, es, h1, h2⟩ := h
  exact ⟨_, _, _, _, bb, rfl, .ty nm, .base (.dT h1), kit_ty e, q⟩
/-- heaps alike but for the object at d, which is locked -/
theorem same_lock {H0 H H1 : Hp} {d : Addr} {od : Obj} {u : HO} (hd : H0 d = some u) (s : Same (upd H0 d (.frz od u)) H1) : Same H0 (upd H1 d u) := fun b o e => by
  by_cases z : b = d
  · subst z
    rw [upd_same, ← hd]; exact e
  · rw [upd_ne z]
    exact s _ _ (by rw [upd_ne z]; exact e)
theorem lock_keeps {H0 H1 : Hp} {d : Addr} {od : Obj} {es : List (List L2.Key × V)} (hd : H0 d = some (.dT es)) (s : Same (upd H0 d (.frz od (.dT es))) H1) : Keeps H0 H1 := fun t xs e => by
  refine s _ _ ?_
  rw [upd_ne (ne_of e hd (fun z => nomatch z))]
  exact e
theorem lock_get {H0 H1 : Hp} {d b : Addr} {od : Obj} {u o : HO} (s : Same (upd H0 d (.frz od u)) H1) (e : H0 b = some o) (n : b ≠ d) : H1 b = some o := s _ _ (by rw [upd_ne n]; exact e)
theorem lock_mono {H0 H : Hp} {d : Addr} {od : Obj} {u : HO} (s : Same H0 H) : Same (upd H0 d (.frz od u)) (upd H d (.frz od u)) := fun b o e => by
  by_cases z : b = d
  · subst z
    rw [upd_same] at e ⊢; exact e
  · rw [upd_ne z] at e ⊢
    exact s _ _ e
theorem lock_none {H0 : Hp} {d b : Addr} {od : Obj} {u v : HO} (hd : H0 d = some u) (h : H0 b = none) : upd H0 d (.frz od v) b = none := by
  rw [upd_ne (ne_of_none hd h).symm]; exact h
/-- an end behind a locked walk -/
def LkE {α : Type} (d : Addr) (od : Obj) (u : HO) (R : α → Hp → Prop) : α → Hp → Prop := fun x H' => H' d = some (.frz od u) ∧ R x (upd H' d u)
end
section
variable {K : PySem.W.Frag} {bk ct nx : L2.St → Hp → Prop} {rt : VK} {σ : L2.St} {g : TG} {t : TS} {L : IP → IP} {ks : List IP} {d : Addr} {td : TE} {H0 H : Hp}
/-- for .. in d.items() -/
theorem w_forItems (hd0 : LD K H0 d ks L) (s0 : Same H0 H) (Iv : Obj → HO → Nat → L2.St → Hp → Prop) (htd : ∀ od u Q, u = u → H d = some u → Q (V.ref d) (upd H d (.frz od u)) → td σ (upd H d (.frz od u)) Q)
    (h0 : ∀ od u, H0 d = some u → Iv od u 0 σ (upd H d (.frz od u)))
    (hs : ∀ od es i k σ H1, H0 d = some (.dT es) → ks[i]? = some k → Same (upd H0 d (.frz od (.dT es))) H1 → Keeps H0 H1 → Iv od (.dT es) i σ H1 → ∀ (T q : Addr) (v : V), H1 T = none → Pr H1 (.ref q) k → FrV K H1 v (L k) →
      g (.ref T) σ (upd H1 T (.tup [.ref q, v])) fun σ2 H2 => t ⟨fun σ' H' => Same (upd H0 d (.frz od (.dT es))) H' ∧ Iv od (.dT es) (i + 1) σ' H', LkE d od (.dT es) rt, LkE d od (.dT es) nx, fun σ' H' => Same (upd H0 d (.frz od (.dT es))) H' ∧ Iv od (.dT es) (i + 1) σ' H'⟩ σ2 H2)
    (he : ∀ od es σ H1, H0 d = some (.dT es) → Same (upd H0 d (.frz od (.dT es))) H1 → Iv od (.dT es) ks.length σ H1 → Same H0 (upd H1 d (.dT es)) → nx σ (upd H1 d (.dT es))) :
    tLock (tFor (iItemsT td) g t) ⟨nx, rt, bk, ct⟩ σ H := by
  obtain ⟨n, es, h1, h2⟩ := hd0
  have hd : H d = some (.dT es) := s0 _ _ h1
  refine ⟨d, .dT es, hd, True.intro, fun od => ?_⟩
  show iItemsT td σ _ _
  refine htd od _ _ rfl hd ⟨d, od, es, rfl, upd_same, ?_⟩
  refine ⟨fun i m σ' H' => i + m = es.length ∧ Same (upd H0 d (.frz od (.dT es))) H' ∧ Iv od (.dT es) i σ' H', ⟨es.length, by omega, lock_mono s0, h0 _ _ h1⟩, ?_⟩
  rintro i m σ' H' ⟨hm, s1, iv⟩
  have lk : H' d = some (.frz od (.dT es)) := s1 _ _ upd_same
  rcases Nat.eq_zero_or_pos m with z | z
  · subst z
    refine .inl ⟨⟨lk, by omega⟩, lk, ?_⟩
    have e : i = ks.length := by rw [← h2.length]; omega
    subst e
    exact he od es σ' H' h1 s1 iv (same_lock (H := H) h1 s1)
  · refine .inr ⟨⟨lk, by omega⟩, _, fun σ2 H2 q => ⟨m - 1, by omega, by omega, q⟩, ?_⟩
    rintro x H2 ⟨T, k, v, q, ek, rfl, hT, hq, rfl⟩
    have kp := lock_keeps h1 s1
    obtain ⟨j, hj, r1, r2⟩ := h2.get ek
    have hq' : Pr H' (.ref q) j := by
      simp only at r1
      rw [r1, kk_map] at hq
      exact ⟨q, rfl, hq⟩
    exact hs od es i j σ' H' h1 hj s1 kp iv T q v hT hq' (r2.keep kp)
/-- for .. in d.keys() -/
theorem w_forKeysT (hd0 : LD K H0 d ks L) (s0 : Same H0 H) (Iv : Obj → HO → Nat → L2.St → Hp → Prop) (htd : ∀ od u Q, u = u → H d = some u → Q (V.ref d) (upd H d (.frz od u)) → td σ (upd H d (.frz od u)) Q)
    (h0 : ∀ od u, H0 d = some u → Iv od u 0 σ (upd H d (.frz od u)))
    (hs : ∀ od es i k σ H1, H0 d = some (.dT es) → ks[i]? = some k → Same (upd H0 d (.frz od (.dT es))) H1 → Keeps H0 H1 → Iv od (.dT es) i σ H1 → ∀ (q : Addr), Pr H1 (.ref q) k →
      g (.ref q) σ H1 fun σ2 H2 => t ⟨fun σ' H' => Same (upd H0 d (.frz od (.dT es))) H' ∧ Iv od (.dT es) (i + 1) σ' H', LkE d od (.dT es) rt, LkE d od (.dT es) nx, fun σ' H' => Same (upd H0 d (.frz od (.dT es))) H' ∧ Iv od (.dT es) (i + 1) σ' H'⟩ σ2 H2)
    (he : ∀ od es σ H1, H0 d = some (.dT es) → Same (upd H0 d (.frz od (.dT es))) H1 → Iv od (.dT es) ks.length σ H1 → Same H0 (upd H1 d (.dT es)) → nx σ (upd H1 d (.dT es))) :
    tLock (tFor (iKeysT td) g t) ⟨nx, rt, bk, ct⟩ σ H := by
  obtain ⟨n, es, h1, h2⟩ := hd0
  have hd : H d = some (.dT es) := s0 _ _ h1
  refine ⟨d, .dT es, hd, True.intro, fun od => ?_⟩
  show iKeysT td σ _ _
  refine htd od _ _ rfl hd ⟨d, od, es, rfl, upd_same, ?_⟩
  refine ⟨fun i m σ' H' => i + m = es.length ∧ Same (upd H0 d (.frz od (.dT es))) H' ∧ Iv od (.dT es) i σ' H', ⟨es.length, by omega, lock_mono s0, h0 _ _ h1⟩, ?_⟩
  rintro i m σ' H' ⟨hm, s1, iv⟩
  have lk : H' d = some (.frz od (.dT es)) := s1 _ _ upd_same
  rcases Nat.eq_zero_or_pos m with z | z
  · subst z
    refine .inl ⟨⟨lk, by omega⟩, lk, ?_⟩
    have e : i = ks.length := by rw [← h2.length]; omega
    subst e
    exact he od es σ' H' h1 s1 iv (same_lock (H := H) h1 s1)
  · refine .inr ⟨⟨lk, by omega⟩, _, fun σ2 H2 q => ⟨m - 1, by omega, by omega, q⟩, ?_⟩
    rintro x H2 ⟨rfl, k, v, q, ek, rfl, hq⟩
    have kp := lock_keeps h1 s1
    obtain ⟨j, hj, r1, r2⟩ := h2.get ek
    have hq' : Pr H2 (.ref q) j := by
      simp only at r1
      rw [r1, kk_map] at hq
      exact ⟨q, rfl, hq⟩
    exact hs od es i j σ' H2 h1 hj s1 kp iv q hq'
end
theorem LD.lock {K : PySem.W.Frag} {H H1 : Hp} {f d : Addr} {od : Obj} {es : List (List L2.Key × V)} {ks : List IP} {L : IP → IP} (h : LD K H f ks L) (hd : H d = some (.dT es)) (ne : f ≠ d) (s : Same (upd H d (.frz od (.dT es))) H1) : LD K H1 f ks L := by
  obtain ⟨n, es', h1, h2⟩ := h
  exact ⟨n, es', lock_get s h1 ne, ens_keep (lock_keeps hd s) h2⟩
theorem perm_len {α : Type} {l l' : List α} (h : l.Nodup) (h' : l'.Nodup) (e : ∀ x, x ∈ l ↔ x ∈ l') : l.length = l'.length := ((List.perm_ext_iff_of_nodup h h').mpr e).length_eq
end Pm
namespace Pm
open PySem PySem.Spec PyProof.Rows L2
/-- a fraction that stands somewhere -/
def FrA (K : PySem.W.Frag) (H : Hp) (r : Rat) (Q : VK) : Prop := ∀ (t : Addr) (H' : Hp), Same H H' → FrV K H' (.ref t) (rp r) → Q (.ref t) H'
theorem FrV.rat {K : PySem.W.Frag} {H : Hp} {t : Addr} {r : Rat} (h : FrV K H (.ref t) (rp r)) : SqT K H t [.int r.num, .int r.den] := h.tup
theorem frv_new {K : PySem.W.Frag} {H : Hp} {t : Addr} {r : Rat} (h : H t = some (.tup [.int r.num, .int r.den])) : FrV K H (.ref t) (rp r) := ⟨t, rfl, .inl h⟩
/-- a pair of fractions -/
def PrV (K : PySem.W.Frag) (H : Hp) (v : V) (s : V2) : Prop := ∃ t u w, v = .ref t ∧ H t = some (.tup [.ref u, .ref w]) ∧ FrV K H (.ref u) (rp s.p) ∧ FrV K H (.ref w) (rp s.q)
section
variable {K : PySem.W.Frag} {H H' : Hp}
theorem PrV.keep (k : Keeps H H') {v : V} {s : V2} (h : PrV K H v s) : PrV K H' v s := by
  obtain ⟨t, u, w, e, h1, h2, h3⟩ := h
  exact ⟨t, u, w, e, k _ _ h1, h2.keep k, h3.keep k⟩
theorem prv_mono (H H' : Hp) (v : V) (s : V2) (k : Keeps H H') (h : PrV K H v s) : PrV K H' v s := h.keep k
end
def SEn (K : PySem.W.Frag) (H : Hp) (S : Nat → V2) (e : L2.Key × V) (i : Nat) : Prop := e.1 = .inl (i : Int) ∧ PrV K H e.2 (S i)
structure SD (K : PySem.W.Frag) (H : Hp) (d : Addr) (ks : List Nat) (S : Nat → V2) : Prop where
  nd : ks.Nodup
  ex : ∃ es, H d = some (.dK es) ∧ All2 (SEn K H S) es ks
section
variable {K : PySem.W.Frag} {H H' : Hp} {S : Nat → V2}
theorem sens_keep (k : Keeps H H') {es : List (L2.Key × V)} {ks : List Nat} (h : All2 (SEn K H S) es ks) : All2 (SEn K H' S) es ks := h.mono fun _ _ q => ⟨q.1, q.2.keep k⟩
theorem key_inj {i j : Nat} (h : (Sum.inl (i : Int) : L2.Key) = Sum.inl (j : Int)) : i = j := by
  have := Sum.inl.inj h
  omega
theorem sens_val : ∀ {es : List (L2.Key × V)} {ks : List Nat}, All2 (SEn K H S) es ks → ∀ k : Nat, (k ∉ ks → valV es (.inl (k : Int)) = none) ∧ (k ∈ ks → ∃ v, valV es (.inl (k : Int)) = some v ∧ PrV K H v (S k))
  | [], [], _, k => ⟨fun _ => rfl, fun h => nomatch h⟩
  | e :: es, j :: ks, h, k => by
    have ih := sens_val h.2 k
    by_cases z : j = k
    · subst z
      refine ⟨fun n => absurd List.mem_cons_self n, fun _ => ⟨e.2, valV_pos h.1.1, h.1.2⟩⟩
    · have ne : ¬ e.1 = .inl (k : Int) := fun q => z (key_inj (h.1.1.symm.trans q))
      rw [valV_neg ne]
      refine ⟨fun n => ih.1 fun m => n (List.mem_cons_of_mem _ m), fun m => ih.2 ?_⟩
      rcases List.mem_cons.mp m with q | q
      · exact absurd q.symm z
      · exact q
theorem sens_some {es : List (L2.Key × V)} {ks : List Nat} (h : All2 (SEn K H S) es ks) (k : Nat) : (valV es (.inl (k : Int))).isSome = decide (k ∈ ks) := by
  obtain ⟨h1, h2⟩ := sens_val h k
  by_cases m : k ∈ ks
  · obtain ⟨v, e, _⟩ := h2 m
    rw [e, decide_eq_true m] <;> rfl
  · rw [h1 m, decide_eq_false m] <;> rfl
end
section
variable {K : PySem.W.Frag} {H H' : Hp} {d : Addr} {ks : List Nat} {S : Nat → V2} {k : Nat} {Q : VK} {nx : L2.St → Hp → Prop} {σ : L2.St}
theorem SD.same (h : SD K H d ks S) (s : Same H H') : SD K H' d ks S := by
  obtain ⟨n, es, h1, h2⟩ := h
  exact ⟨n, es, s _ _ h1, sens_keep (keeps s) h2⟩
theorem w_sdIn (h : SD K H d ks S) (q : Q (.bl (decide (k ∈ ks))) H) : DInK (.int (k : Int)) Q (.ref d) H := by
  obtain ⟨n, es, h1, h2⟩ := h
  exact w_diK (k := .inl (k : Int)) h1 (by rw [sens_some h2]; exact q)
theorem w_sdNotIn (h : SD K H d ks S) (q : Q (.bl (!decide (k ∈ ks))) H) : DNotInK (.int (k : Int)) Q (.ref d) H := by
  obtain ⟨n, es, h1, h2⟩ := h
  exact w_dniK (k := .inl (k : Int)) h1 (by rw [sens_some h2]; exact q)
theorem w_sdGet (h : SD K H d ks S) (m : k ∈ ks) (q : ∀ t, PrV K H (.ref t) (S k) → Q (.ref t) H) : DGK (.ref d) Q (.int (k : Int)) H := by
  obtain ⟨n, es, h1, h2⟩ := h
  obtain ⟨v, e, hv⟩ := (sens_val h2 k).2 m
  obtain ⟨t, u, w, rfl, ht⟩ := id hv
  exact w_dgK (k := .inl (k : Int)) h1 e (q t hv)
theorem w_sdPut {v : V} (h : SD K H d ks S) (m : k ∉ ks) (hv : PrV K H v (S k)) (hl : ks.length < 1000000) (q : ∀ es, SD K (upd H d (.dK es)) d (ks ++ [k]) S → Keeps H (upd H d (.dK es)) → nx σ (upd H d (.dK es))) : DPK nx σ v (.ref d) (.int (k : Int)) H := by
  obtain ⟨n, es, h1, h2⟩ := h
  refine w_dpK (k := .inl (k : Int)) h1 (size_lt (by rw [h2.length]; omega)) ?_
  rw [putK_new v ((sens_val h2 k).1 m)]
  have k0 : Keeps H (upd H d (.dK (es ++ [(.inl (k : Int), v)]))) := keeps_dK h1
  refine q _ ⟨?_, _, upd_same, All2.snoc (sens_keep k0 h2) ⟨rfl, hv.keep k0⟩⟩ k0
  rw [List.nodup_append]
  exact ⟨n, by simp, fun a ha b hb => by rw [List.mem_singleton.mp hb]; rintro rfl; exact m ha⟩
def rLenD : List V → Hp → VK → Prop := fun xs H Q => ∃ (a : Addr) (kvs : List (L2.Key × V)), xs = [.ref a] ∧ H a = some (.dK kvs) ∧ Q (.int kvs.length) H
theorem c_lenD {X : Cx} : CallR X (.builtin "len") rLenD := call_lenD
theorem w_sdLen (h : SD K H d ks S) (q : Q (.int ks.length) H) : rLenD [.ref d] H Q := by
  obtain ⟨n, es, h1, h2⟩ := h
  exact ⟨d, es, rfl, h1, by rw [h2.length]; exact q⟩
end
/-- the display of two posts -/
def DispK (p : Addr) (Q : VK) : List (V × V) → Hp → Prop := fun ps H2 => H2 p = some (.dK []) ∧ ∃ kvs : List (L2.Key × V), ps = kvs.map (fun kv => (kV kv.1, kv.2)) ∧ kvs.length ≤ 15 ∧ Q (.ref p) (upd H2 p (.dK (mergeK [] kvs)))
theorem w_disp {trs : List (TE × TE)} {σ : L2.St} {H : Hp} {Q : VK} (h : ∀ p, H p = none → tPairs trs σ (upd H p (.dK [])) (DispK p Q)) : tDisp trs σ H Q := h
theorem w_pairs {tk tv : TE} {r : List (TE × TE)} {σ : L2.St} {H : Hp} {R : List (V × V) → Hp → Prop} (h : tk σ H fun x H1 => tv σ H1 fun y H2 => tPairs r σ H2 fun ps H3 => R ((x, y) :: ps) H3) : tPairs ((tk, tv) :: r) σ H R := h
theorem w_pairs0 {σ : L2.St} {H : Hp} {R : List (V × V) → Hp → Prop} (h : R [] H) : tPairs [] σ H R := h
theorem w_sdDisp {K : PySem.W.Frag} {H : Hp} {p : Addr} {a b : Nat} {x y : V} {S : Nat → V2} {Q : VK} (hp : H p = some (.dK [])) (ne : a ≠ b) (hx : PrV K H x (S a)) (hy : PrV K H y (S b))
    (q : ∀ es, SD K (upd H p (.dK es)) p [a, b] S → Keeps H (upd H p (.dK es)) → Q (.ref p) (upd H p (.dK es))) : DispK p Q [(.int (a : Int), x), (.int (b : Int), y)] H := by
  refine ⟨hp, [(.inl (a : Int), x), (.inl (b : Int), y)], rfl, by simp, ?_⟩
  have ne' : ¬ (Sum.inl (b : Int) : L2.Key) = Sum.inl (a : Int) := fun z => ne (key_inj z).symm
  have e : mergeK [] [((Sum.inl (a : Int) : L2.Key), x), ((Sum.inl (b : Int) : L2.Key), y)] = [((Sum.inl (a : Int) : L2.Key), x), ((Sum.inl (b : Int) : L2.Key), y)] := by
    show putK (putK [] _ x) _ y = _
    rw [putK_new x valV_nil, List.nil_append, putK_new y (by rw [valV_neg (fun z => ne' z.symm)]; rfl)]
    rfl
  rw [e]
  have k0 : Keeps H (upd H p (.dK [((Sum.inl (a : Int) : L2.Key), x), ((Sum.inl (b : Int) : L2.Key), y)])) := keeps_dK hp
  exact q _ ⟨by simpa using ne, _, upd_same, ⟨rfl, hx.keep k0⟩, ⟨rfl, hy.keep k0⟩, trivial⟩ k0
structure LenD (K : PySem.W.Frag) (H : Hp) (d : Addr) (t : Tr) (D : Nat → Nat → Rat) : Prop where
  ex : ∃ ks L, LD K H d ks L ∧ (∀ p, p ∈ ks ↔ ∃ q, q ∈ t.all 0 ∧ p = castP q) ∧ ∀ q ∈ t.all 0, L (castP q) = rp (D q.1 q.2)
theorem LenD.same {K : PySem.W.Frag} {H H' : Hp} {d : Addr} {t : Tr} {D : Nat → Nat → Rat} (h : LenD K H d t D) (s : Same H H') : LenD K H' d t D := by
  obtain ⟨ks, L, h1, h2⟩ := h
  exact ⟨ks, L, h1.same s, h2⟩
theorem w_lenGet {K : PySem.W.Frag} {H : Hp} {d b : Addr} {t : Tr} {D : Nat → Nat → Rat} {i k : Nat} {Q : VK} (h : LenD K H d t D) (hb : Pr H (.ref b) (castP (i, k))) (m : (i, k) ∈ t.all 0) (q : ∀ u, FrV K H (.ref u) (rp (D i k)) → Q (.ref u) H) : DGK (.ref d) Q (.ref b) H := by
  obtain ⟨ks, L, h1, h2, h3⟩ := h
  refine w_ldGet h1 hb ((h2 _).mpr ⟨_, m, rfl⟩) fun u hu => q u ?_
  rw [h3 _ m] at hu
  exact hu
/-- the target of stands: the two numbers of a post, by the first plot's a and b -/
def tgt (D : Nat → Nat → Rat) (a b : Nat) (i : Nat) : V2 := ⟨D i b / D a b, D a i⟩
section
variable {n : Nat} {t : Tr} {L : Len} {D : Nat → Nat → Rat} {F B a b : Nat}
theorem tgt_det (M : Meas n t L D) (ha : a < n) (hb : b < n) (ne : a ≠ b) {i k : Nat} (hi : i < n) (hk : k < n) : det (tgt D a b i) (tgt D a b k) = D i k := by
  have n0 := M.ne ne ha hb
  have p := M.pl ha hi hb hk
  have a1 := M.anti hk hb
  have a2 := M.anti ha hi
  unfold det tgt
  simp only
  grind
theorem tgt_a (M : Meas n t L D) (ha : a < n) (hb : b < n) (ne : a ≠ b) : tgt D a b a = ⟨1, 0⟩ := by
  have n0 := M.ne ne ha hb
  unfold tgt
  rw [M.self ha]
  congr 1
  grind
theorem tgt_b (M : Meas n t L D) (ha : a < n) (hb : b < n) (ne : a ≠ b) : tgt D a b b = ⟨0, D a b⟩ := by
  unfold tgt
  rw [M.self hb]
  congr 1
  grind
theorem tgt_mix (M : Meas n t L D) (ha : a < n) (hb : b < n) (ne : a ≠ b) {x y z : Nat} (hx : x < n) (hy : y < n) (hz : z < n) (nxy : x ≠ y) : mix (tgt D a b x) (D z y / D x y) (tgt D a b y) (D x z / D x y) = tgt D a b z := by
  have n0 := M.ne ne ha hb
  have n1 := M.ne nxy hx hy
  have p1 := M.pl hx hz hy hb
  have p2 := M.pl ha hx hz hy
  have a1 := M.anti hy hz
  have a2 := M.anti hz hb
  have a3 := M.anti hx hz
  have a4 := M.anti ha hx
  have a5 := M.anti hx hy
  unfold mix tgt
  congr 1
  · simp only
    grind
  · simp only
    grind
theorem tgt_rb (M : Meas n t L D) (Z : Bd n D F B) (ha : a < n) (hb : b < n) (ne : a ≠ b) {i : Nat} (hi : i < n) : rb (tgt D a b i).p B ∧ rb (tgt D a b i).q B :=
  ⟨Z.quot hi hb ha hb (M.ne ne ha hb), Z.rb ha hi⟩
end
def spBetween (K : PySem.W.Frag) : Sp := fun vs H Q _ => ∃ (d : Addr) (t : Tr) (D : Nat → Nat → Rat) (a b : Nat), vs = [.ref d, .int a, .int b] ∧ LenD K H d t D ∧ (min a b, max a b) ∈ t.all 0 ∧ a ≠ b ∧ D a b = - D b a ∧ FrA K H (D a b) Q
end Pm
namespace Pm
def vb (v : V2) (E B : Nat) : Prop := ∃ x y : Int, v.p * E = x ∧ v.q * E = y ∧ x.natAbs ≤ B ∧ y.natAbs ≤ B
theorem cast_mul_nat (a b : Nat) : ((a * b : Nat) : Rat) = (a : Rat) * (b : Rat) := Rat.natCast_mul a b
theorem vb.scale {v : V2} {E B : Nat} (h : vb v E B) (k C : Nat) (hk : k ≤ C) : vb v (E * k) (B * C) := by
  obtain ⟨x, y, h1, h2, h3, h4⟩ := h
  refine ⟨x * k, y * k, ?_, ?_, ?_, ?_⟩
  · rw [cast_mul_nat, ← Rat.mul_assoc, h1, Rat.intCast_mul]; rfl
  · rw [cast_mul_nat, ← Rat.mul_assoc, h2, Rat.intCast_mul]; rfl
  · rw [Int.natAbs_mul, Int.natAbs_natCast]; exact Nat.mul_le_mul h3 hk
  · rw [Int.natAbs_mul, Int.natAbs_natCast]; exact Nat.mul_le_mul h4 hk
theorem vb.mono {v : V2} {E B C : Nat} (h : vb v E B) (k : B ≤ C) : vb v E C := by
  obtain ⟨x, y, h1, h2, h3, h4⟩ := h
  exact ⟨x, y, h1, h2, by omega, by omega⟩
/-- a length above nought with a small top and bottom -/
def szd (r : Rat) (N M : Nat) : Prop := 0 < r ∧ r.num.natAbs ≤ N ∧ r.den ≤ M
theorem rat_num_den (r : Rat) : r * (r.den : Rat) = (r.num : Rat) := by
  have e : r = (r.num : Rat) / ((r.den : Int) : Rat) := by
    conv => lhs; rw [← Rat.num_divInt_den r]
    exact Rat.divInt_eq_div _ _
  have i0 : ((r.den : Int) : Rat) = (r.den : Rat) := rfl
  have d0 : (r.den : Rat) ≠ 0 := fun z => by
    have : (r.den : Rat) = ((0 : Nat) : Rat) := by rw [z]; rfl
    exact r.den_nz (Rat.natCast_inj.mp this)
  rw [i0] at e
  generalize (r.den : Rat) = A at *
  generalize (r.num : Rat) = C at *
  grind
theorem pos_num {r : Rat} (h : 0 < r) : 0 < r.num := by
  have h1 := Rat.num_nonneg.mpr (show 0 ≤ r by grind)
  have h2 : r.num ≠ 0 := fun z => by rw [Rat.num_eq_zero.mp z] at h; exact absurd h (by grind)
  omega
theorem vb_mix {a b : V2} {E B N M : Nat} {l0 l1 l2 : Rat} (ha : vb a E B) (hb : vb b E B) (h0 : szd l0 N M) (h1 : szd l1 N M) (h2 : szd l2 N M) :
    ∃ k : Nat, 0 < k ∧ k ≤ N * M * M ∧ vb (mix a (l1 / l0) b (l2 / l0)) (E * k) (B * (2 * (N * M * M))) ∧ ∀ v, vb v E B → vb v (E * k) (B * (2 * (N * M * M))) := by
  have p0 := pos_num h0.1
  have e0 : l0.num = (l0.num.natAbs : Int) := by omega
  refine ⟨l1.den * l2.den * l0.num.natAbs, ?_, ?_, ?_, ?_⟩
  · exact Nat.mul_pos (Nat.mul_pos (Nat.pos_of_ne_zero l1.den_nz) (Nat.pos_of_ne_zero l2.den_nz)) (by omega)
  · have q := Nat.mul_le_mul (Nat.mul_le_mul h1.2.2 h2.2.2) h0.2.1
    rw [show N * M * M = M * M * N by rw [Nat.mul_assoc, Nat.mul_comm]]
    exact q
  · obtain ⟨x, y, a1, a2, a3, a4⟩ := ha
    obtain ⟨z, u, b1, b2, b3, b4⟩ := hb
    have d0 : l0 ≠ 0 := by have := h0.1; grind
    have q0 := rat_num_den l0
    have q1 := rat_num_den l1
    have q2 := rat_num_den l2
    have c0 : ((l0.num.natAbs : Nat) : Rat) = (l0.num : Rat) := by
      conv => rhs; rw [e0]
      rfl
    have key : ∀ (s r : Rat) (m n : Int), s * E = m → r * E = n → (s * (l1 / l0) + r * (l2 / l0)) * ((E * (l1.den * l2.den * l0.num.natAbs) : Nat) : Rat) = ((m * (l1.num * l0.den * l2.den) + n * (l2.num * l0.den * l1.den) : Int) : Rat) := by
      intro s r m n hm hn
      rw [cast_mul_nat, cast_mul_nat, cast_mul_nat, c0, Rat.intCast_add, Rat.intCast_mul, Rat.intCast_mul, Rat.intCast_mul, Rat.intCast_mul, Rat.intCast_mul, Rat.intCast_mul, ← q0, ← q1, ← q2, ← hm, ← hn]
      have i0 : ((l0.den : Int) : Rat) = (l0.den : Rat) := rfl
      have i1 : ((l1.den : Int) : Rat) = (l1.den : Rat) := rfl
      have i2 : ((l2.den : Int) : Rat) = (l2.den : Rat) := rfl
      rw [i0, i1, i2]
      generalize (l0.den : Rat) = A
      generalize (l1.den : Rat) = C
      generalize (l2.den : Rat) = G
      generalize (E : Rat) = W
      clear q0 q1 q2 c0 hm hn
      grind
    have bnd : ∀ m n : Int, m.natAbs ≤ B → n.natAbs ≤ B → (m * (l1.num * l0.den * l2.den) + n * (l2.num * l0.den * l1.den) : Int).natAbs ≤ B * (2 * (N * M * M)) := by
      intro m n hm hn
      refine Nat.le_trans (Int.natAbs_add_le _ _) ?_
      rw [Int.natAbs_mul, Int.natAbs_mul, Int.natAbs_mul, Int.natAbs_mul, Int.natAbs_mul, Int.natAbs_mul, Int.natAbs_natCast, Int.natAbs_natCast, Int.natAbs_natCast]
      have r1 := Nat.mul_le_mul hm (Nat.mul_le_mul (Nat.mul_le_mul h1.2.1 h0.2.2) h2.2.2)
      have r2 := Nat.mul_le_mul hn (Nat.mul_le_mul (Nat.mul_le_mul h2.2.1 h0.2.2) h1.2.2)
      have e : B * (2 * (N * M * M)) = B * (N * M * M) + B * (N * M * M) := by rw [Nat.two_mul, Nat.mul_add]
      rw [e]
      exact Nat.add_le_add r1 r2
    exact ⟨_, _, key _ _ _ _ a1 b1, key _ _ _ _ a2 b2, bnd _ _ a3 b3, bnd _ _ a4 b4⟩
  · intro v hv
    refine (hv.scale _ (N * M * M) ?_).mono (Nat.mul_le_mul (Nat.le_refl _) (by omega))
    have q := Nat.mul_le_mul (Nat.mul_le_mul h1.2.2 h2.2.2) h0.2.1
    rw [show N * M * M = M * M * N by rw [Nat.mul_assoc, Nat.mul_comm]]
    exact q
theorem Tr.std_bd {N M : Nat} : ∀ {t : Tr} {lo : Nat} {L : Len} {a b : V2} {E B : Nat}, (∀ p ∈ t.all lo, szd (L p) N M) → vb a E B → vb b E B → ∃ k : Nat, 0 < k ∧ k ≤ (N * M * M) ^ (t.w - 1) ∧ ∀ i, vb (t.std lo L a b i) (E * k) (B * (2 * (N * M * M)) ^ (t.w - 1))
  | leaf, lo, L, a, b, E, B, _, ha, hb => ⟨1, by decide, by simp [w], fun i => by
      have e : (2 * (N * M * M)) ^ (leaf.w - 1) = 1 := by simp [w]
      rw [Nat.mul_one, e, Nat.mul_one]
      unfold std
      split
      · exact ha
      · exact hb⟩
  | node l r, lo, L, a, b, E, B, hL, ha, hb => by
    have wl := w_pos l
    have wr := w_pos r
    obtain ⟨k0, k0p, k0b, hc, hsc⟩ := vb_mix ha hb (hL _ (mem_root (l := l) (r := r))) (hL (lo + l.w, lo + (l.w + r.w)) (mem_r (by have := root_mem (t := r) (lo := lo + l.w); rw [Nat.add_assoc] at this; exact this))) (hL (lo, lo + l.w) (mem_l root_mem))
    obtain ⟨k1, k1p, k1b, h1⟩ := Tr.std_bd (t := l) (lo := lo) (L := L) (fun p hp => hL p (mem_l hp)) (hsc _ ha) hc
    obtain ⟨k2, k2p, k2b, h2⟩ := Tr.std_bd (t := r) (lo := lo + l.w) (L := L) (fun p hp => hL p (mem_r hp)) hc (hsc _ hb)
    have hw : (node l r).w - 1 = 1 + (l.w - 1) + (r.w - 1) := by show l.w + r.w - 1 = _; omega
    have one : ∀ m : Nat, (N * M * M) ^ m ≤ (2 * (N * M * M)) ^ m := fun m => Nat.pow_le_pow_left (by omega) m
    refine ⟨k0 * k1 * k2, Nat.mul_pos (Nat.mul_pos k0p k1p) k2p, ?_, fun i => ?_⟩
    · rw [hw, Nat.pow_add, Nat.pow_add, Nat.pow_one]
      exact Nat.mul_le_mul (Nat.mul_le_mul k0b k1b) k2b
    · rw [hw, Nat.pow_add, Nat.pow_add, Nat.pow_one]
      unfold std
      split
      · have q := (h1 i).scale k2 _ (Nat.le_trans k2b (one _))
        rw [show E * (k0 * k1 * k2) = E * k0 * k1 * k2 by rw [← Nat.mul_assoc, ← Nat.mul_assoc], show B * (2 * (N * M * M) * (2 * (N * M * M)) ^ (l.w - 1) * (2 * (N * M * M)) ^ (r.w - 1)) = B * (2 * (N * M * M)) * (2 * (N * M * M)) ^ (l.w - 1) * (2 * (N * M * M)) ^ (r.w - 1) by rw [← Nat.mul_assoc, ← Nat.mul_assoc]]
        exact q
      · have q := (h2 i).scale k1 _ (Nat.le_trans k1b (one _))
        rw [show E * (k0 * k1 * k2) = E * k0 * k2 * k1 by rw [← Nat.mul_assoc, ← Nat.mul_assoc, Nat.mul_right_comm], show B * (2 * (N * M * M) * (2 * (N * M * M)) ^ (l.w - 1) * (2 * (N * M * M)) ^ (r.w - 1)) = B * (2 * (N * M * M)) * (2 * (N * M * M)) ^ (r.w - 1) * (2 * (N * M * M)) ^ (l.w - 1) by rw [← Nat.mul_assoc, ← Nat.mul_assoc, Nat.mul_right_comm]]
        exact q
/-- lengths with tops below 2 ^ 10 and bottoms below 2 ^ 7 of up to 12 posts -/
theorem meas_bd {n : Nat} {t : Tr} {L : Len} (hw : t.w + 1 = n) (hn : n ≤ 12) (hL : ∀ p ∈ t.all 0, szd (L p) 1024 128) : ∃ F, Bd n (Mt t L) F 550 := by
  have r0 := hL _ (Tr.root_mem (t := t) (lo := 0))
  rw [Nat.zero_add] at r0
  have q0 := rat_num_den (L (0, t.w))
  have dp := Nat.pos_of_ne_zero (L (0, t.w)).den_nz
  have d1 : ((L (0, t.w)).den : Rat) * 1 = (((L (0, t.w)).den : Int) : Rat) := by rw [Rat.mul_one]; rfl
  obtain ⟨k, kp, kb, h⟩ := Tr.std_bd (t := t) (lo := 0) (L := L) (a := ⟨1, 0⟩) (b := ⟨0, L (0, t.w)⟩) (E := (L (0, t.w)).den) (B := 1024) hL
    ⟨(L (0, t.w)).den, 0, by simp only; rw [Rat.one_mul]; rfl, by simp only; rw [Rat.zero_mul]; rfl, by have := r0.2.2; omega, by omega⟩
    ⟨0, (L (0, t.w)).num, by simp only; rw [Rat.zero_mul]; rfl, q0, by omega, r0.2.1⟩
  generalize hE : (L (0, t.w)).den * k = E at h
  have Eb : E ≤ 2 ^ 260 := by
    rw [← hE]
    have : (1024 * 128 * 128) ^ (t.w - 1) ≤ (1024 * 128 * 128) ^ 10 := Nat.pow_le_pow_right (by decide) (by omega)
    refine Nat.le_trans (Nat.mul_le_mul r0.2.2 (Nat.le_trans kb this)) (by decide)
  have E0 : 0 < E := by rw [← hE]; exact Nat.mul_pos dp kp
  have Bb : 1024 * (2 * (1024 * 128 * 128)) ^ (t.w - 1) ≤ 2 ^ 260 := by
    have : (2 * (1024 * 128 * 128)) ^ (t.w - 1) ≤ (2 * (1024 * 128 * 128)) ^ 10 := Nat.pow_le_pow_right (by decide) (by omega)
    refine Nat.le_trans (Nat.mul_le_mul (Nat.le_refl _) this) (by decide)
  refine ⟨E * E, Nat.mul_pos E0 E0, Nat.lt_of_le_of_lt (Nat.mul_le_mul Eb Eb) (by decide), fun i k _ _ => ?_⟩
  obtain ⟨x, y, h1, h2, h3, h4⟩ := h i
  obtain ⟨z, u, g1, g2, g3, g4⟩ := h k
  refine ⟨x * u - z * y, ?_, ?_⟩
  · unfold Mt det
    rw [cast_mul_nat, Rat.intCast_sub, Rat.intCast_mul, Rat.intCast_mul, ← h1, ← h2, ← g1, ← g2]
    generalize (E : Rat) = W
    grind
  · have a1 : (x * u).natAbs ≤ 2 ^ 260 * 2 ^ 260 := by rw [Int.natAbs_mul]; exact Nat.mul_le_mul (Nat.le_trans h3 Bb) (Nat.le_trans g4 Bb)
    have a2 : (z * y).natAbs ≤ 2 ^ 260 * 2 ^ 260 := by rw [Int.natAbs_mul]; exact Nat.mul_le_mul (Nat.le_trans g3 Bb) (Nat.le_trans h4 Bb)
    have a3 := Int.natAbs_sub_le (x * u) (z * y)
    have a4 : 2 ^ 260 * 2 ^ 260 + 2 ^ 260 * 2 ^ 260 < 2 ^ 550 := by decide
    omega
end Pm
namespace Pm
open PySem PySem.Spec PyProof.Rows L2
/-- a row: a list of pairs -/
def Row (K : PySem.W.Frag) (H : Hp) (a : Addr) (row : List IP) : Prop := ∃ vs, H a = some (.lst vs) ∧ All2 (FrV K H) vs row
structure Tb (K : PySem.W.Frag) (H : Hp) (l : Addr) (as : List Addr) (R : List (List IP)) : Prop where
  top : H l = some (.lst (as.map V.ref))
  nd : as.Nodup
  out : l ∉ as
  rows : All2 (Row K H) as R
section
variable {K : PySem.W.Frag} {H H' : Hp} {l : Addr} {as : List Addr} {R : List (List IP)}
theorem frvs_keep (k : Keeps H H') {vs : List V} {row : List IP} (h : All2 (FrV K H) vs row) : All2 (FrV K H') vs row := h.mono fun _ _ q => q.keep k
theorem Row.same {a : Addr} {row : List IP} (h : Row K H a row) (s : Same H H') : Row K H' a row := by
  obtain ⟨vs, h1, h2⟩ := h
  exact ⟨vs, s _ _ h1, frvs_keep (keeps s) h2⟩
theorem Row.keep {a : Addr} {row : List IP} (h : Row K H a row) (k : Keeps H H') (e : H' a = H a) : Row K H' a row := by
  obtain ⟨vs, h1, h2⟩ := h
  exact ⟨vs, by rw [e]; exact h1, frvs_keep k h2⟩
theorem Tb.same (h : Tb K H l as R) (s : Same H H') : Tb K H' l as R := ⟨s _ _ h.top, h.nd, h.out, h.rows.mono fun _ _ q => q.same s⟩
theorem Tb.len (h : Tb K H l as R) : as.length = R.length := h.rows.length
theorem Tb.row (h : Tb K H l as R) {i : Nat} {row : List IP} (e : R[i]? = some row) : ∃ a vs, as[i]? = some a ∧ H a = some (.lst vs) ∧ All2 (FrV K H) vs row := by
  obtain ⟨a, ha, vs, h1, h2⟩ := h.rows.get' e
  exact ⟨a, vs, ha, h1, h2⟩
end
theorem nodup_le : ∀ {ks l : List Nat}, ks.Nodup → (∀ k ∈ ks, k ∈ l) → ks.length ≤ l.length
  | [], _, _, _ => Nat.zero_le _
  | k :: ks, l, hn, hs => by
    rw [List.nodup_cons] at hn
    have hk := hs k List.mem_cons_self
    have := nodup_le (l := l.erase k) hn.2 fun j hj => (List.mem_erase_of_ne (fun z : j = k => hn.1 (by rw [← z]; exact hj))).mpr (hs j (List.mem_cons_of_mem _ hj))
    rw [List.length_erase_of_mem hk] at this
    have := List.length_pos_of_mem hk
    simp only [List.length_cons]
    omega
theorem all_in {n : Nat} {ks : List Nat} (hn : ks.Nodup) (hs : ∀ k ∈ ks, k < n) (hl : n ≤ ks.length) {i : Nat} (hi : i < n) : i ∈ ks := by
  by_cases z : i ∈ ks
  · exact z
  · have := nodup_le (ks := i :: ks) (l := List.range n) (List.nodup_cons.mpr ⟨z, hn⟩) fun k hk => by
      rcases List.mem_cons.mp hk with rfl | hk
      · exact List.mem_range.mpr hi
      · exact List.mem_range.mpr (hs k hk)
    rw [List.length_range, List.length_cons] at this
    omega
theorem nodup_bd {n : Nat} {ks : List Nat} (hn : ks.Nodup) (hs : ∀ k ∈ ks, k < n) : ks.length ≤ n := by
  have := nodup_le (l := List.range n) hn fun k hk => List.mem_range.mpr (hs k hk)
  rw [List.length_range] at this
  exact this
def st3 (ks : List Nat) (x y z : Nat) : List Nat := if x ∈ ks ∧ y ∈ ks ∧ z ∉ ks then ks ++ [z] else ks
def st9 (ks : List Nat) (q : Nat × Nat × Nat) : List Nat := st3 (st3 (st3 ks q.1 q.2.1 q.2.2) q.1 q.2.2 q.2.1) q.2.1 q.2.2 q.1
theorem st3_cases (ks : List Nat) (x y z : Nat) : (st3 ks x y z = ks ∧ (x ∈ ks → y ∈ ks → z ∈ ks)) ∨ (st3 ks x y z = ks ++ [z] ∧ z ∉ ks) := by
  unfold st3
  split
  · rename_i h
    exact .inr ⟨rfl, h.2.2⟩
  · rename_i h
    exact .inl ⟨rfl, fun a b => by
      by_cases c : z ∈ ks
      · exact c
      · exact absurd ⟨a, b, c⟩ h⟩
theorem st3_len (ks : List Nat) (x y z : Nat) : ks.length ≤ (st3 ks x y z).length ∧ ((st3 ks x y z).length = ks.length → st3 ks x y z = ks) := by
  rcases st3_cases ks x y z with ⟨h, _⟩ | ⟨h, _⟩
  · rw [h]; exact ⟨Nat.le_refl _, fun _ => rfl⟩
  · rw [h, List.length_append, List.length_singleton]; exact ⟨by omega, fun z => by omega⟩
theorem st9_len (ks : List Nat) (q : Nat × Nat × Nat) : ks.length ≤ (st9 ks q).length := by
  unfold st9
  exact Nat.le_trans (Nat.le_trans (st3_len ks q.1 q.2.1 q.2.2).1 (st3_len _ q.1 q.2.2 q.2.1).1) (st3_len _ q.2.1 q.2.2 q.1).1
theorem st9_same {ks : List Nat} {q : Nat × Nat × Nat} (h : (st9 ks q).length = ks.length) : st9 ks q = ks ∧ (q.1 ∈ ks → q.2.1 ∈ ks → q.2.2 ∈ ks) ∧ (q.1 ∈ ks → q.2.2 ∈ ks → q.2.1 ∈ ks) ∧ (q.2.1 ∈ ks → q.2.2 ∈ ks → q.1 ∈ ks) := by
  unfold st9 at h ⊢
  have a1 := st3_len ks q.1 q.2.1 q.2.2
  have a2 := st3_len (st3 ks q.1 q.2.1 q.2.2) q.1 q.2.2 q.2.1
  have a3 := st3_len (st3 (st3 ks q.1 q.2.1 q.2.2) q.1 q.2.2 q.2.1) q.2.1 q.2.2 q.1
  have e1 := a1.2 (by omega)
  rw [e1] at a2 a3 h ⊢
  have e2 := a2.2 (by omega)
  rw [e2] at a3 h ⊢
  have e3 := a3.2 (by omega)
  refine ⟨e3, ?_, ?_, ?_⟩
  · rcases st3_cases ks q.1 q.2.1 q.2.2 with ⟨_, h⟩ | ⟨h, _⟩
    · exact h
    · rw [e1] at h; exact absurd (congrArg List.length h) (by rw [List.length_append, List.length_singleton]; omega)
  · rcases st3_cases ks q.1 q.2.2 q.2.1 with ⟨_, h⟩ | ⟨h, _⟩
    · exact h
    · rw [e2] at h; exact absurd (congrArg List.length h) (by rw [List.length_append, List.length_singleton]; omega)
  · rcases st3_cases ks q.2.1 q.2.2 q.1 with ⟨_, h⟩ | ⟨h, _⟩
    · exact h
    · rw [e3] at h; exact absurd (congrArg List.length h) (by rw [List.length_append, List.length_singleton]; omega)
theorem st3_mem {ks : List Nat} {x y z n : Nat} (h : ∀ k ∈ ks, k < n) (hz : z < n) : ∀ k ∈ st3 ks x y z, k < n := by
  rcases st3_cases ks x y z with ⟨e, _⟩ | ⟨e, _⟩
  · rw [e]; exact h
  · rw [e]
    intro k hk
    rcases List.mem_append.mp hk with q | q
    · exact h k q
    · rw [List.mem_singleton.mp q]; exact hz
theorem st3_sub {ks : List Nat} {x y z k : Nat} (h : k ∈ ks) : k ∈ st3 ks x y z := by
  rcases st3_cases ks x y z with ⟨e, _⟩ | ⟨e, _⟩
  · rw [e]; exact h
  · rw [e]; exact List.mem_append.mpr (.inl h)
theorem st9_sub {ks : List Nat} {q : Nat × Nat × Nat} {k : Nat} (h : k ∈ ks) : k ∈ st9 ks q := st3_sub (st3_sub (st3_sub h))
def runs (ks : List Nat) (qs : List (Nat × Nat × Nat)) : List Nat := qs.foldl st9 ks
theorem runs_snoc (ks : List Nat) (qs : List (Nat × Nat × Nat)) (q : Nat × Nat × Nat) : runs ks (qs ++ [q]) = st9 (runs ks qs) q := by unfold runs; rw [List.foldl_append]; rfl
theorem runs_len : ∀ (qs : List (Nat × Nat × Nat)) (ks : List Nat), ks.length ≤ (runs ks qs).length
  | [], ks => Nat.le_refl _
  | q :: qs, ks => Nat.le_trans (st9_len ks q) (runs_len qs (st9 ks q))
theorem runs_sub : ∀ {qs : List (Nat × Nat × Nat)} {ks : List Nat} {k : Nat}, k ∈ ks → k ∈ runs ks qs
  | [], ks, k, h => h
  | q :: qs, ks, k, h => runs_sub (qs := qs) (st9_sub h)
theorem runs_same : ∀ {qs : List (Nat × Nat × Nat)} {ks : List Nat}, (runs ks qs).length = ks.length → ∀ q ∈ qs, (q.1 ∈ ks → q.2.1 ∈ ks → q.2.2 ∈ ks) ∧ (q.1 ∈ ks → q.2.2 ∈ ks → q.2.1 ∈ ks) ∧ (q.2.1 ∈ ks → q.2.2 ∈ ks → q.1 ∈ ks)
  | [], ks, _, q, h => nomatch h
  | p :: qs, ks, h, q, hq => by
    have l1 := st9_len ks p
    have l2 := runs_len qs (st9 ks p)
    have h' : (runs (st9 ks p) qs).length = ks.length := h
    obtain ⟨e, r⟩ := st9_same (ks := ks) (q := p) (by omega)
    rcases List.mem_cons.mp hq with rfl | hq
    · exact r
    · rw [e] at h'
      exact runs_same h' q hq
/-- a pass over all plots brings a post more, unless all stand -/
theorem runs_more {n : Nat} {cut : List IP} {t : Tr} (C : Cutting n cut t) {qs : List (Nat × Nat × Nat)} (hq : ∀ q, q ∈ t.plots 0 → q ∈ qs) {ks : List Nat} (hn : ks.Nodup) {a b : Nat} (hab : (a, b) ∈ t.all 0) (ha : a ∈ ks) (hb : b ∈ ks) (hl : ks.length < n) (hs : ∀ k ∈ ks, k < n) : ks.length < (runs ks qs).length := by
  rcases Nat.lt_or_ge ks.length (runs ks qs).length with z | z
  · exact z
  · have e : (runs ks qs).length = ks.length := Nat.le_antisymm z (runs_len qs ks)
    have cl := runs_same e
    have w := C.w
    have all : ∀ i, i < n → i ∈ ks := fun i hi => Tr.closed_all (t := t) (Z := fun k => k ∈ ks) (fun x y z h => cl (x, y, z) (hq _ h)) hab ha hb (by omega)
    have := nodup_le (ks := List.range n) (l := ks) List.nodup_range fun k hk => all k (List.mem_range.mp hk)
    rw [List.length_range] at this
    omega
theorem Tr.inn_len' : ∀ (t : Tr) (lo : Nat), (t.inn lo).length + 1 = t.w
  | .leaf, lo => by simp [Tr.inn, Tr.w]
  | .node l r, lo => by
    have h1 := Tr.inn_len' l lo
    have h2 := Tr.inn_len' r (lo + l.w)
    simp only [Tr.inn, Tr.w, List.length_cons, List.length_append]
    omega
theorem Cutting.cut_len {n : Nat} {cut : List IP} {t : Tr} (C : Cutting n cut t) : cut.length + 3 = n := by
  have h := C.perm.length_eq
  have w := C.w
  rw [List.length_map] at h
  have q := t.inn_len' 0
  rw [Tr.inn_node C.w2, List.length_cons] at q
  have := C.w2
  omega
end Pm
namespace Pm
open PySem PySem.Spec PyProof.Rows L2
theorem All2.reverse {α β : Type} {R : α → β → Prop} : ∀ {xs : List α} {ys : List β}, All2 R xs ys → All2 R xs.reverse ys.reverse
  | [], [], _ => trivial
  | _ :: _, _ :: _, h => by
    rw [List.reverse_cons, List.reverse_cons]
    exact h.2.reverse.snoc h.1
theorem cr_sortIK {X : Cx} {K : PySem.W.Frag} (e : X.K = K := by rfl) : CallR X (.builtin "sorted") (rSortedI K) := e ▸ cr_sortedI
/-- sorted of a list of numbers -/
theorem w_sortI {K : PySem.W.Frag} {H : Hp} {Q : VK} {a : Addr} {ns ms : List Int} (hl : SqL K H a (ns.map V.int)) (hp : ms.Perm ns) (hs : ms.Pairwise (· ≤ ·)) (q : ∀ p, H p = none → Q (.ref p) (upd H p (.lst (ms.map V.int)))) : rSortedI K [.ref a] H Q := by
  refine ⟨a, ns, rfl, hl, fun ns' p h1 h2 h3 => ?_⟩
  have e : ns' = ms := List.Perm.eq_of_pairwise (le := fun a b => a ≤ b) (fun a b _ _ x y => by omega) h2 hs (h1.trans hp.symm)
  rw [e]
  exact q p h3
end Pm
namespace Pm
/-- two unlike posts -/
def twoOk (n : Nat) (a b : Int) : Prop := (0 ≤ a ∧ a < n) ∧ (0 ≤ b ∧ b < n) ∧ a ≠ b
instance (n : Nat) (a b : Int) : Decidable (twoOk n a b) := by unfold twoOk; infer_instance
end Pm
namespace Pm
/-- the ratio of the rope (x, y) with m between and o outside -/
def rat4 (D : Nat → Nat → Rat) (x m y o : Nat) : Rat := (D x m * D (min y o) (max y o)) / (D m y * D (min o x) (max o x))
def ratP (n : Nat) (cut : List IP) (D : Nat → Nat → Rat) (p : IP) : Rat :=
  if p.1 < (besideL n (tiesL n cut) p.1 p.2).getD 0 0 ∧ (besideL n (tiesL n cut) p.1 p.2).getD 0 0 < p.2 then rat4 D p.1.toNat ((besideL n (tiesL n cut) p.1 p.2).getD 0 0).toNat p.2.toNat ((besideL n (tiesL n cut) p.1 p.2).getD 1 0).toNat
  else rat4 D p.1.toNat ((besideL n (tiesL n cut) p.1 p.2).getD 1 0).toNat p.2.toNat ((besideL n (tiesL n cut) p.1 p.2).getD 0 0).toNat
theorem ratP_is {n : Nat} {cut : List IP} {t t' : Tr} {x y m o : Nat} {R : List (Nat × Nat)} {D : Nat → Nat → Rat} (C : Cutting n cut t) (U : Turning n cut t t' x y m o R) : ratP n cut D (castP (x, y)) = rat4 D x m y o := by
  have b := U.bes
  unfold ratP
  rw [show besideL n (tiesL n cut) (castP (x, y)).1 (castP (x, y)).2 = _ from b]
  rcases U.cross C with ⟨h1, h2, h3, h4, h5⟩ | ⟨h1, h2, h3, h4, h5⟩
  · rw [h4, h5]
    simp only [castP, List.getD_cons_zero, List.getD_cons_succ]
    rw [if_pos (by omega)]
    rfl
  · rw [h4, h5]
    simp only [castP, List.getD_cons_zero, List.getD_cons_succ]
    rw [if_neg (by omega)]
    rfl
/-- the four ties round a rope -/
theorem Turning.four {n : Nat} {cut : List IP} {t t' : Tr} {x y m o : Nat} {R : List (Nat × Nat)} (C : Cutting n cut t) (U : Turning n cut t t' x y m o R) : (x, m) ∈ t.all 0 ∧ (m, y) ∈ t.all 0 ∧ (min y o, max y o) ∈ t.all 0 ∧ (min o x, max o x) ∈ t.all 0 ∧ x < m ∧ m < y ∧ y < n ∧ o < n ∧ (o < x ∨ y < o) := by
  have am := U.F.am
  have mb := U.F.mb
  have bt := U.F.btw
  have on := U.on
  have w := C.w
  have b := Tr.bd mb
  simp only at b
  rcases U.F.out with ⟨h1, h2, h3⟩ | ⟨h1, h2, h3⟩
  · rw [Nat.min_eq_right (by omega), Nat.max_eq_left (by omega), Nat.min_eq_left (by omega), Nat.max_eq_right (by omega)]
    exact ⟨am, mb, h3, h2, bt.1, bt.2, by omega, on, .inl h1⟩
  · rw [Nat.min_eq_left (by omega), Nat.max_eq_right (by omega), Nat.min_eq_right (by omega), Nat.max_eq_left (by omega)]
    exact ⟨am, mb, h3, h2, bt.1, bt.2, by omega, on, .inr h1⟩
theorem ratP_rbB {n : Nat} {cut : List IP} {t : Tr} {L : Len} {D : Nat → Nat → Rat} {F B : Nat} (C : Cutting n cut t) (M : Meas n t L D) (Z : Bd n D F B) {p : IP} (hp : p ∈ cut) : rb (ratP n cut D p) (4 * B) := by
  obtain ⟨⟨x, y⟩, hq, rfl⟩ := C.mem.mp hp
  obtain ⟨t', m, o, R, U⟩ := C.turn hq
  rw [ratP_is C U]
  obtain ⟨txm, tmy, tyo, tox, xm, my, yn, on, out⟩ := U.four C
  unfold rat4
  have p1 := M.above my yn
  have p2 : 0 < D (min o x) (max o x) := M.above (by omega) (by omega)
  have := rat_mul_pos p1 p2
  exact (rb_quot (by grind) (rb_mul (Z.rb (by omega) (by omega)) (Z.rb (by omega) (by omega))) (rb_mul (Z.rb (by omega) (by omega)) (Z.rb (by omega) (by omega)))).mono (by omega)
end Pm
namespace Pm
open PySem PySem.Spec PyProof.Rows L2
theorem szd.mono {a : Rat} {N M N' M' : Nat} (h : szd a N M) (h1 : N ≤ N') (h2 : M ≤ M') : szd a N' M' := ⟨h.1, Nat.le_trans h.2.1 h1, Nat.le_trans h.2.2 h2⟩
theorem szd.rb {a : Rat} {N M m : Nat} (h : szd a N M) (h1 : N < 2 ^ m) (h2 : M < 2 ^ m) : rb a m := ⟨Nat.lt_of_le_of_lt h.2.1 h1, Nat.lt_of_le_of_lt h.2.2 h2⟩
end Pm
namespace Pm
open PySem PySem.Spec PyProof.Rows L2
theorem ev_id {A B C E F G P Q : Rat} (hB : 0 < B) (hE : 0 < E) (hF : 0 < F) (hQ : 0 < Q) (h : G * F = A * C + B * E) : P * G / (Q * E) = P * B / (Q * F) * (1 + A * C / (B * E)) := by
  have b : B ≠ 0 := by grind
  have e : E ≠ 0 := by grind
  have f : F ≠ 0 := by grind
  have q : Q ≠ 0 := by grind
  grind
theorem ev2_id {A B C E F G P Q : Rat} (hB : 0 < B) (hE : 0 < E) (hF : 0 < F) (hQ : 0 < Q) (h : G * F = A * C + B * E) : P * G / (Q * B) = P * E / (Q * F) * (1 + A * C / (B * E)) := by
  rw [Rat.mul_comm B E]
  exact ev_id hE hB hF hQ (by rw [h, Rat.mul_comm B E])
theorem ev3_id {A B C E F G P Q : Rat} (hB : 0 < B) (hE : 0 < E) (hF : 0 < F) (hQ : 0 < Q) (h : G * F = A * C + B * E) : G * P / (B * Q) = E * P / (F * Q) * (1 + A * C / (B * E)) := by
  rw [Rat.mul_comm G P, Rat.mul_comm B Q, Rat.mul_comm E P, Rat.mul_comm F Q]
  exact ev2_id hB hE hF hQ h
theorem odq {A B C E F G : Rat} (hB : 0 < B) (hE : 0 < E) (hF : 0 < F) (hG : 0 < G) (h : G * F = A * C + B * E) : A * C / (B * E) / (1 + A * C / (B * E)) = A * C / (G * F) := by
  have b : B ≠ 0 := by grind
  have e : E ≠ 0 := by grind
  have f : F ≠ 0 := by grind
  have g : G ≠ 0 := by grind
  have be : B * E ≠ 0 := by
    have := rat_mul_pos hB hE
    grind
  have gf : G * F ≠ 0 := by
    have := rat_mul_pos hG hF
    grind
  have e1 : 1 + A * C / (B * E) = G * F / (B * E) := by grind
  rw [e1]
  grind
theorem od_id {A B C E F G P Q : Rat} (hA : 0 < A) (hB : 0 < B) (hE : 0 < E) (hF : 0 < F) (hG : 0 < G) (hQ : 0 < Q) (h : G * F = A * C + B * E) : P * C / (Q * G) = P * F / (Q * A) * (A * C / (B * E) / (1 + A * C / (B * E))) := by
  rw [odq hB hE hF hG h]
  have a : A ≠ 0 := by grind
  have f : F ≠ 0 := by grind
  have g : G ≠ 0 := by grind
  have q : Q ≠ 0 := by grind
  clear h
  grind
theorem od2_id {A B C E F G P Q : Rat} (hC : 0 < C) (hB : 0 < B) (hE : 0 < E) (hF : 0 < F) (hG : 0 < G) (hQ : 0 < Q) (h : G * F = A * C + B * E) : P * A / (Q * G) = P * F / (Q * C) * (A * C / (B * E) / (1 + A * C / (B * E))) := by
  rw [Rat.mul_comm A C]
  exact od_id hC hB hE hF hG hQ (by rw [h, Rat.mul_comm A C])
theorem od3_id {A B C E F G P Q : Rat} (hC : 0 < C) (hB : 0 < B) (hE : 0 < E) (hF : 0 < F) (hG : 0 < G) (hQ : 0 < Q) (h : G * F = A * C + B * E) : A * P / (G * Q) = F * P / (C * Q) * (A * C / (B * E) / (1 + A * C / (B * E))) := by
  rw [Rat.mul_comm G Q, Rat.mul_comm C Q, Rat.mul_comm A P, Rat.mul_comm F P]
  exact od2_id hC hB hE hF hG hQ h
section
variable {n : Nat} {cut : List IP} {t t' : Tr} {x y m o : Nat} {R : List (Nat × Nat)}
theorem Turning.apex (C : Cutting n cut t) (U : Turning n cut t t' x y m o R) {z : Nat} (zn : z < n) (h1 : (min x z, max x z) ∈ t.all 0) (h2 : (min y z, max y z) ∈ t.all 0) : z = m ∨ z = o := by
  have k : ((z : Nat) : Int) ∈ besideL n (tiesL n cut) x y := by
    unfold besideL
    refine List.mem_map.mpr ⟨z, List.mem_filter.mpr ⟨List.mem_range.mpr zn, ?_⟩, rfl⟩
    unfold isBeside
    rw [tie_cast, tie_cast, decide_eq_true (C.ties.mpr ⟨_, h1, rfl⟩), decide_eq_true (C.ties.mpr ⟨_, h2, rfl⟩)]
    rfl
  rw [U.bes] at k
  simp only [List.mem_cons, List.not_mem_nil, or_false] at k
  omega
def isE (x m y o : Nat) (p : IP) : Prop := p = castP (x, m) ∨ p = castP (min y o, max y o)
def isO (x m y o : Nat) (p : IP) : Prop := p = castP (m, y) ∨ p = castP (min o x, max o x)
instance : Decidable (isE x m y o p) := inferInstanceAs (Decidable (_ ∨ _))
instance : Decidable (isO x m y o p) := inferInstanceAs (Decidable (_ ∨ _))
def facV (r : Rat) (x m y o : Nat) (p : IP) : Rat := if isE x m y o p then 1 + r else if isO x m y o p then r / (1 + r) else 1
/-- the rates behind a turning -/
def turnV (V : IP → Rat) (x m y o : Nat) (p : IP) : Rat := if p = castP (min m o, max m o) then 1 / V (castP (x, y)) else V p * facV (V (castP (x, y))) x m y o p
theorem Turning.apexes (C : Cutting n cut t) (U : Turning n cut t t' x y m o R) {a b i j i' j' : Nat} {s s' : Tr} {R1 R2 : List (Nat × Nat)} (V : Turning n cut t s a b i j R1) (V' : Turning n (turnedL n cut x y) t' s' a b i' j' R2) :
    ((a, i) ≠ (x, y) → (i, b) ≠ (x, y) → i' = i) ∧ ((min b j, max b j) ≠ (x, y) → (min j a, max j a) ≠ (x, y) → j' = j) := by
  obtain ⟨f1, f2, f3, f4, f5, f6, f7, f8, f9⟩ := V.four C
  obtain ⟨g1, g2, g3, g4, g5, g6, g7, g8, g9⟩ := V'.four U.cut'
  constructor
  · intro e1 e2
    have h1 := (U.all_iff C).mpr (.inl ⟨f1, e1⟩)
    have h2 := (U.all_iff C).mpr (.inl ⟨f2, e2⟩)
    have := V'.apex U.cut' (z := i) (by omega) (by rw [Nat.min_eq_left (by omega), Nat.max_eq_right (by omega)]; exact h1) (by rw [Nat.min_eq_right (by omega), Nat.max_eq_left (by omega)]; exact h2)
    omega
  · intro e1 e2
    have h1 := (U.all_iff C).mpr (.inl ⟨f3, e1⟩)
    have h2 := (U.all_iff C).mpr (.inl ⟨f4, e2⟩)
    have := V'.apex U.cut' (z := j) f8 (by rw [Nat.min_comm, Nat.max_comm]; exact h2) h1
    omega
/-- the four posts of the second turning -/
theorem Turning.second (C : Cutting n cut t) (U : Turning n cut t t' x y m o R) {x2 y2 m2 o2 : Nat} {s : Tr} {R2 : List (Nat × Nat)} (V : Turning n (turnedL n cut x y) t' s x2 y2 m2 o2 R2) (e : (x2, y2) = (min m o, max m o)) :
    (m < o ∧ x2 = m ∧ m2 = y ∧ y2 = o ∧ o2 = x) ∨ (o < m ∧ x2 = o ∧ m2 = x ∧ y2 = m ∧ o2 = y) := by
  obtain ⟨f1, f2, f3, f4, f5, f6, f7, f8, f9⟩ := U.four C
  obtain ⟨g1, g2, g3, g4, g5, g6, g7, g8, g9⟩ := V.four U.cut'
  have h1 := (U.all_iff C).mpr (.inl ⟨f1, by simp; omega⟩)
  have h2 := (U.all_iff C).mpr (.inl ⟨f2, by simp; omega⟩)
  have h3 := (U.all_iff C).mpr (.inl ⟨f3, by simp; omega⟩)
  have h4 := (U.all_iff C).mpr (.inl ⟨f4, by simp; omega⟩)
  injection e with e1 e2
  have ax : x = m2 ∨ x = o2 := by
    refine V.apex U.cut' (by omega) ?_ ?_
    · rcases (show x2 = m ∨ x2 = o by omega) with r | r
      · rw [r, Nat.min_eq_right (by omega), Nat.max_eq_left (by omega)]; exact h1
      · rw [r]; exact h4
    · rcases (show y2 = m ∨ y2 = o by omega) with r | r
      · rw [r, Nat.min_eq_right (by omega), Nat.max_eq_left (by omega)]; exact h1
      · rw [r]; exact h4
  have ay : y = m2 ∨ y = o2 := by
    refine V.apex U.cut' (by omega) ?_ ?_
    · rcases (show x2 = m ∨ x2 = o by omega) with r | r
      · rw [r, Nat.min_eq_left (by omega), Nat.max_eq_right (by omega)]; exact h2
      · rw [r, Nat.min_comm, Nat.max_comm]; exact h3
    · rcases (show y2 = m ∨ y2 = o by omega) with r | r
      · rw [r, Nat.min_eq_left (by omega), Nat.max_eq_right (by omega)]; exact h2
      · rw [r, Nat.min_comm, Nat.max_comm]; exact h3
  omega
theorem Turning.was (U : Turning n cut t t' x y m o R) {p : IP} (hp : p ∈ turnedL n cut x y) (ne : p ≠ castP (min m o, max m o)) (C : Cutting n cut t) : p ∈ cut ∧ p ≠ castP (x, y) := by
  have h := (U.newP).mem_iff.mp hp
  rcases List.mem_cons.mp h with e | h
  · exact absurd e ne
  · refine ⟨(U.cutP C).mem_iff.mpr (List.mem_cons_of_mem _ h), fun z => ?_⟩
    rw [z] at hp
    exact U.old_notin C hp
theorem facV_E {r : Rat} {p : IP} (h : isE x m y o p) : facV r x m y o p = 1 + r := if_pos h
theorem facV_O {r : Rat} {p : IP} (h : isO x m y o p) (h' : ¬ isE x m y o p) : facV r x m y o p = r / (1 + r) := by
  unfold facV
  rw [if_neg h', if_pos h]
theorem facV_N {r : Rat} {p : IP} (h : ¬ isO x m y o p) (h' : ¬ isE x m y o p) : facV r x m y o p = 1 := by
  unfold facV
  rw [if_neg h', if_neg h]
/-- ratios of lengths turn as rates do -/
theorem rates_turn {L : Len} {D : Nat → Nat → Rat} (C : Cutting n cut t) (U : Turning n cut t t' x y m o R) (M : Meas n t L D) {p : IP} (hp : p ∈ turnedL n cut x y) :
    ratP n (turnedL n cut x y) D p = turnV (ratP n cut D) x m y o p := by
  obtain ⟨f1, f2, f3, f4, f5, f6, f7, f8, f9⟩ := U.four C
  have up : ∀ i k, i < k → k < n → 0 < D i k := fun i k h1 h2 => M.above h1 h2
  have pA := up x m f5 (by omega)
  have pB := up m y f6 f7
  have pC := up (min y o) (max y o) (by omega) (by omega)
  have pE := up (min o x) (max o x) (by omega) (by omega)
  have pF := up x y (by omega) f7
  have pG := up (min m o) (max m o) (by omega) (by omega)
  have pt : D (min m o) (max m o) * D x y = D x m * D (min y o) (max y o) + D m y * D (min o x) (max o x) := by
    rcases f9 with h | h
    · have := M.pl f8 (show x < n by omega) (show m < n by omega) f7
      rw [Nat.min_eq_right (by omega), Nat.max_eq_left (by omega), Nat.min_eq_right (by omega), Nat.max_eq_left (by omega), Nat.min_eq_left (by omega), Nat.max_eq_right (by omega)]
      grind
    · have := M.pl (show x < n by omega) (show m < n by omega) f7 f8
      rw [Nat.min_eq_left (by omega), Nat.max_eq_right (by omega), Nat.min_eq_left (by omega), Nat.max_eq_right (by omega), Nat.min_eq_right (by omega), Nat.max_eq_left (by omega)]
      grind
  have old : ratP n cut D (castP (x, y)) = D x m * D (min y o) (max y o) / (D m y * D (min o x) (max o x)) := ratP_is C U
  unfold turnV
  rw [old]
  obtain ⟨⟨a, b⟩, hq, rfl⟩ := U.cut'.mem.mp hp
  obtain ⟨s', i', j', R2, V'⟩ := U.cut'.turn hq
  rw [ratP_is U.cut' V']
  by_cases en : (a, b) = (min m o, max m o)
  · rw [if_pos (by rw [en])]
    have nb : D m y * D (min o x) (max o x) ≠ 0 := by
      have := rat_mul_pos pB pE
      grind
    have na : D x m * D (min y o) (max y o) ≠ 0 := by
      have := rat_mul_pos pA pC
      grind
    have z : ∀ u v : Rat, u ≠ 0 → v ≠ 0 → 1 / (u / v) = v / u := fun u v h1 h2 => by grind
    rw [z _ _ na nb]
    unfold rat4
    rcases U.second C V' en with ⟨h, e1, e2, e3, e4⟩ | ⟨h, e1, e2, e3, e4⟩
    · rw [e1, e2, e3, e4, show min y o = y by omega, show max y o = o by omega, show min x m = x by omega, show max x m = m by omega]
      congr 1
      exact Rat.mul_comm _ _
    · rw [e1, e2, e3, e4, show min y o = o by omega, show max y o = y by omega, show min o x = o by omega, show max o x = x by omega, show min m y = m by omega, show max m y = y by omega]
      congr 1
      exact Rat.mul_comm _ _
  rw [if_neg (fun z => en (castP_inj z))]
  obtain ⟨hc, hne⟩ := U.was hp (fun z => en (castP_inj z)) C
  obtain ⟨q, hq0, eq⟩ := C.mem.mp hc
  have eq := castP_inj eq
  subst eq
  obtain ⟨s, i, j, R1, V⟩ := C.turn hq0
  rw [ratP_is C V]
  have hne : (a, b) ≠ (x, y) := fun z => hne (by rw [z])
  obtain ⟨h1, h2, h3, h4, h5, h6, h7, h8, h9⟩ := V.four C
  obtain ⟨g1, g2, g3, g4, g5, g6, g7, g8, g9⟩ := V'.four U.cut'
  obtain ⟨ki, ko⟩ := U.apexes C V V'
  have pab := up a b (by omega) h7
  have pai := up a i h5 (by omega)
  have pib := up i b h6 h7
  have pbj := up (min b j) (max b j) (by omega) (by omega)
  have pja := up (min j a) (max j a) (by omega) (by omega)
  have hab : (a, b) ∈ t.all 0 := Tr.inn_all (ropes_bd hq0).1
  have hxy : (x, y) ∈ t.all 0 := Tr.inn_all (ropes_bd U.rope_mem).1
  have hnew : (min m o, max m o) ∈ t'.all 0 := (U.all_iff C).mpr (.inr rfl)
  have keep : ∀ {q : Nat × Nat}, q ∈ t.all 0 → q ≠ (x, y) → q ∈ t'.all 0 := fun h1 h2 => (U.all_iff C).mpr (.inl ⟨h1, h2⟩)
  have nxy : ∀ {u v : Nat}, (u ≠ x ∨ v ≠ y) → (u, v) ≠ (x, y) := fun h z => by
    obtain ⟨z1, z2⟩ := Prod.mk.inj z
    omega
  have f1' := keep f1 (nxy (by omega))
  have f2' := keep f2 (nxy (by omega))
  have f3' := keep f3 (nxy (by omega))
  have f4' := keep f4 (nxy (by omega))
  have srt : ∀ {u v : Nat} {T : List (Nat × Nat)}, u < v → (u, v) ∈ T → (min u v, max u v) ∈ T ∧ (min v u, max v u) ∈ T := fun h1 h2 => by
    rw [Nat.min_eq_left (by omega), Nat.max_eq_right (by omega), Nat.min_eq_right (by omega), Nat.max_eq_left (by omega)]
    exact ⟨h2, h2⟩
  have swp : ∀ {u v : Nat} {T : List (Nat × Nat)}, (min u v, max u v) ∈ T → (min v u, max v u) ∈ T := fun h => by
    rw [Nat.min_comm, Nat.max_comm]; exact h
  have sxy := srt (by omega) hxy
  have sxm := srt (by omega) f1
  have smy := srt (by omega) f2
  have sxm' := srt (by omega) f1'
  have smy' := srt (by omega) f2'
  by_cases c1 : (a, b) = (x, m)
  · obtain ⟨e1, e2⟩ := Prod.mk.inj c1
    have jy : y = i ∨ y = j := V.apex C f7 (by rw [e1]; exact sxy.1) (by rw [e2]; exact smy.1)
    have jo : o = i' ∨ o = j' := V'.apex U.cut' f8 (by rw [e1]; exact swp f4') (by rw [e2]; exact hnew)
    have ii := ki (nxy (by omega)) (nxy (by omega))
    rw [show j' = o by omega, show j = y by omega, ii, c1, e1, e2, facV_E (.inl rfl)]
    rw [e2] at pib
    unfold rat4
    rw [show min m y = m by omega, show max m y = y by omega, show min y x = x by omega, show max y x = y by omega]
    exact ev_id pB pE pF pib pt
  by_cases c3 : (a, b) = (min y o, max y o)
  · obtain ⟨e1, e2⟩ := Prod.mk.inj c3
    rw [c3, facV_E (.inr rfl)]
    rcases f9 with h | h
    · have e1 : a = o := by omega
      have e2 : b = y := by omega
      have ix : x = i ∨ x = j := V.apex C (by omega) (by rw [e1]; exact f4) (by rw [e2]; exact sxy.2)
      have im : m = i' ∨ m = j' := V'.apex U.cut' (by omega) (by rw [e1]; exact swp hnew) (by rw [e2]; exact smy'.2)
      have jj := ko (nxy (by omega)) (nxy (by omega))
      rw [show i' = m by omega, show i = x by omega, jj, e1, e2]
      rw [e1] at pja
      unfold rat4
      rw [show min m o = o by omega, show max m o = m by omega] at pG pt
      rw [show min o x = o by omega, show max o x = x by omega] at pE pt ⊢
      exact ev3_id pB pE pF pja pt
    · have e1 : a = y := by omega
      have e2 : b = o := by omega
      have ix : x = i ∨ x = j := V.apex C (by omega) (by rw [e1]; exact sxy.2) (by rw [e2]; exact f4)
      have im : m = i' ∨ m = j' := V'.apex U.cut' (by omega) (by rw [e1]; exact smy'.2) (by rw [e2]; exact swp hnew)
      have ii := ki (nxy (by omega)) (nxy (by omega))
      rw [show j' = m by omega, show j = x by omega, ii, e1, e2]
      rw [e2] at pib
      unfold rat4
      rw [Nat.min_comm o m, Nat.max_comm o m, show min m y = m by omega, show max m y = y by omega, show min x y = x by omega, show max x y = y by omega]
      exact ev2_id pB pE pF pib pt
  have nE : ¬ isE x m y o (castP (a, b)) := fun z => by
    rcases z with z | z
    · exact c1 (castP_inj z)
    · exact c3 (castP_inj z)
  by_cases c2 : (a, b) = (m, y)
  · obtain ⟨e1, e2⟩ := Prod.mk.inj c2
    rw [facV_O (.inl (by rw [c2])) nE]
    have jx : x = i ∨ x = j := V.apex C (by omega) (by rw [e1]; exact sxm.2) (by rw [e2]; exact sxy.2)
    have jo : o = i' ∨ o = j' := V'.apex U.cut' f8 (by rw [e1]; exact hnew) (by rw [e2]; exact f3')
    have ii := ki (nxy (by omega)) (nxy (by omega))
    rw [show j' = o by omega, show j = x by omega, ii, e1, e2]
    rw [e2] at pib
    unfold rat4
    rw [Nat.min_comm o m, Nat.max_comm o m, show min y x = x by omega, show max y x = y by omega, show min x m = x by omega, show max x m = m by omega]
    exact od_id pA pB pE pF pG pib pt
  by_cases c4 : (a, b) = (min o x, max o x)
  · obtain ⟨e1, e2⟩ := Prod.mk.inj c4
    rw [facV_O (.inr (by rw [c4])) nE]
    rcases f9 with h | h
    · have e1 : a = o := by omega
      have e2 : b = x := by omega
      have iy : y = i ∨ y = j := V.apex C (by omega) (by rw [e1]; exact swp f3) (by rw [e2]; exact sxy.1)
      have im : m = i' ∨ m = j' := V'.apex U.cut' (by omega) (by rw [e1]; exact swp hnew) (by rw [e2]; exact sxm'.1)
      have ii := ki (nxy (by omega)) (nxy (by omega))
      rw [show j' = m by omega, show j = y by omega, ii, e1, e2]
      rw [e2] at pib
      unfold rat4
      rw [show min x m = x by omega, show max x m = m by omega, show min x y = x by omega, show max x y = y by omega]
      exact od2_id pC pB pE pF pG pib pt
    · have e1 : a = x := by omega
      have e2 : b = o := by omega
      have iy : y = i ∨ y = j := V.apex C (by omega) (by rw [e1]; exact sxy.1) (by rw [e2]; exact swp f3)
      have im : m = i' ∨ m = j' := V'.apex U.cut' (by omega) (by rw [e1]; exact sxm'.1) (by rw [e2]; exact swp hnew)
      have jj := ko (nxy (by omega)) (nxy (by omega))
      rw [show i' = m by omega, show i = y by omega, jj, e1, e2]
      rw [e1] at pja
      unfold rat4
      rw [show min m o = m by omega, show max m o = o by omega] at pG pt
      rw [show min y o = y by omega, show max y o = o by omega] at pC pt ⊢
      exact od3_id pC pB pE pF pG pja pt
  have nO : ¬ isO x m y o (castP (a, b)) := fun z => by
    rcases z with z | z
    · exact c2 (castP_inj z)
    · exact c4 (castP_inj z)
  rw [facV_N nO nE, Rat.mul_one]
  have ne2 : ∀ {u v u' v' : Nat}, ¬ (u, v) = (u', v') → u ≠ u' ∨ v ≠ v' := fun {u v u' v'} h => by
    by_cases z : u = u'
    · exact .inr fun z2 => h (by rw [z, z2])
    · exact .inl z
  have d1 := ne2 c1
  have d2 := ne2 c2
  have d3 := ne2 c3
  have d4 := ne2 c4
  have ap : ∀ z, z < n → (min x z, max x z) ∈ t.all 0 → (min y z, max y z) ∈ t.all 0 → z = m ∨ z = o := fun z h1 h2 h3 => U.apex C h1 h2 h3
  have sab := srt (by omega) hab
  have sai := srt h5 h1
  have sib := srt h6 h2
  have ii : i' = i := ki (fun z => by
    obtain ⟨z1, z2⟩ := Prod.mk.inj z
    have := ap b (by omega) (by rw [← z1]; exact sab.1) (by rw [← z2]; exact sib.1)
    omega) (fun z => by
    obtain ⟨z1, z2⟩ := Prod.mk.inj z
    have := ap a (by omega) (by rw [← z1]; exact sai.2) (by rw [← z2]; exact sab.2)
    omega)
  have jj : j' = j := ko (fun z => by
    obtain ⟨z1, z2⟩ := Prod.mk.inj z
    rcases (show b = x ∧ j = y ∨ b = y ∧ j = x by omega) with ⟨r1, r2⟩ | ⟨r1, r2⟩
    · have := ap a (by omega) (by rw [← r1]; exact sab.2) (by rw [← r2]; exact h4)
      omega
    · have := ap a (by omega) (by rw [← r2]; exact h4) (by rw [← r1]; exact sab.2)
      omega) (fun z => by
    obtain ⟨z1, z2⟩ := Prod.mk.inj z
    rcases (show a = x ∧ j = y ∨ a = y ∧ j = x by omega) with ⟨r1, r2⟩ | ⟨r1, r2⟩
    · have := ap b (by omega) (by rw [← r1]; exact sab.1) (by rw [← r2]; exact swp h3)
      omega
    · have := ap b (by omega) (by rw [← r2]; exact swp h3) (by rw [← r1]; exact sab.1)
      omega)
  rw [ii, jj]
/-- the second turning puts the rates back -/
theorem turnV_back {V : IP → Rat} (C : Cutting n cut t) (U : Turning n cut t t' x y m o R) {x2 y2 m2 o2 : Nat} {s : Tr} {R2 : List (Nat × Nat)} (W : Turning n (turnedL n cut x y) t' s x2 y2 m2 o2 R2) (e : (x2, y2) = (min m o, max m o)) (pos : 0 < V (castP (x, y))) {p : IP} (hp : p ∈ cut) :
    turnV (turnV V x m y o) x2 m2 y2 o2 p = V p := by
  obtain ⟨f1, f2, f3, f4, f5, f6, f7, f8, f9⟩ := U.four C
  have pn : p ≠ castP (min m o, max m o) := fun z => by
    rw [z] at hp
    exact U.new_notin C (mem_ties.mpr (.inr hp))
  have en : castP (x2, y2) = castP (min m o, max m o) := by rw [e]
  have v1 : turnV V x m y o (castP (x2, y2)) = 1 / V (castP (x, y)) := if_pos en
  have v2 : turnV V x m y o p = V p * facV (V (castP (x, y))) x m y o p := if_neg pn
  have key : castP (min m2 o2, max m2 o2) = castP (x, y) ∧ (isE x2 m2 y2 o2 p ↔ isO x m y o p) ∧ (isO x2 m2 y2 o2 p ↔ isE x m y o p) := by
    rcases U.second C W e with ⟨h, e1, e2, e3, e4⟩ | ⟨h, e1, e2, e3, e4⟩
    · rw [e1, e2, e3, e4]
      refine ⟨by rw [show min y x = x by omega, show max y x = y by omega], ?_, ?_⟩
      · unfold isE isO
        exact Iff.rfl
      · unfold isE isO
        rw [show min x m = x by omega, show max x m = m by omega, show min y o = y by omega, show max y o = o by omega]
        exact ⟨fun z => z.symm, fun z => z.symm⟩
    · rw [e1, e2, e3, e4]
      refine ⟨by rw [show min x y = x by omega, show max x y = y by omega], ?_, ?_⟩
      · unfold isE isO
        rw [show min m y = m by omega, show max m y = y by omega, show min o x = o by omega, show max o x = x by omega]
        exact ⟨fun z => z.symm, fun z => z.symm⟩
      · unfold isE isO
        exact Iff.rfl
  obtain ⟨k1, k2, k3⟩ := key
  generalize hr : V (castP (x, y)) = r at pos v1 v2
  have r0 : r ≠ 0 := by grind
  have r1 : 1 + r ≠ 0 := by grind
  by_cases c : p = castP (x, y)
  · have : turnV (turnV V x m y o) x2 m2 y2 o2 p = 1 / turnV V x m y o (castP (x2, y2)) := if_pos (by rw [c, k1])
    rw [this, v1, c, hr]
    grind
  · have : turnV (turnV V x m y o) x2 m2 y2 o2 p = turnV V x m y o p * facV (turnV V x m y o (castP (x2, y2))) x2 m2 y2 o2 p := if_neg (by rw [k1]; exact c)
    rw [this, v1, v2]
    have q1 : 1 + 1 / r ≠ 0 := by
      have h2 : 0 < 1 / r := rat_div_pos (by decide) pos
      grind
    by_cases cE : isE x m y o p
    · have cO : ¬ isO x m y o p := fun z => by
        rcases cE with z1 | z1 <;> rcases z with z2 | z2 <;> (have z3 := castP_inj (z1.symm.trans z2); injection z3 with z4 z5; omega)
      rw [facV_E cE, facV_O (k3.mpr cE) (fun z => cO (k2.mp z))]
      have e1 : 1 / r / (1 + 1 / r) = 1 / (1 + r) := by
        have : 1 + 1 / r = (1 + r) / r := by grind
        rw [this]
        grind
      rw [e1]
      grind
    · by_cases cO : isO x m y o p
      · rw [facV_O cO cE, facV_E (k2.mpr cO)]
        have e1 : 1 + 1 / r = (1 + r) / r := by grind
        rw [e1]
        grind
      · rw [facV_N cO cE, facV_N (fun z => cE (k3.mp z)) (fun z => cO (k2.mp z)), Rat.mul_one, Rat.mul_one]
theorem turnV_pos {V : IP → Rat} (C : Cutting n cut t) (U : Turning n cut t t' x y m o R) (pos : ∀ p ∈ cut, 0 < V p) {p : IP} (hp : p ∈ turnedL n cut x y) : 0 < turnV V x m y o p := by
  have h0 := pos _ (C.mem.mpr ⟨_, U.rope_mem, rfl⟩)
  unfold turnV
  split
  · exact rat_div_pos (by decide) h0
  · rename_i ne
    have h1 := pos _ (U.was hp ne C).1
    generalize V (castP (x, y)) = r at h0 ⊢
    have h2 : 0 < 1 + r := by grind
    refine rat_mul_pos h1 ?_
    unfold facV
    split
    · exact h2
    · split
      · exact rat_div_pos h0 h2
      · decide
/-- the four sides round a rope, in order -/
def sdK (x m y o : Nat) (k : Nat) : IP := castP (min ([x, m, y, o].getD k 0) ([x, m, y, o].getD ((k + 1) % 4) 0), max ([x, m, y, o].getD k 0) ([x, m, y, o].getD ((k + 1) % 4) 0))
def ffK (r : Rat) (k : Nat) : Rat := if k % 2 = 1 then r / (1 + r) else 1 + r
def WK (V : IP → Rat) (r : Rat) (x m y o : Nat) : Nat → IP → Rat
  | 0, p => V p
  | k + 1, p => if p = sdK x m y o k then WK V r x m y o k p * ffK r k else WK V r x m y o k p
theorem WK4 {V : IP → Rat} {r : Rat} (C : Cutting n cut t) (U : Turning n cut t t' x y m o R) (p : IP) : WK V r x m y o 4 p = V p * facV r x m y o p := by
  obtain ⟨f1, f2, f3, f4, f5, f6, f7, f8, f9⟩ := U.four C
  have s0 : sdK x m y o 0 = castP (x, m) := by
    show castP (min x m, max x m) = _
    rw [Nat.min_eq_left (by omega), Nat.max_eq_right (by omega)]
  have s1 : sdK x m y o 1 = castP (m, y) := by
    show castP (min m y, max m y) = _
    rw [Nat.min_eq_left (by omega), Nat.max_eq_right (by omega)]
  have s2 : sdK x m y o 2 = castP (min y o, max y o) := rfl
  have s3 : sdK x m y o 3 = castP (min o x, max o x) := rfl
  have ne : ∀ {a b c d : Nat}, (a ≠ c ∨ b ≠ d) → castP (a, b) ≠ castP (c, d) := fun h z => by
    have := castP_inj z
    injection this with h1 h2
    omega
  have n01 : castP (x, m) ≠ castP (m, y) := ne (by omega)
  have n02 : castP (x, m) ≠ castP (min y o, max y o) := ne (by omega)
  have n03 : castP (x, m) ≠ castP (min o x, max o x) := ne (by omega)
  have n12 : castP (m, y) ≠ castP (min y o, max y o) := ne (by omega)
  have n13 : castP (m, y) ≠ castP (min o x, max o x) := ne (by omega)
  have n23 : castP (min y o, max y o) ≠ castP (min o x, max o x) := ne (by omega)
  unfold WK WK WK WK WK facV isE isO
  rw [s0, s1, s2, s3]
  have k0 : ffK r 0 = 1 + r := rfl
  have k1 : ffK r 1 = r / (1 + r) := rfl
  have k2 : ffK r 2 = 1 + r := rfl
  have k3 : ffK r 3 = r / (1 + r) := rfl
  rw [k0, k1, k2, k3]
  by_cases c0 : p = castP (x, m)
  · simp [c0, n01, n02, n03]
  by_cases c1 : p = castP (m, y)
  · simp [c1, n01.symm, n12, n13]
  by_cases c2 : p = castP (min y o, max y o)
  · simp [c2, n02.symm, n12.symm, n23]
  by_cases c3 : p = castP (min o x, max o x)
  · simp [c3, n03.symm, n13.symm, n23.symm]
  simp [c0, c1, c2, c3, Rat.mul_one]
theorem ffK_rb {r : Rat} {B : Nat} (hr : 0 < r) (h : rb r B) (k : Nat) : rb (ffK r k) (2 * B + 3) ∧ ffK r k ≠ 0 := by
  have h1 : rb (1 : Rat) 1 := ⟨by decide, by decide⟩
  have h2 := rb_add h1 h
  have p2 : 0 < 1 + r := by grind
  unfold ffK
  split
  · refine ⟨(rb_quot (by grind) h h2).mono (by omega), ?_⟩
    have := rat_div_pos hr p2
    grind
  · exact ⟨h2.mono (by omega), by grind⟩
theorem WK_rb {V : IP → Rat} {r : Rat} {B : Nat} (hr : 0 < r) (h : rb r B) {p : IP} (hp : rb (V p) B) : ∀ k, rb (WK V r x m y o k p) (B + k * (2 * B + 3))
  | 0 => hp.mono (by omega)
  | k + 1 => by
    have ih := WK_rb hr h hp k
    have e : (k + 1) * (2 * B + 3) = k * (2 * B + 3) + (2 * B + 3) := Nat.succ_mul _ _
    unfold WK
    split
    · exact (rb_mul ih (ffK_rb hr h k).1).mono (by omega)
    · exact ih.mono (by omega)
theorem turnV_rb {V : IP → Rat} {B : Nat} (C : Cutting n cut t) (U : Turning n cut t t' x y m o R) (pos : ∀ p ∈ cut, 0 < V p ∧ rb (V p) B) {p : IP} (hp : p ∈ turnedL n cut x y) : rb (turnV V x m y o p) (9 * B + 12) := by
  have hr := pos _ (C.mem.mpr ⟨_, U.rope_mem, rfl⟩)
  unfold turnV
  split
  · exact (rb_quot (by have := hr.1; grind) (⟨by decide, by decide⟩ : rb (1 : Rat) 1) hr.2).mono (by omega)
  · rename_i ne
    rw [← WK4 C U]
    exact (WK_rb hr.1 hr.2 (pos _ (U.was hp ne C).1).2 4).mono (by omega)
theorem ratP_up {L : Len} {D : Nat → Nat → Rat} (C : Cutting n cut t) (M : Meas n t L D) {p : IP} (hp : p ∈ cut) : 0 < ratP n cut D p := by
  obtain ⟨⟨x, y⟩, hq, rfl⟩ := C.mem.mp hp
  obtain ⟨t', m, o, R, U⟩ := C.turn hq
  rw [ratP_is C U]
  obtain ⟨txm, tmy, tyo, tox, xm, my, yn, on, out⟩ := U.four C
  unfold rat4
  have p1 := M.above my yn
  have p2 : 0 < D (min o x) (max o x) := M.above (by omega) (by omega)
  have p3 : 0 < D x m := M.above xm (by omega)
  have p4 : 0 < D (min y o) (max y o) := M.above (by omega) (by omega)
  exact rat_div_pos (rat_mul_pos p3 p4) (rat_mul_pos p1 p2)
theorem turnV_congr {V W : IP → Rat} (C : Cutting n cut t) (U : Turning n cut t t' x y m o R) (e : ∀ p ∈ cut, V p = W p) {p : IP} (hp : p ∈ turnedL n cut x y) : turnV V x m y o p = turnV W x m y o p := by
  have e0 := e _ (C.mem.mpr ⟨_, U.rope_mem, rfl⟩)
  unfold turnV
  rw [e0]
  by_cases c : p = castP (min m o, max m o)
  · rw [if_pos c, if_pos c]
  · rw [if_neg c, if_neg c, e p (U.was hp c C).1]
end
end Pm
namespace Pm
open PySem PySem.Spec PyProof.Rows L2 PySem.W
theorem perm_up {α β : Type} {f : α → β} {l m : List β} (p : l.Perm m) : ∀ xs : List α, xs.map f = m → ∃ ys : List α, ys.Perm xs ∧ ys.map f = l := by
  induction p with
  | nil => exact fun xs e => ⟨xs, .refl _, e⟩
  | cons x p ih =>
    intro xs e
    match xs, e with
    | y :: xs, e =>
      rw [List.map_cons] at e
      injection e with e1 e2
      obtain ⟨ys, h1, h2⟩ := ih xs e2
      exact ⟨y :: ys, h1.cons _, by rw [List.map_cons, h2, e1]⟩
  | swap x y l =>
    intro xs e
    match xs, e with
    | a :: b :: r, e =>
      rw [List.map_cons, List.map_cons] at e
      injection e with e1 e2
      injection e2 with e2 e3
      exact ⟨b :: a :: r, .swap _ _ _, by rw [List.map_cons, List.map_cons, e1, e2, e3]⟩
  | trans p1 p2 ih1 ih2 =>
    intro xs e
    obtain ⟨ys, h1, h2⟩ := ih2 xs e
    obtain ⟨zs, h3, h4⟩ := ih1 ys h2
    exact ⟨zs, h3.trans h1, h4⟩
theorem list_of {α : Type} {P : Nat → α → Prop} : ∀ n, (∀ j, j < n → ∃ a, P j a) → ∃ l : List α, l.length = n ∧ ∀ j a, l[j]? = some a → P j a
  | 0, _ => ⟨[], rfl, fun j a e => by simp at e⟩
  | n + 1, h => by
    obtain ⟨l, h1, h2⟩ := list_of n fun j hj => h j (by omega)
    obtain ⟨a, ha⟩ := h n (Nat.lt_succ_self n)
    refine ⟨l ++ [a], by rw [List.length_append, h1]; rfl, fun j b e => ?_⟩
    by_cases c : j < n
    · rw [List.getElem?_append_left (by omega)] at e
      exact h2 j b e
    · have l2 : j < (l ++ [a]).length := (List.getElem?_eq_some_iff.mp e).1
      rw [List.length_append, h1, List.length_singleton] at l2
      have ej : j = n := by omega
      subst ej
      rw [List.getElem?_append_right (by omega), h1, Nat.sub_self] at e
      cases e
      exact ha
section
variable {prog : Program} {w : World} {A : Around} {E : Value → Shared → Prop} {s : Shared}
/-- sorted(d.items(), ..) up to the sort of the pairs -/
theorem sorted_itemsK {r d : Addr} {es : Array DictEntry} {ep : Nat} {kw : List (Str × Value)} {Q : Value → Shared → Prop} (ha1 : argsOk "sorted" ⟨[.ref r], kw⟩) (ha2 : ∀ a, argsOk "list.sort" ⟨[a], kw⟩)
    (hh : A.handled = none) (hv : s.heap.IsItemsView r d) (hm : DT.Raw s.heap d es ep) (hn : es.size ≤ sizeLine)
    (h : ∀ (h' : Heap) (tk : Nat) (as : List Addr), (∀ b o, s.heap.get? b = some o → h'.get? b = some o) → s.heap.objs.size < h'.objs.size → as.length = es.size → DT.Made es s.heap.objs.size h' as →
      wpAny (model prog w) A.in1.in1 (Builtin.«list.sort» ⟨[.ref h'.objs.size], kw⟩) (fun f s' => ∃ v, f = .done (.ret v) ∧ Q (.ref h'.objs.size) s') E { s with heap := h'.push (seqObj "list" (as.map Value.ref).toArray 0), toks := tk }) :
    wpAny (model prog w) A (call (.builtin "sorted") [.ref r] kw) Q E s := by
  refine call_function_entry_kw kind_sorted plain_sorted entry_sorted ha1 ?_
  unfold Builtin.«sorted»
  refine wpAny_bind (m := checkCount "sorted" 1 1 _) (wpAny_pure ?_)
  refine wpAny_bind (DT.collectI (A := A.in1) (es := es) (ep := ep) hh hv hm hn fun h' tk as hk hlt hl hG => ?_)
  have hz : (as.map Value.ref).length ≤ sizeLine := by rw [List.length_map, hl]; exact hn
  refine wpAny_bind (wpAny_newList ?_ hz)
  have hoL : (h'.push (seqObj "list" (as.map Value.ref).toArray 0)).get? h'.objs.size = some (seqObj "list" (as.map Value.ref).toArray 0) := Heap.get?_push_size _ rfl
  have hg := h h' tk as hk hlt hl hG
  show wpAny _ _ _ _ _ { s with heap := h'.push (seqObj "list" (as.map Value.ref).toArray 0), toks := tk }
  refine wpAny_bind (wpAny_holding (wpAny_call_entry_kw slot_list_sort ⟨_, hoL, rfl⟩ entry_list_sort (wpAny_mono hg (fun f s' x => ?_) fun _ _ e => e) (ha2 _)))
  obtain ⟨v, rfl, q⟩ := x
  exact ⟨_, rfl, wpAny_pure ⟨_, rfl, q⟩⟩
end
/-- a pair of a key and a value: its place, the key, the key's place, the value's -/
abbrev Ent := Addr × IP × Addr × Addr
def EntAt (K : PySem.W.Frag) (H : Hp) (L : IP → IP) (z : Ent) : Prop := H z.1 = some (.tup [.ref z.2.2.1, .ref z.2.2.2]) ∧ H z.2.2.1 = some (.tup [.int z.2.1.1, .int z.2.1.2]) ∧ FrV K H (.ref z.2.2.2) (L z.2.1)
def entN (L : IP → IP) (z : Ent) : ND := .t [.t [.i z.2.1.1, .i z.2.1.2], .t [.i (L z.2.1).1, .i (L z.2.1).2]]
theorem EntAt.dp {K : PySem.W.Frag} {H : Hp} {L : IP → IP} {z : Ent} (h : EntAt K H L z) : Dp K H (.ref z.1) (ND.py (entN L z)) := by
  obtain ⟨h1, h2, h3⟩ := h
  refine .tup (SqT.of h1) (.cons (.tup (SqT.of h2) (.cons (.int _) (.cons (.int _) .nil))) (.cons ?_ .nil))
  exact .tup h3.tup (.cons (.int _) (.cons (.int _) .nil))
theorem entN_ok (L : IP → IP) (zs : List Ent) : SrtOk (zs.map (entN L)) where
  tup := fun d hd => by
    obtain ⟨z, _, rfl⟩ := List.mem_map.mp hd
    exact ⟨_, _, rfl⟩
  hom := fun d hd e he => by
    obtain ⟨z, _, rfl⟩ := List.mem_map.mp hd
    obtain ⟨y, _, rfl⟩ := List.mem_map.mp he
    rfl
  dep := fun d hd => by
    obtain ⟨z, _, rfl⟩ := List.mem_map.mp hd
    show (ND.py (entN L z)).depth ≤ 8
    simp [entN, ND.py, ND.pyL, PyData.depth, PyData.depthAll]
/-- sorted(d.items(), reverse=True): the items in some order -/
def rSortIt (K : PySem.W.Frag) : List V → List V → Hp → VK → Prop := fun vs zs H Q => ∃ (p a : Addr) (ks : List IP) (L : IP → IP), vs = [.ref p] ∧ zs = [.bl true] ∧ H p = some (L2.DX.itemsO p a) ∧ LD K H a ks L ∧
  ∀ (H' : Hp) (l : Addr) (qs : List Ent), Same H H' → (qs.map (·.2.1)).Perm ks → H l = none → H' l = some (.lst (qs.map fun z => V.ref z.1)) → (∀ z ∈ qs, EntAt K H' L z) → Q (.ref l) H'
theorem cr_sortIt {X : Cx} {K : PySem.W.Frag} (hc : X.calm = true) (hu : X.A.units + 40 < cLine) (e : X.K = K := by rfl) : CallRK X (.builtin "sorted") [Str.ofString "reverse"] (rSortIt K) := by
  subst e
  intro pins s σ H vs zs us ws Q I r rz h
  obtain ⟨p, a, ks, L, rfl, rfl, hp, hL, q⟩ := h
  obtain rfl := Vals.ref1 r
  obtain ⟨w1, rfl, e1⟩ := vals1 rz
  obtain rfl : w1 = Value.bool true := e1
  obtain ⟨nd, esv, ha, hE⟩ := hL
  have view : s.heap.IsItemsView p a := (show ObjOk X.prog X.w H s.heap p (L2.DX.itemsO p a) from I.hok p _ hp).1
  obtain ⟨z, hd, xs, rel, o, es, ep, ho, hx, hdat, hes, his, hn⟩ := dt_of I.hok ha
  have l1 : esv.length = xs.length := Paired.length rel
  have l0 : esv.length = ks.length := hE.length
  have l2 : es.size = xs.length := size_of_entries hes
  refine sorted_itemsK (PyProof.Rows.args_sorted_rev _ _) (fun _ => PyProof.Rows.args_list_sort_rev _ _) (I.ok.hd hc) view ⟨o, ho, hx, hdat⟩ (by omega) fun h' tk as hk hlt hl hG => ?_
  have nd' : as.Nodup := List.Pairwise.imp (fun h => Nat.ne_of_lt h) hG.rise
  -- the pairs that were made
  obtain ⟨qs, ql, hq⟩ := list_of (α := Ent) (P := fun j z => as[j]? = some z.1 ∧ ks[j]? = some z.2.1 ∧ H z.2.2.1 = some (.tup [.int z.2.1.1, .int z.2.1.2]) ∧ FrV X.K H (.ref z.2.2.2) (L z.2.1) ∧ h'.get? z.1 = some { cls := .type "tuple", data := .seq #[Value.ref z.2.2.1, Value.ref z.2.2.2] }) as.length (fun j hj => by
    obtain ⟨en, he, hg⟩ := hG.pairs j as[j] (List.getElem?_eq_getElem hj)
    rw [entry_at hes j] at he
    cases hxj : xs[j]? with
    | none =>
      rw [hxj] at he
      exact nomatch (show (none : Option DictEntry) = some en from he)
    | some x =>
      rw [hxj] at he
      have een : entryOfKey (tupleKind (mixKind X.prog X.w)) x = en := Option.some.inj he
      obtain ⟨e0, he0, r1, r2, r3⟩ := DX.pget rel hxj
      obtain ⟨k, hk2, en1, hv⟩ := hE.get he0
      obtain ⟨t, et, ht⟩ := id hv
      rw [en1, kk_map] at r2
      rw [et] at r3
      have r3' : x.2.2 = Value.ref t := r3
      refine ⟨(as[j], k, x.2.1, t), List.getElem?_eq_getElem hj, hk2, r2, by rw [et] at hv; exact hv, ?_⟩
      rw [hg, ← een, ← r3']
      all_goals rfl)
  have eas : qs.map (·.1) = as := by
    refine List.ext_getElem? fun j => ?_
    rw [List.getElem?_map]
    by_cases c : j < qs.length
    · rw [List.getElem?_eq_getElem c, (hq j _ (List.getElem?_eq_getElem c)).1]
      rfl
    · rw [List.getElem?_eq_none (by omega), List.getElem?_eq_none (by omega)]
      rfl
  have eks : qs.map (·.2.1) = ks := by
    refine List.ext_getElem? fun j => ?_
    rw [List.getElem?_map]
    by_cases c : j < qs.length
    · rw [List.getElem?_eq_getElem c, (hq j _ (List.getElem?_eq_getElem c)).2.1]
      rfl
    · rw [List.getElem?_eq_none (by omega), List.getElem?_eq_none (by omega)]
      rfl
  have hq' : ∀ z ∈ qs, H z.2.2.1 = some (.tup [.int z.2.1.1, .int z.2.1.2]) ∧ FrV X.K H (.ref z.2.2.2) (L z.2.1) ∧ h'.get? z.1 = some { cls := .type "tuple", data := .seq #[Value.ref z.2.2.1, Value.ref z.2.2.2] } := fun z hz => by
    obtain ⟨j, hj⟩ := List.mem_iff_getElem?.mp hz
    exact (hq j z hj).2.2
  clear hq
  -- they are tracked
  have I1 : Inv X pins σ H { s with heap := h', toks := tk } := I.kept (t' := tk) hk
  obtain ⟨H2, I2, g, qt⟩ := DX.takeT (P := fun b vs => ∃ z ∈ qs, z.1 = b ∧ vs = [.ref z.2.2.1, .ref z.2.2.2]) I as H I1 nd' fun b hb => by
    rw [← eas] at hb
    obtain ⟨z, hz, rfl⟩ := List.mem_map.mp hb
    have hbl : s.heap.objs.size ≤ z.1 := Nat.le_of_lt (hG.above z.1 (by rw [← eas]; exact List.mem_map.mpr ⟨z, hz, rfl⟩))
    exact ⟨hbl, I.hok.fresh hbl, _, ⟨z, hz, rfl, rfl⟩, fun H3 => ⟨(by rw [sizeLine_eq]; show 2 ≤ 16777216; omega), [Value.ref z.2.2.1, Value.ref z.2.2.2], .cons rfl (.cons rfl .nil), ⟨_, (hq' z hz).2.2, rfl, 0, rfl⟩⟩⟩
  have nq : ∀ y ∈ qs, ∀ z ∈ qs, y.1 = z.1 → y = z := fun y hy z hz e => by
    obtain ⟨i, hi⟩ := List.mem_iff_getElem?.mp hy
    obtain ⟨j, hj⟩ := List.mem_iff_getElem?.mp hz
    have a1 : as[i]? = some y.1 := by rw [← eas, List.getElem?_map, hi]; rfl
    have a2 : as[j]? = some z.1 := by rw [← eas, List.getElem?_map, hj]; rfl
    have eij : i = j := (List.getElem?_inj (List.getElem?_eq_some_iff.mp a1).1 nd').mp (a1.trans (by rw [a2, e]))
    rw [eij, hj] at hi
    exact (Option.some.inj hi).symm
  have hEnt : ∀ z ∈ qs, EntAt X.K H2 L z := fun z hz => by
    obtain ⟨vs, ⟨y, hy, e, ev⟩, h2⟩ := qt z.1 (by rw [← eas]; exact List.mem_map.mpr ⟨z, hz, rfl⟩)
    rw [nq y hy z hz e] at ev
    rw [ev] at h2
    exact ⟨h2, g _ _ (hq' z hz).1, (hq' z hz).2.1.keep (keeps g)⟩
  have lq : (qs.map fun z => V.ref z.1).length ≤ sizeLine := by rw [List.length_map]; omega
  have hvs : as.map Value.ref = qs.map fun z => Value.ref z.1 := by rw [← eas, List.map_map]; rfl
  have rv : Vals (qs.map fun z => V.ref z.1) (as.map Value.ref) := by
    rw [hvs]
    exact vals_maps (fun z : Ent => V.ref z.1) (fun z => Value.ref z.1) qs fun _ _ => rfl
  have hAll : All2 (fun x d => Dp X.K H2 x (ND.py d)) (qs.map fun z => V.ref z.1) (qs.map (entN L)) := by
    have gen : ∀ zs : List Ent, (∀ z ∈ zs, EntAt X.K H2 L z) → All2 (fun x d => Dp X.K H2 x (ND.py d)) (zs.map fun z => V.ref z.1) (zs.map (entN L)) := by
      intro zs
      induction zs with
      | nil => exact fun _ => trivial
      | cons z zs ih => exact fun h => ⟨(h z List.mem_cons_self).dp, ih fun y hy => h y (List.mem_cons_of_mem _ hy)⟩
    exact gen qs hEnt
  have hR := reads2 I2 rv hAll
  have hz : (as.map Value.ref).length ≤ sizeLine := by rw [List.length_map]; omega
  have hoL : (h'.push (seqObj "list" (as.map Value.ref).toArray 0)).get? h'.objs.size = some (seqObj "list" (as.map Value.ref).toArray 0) := Heap.get?_push_size _ rfl
  have keep : ∀ b o, h'.get? b = some o → b ≠ h'.objs.size ∧ (h'.push (seqObj "list" (as.map Value.ref).toArray 0)).get? b = some o := fun b o e => ⟨Nat.ne_of_lt (Heap.lt_size e), Heap.get?_push_of_some _ e⟩
  generalize h'.push (seqObj "list" (as.map Value.ref).toArray 0) = h2 at hoL keep ⊢
  refine SrtR.list_sort_ordR (swo_dat (datOf h')) hoL hz (fun h2' => ?_) fun out hs hb => ⟨_, rfl, ?_⟩
  · have kt : ∀ c o, h'.get? c = some o → o.cls = .type "tuple" → h2.get? c = some o := fun c o e _ => (keep c o e).2
    refine nd_sortable (s := { s with heap := h2, toks := tk }) (ds := qs.map (entN L)) (by omega) (hR.mono fun v d ⟨as, rd⟩ => ⟨as, reads_keep kt d v as rd⟩) (entN_ok L qs) (by show X.A.units + 1 + 1 + 16 < cLine; omega) (fun o e => ?_) (datOf h') (fun v hv d as rd => ?_)
    · have e' : some o = some (seqObj "list" (as.map Value.ref).toArray 0) := e.symm.trans hoL
      cases e'
      intro c
      exact absurd (Value.type.inj c) (by decide)
    · obtain ⟨d', _, as', rd'⟩ := hR.mem hv
      rw [datOf_eq rd']
      exact (datOf_eq (reads_keep kt d' v as' rd')).symm.trans (datOf_eq rd)
  · have hb : SrtO.Stb (fun v u => ND.ltB (datOf h' v) (datOf h' u)) out (as.map Value.ref).reverse := hb
    have pm : out.reverse.Perm (qs.map fun z => Value.ref z.1) := by
      rw [← hvs]
      exact (List.reverse_perm out).trans (hb.perm.trans (List.reverse_perm _))
    obtain ⟨zs, pz, ez⟩ := perm_up pm qs rfl
    obtain ⟨n, hn'⟩ := PyProof.Rows.sortedHeap_at (vs := as.map Value.ref) (out := out.toArray.reverse) hoL
    have k2 : ∀ b o, h'.get? b = some o → (sortedHeap h2 h'.objs.size (as.map Value.ref) out.toArray.reverse).get? b = some o := fun b o e => by
      obtain ⟨n1, n2⟩ := keep b o e
      rw [PyProof.Rows.sortedHeap_old n1 (Heap.lt_size n2)]
      exact n2
    have hn0 : H2 h'.objs.size = none := I2.hok.fresh (Nat.le_refl _)
    have hn1 : H h'.objs.size = none := I1.hok.fresh (Nat.le_refl _)
    have s2 : Same H H2 := g
    have e0 : out.toArray.reverse = (zs.map fun z => Value.ref z.1).toArray := by
      rw [ez]
      simp
    show EP X pins σ Q (.ref h'.objs.size) { s with heap := sortedHeap h2 h'.objs.size (as.map Value.ref) out.toArray.reverse, toks := tk }
    refine ⟨.ref h'.objs.size, upd H2 h'.objs.size (.lst (zs.map fun z => V.ref z.1)), I2.laid (t' := tk) k2 (Nat.le_refl _) (show ObjOk X.prog X.w _ _ _ (.lst (zs.map fun z => V.ref z.1)) from ⟨?_, zs.map fun z => Value.ref z.1, n, vals_maps (fun z : Ent => V.ref z.1) (fun z => Value.ref z.1) zs fun _ _ => rfl, ?_⟩), rfl, ?_⟩
    · rw [List.length_map, pz.length_eq]
      omega
    · rw [← e0]
      exact hn'
    · have s3 := same_new hn0 (.lst (zs.map fun z => V.ref z.1))
      refine q _ _ zs (s2.trans s3) ?_ hn1 upd_same fun y hy => ?_
      · rw [← eks]
        exact pz.map _
      · obtain ⟨h1, h2, h3⟩ := hEnt y (pz.mem_iff.mp hy)
        exact ⟨s3 _ _ h1, s3 _ _ h2, h3.keep (keeps s3)⟩
theorem storedAllH_new {κ : Type} [DecidableEq κ] : ∀ (ps acc : List (κ × Addr × Value)), ((acc ++ ps).map (·.1)).Nodup → storedAllH acc ps = acc ++ ps
  | [], acc, _ => by rw [List.append_nil]; rfl
  | p :: ps, acc, h => by
    have hn : atKey acc p.1 = none := by
      cases e : atKey acc p.1 with
      | none => rfl
      | some v =>
        unfold atKey at e
        cases e2 : acc.find? fun x => decide (x.1 = p.1) with
        | none => rw [e2] at e; cases e
        | some y =>
          have m := List.mem_of_find?_eq_some e2
          have ey : y.1 = p.1 := by simpa using List.find?_some e2
          rw [List.map_append, List.nodup_append] at h
          exact absurd ey (h.2.2 _ (List.mem_map.mpr ⟨y, m, rfl⟩) _ (List.mem_map.mpr ⟨p, List.mem_cons_self, rfl⟩))
    show storedAllH (storedH acc p.1 p.2.1 p.2.2) ps = _
    rw [storedH_new hn, storedAllH_new ps _ (by rw [List.append_assoc]; exact h), List.append_assoc]
    rfl
/-- dict(a list of pairs), the keys pairs of numbers, all apart -/
def rDictP (K : PySem.W.Frag) : List V → Hp → VK → Prop := fun xs H Q => ∃ (l : Addr) (qs : List Ent) (L : IP → IP), xs = [.ref l] ∧ H l = some (.lst (qs.map fun z => V.ref z.1)) ∧ (qs.map (·.2.1)).Nodup ∧ (∀ z ∈ qs, EntAt K H L z) ∧ ∀ p es, H p = none → LD K (upd H p (.dT es)) p (qs.map (·.2.1)) L → Q (.ref p) (upd H p (.dT es))
theorem call_dictP {X : Cx} {K : PySem.W.Frag} (hc : X.calm = true) (hu : X.A.units + 40 < cLine) (e : X.K = K := by rfl) : CallR X (.type "dict") (rDictP K) := by
  subst e
  intro pins s σ H xs us Q I r q
  obtain ⟨l, qs, L, rfl, hl, hnd, hE, q⟩ := q
  obtain rfl := Vals.ref1 r
  obtain ⟨hz, its, n0, rv, ho⟩ := (show ObjOk X.prog X.w H s.heap l (.lst (qs.map fun z => V.ref z.1)) from I.hok _ _ hl)
  rw [List.length_map] at hz
  have ei : its = qs.map fun z => Value.ref z.1 := by
    have gen : ∀ (zs : List Ent) (us : List Value), Vals (zs.map fun z => V.ref z.1) us → us = zs.map fun z => Value.ref z.1 := by
      intro zs
      induction zs with
      | nil => intro us h; cases h; rfl
      | cons z zs ih =>
        intro us h
        cases h with
        | cons h1 h2 =>
          have h1' : _ = Value.ref z.1 := h1
          rw [h1', ih _ h2]
          rfl
    exact gen qs its rv
  have keyAt : ∀ z ∈ qs, (tupleKind (mixKind X.prog X.w)).is s.heap (kk z.2.1) z.2.2.1 := fun z hz => key_of I.hok (by rw [kk_map]; exact (hE z hz).2.1)
  have st := tupleKind_stays (knd := mixKind X.prog X.w)
  obtain ⟨Ts, hTs⟩ : ∃ Ts : Nat → Addr, ∀ j z, qs[j]? = some z → Ts j = z.1 := ⟨fun j => (qs[j]?.map (·.1)).getD 0, fun j z e => by simp [e]⟩
  refine call_dict_pairsH (knd := tupleKind (mixKind X.prog X.w)) (ps := qs.map fun z => (kk z.2.1, z.2.2.1, Value.ref z.2.2.2)) (PairArg.list l its.toArray Ts (qs.map fun z => (Value.ref z.2.2.1, Value.ref z.2.2.2))) (I.ok.hd hc) (by show X.A.units + 1 + 1 < cLine; omega) ⟨⟨_, n0, ho, rfl, rfl, rfl⟩, ?_, fun j k v e => ?_⟩ ⟨by rw [List.length_map, List.length_map], fun j k v e => ?_⟩ (fun h' hk x hx => ?_) (by rw [List.length_map]; exact hz) fun h' tk d' hk => ?_
  · rw [ei]; simp
  · rw [List.getElem?_map] at e
    cases ej : qs[j]? with
    | none => rw [ej] at e; cases e
    | some z =>
      rw [ej] at e
      obtain ⟨rfl, rfl⟩ := Prod.mk.inj (Option.some.inj e)
      have hz2 := hE z (List.mem_of_getElem? ej)
      refine ⟨by rw [ei, hTs j z ej]; simp [ej], .inl ?_⟩
      obtain ⟨_, its2, r2, o2, h1, h2, n2, h3⟩ := I.hok _ _ hz2.1
      obtain ⟨u1, u2, rfl, e1, e2⟩ := vals2 r2
      rw [show u1 = Value.ref z.2.2.1 from e1, show u2 = Value.ref z.2.2.2 from e2] at h3
      rw [hTs j z ej]
      exact ⟨o2, h1, h2, n2, h3⟩
  · have e : (qs.map fun z => (Value.ref z.2.2.1, Value.ref z.2.2.2))[j]? = some (k, v) := e
    rw [List.getElem?_map] at e
    cases ej : qs[j]? with
    | none => rw [ej] at e; cases e
    | some z =>
      rw [ej] at e
      obtain ⟨rfl, rfl⟩ := Prod.mk.inj (Option.some.inj e)
      exact ⟨kk z.2.1, z.2.2.1, by rw [List.getElem?_map, ej]; rfl, rfl⟩
  · obtain ⟨z, hz2, rfl⟩ := List.mem_map.mp hx
    exact st.stays (fun b o _ _ e _ => hk b o (Nat.ne_of_lt (Heap.lt_size e)) (fun m => nomatch m) e) (keyAt z hz2)
  · have hk' : ∀ b o, s.heap.get? b = some o → h'.get? b = some o := fun b o e => hk b o (fun m => nomatch m) e
    rw [storedAllH_new _ [] (by
      rw [List.nil_append, List.map_map]
      have e : (qs.map ((fun x : List L2.Key × Addr × Value => x.1) ∘ fun z => (kk z.2.1, z.2.2.1, Value.ref z.2.2.2))) = (qs.map (·.2.1)).map kk := by rw [List.map_map]; rfl
      rw [e]
      exact nodup_map_inj (fun x _ y _ e => kk_inj e) hnd), List.nil_append] at d'
    have hm : (s.heap.objs.size == sysModules) = false := beq_eq_false_iff_ne.mpr (Nat.ne_of_gt I.big)
    have hfree : H s.heap.objs.size = none := I.hok.fresh (Nat.le_refl _)
    obtain ⟨o, es, ep, g1, g2, g3, g4, _, g6⟩ := d'
    have sn := same_new hfree (.dT (qs.map fun z => (kk z.2.1, V.ref z.2.2.2)))
    refine ⟨.ref s.heap.objs.size, upd H s.heap.objs.size (.dT (qs.map fun z => (kk z.2.1, V.ref z.2.2.2))), I.laid (t' := tk) hk' (Nat.le_refl _)
      (show ObjOk X.prog X.w _ _ _ (.dT (qs.map fun z => (kk z.2.1, V.ref z.2.2.2))) from ⟨by rw [List.length_map]; exact hz, hm, _, ?_, o, es, ep, g1, g2, g3, g4, g6⟩), rfl, q _ _ hfree ⟨hnd, _, upd_same, ?_⟩⟩
    · have gen : ∀ zs : List Ent, (∀ z ∈ zs, EntAt X.K H L z) → KT (upd H s.heap.objs.size (.dT (qs.map fun z => (kk z.2.1, V.ref z.2.2.2)))) (zs.map fun z => (kk z.2.1, V.ref z.2.2.2)) (zs.map fun z => (kk z.2.1, z.2.2.1, Value.ref z.2.2.2)) := by
        intro zs
        induction zs with
        | nil => exact fun _ => .nil
        | cons z zs ih => exact fun h => .cons ⟨rfl, by rw [kk_map]; exact sn _ _ (h z List.mem_cons_self).2.1, rfl⟩ (ih fun y hy => h y (List.mem_cons_of_mem _ hy))
      exact gen qs hE
    · have gen : ∀ zs : List Ent, (∀ z ∈ zs, EntAt X.K H L z) → All2 (En X.K (upd H s.heap.objs.size (.dT (qs.map fun z => (kk z.2.1, V.ref z.2.2.2)))) L) (zs.map fun z => (kk z.2.1, V.ref z.2.2.2)) (zs.map (·.2.1)) := by
        intro zs
        induction zs with
        | nil => exact fun _ => trivial
        | cons z zs ih => exact fun h => ⟨⟨rfl, (h z List.mem_cons_self).2.2.keep (keeps sn)⟩, ih fun y hy => h y (List.mem_cons_of_mem _ hy)⟩
      exact gen qs hE
/-- the items of a dict as a value -/
theorem w_ldItems {K : PySem.W.Frag} {H : Hp} {Q : VK} {d : Addr} {ks : List IP} {L : IP → IP} (h : LD K H d ks L) (q : ∀ p, H p = none → Q (.ref p) (upd H p (L2.DX.itemsO p d))) : L2.DX.rItemsT (.ref d) [] H Q := by
  obtain ⟨n, es, h1, h2⟩ := h
  exact ⟨d, es, rfl, rfl, h1, q⟩
theorem w_ckw {r : List V → List V → Hp → VK → Prop} {t tk : TA} {σ : L2.St} {H : Hp} {Q : VK} (h : t σ H fun vs H1 => tk σ H1 fun zs H2 => r vs zs H2 Q) : tCKw r t tk σ H Q := h
end Pm
namespace Pm
open PySem PySem.Spec PyProof.Rows L2
/-- the objects at a, a + 1, .., n of them, read one by one -/
def frR {α : Type} (g : Addr → Option Obj) : Nat → Addr → (PySem.W.Frag → α) → α
  | 0, _, k => k []
  | n + 1, a, k => HandSHeadRun.frNat a fun a => match g a with
    | none => frR g n (a + 1) k
    | some o => frR g n (a + 1) fun K => k ((a, o) :: K)
theorem frR_eq {α : Type} (g : Addr → Option Obj) : ∀ (n : Nat) (a : Addr) (k : PySem.W.Frag → α), frR g n a k = k (He.frG g (List.range' a n))
  | 0, _, _ => rfl
  | n + 1, a, k => by
    unfold frR
    rw [HandSHeadRun.frNat_eq, List.range'_succ]
    show (match g a with | none => frR g n (a + 1) k | some o => frR g n (a + 1) fun K => k ((a, o) :: K)) = k (He.frG g (a :: List.range' (a + 1) n))
    cases h : g a with
    | none =>
      show frR g n (a + 1) k = _
      rw [frR_eq g n (a + 1) k]
      unfold He.frG
      rw [List.filterMap_cons, h]
      rfl
    | some o =>
      show (frR g n (a + 1) fun K => k ((a, o) :: K)) = _
      rw [frR_eq g n (a + 1) fun K => k ((a, o) :: K)]
      unfold He.frG
      rw [List.filterMap_cons, h]
      rfl
def asR (n : Nat) : List Addr := mainGlobals :: List.range' 0 n
def obsK {α : Type} (n : Nat) (F : PySem.W.Frag → α) (g : Addr → Option Obj) : α := match g mainGlobals with
  | none => frR g n 0 F
  | some o => frR g n 0 fun K => F ((mainGlobals, o) :: K)
theorem obsK_eq {α : Type} (n : Nat) (F : PySem.W.Frag → α) (g : Addr → Option Obj) : obsK n F g = F (He.frG g (asR n)) := by
  unfold obsK asR
  cases h : g mainGlobals with
  | none =>
    show frR g n 0 F = _
    rw [frR_eq]
    unfold He.frG
    rw [List.filterMap_cons, h]
    rfl
  | some o =>
    show (frR g n 0 fun K => F ((mainGlobals, o) :: K)) = _
    rw [frR_eq]
    unfold He.frG
    rw [List.filterMap_cons, h]
    rfl
/-- the Hook's facts, and Bools of one's own -/
def obsP (fa : List He.Fa) (fn : List He.FnD) (ex : PySem.W.Frag → List Bool) (K : PySem.W.Frag) : He.Al := ((He.obsE fa fn K).1 && (ex K).all id, (He.obsE fa fn K).2)
/-- what the end leans on -/
structure SaysP (fa : List He.Fa) (fn : List He.FnD) (ex : PySem.W.Frag → List Bool) (K : PySem.W.Frag) : Prop where
  e : He.SaysE fa fn K
  x : (ex K).all id = true
theorem saysP_of {fa : List He.Fa} {fn : List He.FnD} {ex : PySem.W.Frag → List Bool} {K : PySem.W.Frag} (h : obsP fa fn ex K = He.valE fn) : SaysP fa fn ex K := by
  have h1 : ((He.obsE fa fn K).1 && (ex K).all id) = true := congrArg Prod.fst h
  have h2 : (He.obsE fa fn K).2 = (He.valE fn).2 := by have z := congrArg Prod.snd h; exact z
  obtain ⟨a, b⟩ := Bool.and_eq_true_iff.mp h1
  exact ⟨Prod.ext a h2, b⟩
theorem obsP_of {fa : List He.Fa} {fn : List He.FnD} {ex : PySem.W.Frag → List Bool} {K : PySem.W.Frag} (h0 : (fn.map fun d => He.fnObs K d.at_) = fn.map He.FnD.val) (h1 : (fn.all fun d => (He.Fa.code d.at_ d.qual).ok K) = true) (h2 : (fa.all fun f => f.ok K) = true) (h3 : (ex K).all id = true) : obsP fa fn ex K = He.valE fn := by
  unfold obsP He.obsE He.valE
  rw [h0, h1, h2, h3]
  rfl
def hookP (n : Nat) (fa : List He.Fa) (fn : List He.FnD) (ex : PySem.W.Frag → List Bool) : PySem.W.Hook where
  α := He.Al
  obs := fun s => obsP fa fn ex (He.frG s.heap.get? (asR n))
  val := fun _ => He.valE fn
  says := fun _ h => ∃ K : PySem.W.Frag, K.In h ∧ SaysP fa fn ex K
  of := fun _ _ e => ⟨_, He.frG_in, saysP_of e⟩
  keeps := fun _ _ _ ⟨K, hK, c⟩ k => ⟨K, PySem.W.Frag.In.keeps hK k, c⟩
def obT (n : Nat) (fa : List He.Fa) (fn : List He.FnD) (ex : PySem.W.Frag → List Bool) (s : PySem.W.SharedT) : He.Al := obsP fa fn ex (He.frG (HandSHeadRun.getT s) (asR n))
theorem obT_eq {n : Nat} {fa : List He.Fa} {fn : List He.FnD} {ex : PySem.W.Frag → List Bool} (s : PySem.W.SharedT) : obT n fa fn ex s = (hookP n fa fn ex).obs s.abs := by
  have e : HandSHeadRun.getT s = s.abs.heap.get? := funext (HandSHeadRun.getT_eq s)
  unfold obT hookP
  rw [e]
/-- the top's end -/
noncomputable abbrev endR (r : PySem.W.OpenRow) (M : Nat) (w : World) (os : OsState) : Option PySem.W.SharedT := HandSHeadRun.endF (HandSHeadRun.stepQ (HandSHeadRun.denQ HandSHeadRun.tabQ) r.prog w) M r.prog w os
/-- one look at what stands at the end -/
def Look {α : Type} (r : PySem.W.OpenRow) (M n : Nat) (w : World) (F : PySem.W.Frag → α) (v : α) : Prop := ∀ os : OsState, (endR r M w os).map (fun s => obsK n F (HandSHeadRun.getT s)) = some v
theorem Look.at_ {α : Type} {r : PySem.W.OpenRow} {M n : Nat} {w : World} {F : PySem.W.Frag → α} {v : α} (h : Look r M n w F v) {os : OsState} {s : PySem.W.SharedT} (e : endR r M w os = some s) : F (He.frG (HandSHeadRun.getT s) (asR n)) = v := by
  have z := h os
  rw [e] at z
  have z2 : obsK n F (HandSHeadRun.getT s) = v := Option.some.inj z
  rw [obsK_eq] at z2
  exact z2
theorem run_of {r : PySem.W.OpenRow} {q : Program} {fa : List He.Fa} {fn : List He.FnD} {ex : PySem.W.Frag → List Bool} {M n : Nat} {loose : List Str} {w : World}
    (A : ∀ os : OsState, (endR r M w os).map (fun s => (HandSHeadRun.looksF r.prog (PySem.W.boot_heap w.params) s.abs, HandSHeadRun.seenQ q loose (importedModules r.prog.main.body) (fun s => PySem.W.xlAt q [] s && PySem.W.recOk r.toRowW.records s) s.abs)) = some (true, PySem.W.openGood q loose))
    (B : ∀ os s, endR r M w os = some s → obsP fa fn ex (He.frG (HandSHeadRun.getT s) (asR n)) = He.valE fn) : HandSHeadRun.RunEq r q (hookP n fa fn ex) (obT n fa fn ex) M loose w := by
  intro os
  have a := A os
  cases e : endR r M w os with
  | none =>
    rw [e] at a
    cases a
  | some s =>
    rw [e] at a
    have a2 := Option.some.inj a
    have a3 := congrArg Prod.fst a2
    have a4 := congrArg Prod.snd a2
    simp only at a3 a4
    show (endR r M w os).map _ = _
    rw [e]
    show some (_, _, obT n fa fn ex s) = some (true, _, He.valE fn)
    rw [a3, a4]
    unfold obT
    rw [B os s e]
section
variable {fa : List He.Fa} {fn : List He.FnD} {ex : PySem.W.Frag → List Bool} {K : PySem.W.Frag}
theorem SaysP.b (c : SaysP fa fn ex K) (i : Nat) {b : Bool} (h : (ex K)[i]? = some b) : b = true := List.all_eq_true.mp c.x b (List.mem_of_getElem? h)
theorem SaysP.d (c : SaysP fa fn ex K) (i : Nat) {p : Prop} [Decidable p] (h : (ex K)[i]? = some (decide p)) : p := of_decide_eq_true (c.b i h)
/-- a def of the top -/
theorem SaysP.def_ {D : He.FnD} (c : SaysP fa fn ex K) (i : Nat) (h : fn[i]? = some D) : ∃ oc od osl kV doc pm an cdv ct, K.lookup (He.fAd K D.at_) = some ⟨oc, od, .func (PySem.W.fnOf D.name D.qual D.params D.body D.scope .none kV doc pm an cdv ct), osl⟩ ∧ PySem.W.codeIn K cdv D.qual = true := c.e.def_ i h
end
end Pm
namespace Pm
open PySem PySem.Spec PyProof.Rows L2
/-- walk_seer over a head by facts -/
theorem walk_seerE {l : PySem.W.OpenLaw} {n k : Nat} {q : Program} {loose : List Str} {XP : (Str → Option Value) → Heap → Prop} {YP : World → Heap → Prop} {d : DefRec} {CX : CXT} {x : Str}
    (many : l.most = some n) (few : n ≤ sizeLine) (dfl : d.params.defaults = []) (imp : importsNone q = true) (room : Room k callerA)
    (F : ∀ (w : World) (mg : Str → Option Value) (fa : Addr) (h : Heap), YP w h → h.Ns mainGlobals mg → mg d.name = some (.ref fa) → ∃ (K : PySem.W.Frag) (fd : FuncData) (sp : Sp), K.In h ∧ (∀ (s : Shared) (u : Value), BindsTo s fd ⟨[u], []⟩ [(x, u)]) ∧
        (∀ (G : Hp) (a : Addr) (ms : List Int), ms.length ≤ n → SqL K G a (ms.map V.int) → sp [.ref a] G (fun v _ => v = .bl true) fun _ _ _ => False) ∧
        ∀ b : Heap, K.In b → b.Ns mainGlobals mg → b.NoSeer → FnOk l.prog w K mg b CX k fa fd [x] sp)
    (noX : ∀ (G : Hp) (s : Shared) (e : Value) (s2 : Shared), CX [] G s (fun _ _ _ => False) e s2 → False) :
    PySem.W.WalkO q loose XP YP l.row.toRowW d [] (fun f vs => PySem.call f vs) := by
  refine Att.attach_call many dfl fun w s0 s1 mg mb fa o pm cd doc a us ms G Y ho hd hcd hmg hobj hints hlen hg => ?_
  obtain ⟨K, fd, sp, hK, hb, want, hF⟩ := F w mg fa _ Y G.T.g hmg
  have hz : s1.heap.NoSeer := G.T.seer imp
  exact law_seer hK G.T.g G.T.b G.T.builtins G.T.nolimit hz hg hobj hints (Nat.le_trans hlen few) room hF hb (fun H hS => want H a ms hlen hS) fun H e s2 => noX H s1 e s2
end Pm
local macro_rules | `(tactic| walk_at "s1") => `(tactic| with_reducible refine Pm.w_rdS ?_)
local macro_rules | `(tactic| walk_at "s1") => `(tactic| with_reducible refine Pm.w_iStr ?_)
local macro_rules | `(tactic| walk_at "s1") => `(tactic| with_reducible refine Pm.w_iteN0 ?_)
local macro_rules | `(tactic| walk_at "s1") => `(tactic| with_reducible refine Pm.w_iteN1 ?_)
local macro_rules | `(tactic| walk_at "s1") => `(tactic| with_reducible refine Pm.w_iteF ?_)
local macro_rules | `(tactic| walk_at "s1") => `(tactic| with_reducible refine Pm.w_iteT ?_)
local macro_rules | `(tactic| walk_at "s1") => `(tactic| with_reducible refine Pm.w_makeX ?_)
local macro_rules | `(tactic| walk_at "s1") => `(tactic| with_reducible refine Pm.w_make ?_)
local macro_rules | `(tactic| walk_at "s1") => `(tactic| with_reducible refine Pm.w_methX ?_)
local macro_rules | `(tactic| walk_at "s1") => `(tactic| with_reducible refine Pm.w_sfld ?_)
local macro_rules | `(tactic| walk_at "s1") => `(tactic| with_reducible refine Pm.w_nes ?_)
local macro_rules | `(tactic| walk_at "s1") => `(tactic| with_reducible refine Pm.w_yes ?_)
local macro_rules | `(tactic| walk_at "s1") => `(tactic| with_reducible refine Pm.w_partK ?_)
local macro_rules | `(tactic| walk_at "s1") => `(tactic| with_reducible refine Pm.w_part ?_)
local macro_rules | `(tactic| walk_at "s1") => `(tactic| with_reducible refine Pm.w_noPart ?_)
local macro_rules | `(tactic| walk_at "s1") => `(tactic| with_reducible refine Pm.w_sl ?_)
local macro_rules | `(tactic| walk_at "s1") => `(tactic| with_reducible refine Pm.w_int1 ?_)
local macro_rules | `(tactic| walk_at "s1") => `(tactic| with_reducible refine Pm.w_dget ?_)
local macro_rules | `(tactic| walk_at "s1") => `(tactic| with_reducible refine Pm.w_dnotin ?_)
local macro_rules | `(tactic| walk_at "s1") => `(tactic| with_reducible refine Pm.w_din ?_)
local macro_rules | `(tactic| walk_at "s1") => `(tactic| with_reducible refine Pm.w_pairs0 ?_)
local macro_rules | `(tactic| walk_at "s1") => `(tactic| with_reducible refine Pm.w_pairs ?_)
local macro_rules | `(tactic| walk_at "s1") => `(tactic| ((with_reducible refine Pm.w_rg2 ?_ ?_); (refine ⟨⟨?_, ?_⟩, ?_, ?_⟩ <;> omega)))
local macro_rules | `(tactic| walk_at "s1") => `(tactic| ((with_reducible refine Pm.w_rg1 ?_ ?_); (constructor <;> omega)))
local macro_rules | `(tactic| walk_at "s1") => `(tactic| with_reducible refine Pm.w_iRng2 ?_)
local macro_rules | `(tactic| walk_at "s1") => `(tactic| with_reducible refine Pm.w_iRng1 ?_)
local macro_rules | `(tactic| walk_at "s1") => `(tactic| with_reducible refine Pm.w_iTup ?_)
local macro_rules | `(tactic| walk_at "s1") => `(tactic| with_reducible refine Pm.w_bm0 ?_)
local macro_rules | `(tactic| walk_at "s1") => `(tactic| with_reducible refine Pm.w_bm ?_)
local macro_rules | `(tactic| walk_at "s1") => `(tactic| with_reducible refine Pm.w_abs ?_)
local macro_rules | `(tactic| walk_at "s1") => `(tactic| with_reducible refine Pm.w_min ?_)
local macro_rules | `(tactic| walk_at "s1") => `(tactic| with_reducible refine Pm.w_max ?_)
local macro_rules | `(tactic| walk_at "s1") => `(tactic| with_reducible refine Pm.w_par2 ?_)
local macro_rules | `(tactic| walk_at "s1") => `(tactic| with_reducible refine Pm.w_par ?_)
local macro_rules | `(tactic| walk_at "s1") => `(tactic| with_reducible refine Pm.w_blx ?_)
local macro_rules | `(tactic| walk_at "s1") => `(tactic| with_reducible refine Pm.w_chain3 ?_)
local macro_rules | `(tactic| walk_at "s1") => `(tactic| with_reducible refine Pm.w_chain ?_)
local macro_rules | `(tactic| walk_at "s1") => `(tactic| with_reducible refine Pm.w_ifE ?_)
local macro_rules | `(tactic| walk_at "s1") => `(tactic| with_reducible refine Pm.w_notV ?_)
local macro_rules | `(tactic| walk_at "s1") => `(tactic| with_reducible refine Pm.w_orV ?_)
local macro_rules | `(tactic| walk_at "s1") => `(tactic| with_reducible refine Pm.w_andV ?_)
local macro_rules | `(tactic| walk_at "s1") => `(tactic| with_reducible refine Pm.w_not ?_)
local macro_rules | `(tactic| walk_at "s1") => `(tactic| with_reducible refine Pm.w_and ?_)
local macro_rules | `(tactic| walk_at "s1") => `(tactic| with_reducible refine Pm.w_bl ?_)
local macro_rules | `(tactic| walk_at "s1") => `(tactic| with_reducible refine Pm.w_lst ?_)
local macro_rules | `(tactic| walk_at "s1") => `(tactic| with_reducible refine Pm.w_callS ?_)
local macro_rules | `(tactic| walk_at "s1") => `(tactic| with_reducible refine Pm.w_eqs ?_)
local macro_rules | `(tactic| walk_at "s1") => `(tactic| with_reducible refine Pm.w_neb ?_)
local macro_rules | `(tactic| walk_at "s1") => `(tactic| with_reducible refine Pm.w_eqb ?_)
local macro_rules | `(tactic| walk_at "s1") => `(tactic| with_reducible refine Pm.w_nei ?_)
local macro_rules | `(tactic| walk_at "s1") => `(tactic| with_reducible refine Pm.w_eqi ?_)
local macro_rules | `(tactic| walk_at "s1") => `(tactic| with_reducible refine Pm.w_u ?_)
local macro_rules | `(tactic| walk_at "s1") => `(tactic| with_reducible refine Pm.w_gnil ?_)
local macro_rules | `(tactic| walk_at "s1") => `(tactic| with_reducible refine Pm.w_gsub ?_)
local macro_rules | `(tactic| walk_at "s1") => `(tactic| with_reducible refine Pm.w_cont ?_)
local macro_rules | `(tactic| walk_at "s1") => `(tactic| with_reducible refine Pm.w_brk ?_)
local macro_rules | `(tactic| walk_at "s1") => `(tactic| with_reducible refine Pm.w_retN ?_)
local macro_rules | `(tactic| walk_at "s1") => `(tactic| with_reducible refine Pm.w_or ?_)
local macro_rules | `(tactic| walk_at "s1") => `(tactic| with_reducible refine Pm.w_un ?_)
local macro_rules | `(tactic| walk_at "s1") => `(tactic| with_reducible refine Pm.w_drop ?_)
local macro_rules | `(tactic| walk_at "s1") => `(tactic| with_reducible refine Pm.w_b ?_)
local macro_rules | `(tactic| walk_at "s1") => `(tactic| with_reducible refine Pm.w_iList ?_)
local macro_rules | `(tactic| walk_at "s1") => `(tactic| with_reducible refine Pm.w_meth ?_)
local macro_rules | `(tactic| walk_at "s1") => `(tactic| with_reducible refine Pm.w_for ?_)
local macro_rules | `(tactic| walk_at "s1") => `(tactic| with_reducible refine Pm.w_dput ?_)
local macro_rules | `(tactic| walk_at "s1") => `(tactic| with_reducible refine Pm.w_fld ?_)
local macro_rules | `(tactic| walk_at "s1") => `(tactic| with_reducible refine Pm.w_cb ?_)
local macro_rules | `(tactic| walk_at "s1") => `(tactic| with_reducible refine Pm.w_lc ?_)
local macro_rules | `(tactic| walk_at "s1") => `(tactic| with_reducible refine Pm.w_gcons ?_)
local macro_rules | `(tactic| walk_at "s1") => `(tactic| with_reducible refine Pm.w_test ?_)
local macro_rules | `(tactic| walk_at "s1") => `(tactic| with_reducible refine Pm.w_tup ?_)
local macro_rules | `(tactic| walk_at "s1") => `(tactic| ((with_reducible show Pm.LcTurn _ _ _ _ _ _ _ _); refine Pm.w_turn rfl ?_))
local macro_rules | `(tactic| walk_at "s1") => `(tactic| with_reducible refine Pm.w_next ?_)
local macro_rules | `(tactic| walk_at "s1") => `(tactic| with_reducible refine Pm.w_nil ?_)
local macro_rules | `(tactic| walk_at "s1") => `(tactic| ((with_reducible refine Pm.w_i ?_ ?_); (walk_at "side")))
local macro_rules | `(tactic| walk_at "s1") => `(tactic| with_reducible refine Pm.w_i0 ?_)
local macro_rules | `(tactic| walk_at "s1") => `(tactic| with_reducible refine Pm.w_call ?_)
local macro_rules | `(tactic| walk_at "s1") => `(tactic| with_reducible refine Pm.w_ret ?_)
local macro_rules | `(tactic| walk_at "s1") => `(tactic| with_reducible refine Pm.w_gname ?_)
local macro_rules | `(tactic| walk_at "s1") => `(tactic| with_reducible refine Pm.w_if ?_)
local macro_rules | `(tactic| walk_at "s1") => `(tactic| with_reducible refine Pm.w_asg ?_)
local macro_rules | `(tactic| walk_at "s1") => `(tactic| with_reducible refine Pm.w_c ?_)
local macro_rules | `(tactic| walk_at "s1") => `(tactic| with_reducible refine Pm.w_seq ?_)
local macro_rules | `(tactic| walk_at "s1") => `(tactic| with_reducible refine Pm.w_op ?_)
local macro_rules | `(tactic| walk_at "s1") => `(tactic| with_reducible refine Pm.w_cons ?_)
local macro_rules | `(tactic| walk_at "s1") => `(tactic| ((with_reducible show L2.tVar _ _ _ _); refine Pm.w_var rfl ?_))
local macro_rules | `(tactic| walk_at "side") => `(tactic| first | (refine Pm.w_mul1 ?_; constructor <;> omega) | (refine Pm.w_mul2 ?_; constructor <;> omega) | ((with_reducible show L2.CDiv _ _); refine ⟨?_, ?_⟩ <;> omega) | ((with_reducible show L2.CPow _ _); exact ⟨by decide, by decide, by decide⟩) | (show (0:Int) < _; omega))
local macro_rules | `(tactic| walk_at "st") => `(tactic| repeat (walk_at "s1"))
namespace Pm
open PySem PySem.Spec PyProof.Rows L2
def top (i : Nat) : Stmt := PySem.Challenge.pw_postmead_k32_ratios_turned.main.body.getD i (.Pass ⟨0, 0, 0, 0⟩)
abbrev s_tie_of : Stmt := top 6
abbrev N_tie_of : List Str := ["a", "b"]
theorem sc_tie_of : FnScope N_tie_of ["a", "b"] (defScope s_tie_of) := ⟨rfl, rfl, rfl, by decide +kernel, rfl, by decide +kernel, by decide +kernel⟩
abbrev s_sides : Stmt := top 7
abbrev N_sides : List Str := ["n", "k"]
theorem sc_sides : FnScope N_sides ["n"] (defScope s_sides) := ⟨rfl, rfl, rfl, by decide +kernel, rfl, by decide +kernel, by decide +kernel⟩
abbrev s_ties : Stmt := top 8
abbrev N_ties : List Str := ["n", "cut"]
theorem sc_ties : FnScope N_ties ["n", "cut"] (defScope s_ties) := ⟨rfl, rfl, rfl, by decide +kernel, rfl, by decide +kernel, by decide +kernel⟩
abbrev s_plots : Stmt := top 9
abbrev N_plots : List Str := ["n", "cut", "tied", "tie", "found", "a", "b", "c"]
theorem sc_plots : FnScope N_plots ["n", "cut"] (defScope s_plots) := ⟨rfl, rfl, rfl, by decide +kernel, rfl, by decide +kernel, by decide +kernel⟩
abbrev s_beside : Stmt := top 10
abbrev N_beside : List Str := ["n", "cut", "a", "b", "all_ties", "found", "post"]
theorem sc_beside : FnScope N_beside ["n", "cut", "a", "b"] (defScope s_beside) := ⟨rfl, rfl, rfl, by decide +kernel, rfl, by decide +kernel, by decide +kernel⟩
abbrev s_turned : Stmt := top 11
abbrev N_turned : List Str := ["n", "cut", "a", "b", "rope", "ends", "one"]
theorem sc_turned : FnScope N_turned ["n", "cut", "a", "b"] (defScope s_turned) := ⟨rfl, rfl, rfl, by decide +kernel, rfl, by decide +kernel, by decide +kernel⟩
abbrev s_measure : Stmt := top 15
abbrev N_measure : List Str := ["one", "other"]
theorem sc_measure : FnScope N_measure ["one", "other"] (defScope s_measure) := ⟨rfl, rfl, rfl, by decide +kernel, rfl, by decide +kernel, by decide +kernel⟩
abbrev s_lowest : Stmt := top 16
abbrev N_lowest : List Str := ["top", "bottom", "by"]
theorem sc_lowest : FnScope N_lowest ["top", "bottom"] (defScope s_lowest) := ⟨rfl, rfl, rfl, by decide +kernel, rfl, by decide +kernel, by decide +kernel⟩
abbrev s_plus : Stmt := top 17
abbrev N_plus : List Str := ["one", "other"]
theorem sc_plus : FnScope N_plus ["one", "other"] (defScope s_plus) := ⟨rfl, rfl, rfl, by decide +kernel, rfl, by decide +kernel, by decide +kernel⟩
abbrev s_less : Stmt := top 18
abbrev N_less : List Str := ["one", "other"]
theorem sc_less : FnScope N_less ["one", "other"] (defScope s_less) := ⟨rfl, rfl, rfl, by decide +kernel, rfl, by decide +kernel, by decide +kernel⟩
abbrev s_times : Stmt := top 19
abbrev N_times : List Str := ["one", "other"]
theorem sc_times : FnScope N_times ["one", "other"] (defScope s_times) := ⟨rfl, rfl, rfl, by decide +kernel, rfl, by decide +kernel, by decide +kernel⟩
abbrev s_over : Stmt := top 20
abbrev N_over : List Str := ["one", "other"]
theorem sc_over : FnScope N_over ["one", "other"] (defScope s_over) := ⟨rfl, rfl, rfl, by decide +kernel, rfl, by decide +kernel, by decide +kernel⟩
abbrev s_ring_of : Stmt := top 22
abbrev N_ring_of : List Str := ["n", "cut", "a", "b", "rope", "ends", "inner", "post", "outer"]
theorem sc_ring_of : FnScope N_ring_of ["n", "cut", "a", "b"] (defScope s_ring_of) := ⟨rfl, rfl, rfl, by decide +kernel, rfl, by decide +kernel, by decide +kernel⟩
abbrev s_ratio : Stmt := top 23
abbrev N_ratio : List Str := ["n", "cut", "lengths", "a", "b", "ring", "sized", "k"]
theorem sc_ratio : FnScope N_ratio ["n", "cut", "lengths", "a", "b"] (defScope s_ratio) := ⟨rfl, rfl, rfl, by decide +kernel, rfl, by decide +kernel, by decide +kernel⟩
abbrev s_ratios : Stmt := top 24
abbrev N_ratios : List Str := ["n", "cut", "lengths", "found", "a", "b"]
theorem sc_ratios : FnScope N_ratios ["n", "cut", "lengths"] (defScope s_ratios) := ⟨rfl, rfl, rfl, by decide +kernel, rfl, by decide +kernel, by decide +kernel⟩
abbrev s_turned_ratios : Stmt := top 25
abbrev N_turned_ratios : List Str := ["n", "cut", "rates", "a", "b", "ring", "old", "found", "rope", "value", "k", "tie", "factor"]
theorem sc_turned_ratios : FnScope N_turned_ratios ["n", "cut", "rates", "a", "b"] (defScope s_turned_ratios) := ⟨rfl, rfl, rfl, by decide +kernel, rfl, by decide +kernel, by decide +kernel⟩
abbrev s_two_posts : Stmt := top 27
abbrev N_two_posts : List Str := ["n", "a", "b"]
theorem sc_two_posts : FnScope N_two_posts ["n", "a", "b"] (defScope s_two_posts) := ⟨rfl, rfl, rfl, by decide +kernel, rfl, by decide +kernel, by decide +kernel⟩
abbrev s_between : Stmt := top 29
abbrev N_between : List Str := ["lengths", "a", "b", "found"]
theorem sc_between : FnScope N_between ["lengths", "a", "b"] (defScope s_between) := ⟨rfl, rfl, rfl, by decide +kernel, rfl, by decide +kernel, by decide +kernel⟩
abbrev s_spread : Stmt := top 30
abbrev N_spread : List Str := ["one", "other"]
theorem sc_spread : FnScope N_spread ["one", "other"] (defScope s_spread) := ⟨rfl, rfl, rfl, by decide +kernel, rfl, by decide +kernel, by decide +kernel⟩
abbrev s_pair_mixed : Stmt := top 31
abbrev N_pair_mixed : List Str := ["one", "part", "other", "share"]
theorem sc_pair_mixed : FnScope N_pair_mixed ["one", "part", "other", "share"] (defScope s_pair_mixed) := ⟨rfl, rfl, rfl, by decide +kernel, rfl, by decide +kernel, by decide +kernel⟩
abbrev s_third : Stmt := top 32
abbrev N_third : List Str := ["lengths", "stood", "a", "b", "c", "whole", "part", "share"]
theorem sc_third : FnScope N_third ["lengths", "stood", "a", "b", "c"] (defScope s_third) := ⟨rfl, rfl, rfl, by decide +kernel, rfl, by decide +kernel, by decide +kernel⟩
abbrev s_stands : Stmt := top 33
abbrev N_stands : List Str := ["n", "cut", "lengths", "all_plots", "a", "b", "c", "stood", "k"]
theorem sc_stands : FnScope N_stands ["n", "cut", "lengths"] (defScope s_stands) := ⟨rfl, rfl, rfl, by decide +kernel, rfl, by decide +kernel, by decide +kernel⟩
abbrev s_measured : Stmt := top 34
abbrev N_measured : List Str := ["n", "cut", "lengths", "a", "b", "stood"]
theorem sc_measured : FnScope N_measured ["n", "cut", "lengths", "a", "b"] (defScope s_measured) := ⟨rfl, rfl, rfl, by decide +kernel, rfl, by decide +kernel, by decide +kernel⟩
abbrev s_laid : Stmt := top 35
abbrev N_laid : List Str := ["n", "cut", "lengths", "a", "b", "rope", "fresh", "one", "found", "tie", "length"]
theorem sc_laid : FnScope N_laid ["n", "cut", "lengths", "a", "b"] (defScope s_laid) := ⟨rfl, rfl, rfl, by decide +kernel, rfl, by decide +kernel, by decide +kernel⟩
abbrev s_law_flow : Stmt := top 37
abbrev N_law_flow : List Str := ["_law_script", "_law_many_here", "_law_great", "_law_row", "_law_k", "_law_cell", "_law_mixed"]
theorem sc_law_flow : FnScope N_law_flow ["_law_script", "_law_many_here"] (defScope s_law_flow) := ⟨rfl, rfl, rfl, by decide +kernel, rfl, by decide +kernel, by decide +kernel⟩
abbrev s_law_whole : Stmt := top 38
abbrev N_law_whole : List Str := ["_law_found"]
theorem sc_law_whole : FnScope N_law_whole ["_law_found"] (defScope s_law_whole) := ⟨rfl, rfl, rfl, by decide +kernel, rfl, by decide +kernel, by decide +kernel⟩
abbrev s_law_low : Stmt := top 39
abbrev N_law_low : List Str := ["_law_top", "_law_bottom", "_law_one", "_law_other"]
theorem sc_law_low : FnScope N_law_low ["_law_top", "_law_bottom"] (defScope s_law_low) := ⟨rfl, rfl, rfl, by decide +kernel, rfl, by decide +kernel, by decide +kernel⟩
abbrev s_law_add : Stmt := top 40
abbrev N_law_add : List Str := ["_law_one", "_law_other"]
theorem sc_law_add : FnScope N_law_add ["_law_one", "_law_other"] (defScope s_law_add) := ⟨rfl, rfl, rfl, by decide +kernel, rfl, by decide +kernel, by decide +kernel⟩
abbrev s_law_mul : Stmt := top 41
abbrev N_law_mul : List Str := ["_law_one", "_law_other"]
theorem sc_law_mul : FnScope N_law_mul ["_law_one", "_law_other"] (defScope s_law_mul) := ⟨rfl, rfl, rfl, by decide +kernel, rfl, by decide +kernel, by decide +kernel⟩
abbrev s_law_div : Stmt := top 42
abbrev N_law_div : List Str := ["_law_one", "_law_other"]
theorem sc_law_div : FnScope N_law_div ["_law_one", "_law_other"] (defScope s_law_div) := ⟨rfl, rfl, rfl, by decide +kernel, rfl, by decide +kernel, by decide +kernel⟩
abbrev s_law_part : Stmt := top 43
abbrev N_law_part : List Str := ["_law_found"]
theorem sc_law_part : FnScope N_law_part ["_law_found"] (defScope s_law_part) := ⟨rfl, rfl, rfl, by decide +kernel, rfl, by decide +kernel, by decide +kernel⟩
abbrev s_law_size : Stmt := top 44
abbrev N_law_size : List Str := ["_law_one"]
theorem sc_law_size : FnScope N_law_size ["_law_one"] (defScope s_law_size) := ⟨rfl, rfl, rfl, by decide +kernel, rfl, by decide +kernel, by decide +kernel⟩
abbrev s_law_many : Stmt := top 45
abbrev N_law_many : List Str := ["_law_row"]
theorem sc_law_many : FnScope N_law_many ["_law_row"] (defScope s_law_many) := ⟨rfl, rfl, rfl, by decide +kernel, rfl, by decide +kernel, by decide +kernel⟩
abbrev s_law_pair : Stmt := top 46
abbrev N_law_pair : List Str := ["_law_a", "_law_b"]
theorem sc_law_pair : FnScope N_law_pair ["_law_a", "_law_b"] (defScope s_law_pair) := ⟨rfl, rfl, rfl, by decide +kernel, rfl, by decide +kernel, by decide +kernel⟩
abbrev s_law_ears : Stmt := top 47
abbrev N_law_ears : List Str := ["_law_n", "_law_row", "_law_left", "_law_k", "_law_ears_here"]
theorem sc_law_ears : FnScope N_law_ears ["_law_n", "_law_row"] (defScope s_law_ears) := ⟨rfl, rfl, rfl, by decide +kernel, rfl, by decide +kernel, by decide +kernel⟩
abbrev s_law_ropes : Stmt := top 48
abbrev N_law_ropes : List Str := ["_law_ears_here", "_law_ear"]
theorem sc_law_ropes : FnScope N_law_ropes ["_law_ears_here"] (defScope s_law_ropes) := ⟨rfl, rfl, rfl, by decide +kernel, rfl, by decide +kernel, by decide +kernel⟩
abbrev s_law_sides : Stmt := top 49
abbrev N_law_sides : List Str := ["_law_n", "_law_k"]
theorem sc_law_sides : FnScope N_law_sides ["_law_n"] (defScope s_law_sides) := ⟨rfl, rfl, rfl, by decide +kernel, rfl, by decide +kernel, by decide +kernel⟩
abbrev s_law_ties : Stmt := top 50
abbrev N_law_ties : List Str := ["_law_n", "_law_cut"]
theorem sc_law_ties : FnScope N_law_ties ["_law_n", "_law_cut"] (defScope s_law_ties) := ⟨rfl, rfl, rfl, by decide +kernel, rfl, by decide +kernel, by decide +kernel⟩
abbrev s_law_sized : Stmt := top 51
abbrev N_law_sized : List Str := ["_law_all_ties", "_law_row", "_law_sized_here", "_law_k", "_law_at"]
theorem sc_law_sized : FnScope N_law_sized ["_law_all_ties", "_law_row"] (defScope s_law_sized) := ⟨rfl, rfl, rfl, by decide +kernel, rfl, by decide +kernel, by decide +kernel⟩
abbrev s_law_beside : Stmt := top 52
abbrev N_law_beside : List Str := ["_law_n", "_law_all_ties", "_law_a", "_law_b", "_law_found", "_law_post"]
theorem sc_law_beside : FnScope N_law_beside ["_law_n", "_law_all_ties", "_law_a", "_law_b"] (defScope s_law_beside) := ⟨rfl, rfl, rfl, by decide +kernel, rfl, by decide +kernel, by decide +kernel⟩
abbrev s_law_turned : Stmt := top 53
abbrev N_law_turned : List Str := ["_law_n", "_law_cut", "_law_rope", "_law_ends", "_law_one"]
theorem sc_law_turned : FnScope N_law_turned ["_law_n", "_law_cut", "_law_rope"] (defScope s_law_turned) := ⟨rfl, rfl, rfl, by decide +kernel, rfl, by decide +kernel, by decide +kernel⟩
abbrev s_law_tuple : Stmt := top 54
abbrev N_law_tuple : List Str := ["_law_found", "_law_many_here", "_law_one"]
theorem sc_law_tuple : FnScope N_law_tuple ["_law_found", "_law_many_here"] (defScope s_law_tuple) := ⟨rfl, rfl, rfl, by decide +kernel, rfl, by decide +kernel, by decide +kernel⟩
abbrev s_law_dict : Stmt := top 55
abbrev N_law_dict : List Str := ["_law_found", "_law_due_here", "_law_tie", "_law_length"]
theorem sc_law_dict : FnScope N_law_dict ["_law_found", "_law_due_here"] (defScope s_law_dict) := ⟨rfl, rfl, rfl, by decide +kernel, rfl, by decide +kernel, by decide +kernel⟩
abbrev s_law_ring : Stmt := top 56
abbrev N_law_ring : List Str := ["_law_n", "_law_cut", "_law_rope", "_law_ends"]
theorem sc_law_ring : FnScope N_law_ring ["_law_n", "_law_cut", "_law_rope"] (defScope s_law_ring) := ⟨rfl, rfl, rfl, by decide +kernel, rfl, by decide +kernel, by decide +kernel⟩
abbrev s_law_ratio : Stmt := top 57
abbrev N_law_ratio : List Str := ["_law_n", "_law_cut", "_law_sized_here", "_law_rope", "_law_ring_here", "_law_one", "_law_other"]
theorem sc_law_ratio : FnScope N_law_ratio ["_law_n", "_law_cut", "_law_sized_here", "_law_rope"] (defScope s_law_ratio) := ⟨rfl, rfl, rfl, by decide +kernel, rfl, by decide +kernel, by decide +kernel⟩
abbrev s_law_ratios : Stmt := top 58
abbrev N_law_ratios : List Str := ["_law_n", "_law_cut", "_law_sized_here", "_law_made", "_law_rope"]
theorem sc_law_ratios : FnScope N_law_ratios ["_law_n", "_law_cut", "_law_sized_here"] (defScope s_law_ratios) := ⟨rfl, rfl, rfl, by decide +kernel, rfl, by decide +kernel, by decide +kernel⟩
abbrev s_law_wild : Stmt := top 59
abbrev N_law_wild : List Str := ["_law_n", "_law_one"]
theorem sc_law_wild : FnScope N_law_wild ["_law_n", "_law_one"] (defScope s_law_wild) := ⟨rfl, rfl, rfl, by decide +kernel, rfl, by decide +kernel, by decide +kernel⟩
abbrev s_law_due : Stmt := top 60
abbrev N_law_due : List Str := ["_law_n", "_law_cut", "_law_rates", "_law_rope", "_law_ring_here", "_law_old", "_law_made", "_law_k", "_law_tie", "_law_factor"]
theorem sc_law_due : FnScope N_law_due ["_law_n", "_law_cut", "_law_rates", "_law_rope"] (defScope s_law_due) := ⟨rfl, rfl, rfl, by decide +kernel, rfl, by decide +kernel, by decide +kernel⟩
abbrev s_law : Stmt := top 61
abbrev N_law : List Str := ["_law_script", "_law_row", "_law_n", "_law_cut", "_law_sized_here", "_law_rates", "_law_free", "_law_k", "_law_rope", "_law_good", "_law_handed", "_law_ropes_here", "_law_found", "e", "_law_late", "_law_fresh", "_law_one", "_law_behind"]
theorem sc_law : FnScope N_law ["_law_script"] (defScope s_law) := ⟨rfl, rfl, rfl, by decide +kernel, rfl, by decide +kernel, by decide +kernel⟩
structure DefAt (K : PySem.W.Frag) (mg : Str → Option Value) (nm qn : Str) (st : Stmt) (ps : List Str) : Type where
  a : Addr
  fd : FuncData
  F : Fun K nm qn st a fd
  g : mg nm = some (.ref a)
  b : Binds K fd ps []
structure ExAt (K : PySem.W.Frag) (mg : Str → Option Value) (nm : Str) : Type where
  c : Addr
  g : mg nm = some (.ref c)
  x : PySem.W.excIn K c [.type "ValueError", .type "Exception", .type "BaseException", .type "object"] "ValueError.__new__" = true
  k : PySem.W.keepIn K (.ref c) = true
  b : PySem.W.subIn K (.ref c) (.type "BaseException") = some true
  t : PySem.W.typeIn K (.ref c) = some (.type "type")
  i : PySem.W.isClsIn K c = true
  z : PySem.W.subIn K (.ref c) (.ref c) = some true
/-- what the top has written -/
structure Tx0 (K : PySem.W.Frag) (mg : Str → Option Value) : Type where
  d_tie_of : DefAt K mg "tie_of" "tie_of" s_tie_of ["a", "b"]
  d_sides : DefAt K mg "sides" "sides" s_sides ["n"]
  d_ties : DefAt K mg "ties" "ties" s_ties ["n", "cut"]
  d_plots : DefAt K mg "plots" "plots" s_plots ["n", "cut"]
  d_beside : DefAt K mg "beside" "beside" s_beside ["n", "cut", "a", "b"]
  d_turned : DefAt K mg "turned" "turned" s_turned ["n", "cut", "a", "b"]
  d_measure : DefAt K mg "measure" "measure" s_measure ["one", "other"]
  d_lowest : DefAt K mg "lowest" "lowest" s_lowest ["top", "bottom"]
  d_plus : DefAt K mg "plus" "plus" s_plus ["one", "other"]
  d_less : DefAt K mg "less" "less" s_less ["one", "other"]
  d_times : DefAt K mg "times" "times" s_times ["one", "other"]
  d_over : DefAt K mg "over" "over" s_over ["one", "other"]
  d_ring_of : DefAt K mg "ring_of" "ring_of" s_ring_of ["n", "cut", "a", "b"]
  d_ratio : DefAt K mg "ratio" "ratio" s_ratio ["n", "cut", "lengths", "a", "b"]
  d_ratios : DefAt K mg "ratios" "ratios" s_ratios ["n", "cut", "lengths"]
  d_turned_ratios : DefAt K mg "turned_ratios" "turned_ratios" s_turned_ratios ["n", "cut", "rates", "a", "b"]
  d_two_posts : DefAt K mg "two_posts" "two_posts" s_two_posts ["n", "a", "b"]
  d_between : DefAt K mg "between" "between" s_between ["lengths", "a", "b"]
  d_spread : DefAt K mg "spread" "spread" s_spread ["one", "other"]
  d_pair_mixed : DefAt K mg "pair_mixed" "pair_mixed" s_pair_mixed ["one", "part", "other", "share"]
  d_third : DefAt K mg "third" "third" s_third ["lengths", "stood", "a", "b", "c"]
  d_stands : DefAt K mg "stands" "stands" s_stands ["n", "cut", "lengths"]
  d_measured : DefAt K mg "measured" "measured" s_measured ["n", "cut", "lengths", "a", "b"]
  d_laid : DefAt K mg "laid" "laid" s_laid ["n", "cut", "lengths", "a", "b"]
  d_law_flow : DefAt K mg "_law_flow" "_law_flow" s_law_flow ["_law_script", "_law_many_here"]
  d_law_whole : DefAt K mg "_law_whole" "_law_whole" s_law_whole ["_law_found"]
  d_law_low : DefAt K mg "_law_low" "_law_low" s_law_low ["_law_top", "_law_bottom"]
  d_law_add : DefAt K mg "_law_add" "_law_add" s_law_add ["_law_one", "_law_other"]
  d_law_mul : DefAt K mg "_law_mul" "_law_mul" s_law_mul ["_law_one", "_law_other"]
  d_law_div : DefAt K mg "_law_div" "_law_div" s_law_div ["_law_one", "_law_other"]
  d_law_part : DefAt K mg "_law_part" "_law_part" s_law_part ["_law_found"]
  d_law_size : DefAt K mg "_law_size" "_law_size" s_law_size ["_law_one"]
  d_law_many : DefAt K mg "_law_many" "_law_many" s_law_many ["_law_row"]
  d_law_pair : DefAt K mg "_law_pair" "_law_pair" s_law_pair ["_law_a", "_law_b"]
  d_law_ears : DefAt K mg "_law_ears" "_law_ears" s_law_ears ["_law_n", "_law_row"]
  d_law_ropes : DefAt K mg "_law_ropes" "_law_ropes" s_law_ropes ["_law_ears_here"]
  d_law_sides : DefAt K mg "_law_sides" "_law_sides" s_law_sides ["_law_n"]
  d_law_ties : DefAt K mg "_law_ties" "_law_ties" s_law_ties ["_law_n", "_law_cut"]
  d_law_sized : DefAt K mg "_law_sized" "_law_sized" s_law_sized ["_law_all_ties", "_law_row"]
  d_law_beside : DefAt K mg "_law_beside" "_law_beside" s_law_beside ["_law_n", "_law_all_ties", "_law_a", "_law_b"]
  d_law_turned : DefAt K mg "_law_turned" "_law_turned" s_law_turned ["_law_n", "_law_cut", "_law_rope"]
  d_law_tuple : DefAt K mg "_law_tuple" "_law_tuple" s_law_tuple ["_law_found", "_law_many_here"]
  d_law_dict : DefAt K mg "_law_dict" "_law_dict" s_law_dict ["_law_found", "_law_due_here"]
  d_law_ring : DefAt K mg "_law_ring" "_law_ring" s_law_ring ["_law_n", "_law_cut", "_law_rope"]
  d_law_ratio : DefAt K mg "_law_ratio" "_law_ratio" s_law_ratio ["_law_n", "_law_cut", "_law_sized_here", "_law_rope"]
  d_law_ratios : DefAt K mg "_law_ratios" "_law_ratios" s_law_ratios ["_law_n", "_law_cut", "_law_sized_here"]
  d_law_wild : DefAt K mg "_law_wild" "_law_wild" s_law_wild ["_law_n", "_law_one"]
  d_law_due : DefAt K mg "_law_due" "_law_due" s_law_due ["_law_n", "_law_cut", "_law_rates", "_law_rope"]
  d_law : DefAt K mg "law" "law" s_law ["_law_script"]
  m_min : mg "min" = none
  m_max : mg "max" = none
  m_sorted : mg "sorted" = none
  m_range : mg "range" = none
  m_abs : mg "abs" = none
  m_len : mg "len" = none
  m_isinstance : mg "isinstance" = none
  m_int : mg "int" = none
  m_bool : mg "bool" = none
  m_tuple : mg "tuple" = none
  m_dict : mg "dict" = none
  m_list : mg "list" = none
  e_NoRope : ExAt K mg "NoRope"
  e_NoFraction : ExAt K mg "NoFraction"
  e_NoPost : ExAt K mg "NoPost"
  e_MeadError : ExAt K mg "MeadError"
  c_ONE : Addr
  g_ONE : mg "ONE" = some (.ref c_ONE)
  r_ONE : RelV (.ref c_ONE) (.ref c_ONE)
  v_ONE : ∀ H, SqT K H c_ONE [.int 1, .int 1]
  c_NOUGHT : Addr
  g_NOUGHT : mg "NOUGHT" = some (.ref c_NOUGHT)
  r_NOUGHT : RelV (.ref c_NOUGHT) (.ref c_NOUGHT)
  v_NOUGHT : ∀ H, SqT K H c_NOUGHT [.int 0, .int 1]
  ex1_NoRope : PySem.W.findIn K (.ref e_NoRope.c) "__getattribute__" = some (some (.builtin "BaseException.__getattribute__"))
  ex2_NoRope : PySem.W.findIn K (.ref e_NoRope.c) "__getattr__" = some none
  ex3_NoRope : PySem.W.hasDictIn K e_NoRope.c = true
  ex4_NoRope : PySem.W.findIn K (.ref e_NoRope.c) "__class__" = some (some (.builtin "object.__class__"))
  ex5_NoRope : PySem.W.specialIn K (.builtin "object.__class__") "__get__" = some (some (.builtin "getset_descriptor.__get__"))
  ex6_NoRope : PySem.W.takesIn K (.builtin "object.__class__") = some true
  ex7_NoRope : PySem.W.mroIn K e_NoRope.c (.type "object") = some true
  kit_NoRope_MeadError : PySem.W.kitOne K (.ref e_NoRope.c) (.ref e_MeadError.c) = some true
  exm_NoRope_MeadError : PySem.W.exmOne K (.ref e_NoRope.c) (.ref e_MeadError.c) = some true
  kit_NoRope_NoRope : PySem.W.kitOne K (.ref e_NoRope.c) (.ref e_NoRope.c) = some true
  exm_NoRope_NoRope : PySem.W.exmOne K (.ref e_NoRope.c) (.ref e_NoRope.c) = some true
abbrev Tx0.a_tie_of {K : PySem.W.Frag} {mg : Str → Option Value} (T : Tx0 K mg) : Addr := T.d_tie_of.a
abbrev Tx0.fd_tie_of {K : PySem.W.Frag} {mg : Str → Option Value} (T : Tx0 K mg) : FuncData := T.d_tie_of.fd
theorem Tx0.F_tie_of {K : PySem.W.Frag} {mg : Str → Option Value} (T : Tx0 K mg) : Fun K "tie_of" "tie_of" s_tie_of T.a_tie_of T.fd_tie_of := T.d_tie_of.F
theorem Tx0.g_tie_of {K : PySem.W.Frag} {mg : Str → Option Value} (T : Tx0 K mg) : mg "tie_of" = some (.ref T.a_tie_of) := T.d_tie_of.g
theorem Tx0.b_tie_of {K : PySem.W.Frag} {mg : Str → Option Value} (T : Tx0 K mg) : Binds K T.fd_tie_of ["a", "b"] [] := T.d_tie_of.b
abbrev Tx0.a_sides {K : PySem.W.Frag} {mg : Str → Option Value} (T : Tx0 K mg) : Addr := T.d_sides.a
abbrev Tx0.fd_sides {K : PySem.W.Frag} {mg : Str → Option Value} (T : Tx0 K mg) : FuncData := T.d_sides.fd
theorem Tx0.F_sides {K : PySem.W.Frag} {mg : Str → Option Value} (T : Tx0 K mg) : Fun K "sides" "sides" s_sides T.a_sides T.fd_sides := T.d_sides.F
theorem Tx0.g_sides {K : PySem.W.Frag} {mg : Str → Option Value} (T : Tx0 K mg) : mg "sides" = some (.ref T.a_sides) := T.d_sides.g
theorem Tx0.b_sides {K : PySem.W.Frag} {mg : Str → Option Value} (T : Tx0 K mg) : Binds K T.fd_sides ["n"] [] := T.d_sides.b
abbrev Tx0.a_ties {K : PySem.W.Frag} {mg : Str → Option Value} (T : Tx0 K mg) : Addr := T.d_ties.a
abbrev Tx0.fd_ties {K : PySem.W.Frag} {mg : Str → Option Value} (T : Tx0 K mg) : FuncData := T.d_ties.fd
theorem Tx0.F_ties {K : PySem.W.Frag} {mg : Str → Option Value} (T : Tx0 K mg) : Fun K "ties" "ties" s_ties T.a_ties T.fd_ties := T.d_ties.F
theorem Tx0.g_ties {K : PySem.W.Frag} {mg : Str → Option Value} (T : Tx0 K mg) : mg "ties" = some (.ref T.a_ties) := T.d_ties.g
theorem Tx0.b_ties {K : PySem.W.Frag} {mg : Str → Option Value} (T : Tx0 K mg) : Binds K T.fd_ties ["n", "cut"] [] := T.d_ties.b
abbrev Tx0.a_plots {K : PySem.W.Frag} {mg : Str → Option Value} (T : Tx0 K mg) : Addr := T.d_plots.a
abbrev Tx0.fd_plots {K : PySem.W.Frag} {mg : Str → Option Value} (T : Tx0 K mg) : FuncData := T.d_plots.fd
theorem Tx0.F_plots {K : PySem.W.Frag} {mg : Str → Option Value} (T : Tx0 K mg) : Fun K "plots" "plots" s_plots T.a_plots T.fd_plots := T.d_plots.F
theorem Tx0.g_plots {K : PySem.W.Frag} {mg : Str → Option Value} (T : Tx0 K mg) : mg "plots" = some (.ref T.a_plots) := T.d_plots.g
theorem Tx0.b_plots {K : PySem.W.Frag} {mg : Str → Option Value} (T : Tx0 K mg) : Binds K T.fd_plots ["n", "cut"] [] := T.d_plots.b
abbrev Tx0.a_beside {K : PySem.W.Frag} {mg : Str → Option Value} (T : Tx0 K mg) : Addr := T.d_beside.a
abbrev Tx0.fd_beside {K : PySem.W.Frag} {mg : Str → Option Value} (T : Tx0 K mg) : FuncData := T.d_beside.fd
theorem Tx0.F_beside {K : PySem.W.Frag} {mg : Str → Option Value} (T : Tx0 K mg) : Fun K "beside" "beside" s_beside T.a_beside T.fd_beside := T.d_beside.F
theorem Tx0.g_beside {K : PySem.W.Frag} {mg : Str → Option Value} (T : Tx0 K mg) : mg "beside" = some (.ref T.a_beside) := T.d_beside.g
theorem Tx0.b_beside {K : PySem.W.Frag} {mg : Str → Option Value} (T : Tx0 K mg) : Binds K T.fd_beside ["n", "cut", "a", "b"] [] := T.d_beside.b
abbrev Tx0.a_turned {K : PySem.W.Frag} {mg : Str → Option Value} (T : Tx0 K mg) : Addr := T.d_turned.a
abbrev Tx0.fd_turned {K : PySem.W.Frag} {mg : Str → Option Value} (T : Tx0 K mg) : FuncData := T.d_turned.fd
theorem Tx0.F_turned {K : PySem.W.Frag} {mg : Str → Option Value} (T : Tx0 K mg) : Fun K "turned" "turned" s_turned T.a_turned T.fd_turned := T.d_turned.F
theorem Tx0.g_turned {K : PySem.W.Frag} {mg : Str → Option Value} (T : Tx0 K mg) : mg "turned" = some (.ref T.a_turned) := T.d_turned.g
theorem Tx0.b_turned {K : PySem.W.Frag} {mg : Str → Option Value} (T : Tx0 K mg) : Binds K T.fd_turned ["n", "cut", "a", "b"] [] := T.d_turned.b
abbrev Tx0.a_measure {K : PySem.W.Frag} {mg : Str → Option Value} (T : Tx0 K mg) : Addr := T.d_measure.a
abbrev Tx0.fd_measure {K : PySem.W.Frag} {mg : Str → Option Value} (T : Tx0 K mg) : FuncData := T.d_measure.fd
theorem Tx0.F_measure {K : PySem.W.Frag} {mg : Str → Option Value} (T : Tx0 K mg) : Fun K "measure" "measure" s_measure T.a_measure T.fd_measure := T.d_measure.F
theorem Tx0.g_measure {K : PySem.W.Frag} {mg : Str → Option Value} (T : Tx0 K mg) : mg "measure" = some (.ref T.a_measure) := T.d_measure.g
theorem Tx0.b_measure {K : PySem.W.Frag} {mg : Str → Option Value} (T : Tx0 K mg) : Binds K T.fd_measure ["one", "other"] [] := T.d_measure.b
abbrev Tx0.a_lowest {K : PySem.W.Frag} {mg : Str → Option Value} (T : Tx0 K mg) : Addr := T.d_lowest.a
abbrev Tx0.fd_lowest {K : PySem.W.Frag} {mg : Str → Option Value} (T : Tx0 K mg) : FuncData := T.d_lowest.fd
theorem Tx0.F_lowest {K : PySem.W.Frag} {mg : Str → Option Value} (T : Tx0 K mg) : Fun K "lowest" "lowest" s_lowest T.a_lowest T.fd_lowest := T.d_lowest.F
theorem Tx0.g_lowest {K : PySem.W.Frag} {mg : Str → Option Value} (T : Tx0 K mg) : mg "lowest" = some (.ref T.a_lowest) := T.d_lowest.g
theorem Tx0.b_lowest {K : PySem.W.Frag} {mg : Str → Option Value} (T : Tx0 K mg) : Binds K T.fd_lowest ["top", "bottom"] [] := T.d_lowest.b
abbrev Tx0.a_plus {K : PySem.W.Frag} {mg : Str → Option Value} (T : Tx0 K mg) : Addr := T.d_plus.a
abbrev Tx0.fd_plus {K : PySem.W.Frag} {mg : Str → Option Value} (T : Tx0 K mg) : FuncData := T.d_plus.fd
theorem Tx0.F_plus {K : PySem.W.Frag} {mg : Str → Option Value} (T : Tx0 K mg) : Fun K "plus" "plus" s_plus T.a_plus T.fd_plus := T.d_plus.F
theorem Tx0.g_plus {K : PySem.W.Frag} {mg : Str → Option Value} (T : Tx0 K mg) : mg "plus" = some (.ref T.a_plus) := T.d_plus.g
theorem Tx0.b_plus {K : PySem.W.Frag} {mg : Str → Option Value} (T : Tx0 K mg) : Binds K T.fd_plus ["one", "other"] [] := T.d_plus.b
abbrev Tx0.a_less {K : PySem.W.Frag} {mg : Str → Option Value} (T : Tx0 K mg) : Addr := T.d_less.a
abbrev Tx0.fd_less {K : PySem.W.Frag} {mg : Str → Option Value} (T : Tx0 K mg) : FuncData := T.d_less.fd
theorem Tx0.F_less {K : PySem.W.Frag} {mg : Str → Option Value} (T : Tx0 K mg) : Fun K "less" "less" s_less T.a_less T.fd_less := T.d_less.F
theorem Tx0.g_less {K : PySem.W.Frag} {mg : Str → Option Value} (T : Tx0 K mg) : mg "less" = some (.ref T.a_less) := T.d_less.g
theorem Tx0.b_less {K : PySem.W.Frag} {mg : Str → Option Value} (T : Tx0 K mg) : Binds K T.fd_less ["one", "other"] [] := T.d_less.b
abbrev Tx0.a_times {K : PySem.W.Frag} {mg : Str → Option Value} (T : Tx0 K mg) : Addr := T.d_times.a
abbrev Tx0.fd_times {K : PySem.W.Frag} {mg : Str → Option Value} (T : Tx0 K mg) : FuncData := T.d_times.fd
theorem Tx0.F_times {K : PySem.W.Frag} {mg : Str → Option Value} (T : Tx0 K mg) : Fun K "times" "times" s_times T.a_times T.fd_times := T.d_times.F
theorem Tx0.g_times {K : PySem.W.Frag} {mg : Str → Option Value} (T : Tx0 K mg) : mg "times" = some (.ref T.a_times) := T.d_times.g
theorem Tx0.b_times {K : PySem.W.Frag} {mg : Str → Option Value} (T : Tx0 K mg) : Binds K T.fd_times ["one", "other"] [] := T.d_times.b
abbrev Tx0.a_over {K : PySem.W.Frag} {mg : Str → Option Value} (T : Tx0 K mg) : Addr := T.d_over.a
abbrev Tx0.fd_over {K : PySem.W.Frag} {mg : Str → Option Value} (T : Tx0 K mg) : FuncData := T.d_over.fd
theorem Tx0.F_over {K : PySem.W.Frag} {mg : Str → Option Value} (T : Tx0 K mg) : Fun K "over" "over" s_over T.a_over T.fd_over := T.d_over.F
theorem Tx0.g_over {K : PySem.W.Frag} {mg : Str → Option Value} (T : Tx0 K mg) : mg "over" = some (.ref T.a_over) := T.d_over.g
theorem Tx0.b_over {K : PySem.W.Frag} {mg : Str → Option Value} (T : Tx0 K mg) : Binds K T.fd_over ["one", "other"] [] := T.d_over.b
abbrev Tx0.a_ring_of {K : PySem.W.Frag} {mg : Str → Option Value} (T : Tx0 K mg) : Addr := T.d_ring_of.a
abbrev Tx0.fd_ring_of {K : PySem.W.Frag} {mg : Str → Option Value} (T : Tx0 K mg) : FuncData := T.d_ring_of.fd
theorem Tx0.F_ring_of {K : PySem.W.Frag} {mg : Str → Option Value} (T : Tx0 K mg) : Fun K "ring_of" "ring_of" s_ring_of T.a_ring_of T.fd_ring_of := T.d_ring_of.F
theorem Tx0.g_ring_of {K : PySem.W.Frag} {mg : Str → Option Value} (T : Tx0 K mg) : mg "ring_of" = some (.ref T.a_ring_of) := T.d_ring_of.g
theorem Tx0.b_ring_of {K : PySem.W.Frag} {mg : Str → Option Value} (T : Tx0 K mg) : Binds K T.fd_ring_of ["n", "cut", "a", "b"] [] := T.d_ring_of.b
abbrev Tx0.a_ratio {K : PySem.W.Frag} {mg : Str → Option Value} (T : Tx0 K mg) : Addr := T.d_ratio.a
abbrev Tx0.fd_ratio {K : PySem.W.Frag} {mg : Str → Option Value} (T : Tx0 K mg) : FuncData := T.d_ratio.fd
theorem Tx0.F_ratio {K : PySem.W.Frag} {mg : Str → Option Value} (T : Tx0 K mg) : Fun K "ratio" "ratio" s_ratio T.a_ratio T.fd_ratio := T.d_ratio.F
theorem Tx0.g_ratio {K : PySem.W.Frag} {mg : Str → Option Value} (T : Tx0 K mg) : mg "ratio" = some (.ref T.a_ratio) := T.d_ratio.g
theorem Tx0.b_ratio {K : PySem.W.Frag} {mg : Str → Option Value} (T : Tx0 K mg) : Binds K T.fd_ratio ["n", "cut", "lengths", "a", "b"] [] := T.d_ratio.b
abbrev Tx0.a_ratios {K : PySem.W.Frag} {mg : Str → Option Value} (T : Tx0 K mg) : Addr := T.d_ratios.a
abbrev Tx0.fd_ratios {K : PySem.W.Frag} {mg : Str → Option Value} (T : Tx0 K mg) : FuncData := T.d_ratios.fd
theorem Tx0.F_ratios {K : PySem.W.Frag} {mg : Str → Option Value} (T : Tx0 K mg) : Fun K "ratios" "ratios" s_ratios T.a_ratios T.fd_ratios := T.d_ratios.F
theorem Tx0.g_ratios {K : PySem.W.Frag} {mg : Str → Option Value} (T : Tx0 K mg) : mg "ratios" = some (.ref T.a_ratios) := T.d_ratios.g
theorem Tx0.b_ratios {K : PySem.W.Frag} {mg : Str → Option Value} (T : Tx0 K mg) : Binds K T.fd_ratios ["n", "cut", "lengths"] [] := T.d_ratios.b
abbrev Tx0.a_turned_ratios {K : PySem.W.Frag} {mg : Str → Option Value} (T : Tx0 K mg) : Addr := T.d_turned_ratios.a
abbrev Tx0.fd_turned_ratios {K : PySem.W.Frag} {mg : Str → Option Value} (T : Tx0 K mg) : FuncData := T.d_turned_ratios.fd
theorem Tx0.F_turned_ratios {K : PySem.W.Frag} {mg : Str → Option Value} (T : Tx0 K mg) : Fun K "turned_ratios" "turned_ratios" s_turned_ratios T.a_turned_ratios T.fd_turned_ratios := T.d_turned_ratios.F
theorem Tx0.g_turned_ratios {K : PySem.W.Frag} {mg : Str → Option Value} (T : Tx0 K mg) : mg "turned_ratios" = some (.ref T.a_turned_ratios) := T.d_turned_ratios.g
theorem Tx0.b_turned_ratios {K : PySem.W.Frag} {mg : Str → Option Value} (T : Tx0 K mg) : Binds K T.fd_turned_ratios ["n", "cut", "rates", "a", "b"] [] := T.d_turned_ratios.b
abbrev Tx0.a_two_posts {K : PySem.W.Frag} {mg : Str → Option Value} (T : Tx0 K mg) : Addr := T.d_two_posts.a
abbrev Tx0.fd_two_posts {K : PySem.W.Frag} {mg : Str → Option Value} (T : Tx0 K mg) : FuncData := T.d_two_posts.fd
theorem Tx0.F_two_posts {K : PySem.W.Frag} {mg : Str → Option Value} (T : Tx0 K mg) : Fun K "two_posts" "two_posts" s_two_posts T.a_two_posts T.fd_two_posts := T.d_two_posts.F
theorem Tx0.g_two_posts {K : PySem.W.Frag} {mg : Str → Option Value} (T : Tx0 K mg) : mg "two_posts" = some (.ref T.a_two_posts) := T.d_two_posts.g
theorem Tx0.b_two_posts {K : PySem.W.Frag} {mg : Str → Option Value} (T : Tx0 K mg) : Binds K T.fd_two_posts ["n", "a", "b"] [] := T.d_two_posts.b
abbrev Tx0.a_between {K : PySem.W.Frag} {mg : Str → Option Value} (T : Tx0 K mg) : Addr := T.d_between.a
abbrev Tx0.fd_between {K : PySem.W.Frag} {mg : Str → Option Value} (T : Tx0 K mg) : FuncData := T.d_between.fd
theorem Tx0.F_between {K : PySem.W.Frag} {mg : Str → Option Value} (T : Tx0 K mg) : Fun K "between" "between" s_between T.a_between T.fd_between := T.d_between.F
theorem Tx0.g_between {K : PySem.W.Frag} {mg : Str → Option Value} (T : Tx0 K mg) : mg "between" = some (.ref T.a_between) := T.d_between.g
theorem Tx0.b_between {K : PySem.W.Frag} {mg : Str → Option Value} (T : Tx0 K mg) : Binds K T.fd_between ["lengths", "a", "b"] [] := T.d_between.b
abbrev Tx0.a_spread {K : PySem.W.Frag} {mg : Str → Option Value} (T : Tx0 K mg) : Addr := T.d_spread.a
abbrev Tx0.fd_spread {K : PySem.W.Frag} {mg : Str → Option Value} (T : Tx0 K mg) : FuncData := T.d_spread.fd
theorem Tx0.F_spread {K : PySem.W.Frag} {mg : Str → Option Value} (T : Tx0 K mg) : Fun K "spread" "spread" s_spread T.a_spread T.fd_spread := T.d_spread.F
theorem Tx0.g_spread {K : PySem.W.Frag} {mg : Str → Option Value} (T : Tx0 K mg) : mg "spread" = some (.ref T.a_spread) := T.d_spread.g
theorem Tx0.b_spread {K : PySem.W.Frag} {mg : Str → Option Value} (T : Tx0 K mg) : Binds K T.fd_spread ["one", "other"] [] := T.d_spread.b
abbrev Tx0.a_pair_mixed {K : PySem.W.Frag} {mg : Str → Option Value} (T : Tx0 K mg) : Addr := T.d_pair_mixed.a
abbrev Tx0.fd_pair_mixed {K : PySem.W.Frag} {mg : Str → Option Value} (T : Tx0 K mg) : FuncData := T.d_pair_mixed.fd
theorem Tx0.F_pair_mixed {K : PySem.W.Frag} {mg : Str → Option Value} (T : Tx0 K mg) : Fun K "pair_mixed" "pair_mixed" s_pair_mixed T.a_pair_mixed T.fd_pair_mixed := T.d_pair_mixed.F
theorem Tx0.g_pair_mixed {K : PySem.W.Frag} {mg : Str → Option Value} (T : Tx0 K mg) : mg "pair_mixed" = some (.ref T.a_pair_mixed) := T.d_pair_mixed.g
theorem Tx0.b_pair_mixed {K : PySem.W.Frag} {mg : Str → Option Value} (T : Tx0 K mg) : Binds K T.fd_pair_mixed ["one", "part", "other", "share"] [] := T.d_pair_mixed.b
abbrev Tx0.a_third {K : PySem.W.Frag} {mg : Str → Option Value} (T : Tx0 K mg) : Addr := T.d_third.a
abbrev Tx0.fd_third {K : PySem.W.Frag} {mg : Str → Option Value} (T : Tx0 K mg) : FuncData := T.d_third.fd
theorem Tx0.F_third {K : PySem.W.Frag} {mg : Str → Option Value} (T : Tx0 K mg) : Fun K "third" "third" s_third T.a_third T.fd_third := T.d_third.F
theorem Tx0.g_third {K : PySem.W.Frag} {mg : Str → Option Value} (T : Tx0 K mg) : mg "third" = some (.ref T.a_third) := T.d_third.g
theorem Tx0.b_third {K : PySem.W.Frag} {mg : Str → Option Value} (T : Tx0 K mg) : Binds K T.fd_third ["lengths", "stood", "a", "b", "c"] [] := T.d_third.b
abbrev Tx0.a_stands {K : PySem.W.Frag} {mg : Str → Option Value} (T : Tx0 K mg) : Addr := T.d_stands.a
abbrev Tx0.fd_stands {K : PySem.W.Frag} {mg : Str → Option Value} (T : Tx0 K mg) : FuncData := T.d_stands.fd
theorem Tx0.F_stands {K : PySem.W.Frag} {mg : Str → Option Value} (T : Tx0 K mg) : Fun K "stands" "stands" s_stands T.a_stands T.fd_stands := T.d_stands.F
theorem Tx0.g_stands {K : PySem.W.Frag} {mg : Str → Option Value} (T : Tx0 K mg) : mg "stands" = some (.ref T.a_stands) := T.d_stands.g
theorem Tx0.b_stands {K : PySem.W.Frag} {mg : Str → Option Value} (T : Tx0 K mg) : Binds K T.fd_stands ["n", "cut", "lengths"] [] := T.d_stands.b
abbrev Tx0.a_measured {K : PySem.W.Frag} {mg : Str → Option Value} (T : Tx0 K mg) : Addr := T.d_measured.a
abbrev Tx0.fd_measured {K : PySem.W.Frag} {mg : Str → Option Value} (T : Tx0 K mg) : FuncData := T.d_measured.fd
theorem Tx0.F_measured {K : PySem.W.Frag} {mg : Str → Option Value} (T : Tx0 K mg) : Fun K "measured" "measured" s_measured T.a_measured T.fd_measured := T.d_measured.F
theorem Tx0.g_measured {K : PySem.W.Frag} {mg : Str → Option Value} (T : Tx0 K mg) : mg "measured" = some (.ref T.a_measured) := T.d_measured.g
theorem Tx0.b_measured {K : PySem.W.Frag} {mg : Str → Option Value} (T : Tx0 K mg) : Binds K T.fd_measured ["n", "cut", "lengths", "a", "b"] [] := T.d_measured.b
abbrev Tx0.a_laid {K : PySem.W.Frag} {mg : Str → Option Value} (T : Tx0 K mg) : Addr := T.d_laid.a
abbrev Tx0.fd_laid {K : PySem.W.Frag} {mg : Str → Option Value} (T : Tx0 K mg) : FuncData := T.d_laid.fd
theorem Tx0.F_laid {K : PySem.W.Frag} {mg : Str → Option Value} (T : Tx0 K mg) : Fun K "laid" "laid" s_laid T.a_laid T.fd_laid := T.d_laid.F
theorem Tx0.g_laid {K : PySem.W.Frag} {mg : Str → Option Value} (T : Tx0 K mg) : mg "laid" = some (.ref T.a_laid) := T.d_laid.g
theorem Tx0.b_laid {K : PySem.W.Frag} {mg : Str → Option Value} (T : Tx0 K mg) : Binds K T.fd_laid ["n", "cut", "lengths", "a", "b"] [] := T.d_laid.b
abbrev Tx0.a_law_flow {K : PySem.W.Frag} {mg : Str → Option Value} (T : Tx0 K mg) : Addr := T.d_law_flow.a
abbrev Tx0.fd_law_flow {K : PySem.W.Frag} {mg : Str → Option Value} (T : Tx0 K mg) : FuncData := T.d_law_flow.fd
theorem Tx0.F_law_flow {K : PySem.W.Frag} {mg : Str → Option Value} (T : Tx0 K mg) : Fun K "_law_flow" "_law_flow" s_law_flow T.a_law_flow T.fd_law_flow := T.d_law_flow.F
theorem Tx0.g_law_flow {K : PySem.W.Frag} {mg : Str → Option Value} (T : Tx0 K mg) : mg "_law_flow" = some (.ref T.a_law_flow) := T.d_law_flow.g
theorem Tx0.b_law_flow {K : PySem.W.Frag} {mg : Str → Option Value} (T : Tx0 K mg) : Binds K T.fd_law_flow ["_law_script", "_law_many_here"] [] := T.d_law_flow.b
abbrev Tx0.a_law_whole {K : PySem.W.Frag} {mg : Str → Option Value} (T : Tx0 K mg) : Addr := T.d_law_whole.a
abbrev Tx0.fd_law_whole {K : PySem.W.Frag} {mg : Str → Option Value} (T : Tx0 K mg) : FuncData := T.d_law_whole.fd
theorem Tx0.F_law_whole {K : PySem.W.Frag} {mg : Str → Option Value} (T : Tx0 K mg) : Fun K "_law_whole" "_law_whole" s_law_whole T.a_law_whole T.fd_law_whole := T.d_law_whole.F
theorem Tx0.g_law_whole {K : PySem.W.Frag} {mg : Str → Option Value} (T : Tx0 K mg) : mg "_law_whole" = some (.ref T.a_law_whole) := T.d_law_whole.g
theorem Tx0.b_law_whole {K : PySem.W.Frag} {mg : Str → Option Value} (T : Tx0 K mg) : Binds K T.fd_law_whole ["_law_found"] [] := T.d_law_whole.b
abbrev Tx0.a_law_low {K : PySem.W.Frag} {mg : Str → Option Value} (T : Tx0 K mg) : Addr := T.d_law_low.a
abbrev Tx0.fd_law_low {K : PySem.W.Frag} {mg : Str → Option Value} (T : Tx0 K mg) : FuncData := T.d_law_low.fd
theorem Tx0.F_law_low {K : PySem.W.Frag} {mg : Str → Option Value} (T : Tx0 K mg) : Fun K "_law_low" "_law_low" s_law_low T.a_law_low T.fd_law_low := T.d_law_low.F
theorem Tx0.g_law_low {K : PySem.W.Frag} {mg : Str → Option Value} (T : Tx0 K mg) : mg "_law_low" = some (.ref T.a_law_low) := T.d_law_low.g
theorem Tx0.b_law_low {K : PySem.W.Frag} {mg : Str → Option Value} (T : Tx0 K mg) : Binds K T.fd_law_low ["_law_top", "_law_bottom"] [] := T.d_law_low.b
abbrev Tx0.a_law_add {K : PySem.W.Frag} {mg : Str → Option Value} (T : Tx0 K mg) : Addr := T.d_law_add.a
abbrev Tx0.fd_law_add {K : PySem.W.Frag} {mg : Str → Option Value} (T : Tx0 K mg) : FuncData := T.d_law_add.fd
theorem Tx0.F_law_add {K : PySem.W.Frag} {mg : Str → Option Value} (T : Tx0 K mg) : Fun K "_law_add" "_law_add" s_law_add T.a_law_add T.fd_law_add := T.d_law_add.F
theorem Tx0.g_law_add {K : PySem.W.Frag} {mg : Str → Option Value} (T : Tx0 K mg) : mg "_law_add" = some (.ref T.a_law_add) := T.d_law_add.g
theorem Tx0.b_law_add {K : PySem.W.Frag} {mg : Str → Option Value} (T : Tx0 K mg) : Binds K T.fd_law_add ["_law_one", "_law_other"] [] := T.d_law_add.b
abbrev Tx0.a_law_mul {K : PySem.W.Frag} {mg : Str → Option Value} (T : Tx0 K mg) : Addr := T.d_law_mul.a
abbrev Tx0.fd_law_mul {K : PySem.W.Frag} {mg : Str → Option Value} (T : Tx0 K mg) : FuncData := T.d_law_mul.fd
theorem Tx0.F_law_mul {K : PySem.W.Frag} {mg : Str → Option Value} (T : Tx0 K mg) : Fun K "_law_mul" "_law_mul" s_law_mul T.a_law_mul T.fd_law_mul := T.d_law_mul.F
theorem Tx0.g_law_mul {K : PySem.W.Frag} {mg : Str → Option Value} (T : Tx0 K mg) : mg "_law_mul" = some (.ref T.a_law_mul) := T.d_law_mul.g
theorem Tx0.b_law_mul {K : PySem.W.Frag} {mg : Str → Option Value} (T : Tx0 K mg) : Binds K T.fd_law_mul ["_law_one", "_law_other"] [] := T.d_law_mul.b
abbrev Tx0.a_law_div {K : PySem.W.Frag} {mg : Str → Option Value} (T : Tx0 K mg) : Addr := T.d_law_div.a
abbrev Tx0.fd_law_div {K : PySem.W.Frag} {mg : Str → Option Value} (T : Tx0 K mg) : FuncData := T.d_law_div.fd
theorem Tx0.F_law_div {K : PySem.W.Frag} {mg : Str → Option Value} (T : Tx0 K mg) : Fun K "_law_div" "_law_div" s_law_div T.a_law_div T.fd_law_div := T.d_law_div.F
theorem Tx0.g_law_div {K : PySem.W.Frag} {mg : Str → Option Value} (T : Tx0 K mg) : mg "_law_div" = some (.ref T.a_law_div) := T.d_law_div.g
theorem Tx0.b_law_div {K : PySem.W.Frag} {mg : Str → Option Value} (T : Tx0 K mg) : Binds K T.fd_law_div ["_law_one", "_law_other"] [] := T.d_law_div.b
abbrev Tx0.a_law_part {K : PySem.W.Frag} {mg : Str → Option Value} (T : Tx0 K mg) : Addr := T.d_law_part.a
abbrev Tx0.fd_law_part {K : PySem.W.Frag} {mg : Str → Option Value} (T : Tx0 K mg) : FuncData := T.d_law_part.fd
theorem Tx0.F_law_part {K : PySem.W.Frag} {mg : Str → Option Value} (T : Tx0 K mg) : Fun K "_law_part" "_law_part" s_law_part T.a_law_part T.fd_law_part := T.d_law_part.F
theorem Tx0.g_law_part {K : PySem.W.Frag} {mg : Str → Option Value} (T : Tx0 K mg) : mg "_law_part" = some (.ref T.a_law_part) := T.d_law_part.g
theorem Tx0.b_law_part {K : PySem.W.Frag} {mg : Str → Option Value} (T : Tx0 K mg) : Binds K T.fd_law_part ["_law_found"] [] := T.d_law_part.b
abbrev Tx0.a_law_size {K : PySem.W.Frag} {mg : Str → Option Value} (T : Tx0 K mg) : Addr := T.d_law_size.a
abbrev Tx0.fd_law_size {K : PySem.W.Frag} {mg : Str → Option Value} (T : Tx0 K mg) : FuncData := T.d_law_size.fd
theorem Tx0.F_law_size {K : PySem.W.Frag} {mg : Str → Option Value} (T : Tx0 K mg) : Fun K "_law_size" "_law_size" s_law_size T.a_law_size T.fd_law_size := T.d_law_size.F
theorem Tx0.g_law_size {K : PySem.W.Frag} {mg : Str → Option Value} (T : Tx0 K mg) : mg "_law_size" = some (.ref T.a_law_size) := T.d_law_size.g
theorem Tx0.b_law_size {K : PySem.W.Frag} {mg : Str → Option Value} (T : Tx0 K mg) : Binds K T.fd_law_size ["_law_one"] [] := T.d_law_size.b
abbrev Tx0.a_law_many {K : PySem.W.Frag} {mg : Str → Option Value} (T : Tx0 K mg) : Addr := T.d_law_many.a
abbrev Tx0.fd_law_many {K : PySem.W.Frag} {mg : Str → Option Value} (T : Tx0 K mg) : FuncData := T.d_law_many.fd
theorem Tx0.F_law_many {K : PySem.W.Frag} {mg : Str → Option Value} (T : Tx0 K mg) : Fun K "_law_many" "_law_many" s_law_many T.a_law_many T.fd_law_many := T.d_law_many.F
theorem Tx0.g_law_many {K : PySem.W.Frag} {mg : Str → Option Value} (T : Tx0 K mg) : mg "_law_many" = some (.ref T.a_law_many) := T.d_law_many.g
theorem Tx0.b_law_many {K : PySem.W.Frag} {mg : Str → Option Value} (T : Tx0 K mg) : Binds K T.fd_law_many ["_law_row"] [] := T.d_law_many.b
abbrev Tx0.a_law_pair {K : PySem.W.Frag} {mg : Str → Option Value} (T : Tx0 K mg) : Addr := T.d_law_pair.a
abbrev Tx0.fd_law_pair {K : PySem.W.Frag} {mg : Str → Option Value} (T : Tx0 K mg) : FuncData := T.d_law_pair.fd
theorem Tx0.F_law_pair {K : PySem.W.Frag} {mg : Str → Option Value} (T : Tx0 K mg) : Fun K "_law_pair" "_law_pair" s_law_pair T.a_law_pair T.fd_law_pair := T.d_law_pair.F
theorem Tx0.g_law_pair {K : PySem.W.Frag} {mg : Str → Option Value} (T : Tx0 K mg) : mg "_law_pair" = some (.ref T.a_law_pair) := T.d_law_pair.g
theorem Tx0.b_law_pair {K : PySem.W.Frag} {mg : Str → Option Value} (T : Tx0 K mg) : Binds K T.fd_law_pair ["_law_a", "_law_b"] [] := T.d_law_pair.b
abbrev Tx0.a_law_ears {K : PySem.W.Frag} {mg : Str → Option Value} (T : Tx0 K mg) : Addr := T.d_law_ears.a
abbrev Tx0.fd_law_ears {K : PySem.W.Frag} {mg : Str → Option Value} (T : Tx0 K mg) : FuncData := T.d_law_ears.fd
theorem Tx0.F_law_ears {K : PySem.W.Frag} {mg : Str → Option Value} (T : Tx0 K mg) : Fun K "_law_ears" "_law_ears" s_law_ears T.a_law_ears T.fd_law_ears := T.d_law_ears.F
theorem Tx0.g_law_ears {K : PySem.W.Frag} {mg : Str → Option Value} (T : Tx0 K mg) : mg "_law_ears" = some (.ref T.a_law_ears) := T.d_law_ears.g
theorem Tx0.b_law_ears {K : PySem.W.Frag} {mg : Str → Option Value} (T : Tx0 K mg) : Binds K T.fd_law_ears ["_law_n", "_law_row"] [] := T.d_law_ears.b
abbrev Tx0.a_law_ropes {K : PySem.W.Frag} {mg : Str → Option Value} (T : Tx0 K mg) : Addr := T.d_law_ropes.a
abbrev Tx0.fd_law_ropes {K : PySem.W.Frag} {mg : Str → Option Value} (T : Tx0 K mg) : FuncData := T.d_law_ropes.fd
theorem Tx0.F_law_ropes {K : PySem.W.Frag} {mg : Str → Option Value} (T : Tx0 K mg) : Fun K "_law_ropes" "_law_ropes" s_law_ropes T.a_law_ropes T.fd_law_ropes := T.d_law_ropes.F
theorem Tx0.g_law_ropes {K : PySem.W.Frag} {mg : Str → Option Value} (T : Tx0 K mg) : mg "_law_ropes" = some (.ref T.a_law_ropes) := T.d_law_ropes.g
theorem Tx0.b_law_ropes {K : PySem.W.Frag} {mg : Str → Option Value} (T : Tx0 K mg) : Binds K T.fd_law_ropes ["_law_ears_here"] [] := T.d_law_ropes.b
abbrev Tx0.a_law_sides {K : PySem.W.Frag} {mg : Str → Option Value} (T : Tx0 K mg) : Addr := T.d_law_sides.a
abbrev Tx0.fd_law_sides {K : PySem.W.Frag} {mg : Str → Option Value} (T : Tx0 K mg) : FuncData := T.d_law_sides.fd
theorem Tx0.F_law_sides {K : PySem.W.Frag} {mg : Str → Option Value} (T : Tx0 K mg) : Fun K "_law_sides" "_law_sides" s_law_sides T.a_law_sides T.fd_law_sides := T.d_law_sides.F
theorem Tx0.g_law_sides {K : PySem.W.Frag} {mg : Str → Option Value} (T : Tx0 K mg) : mg "_law_sides" = some (.ref T.a_law_sides) := T.d_law_sides.g
theorem Tx0.b_law_sides {K : PySem.W.Frag} {mg : Str → Option Value} (T : Tx0 K mg) : Binds K T.fd_law_sides ["_law_n"] [] := T.d_law_sides.b
abbrev Tx0.a_law_ties {K : PySem.W.Frag} {mg : Str → Option Value} (T : Tx0 K mg) : Addr := T.d_law_ties.a
abbrev Tx0.fd_law_ties {K : PySem.W.Frag} {mg : Str → Option Value} (T : Tx0 K mg) : FuncData := T.d_law_ties.fd
theorem Tx0.F_law_ties {K : PySem.W.Frag} {mg : Str → Option Value} (T : Tx0 K mg) : Fun K "_law_ties" "_law_ties" s_law_ties T.a_law_ties T.fd_law_ties := T.d_law_ties.F
theorem Tx0.g_law_ties {K : PySem.W.Frag} {mg : Str → Option Value} (T : Tx0 K mg) : mg "_law_ties" = some (.ref T.a_law_ties) := T.d_law_ties.g
theorem Tx0.b_law_ties {K : PySem.W.Frag} {mg : Str → Option Value} (T : Tx0 K mg) : Binds K T.fd_law_ties ["_law_n", "_law_cut"] [] := T.d_law_ties.b
abbrev Tx0.a_law_sized {K : PySem.W.Frag} {mg : Str → Option Value} (T : Tx0 K mg) : Addr := T.d_law_sized.a
abbrev Tx0.fd_law_sized {K : PySem.W.Frag} {mg : Str → Option Value} (T : Tx0 K mg) : FuncData := T.d_law_sized.fd
theorem Tx0.F_law_sized {K : PySem.W.Frag} {mg : Str → Option Value} (T : Tx0 K mg) : Fun K "_law_sized" "_law_sized" s_law_sized T.a_law_sized T.fd_law_sized := T.d_law_sized.F
theorem Tx0.g_law_sized {K : PySem.W.Frag} {mg : Str → Option Value} (T : Tx0 K mg) : mg "_law_sized" = some (.ref T.a_law_sized) := T.d_law_sized.g
theorem Tx0.b_law_sized {K : PySem.W.Frag} {mg : Str → Option Value} (T : Tx0 K mg) : Binds K T.fd_law_sized ["_law_all_ties", "_law_row"] [] := T.d_law_sized.b
abbrev Tx0.a_law_beside {K : PySem.W.Frag} {mg : Str → Option Value} (T : Tx0 K mg) : Addr := T.d_law_beside.a
abbrev Tx0.fd_law_beside {K : PySem.W.Frag} {mg : Str → Option Value} (T : Tx0 K mg) : FuncData := T.d_law_beside.fd
theorem Tx0.F_law_beside {K : PySem.W.Frag} {mg : Str → Option Value} (T : Tx0 K mg) : Fun K "_law_beside" "_law_beside" s_law_beside T.a_law_beside T.fd_law_beside := T.d_law_beside.F
theorem Tx0.g_law_beside {K : PySem.W.Frag} {mg : Str → Option Value} (T : Tx0 K mg) : mg "_law_beside" = some (.ref T.a_law_beside) := T.d_law_beside.g
theorem Tx0.b_law_beside {K : PySem.W.Frag} {mg : Str → Option Value} (T : Tx0 K mg) : Binds K T.fd_law_beside ["_law_n", "_law_all_ties", "_law_a", "_law_b"] [] := T.d_law_beside.b
abbrev Tx0.a_law_turned {K : PySem.W.Frag} {mg : Str → Option Value} (T : Tx0 K mg) : Addr := T.d_law_turned.a
abbrev Tx0.fd_law_turned {K : PySem.W.Frag} {mg : Str → Option Value} (T : Tx0 K mg) : FuncData := T.d_law_turned.fd
theorem Tx0.F_law_turned {K : PySem.W.Frag} {mg : Str → Option Value} (T : Tx0 K mg) : Fun K "_law_turned" "_law_turned" s_law_turned T.a_law_turned T.fd_law_turned := T.d_law_turned.F
theorem Tx0.g_law_turned {K : PySem.W.Frag} {mg : Str → Option Value} (T : Tx0 K mg) : mg "_law_turned" = some (.ref T.a_law_turned) := T.d_law_turned.g
theorem Tx0.b_law_turned {K : PySem.W.Frag} {mg : Str → Option Value} (T : Tx0 K mg) : Binds K T.fd_law_turned ["_law_n", "_law_cut", "_law_rope"] [] := T.d_law_turned.b
abbrev Tx0.a_law_tuple {K : PySem.W.Frag} {mg : Str → Option Value} (T : Tx0 K mg) : Addr := T.d_law_tuple.a
abbrev Tx0.fd_law_tuple {K : PySem.W.Frag} {mg : Str → Option Value} (T : Tx0 K mg) : FuncData := T.d_law_tuple.fd
theorem Tx0.F_law_tuple {K : PySem.W.Frag} {mg : Str → Option Value} (T : Tx0 K mg) : Fun K "_law_tuple" "_law_tuple" s_law_tuple T.a_law_tuple T.fd_law_tuple := T.d_law_tuple.F
theorem Tx0.g_law_tuple {K : PySem.W.Frag} {mg : Str → Option Value} (T : Tx0 K mg) : mg "_law_tuple" = some (.ref T.a_law_tuple) := T.d_law_tuple.g
theorem Tx0.b_law_tuple {K : PySem.W.Frag} {mg : Str → Option Value} (T : Tx0 K mg) : Binds K T.fd_law_tuple ["_law_found", "_law_many_here"] [] := T.d_law_tuple.b
abbrev Tx0.a_law_dict {K : PySem.W.Frag} {mg : Str → Option Value} (T : Tx0 K mg) : Addr := T.d_law_dict.a
abbrev Tx0.fd_law_dict {K : PySem.W.Frag} {mg : Str → Option Value} (T : Tx0 K mg) : FuncData := T.d_law_dict.fd
theorem Tx0.F_law_dict {K : PySem.W.Frag} {mg : Str → Option Value} (T : Tx0 K mg) : Fun K "_law_dict" "_law_dict" s_law_dict T.a_law_dict T.fd_law_dict := T.d_law_dict.F
theorem Tx0.g_law_dict {K : PySem.W.Frag} {mg : Str → Option Value} (T : Tx0 K mg) : mg "_law_dict" = some (.ref T.a_law_dict) := T.d_law_dict.g
theorem Tx0.b_law_dict {K : PySem.W.Frag} {mg : Str → Option Value} (T : Tx0 K mg) : Binds K T.fd_law_dict ["_law_found", "_law_due_here"] [] := T.d_law_dict.b
abbrev Tx0.a_law_ring {K : PySem.W.Frag} {mg : Str → Option Value} (T : Tx0 K mg) : Addr := T.d_law_ring.a
abbrev Tx0.fd_law_ring {K : PySem.W.Frag} {mg : Str → Option Value} (T : Tx0 K mg) : FuncData := T.d_law_ring.fd
theorem Tx0.F_law_ring {K : PySem.W.Frag} {mg : Str → Option Value} (T : Tx0 K mg) : Fun K "_law_ring" "_law_ring" s_law_ring T.a_law_ring T.fd_law_ring := T.d_law_ring.F
theorem Tx0.g_law_ring {K : PySem.W.Frag} {mg : Str → Option Value} (T : Tx0 K mg) : mg "_law_ring" = some (.ref T.a_law_ring) := T.d_law_ring.g
theorem Tx0.b_law_ring {K : PySem.W.Frag} {mg : Str → Option Value} (T : Tx0 K mg) : Binds K T.fd_law_ring ["_law_n", "_law_cut", "_law_rope"] [] := T.d_law_ring.b
abbrev Tx0.a_law_ratio {K : PySem.W.Frag} {mg : Str → Option Value} (T : Tx0 K mg) : Addr := T.d_law_ratio.a
abbrev Tx0.fd_law_ratio {K : PySem.W.Frag} {mg : Str → Option Value} (T : Tx0 K mg) : FuncData := T.d_law_ratio.fd
theorem Tx0.F_law_ratio {K : PySem.W.Frag} {mg : Str → Option Value} (T : Tx0 K mg) : Fun K "_law_ratio" "_law_ratio" s_law_ratio T.a_law_ratio T.fd_law_ratio := T.d_law_ratio.F
theorem Tx0.g_law_ratio {K : PySem.W.Frag} {mg : Str → Option Value} (T : Tx0 K mg) : mg "_law_ratio" = some (.ref T.a_law_ratio) := T.d_law_ratio.g
theorem Tx0.b_law_ratio {K : PySem.W.Frag} {mg : Str → Option Value} (T : Tx0 K mg) : Binds K T.fd_law_ratio ["_law_n", "_law_cut", "_law_sized_here", "_law_rope"] [] := T.d_law_ratio.b
abbrev Tx0.a_law_ratios {K : PySem.W.Frag} {mg : Str → Option Value} (T : Tx0 K mg) : Addr := T.d_law_ratios.a
abbrev Tx0.fd_law_ratios {K : PySem.W.Frag} {mg : Str → Option Value} (T : Tx0 K mg) : FuncData := T.d_law_ratios.fd
theorem Tx0.F_law_ratios {K : PySem.W.Frag} {mg : Str → Option Value} (T : Tx0 K mg) : Fun K "_law_ratios" "_law_ratios" s_law_ratios T.a_law_ratios T.fd_law_ratios := T.d_law_ratios.F
theorem Tx0.g_law_ratios {K : PySem.W.Frag} {mg : Str → Option Value} (T : Tx0 K mg) : mg "_law_ratios" = some (.ref T.a_law_ratios) := T.d_law_ratios.g
theorem Tx0.b_law_ratios {K : PySem.W.Frag} {mg : Str → Option Value} (T : Tx0 K mg) : Binds K T.fd_law_ratios ["_law_n", "_law_cut", "_law_sized_here"] [] := T.d_law_ratios.b
abbrev Tx0.a_law_wild {K : PySem.W.Frag} {mg : Str → Option Value} (T : Tx0 K mg) : Addr := T.d_law_wild.a
abbrev Tx0.fd_law_wild {K : PySem.W.Frag} {mg : Str → Option Value} (T : Tx0 K mg) : FuncData := T.d_law_wild.fd
theorem Tx0.F_law_wild {K : PySem.W.Frag} {mg : Str → Option Value} (T : Tx0 K mg) : Fun K "_law_wild" "_law_wild" s_law_wild T.a_law_wild T.fd_law_wild := T.d_law_wild.F
theorem Tx0.g_law_wild {K : PySem.W.Frag} {mg : Str → Option Value} (T : Tx0 K mg) : mg "_law_wild" = some (.ref T.a_law_wild) := T.d_law_wild.g
theorem Tx0.b_law_wild {K : PySem.W.Frag} {mg : Str → Option Value} (T : Tx0 K mg) : Binds K T.fd_law_wild ["_law_n", "_law_one"] [] := T.d_law_wild.b
abbrev Tx0.a_law_due {K : PySem.W.Frag} {mg : Str → Option Value} (T : Tx0 K mg) : Addr := T.d_law_due.a
abbrev Tx0.fd_law_due {K : PySem.W.Frag} {mg : Str → Option Value} (T : Tx0 K mg) : FuncData := T.d_law_due.fd
theorem Tx0.F_law_due {K : PySem.W.Frag} {mg : Str → Option Value} (T : Tx0 K mg) : Fun K "_law_due" "_law_due" s_law_due T.a_law_due T.fd_law_due := T.d_law_due.F
theorem Tx0.g_law_due {K : PySem.W.Frag} {mg : Str → Option Value} (T : Tx0 K mg) : mg "_law_due" = some (.ref T.a_law_due) := T.d_law_due.g
theorem Tx0.b_law_due {K : PySem.W.Frag} {mg : Str → Option Value} (T : Tx0 K mg) : Binds K T.fd_law_due ["_law_n", "_law_cut", "_law_rates", "_law_rope"] [] := T.d_law_due.b
abbrev Tx0.a_law {K : PySem.W.Frag} {mg : Str → Option Value} (T : Tx0 K mg) : Addr := T.d_law.a
abbrev Tx0.fd_law {K : PySem.W.Frag} {mg : Str → Option Value} (T : Tx0 K mg) : FuncData := T.d_law.fd
theorem Tx0.F_law {K : PySem.W.Frag} {mg : Str → Option Value} (T : Tx0 K mg) : Fun K "law" "law" s_law T.a_law T.fd_law := T.d_law.F
theorem Tx0.g_law {K : PySem.W.Frag} {mg : Str → Option Value} (T : Tx0 K mg) : mg "law" = some (.ref T.a_law) := T.d_law.g
abbrev Tx0.c_NoRope {K : PySem.W.Frag} {mg : Str → Option Value} (T : Tx0 K mg) : Addr := T.e_NoRope.c
theorem Tx0.g_NoRope {K : PySem.W.Frag} {mg : Str → Option Value} (T : Tx0 K mg) : mg "NoRope" = some (.ref T.c_NoRope) := T.e_NoRope.g
theorem Tx0.x_NoRope {K : PySem.W.Frag} {mg : Str → Option Value} (T : Tx0 K mg) : PySem.W.excIn K T.c_NoRope [.type "ValueError", .type "Exception", .type "BaseException", .type "object"] "ValueError.__new__" = true := T.e_NoRope.x
theorem Tx0.k_NoRope {K : PySem.W.Frag} {mg : Str → Option Value} (T : Tx0 K mg) : PySem.W.keepIn K (.ref T.c_NoRope) = true := T.e_NoRope.k
theorem Tx0.b_NoRope {K : PySem.W.Frag} {mg : Str → Option Value} (T : Tx0 K mg) : PySem.W.subIn K (.ref T.c_NoRope) (.type "BaseException") = some true := T.e_NoRope.b
theorem Tx0.t_NoRope {K : PySem.W.Frag} {mg : Str → Option Value} (T : Tx0 K mg) : PySem.W.typeIn K (.ref T.c_NoRope) = some (.type "type") := T.e_NoRope.t
abbrev Tx0.c_NoFraction {K : PySem.W.Frag} {mg : Str → Option Value} (T : Tx0 K mg) : Addr := T.e_NoFraction.c
theorem Tx0.g_NoFraction {K : PySem.W.Frag} {mg : Str → Option Value} (T : Tx0 K mg) : mg "NoFraction" = some (.ref T.c_NoFraction) := T.e_NoFraction.g
theorem Tx0.x_NoFraction {K : PySem.W.Frag} {mg : Str → Option Value} (T : Tx0 K mg) : PySem.W.excIn K T.c_NoFraction [.type "ValueError", .type "Exception", .type "BaseException", .type "object"] "ValueError.__new__" = true := T.e_NoFraction.x
theorem Tx0.k_NoFraction {K : PySem.W.Frag} {mg : Str → Option Value} (T : Tx0 K mg) : PySem.W.keepIn K (.ref T.c_NoFraction) = true := T.e_NoFraction.k
theorem Tx0.b_NoFraction {K : PySem.W.Frag} {mg : Str → Option Value} (T : Tx0 K mg) : PySem.W.subIn K (.ref T.c_NoFraction) (.type "BaseException") = some true := T.e_NoFraction.b
theorem Tx0.t_NoFraction {K : PySem.W.Frag} {mg : Str → Option Value} (T : Tx0 K mg) : PySem.W.typeIn K (.ref T.c_NoFraction) = some (.type "type") := T.e_NoFraction.t
abbrev Tx0.c_NoPost {K : PySem.W.Frag} {mg : Str → Option Value} (T : Tx0 K mg) : Addr := T.e_NoPost.c
theorem Tx0.g_NoPost {K : PySem.W.Frag} {mg : Str → Option Value} (T : Tx0 K mg) : mg "NoPost" = some (.ref T.c_NoPost) := T.e_NoPost.g
theorem Tx0.x_NoPost {K : PySem.W.Frag} {mg : Str → Option Value} (T : Tx0 K mg) : PySem.W.excIn K T.c_NoPost [.type "ValueError", .type "Exception", .type "BaseException", .type "object"] "ValueError.__new__" = true := T.e_NoPost.x
theorem Tx0.k_NoPost {K : PySem.W.Frag} {mg : Str → Option Value} (T : Tx0 K mg) : PySem.W.keepIn K (.ref T.c_NoPost) = true := T.e_NoPost.k
theorem Tx0.b_NoPost {K : PySem.W.Frag} {mg : Str → Option Value} (T : Tx0 K mg) : PySem.W.subIn K (.ref T.c_NoPost) (.type "BaseException") = some true := T.e_NoPost.b
theorem Tx0.t_NoPost {K : PySem.W.Frag} {mg : Str → Option Value} (T : Tx0 K mg) : PySem.W.typeIn K (.ref T.c_NoPost) = some (.type "type") := T.e_NoPost.t
abbrev Tx0.c_MeadError {K : PySem.W.Frag} {mg : Str → Option Value} (T : Tx0 K mg) : Addr := T.e_MeadError.c
theorem Tx0.g_MeadError {K : PySem.W.Frag} {mg : Str → Option Value} (T : Tx0 K mg) : mg "MeadError" = some (.ref T.c_MeadError) := T.e_MeadError.g
theorem Tx0.exc_NoRope {K : PySem.W.Frag} {mg : Str → Option Value} (T : Tx0 K mg) : ExcC K T.c_NoRope := ⟨T.ex1_NoRope, T.ex2_NoRope, T.b_NoRope, T.ex3_NoRope, T.ex4_NoRope, T.ex5_NoRope, T.ex6_NoRope, T.ex7_NoRope⟩
structure Tx (P : Program) (K : PySem.W.Frag) (mg : Str → Option Value) (base : Heap) : Type extends Tx0 K mg where
  seer : base.NoSeer
  tree : P.given.tree = none
def spFlow (K : PySem.W.Frag) : Sp := fun vs H Q _ => ∃ (a : Addr) (ns : List Int) (m : Nat), vs = [.ref a, .int m] ∧ SqL K H a (ns.map V.int) ∧ m ≤ 100000 ∧
  ∀ (row : List Int) (H' : Hp) (p : Addr), row.length = m → (∀ x ∈ row, 0 ≤ x ∧ x < 1000000) → Same H H' → H p = none → H' p = some (.lst (row.map V.int)) → Q (.ref p) H'
theorem flow_more {row : List Int} {x : Int} (h : ∀ x ∈ row, 0 ≤ x ∧ x < 1000000) (h0 : 0 ≤ x) (h1 : x < 1000000) : ∀ y ∈ row ++ [x], 0 ≤ y ∧ y < 1000000 := fun y hy => by
  rcases List.mem_append.mp hy with q | q
  · exact h y q
  · rw [List.mem_singleton.mp q]; exact ⟨h0, h1⟩
section
variable {P : Program} {w : World} {K : PySem.W.Frag} {mg : Str → Option Value} {base : Heap}
theorem ok_law_flow (T : Tx P K mg base) : FnOk P w K mg base CX0 41 T.a_law_flow T.fd_law_flow ["_law_script", "_law_many_here"] (spFlow K) := by
  refine T.F_law_flow.ok sc_law_flow (fun vs H Q E h => ?_) (fun cdv A outer s H vs Q E hr h => ?_)
  · obtain ⟨a, ns, m, rfl, _⟩ := h
    rfl
  obtain ⟨a, ns, m, rfl, hS, hm, q⟩ := h
  refine ⟨_, (pss_cons (ps_set (i := 2) sc_law_flow.nd rfl (.inl rfl) (pe_int))
      (C8.pss_cut (ps_if (PW.pt (pw_and (pt_cmpR op_gt (pe_callB (c_len (K := K)) (by rfl) T.m_len PySem.boot_len (pa_cons (pv 0) pa_nil)) (pe_int) (nomark _)) (pw_and1 (pt_cmpR op_ge (pe_callB c_abs (by rfl) T.m_abs (by decide +kernel) (pa_cons (pe_ix (ix_listK (K := K)) (pv 0) (pe_int) (fun _ _ => rfl)) pa_nil)) (pe_op op_pow (pe_int) (pe_int)) (nomark _))))) (pss_one (ps_set (i := 2) sc_law_flow.nd rfl (.inl rfl) (pe_op op_sub (pe_callB c_abs (by rfl) T.m_abs (by decide +kernel) (pa_cons (pe_ix (ix_listK (K := K)) (pv 0) (pe_int) (fun _ _ => rfl)) pa_nil)) (pe_op op_pow (pe_int) (pe_int))))) pss_nil)
      (pss_cons (ps_set (i := 3) sc_law_flow.nd rfl (.inl rfl) (pe_lst pa_nil))
      (pss_cons (ps_for PassesOwn.never rfl (pi_range1 (by rfl) T.m_range (pa_cons (pv 1) pa_nil)) (pg_name (i := 4) sc_law_flow.nd rfl (.inl rfl)) (pss_one (ps_if (pt_cmpR op_gt (pv 2) (pe_int) (nomark _)) (pss_cons (ps_expr (k_bm (K := K) (pe_bm PySem.F.plainAttrs_list PySem.F.slot_list_append PySem.F.type_list_append mt_append (pv 3) (pa_cons (pe_op op_mod (pv 2) (pe_int)) pa_nil))))
      (pss_one (ps_set (i := 2) sc_law_flow.nd rfl (.inl rfl) (pe_op op_fdiv (pv 2) (pe_int))))) (pss_cons (ps_set (i := 5) sc_law_flow.nd rfl (.inl rfl) (pe_op op_add (pv 4) (pe_int)))
      (C8.pss_cut (ps_if (pt_cmpR op_gt (pe_callB (c_len (K := K)) (by rfl) T.m_len PySem.boot_len (pa_cons (pv 0) pa_nil)) (pe_int) (nomark _)) (pss_one (ps_set (i := 5) sc_law_flow.nd rfl (.inl rfl) (pe_ix (ix_listK (K := K)) (pv 0) (pe_op op_mod (pv 4) (pe_callB (c_len (K := K)) (by rfl) T.m_len PySem.boot_len (pa_cons (pv 0) pa_nil))) (fun _ _ => rfl)))) pss_nil)
      (pss_cons (ps_set (i := 6) sc_law_flow.nd rfl (.inl rfl) (pe_op op_mod (pe_op op_add (pe_op op_add (pe_op op_mul (pv 5) (pe_int)) (pe_op op_mul (pv 4) (pe_int))) (pe_int)) (pe_int)))
      (pss_cons (ps_set (i := 6) sc_law_flow.nd rfl (.inl rfl) (pe_op op_mod (pe_op op_add (pe_op op_add (pe_op op_mul (pv 6) (pe_int)) (pe_op op_mul (pv 4) (pe_int))) (pe_callB (c_len (K := K)) (by rfl) T.m_len PySem.boot_len (pa_cons (pv 0) pa_nil))) (pe_int)))
      (pss_one (ps_expr (k_bm (K := K) (pe_bm PySem.F.plainAttrs_list PySem.F.slot_list_append PySem.F.type_list_append mt_append (pv 3) (pa_cons (pe_op op_mod (pe_op op_fdiv (pv 6) (pe_int)) (pe_int)) pa_nil))))))))))))
      (pss_one (ps_ret (pv 3))))))), ?_⟩
  walk_at "st"
  have hl : (ns.map V.int).length = ns.length := List.length_map _
  refine Pm.w_cut (fun σ' H' => ∃ g : Int, σ' = [some (.ref a), some (.int m), some (.int g), none, none, none, none] ∧ H' = H) ?_ ?_
  · walk_at "st"
    refine Pm.w_len (.inl hS) ?_
    walk_at "st"
    refine Pm.w_ite (fun c => ?_) (fun c => ?_)
    · rw [hl] at c
      walk_at "st"
      refine Pm.w_ixL hS (atI_int (by omega) (by omega)) ?_
      walk_at "st"
      refine Pm.w_ite (fun c => ?_) (fun c => ?_)
      · walk_at "st"
        refine Pm.w_ixL hS (atI_int (by omega) (by omega)) ?_
        walk_at "st"
        exact ⟨_, rfl, rfl⟩
      · walk_at "st"
        exact ⟨_, rfl, rfl⟩
    · walk_at "st"
      exact ⟨_, rfl, rfl⟩
  rintro σ H' ⟨g, rfl, rfl⟩
  walk_at "st"
  refine Pm.w_newL (fun p hp => ?_)
  walk_at "st"
  rw [Int.toNat_natCast]
  refine Pm.w_forR (fun i σ H2 => ∃ (g : Int) (row : List Int) (x4 x5 x6 : Option V), σ = [some (.ref a), some (.int m), some (.int g), some (.ref p), x4, x5, x6] ∧
    row.length = i ∧ (∀ x ∈ row, 0 ≤ x ∧ x < 1000000) ∧ H2 = upd H' p (.lst (row.map V.int))) ?_ ?_ ?_
  · exact ⟨g, [], none, none, none, rfl, rfl, fun x hx => absurd hx (List.not_mem_nil), rfl⟩
  · rintro i σ H2 hi ⟨g, row, x4, x5, x6, rfl, hrow, hb, rfl⟩
    have hS2 : SqL K (upd H' p (.lst (row.map V.int))) a (ns.map V.int) := (same_new hp _).seq hS
    have hz : (row.map V.int).length < sizeLine := by rw [List.length_map]; exact size_lt (by omega)
    have fin : ∀ x : Int, upd (upd H' p (.lst (row.map V.int))) p (.lst (row.map V.int ++ [.int x])) = upd H' p (.lst ((row ++ [x]).map V.int)) := fun x => by rw [upd_upd, List.map_append] <;> rfl
    walk_at "st"
    refine Pm.w_ite (fun c => ?_) (fun c => ?_)
    · walk_at "st"
      refine ⟨.inl ⟨rfl, _, SqL.of upd_same⟩, ?_⟩
      walk_at "st"
      refine Pm.w_append upd_same hz ?_
      walk_at "st"
      refine ⟨_, row ++ [g % 1000000], _, _, _, rfl, by rw [List.length_append, hrow] <;> rfl, flow_more hb (by omega) (by omega), fin _⟩
    · walk_at "st"
      refine Pm.w_cut (fun σ' H3 => ∃ cell : Int, σ' = [some (.ref a), some (.int m), some (.int g), some (.ref p), some (.int (0 + (i : Nat))), some (.int cell), x6] ∧ H3 = upd H' p (.lst (row.map V.int))) ?_ ?_
      · walk_at "st"
        refine Pm.w_len (.inl hS2) ?_
        walk_at "st"
        refine Pm.w_ite (fun c => ?_) (fun c => ?_)
        · rw [hl] at c
          walk_at "st"
          refine Pm.w_len (.inl hS2) ?_
          rw [hl]
          walk_at "st"
          refine Pm.w_ixL hS2 (atI_int (Int.emod_nonneg _ (by omega)) (Int.emod_lt_of_pos _ (by omega))) ?_
          walk_at "st"
          exact ⟨_, rfl, rfl⟩
        · walk_at "st"
          exact ⟨_, rfl, rfl⟩
      · rintro σ H3 ⟨cell, rfl, rfl⟩
        walk_at "st"
        refine Pm.w_len (.inl hS2) ?_
        walk_at "st"
        refine ⟨.inl ⟨rfl, _, SqL.of upd_same⟩, ?_⟩
        walk_at "st"
        refine Pm.w_append upd_same hz ?_
        walk_at "st"
        refine ⟨_, row ++ [_], _, _, _, rfl, by rw [List.length_append, hrow] <;> rfl, flow_more hb (Int.emod_nonneg _ (by decide)) (Int.emod_lt_of_pos _ (by decide)), fin _⟩
  · rintro σ H2 ⟨g, row, x4, x5, x6, rfl, hrow, hb, rfl⟩
    walk_at "st"
    exact q row _ p hrow hb (same_new hp _) hp upd_same
end
section
variable {P : Program} {w : World} {K : PySem.W.Frag} {mg : Str → Option Value} {base : Heap}
def spWhole : Sp := fun vs H Q _ => ∃ i : Int, vs = [.int i] ∧ Q (.bl true) H
theorem ok_law_whole (T : Tx P K mg base) : FnOk P w K mg base CX0 41 T.a_law_whole T.fd_law_whole ["_law_found"] spWhole := by
  refine T.F_law_whole.ok sc_law_whole (fun vs H Q E h => ?_) (fun cdv A outer s H vs Q E hr h => ?_)
  · obtain ⟨i, rfl, _⟩ := h
    rfl
  obtain ⟨i, rfl, q⟩ := h
  refine ⟨_, (pss_one (ps_ret ((pe_and (pe_callB (call_isK (K := K)) (by rfl) T.m_isinstance (by decide +kernel) (pa_cons (pv 0) (pa_cons (pe_bltn (v := .ty "int") (by rfl) T.m_int (by decide +kernel) rfl) pa_nil))) (pe_one (pe_not (pe_callB (call_isK (K := K)) (by rfl) T.m_isinstance (by decide +kernel) (pa_cons (pv 0) (pa_cons (pe_bltn (v := .ty "bool") (by rfl) T.m_bool (by decide +kernel) rfl) pa_nil))))))))), ?_⟩
  walk_at "st"
  refine Pm.w_isiInt (b := true) (by decide +kernel) ?_
  walk_at "st"
  refine Pm.w_isiInt (b := false) (by decide +kernel) ?_
  walk_at "st"
  exact q
end
/-- a new pair -/
def PrNew (H : Hp) (p : IP) (Q : VK) : Prop := ∀ (t : Addr) (H' : Hp), Same H H' → H t = none → Pr H' (.ref t) p → Q (.ref t) H'
def spPair : Sp := fun vs H Q _ => ∃ a b : Int, vs = [.int a, .int b] ∧ PrNew H (tieOf a b) Q
theorem atI_prev {ns : List Int} {k : Int} (h0 : 0 ≤ k) (h : k < (ns.length : Int)) : atI (ns.map V.int) (k - 1) = some (.int (ns.getD ((k.toNat + ns.length - 1) % ns.length) 0)) := by
  by_cases c : k = 0
  · subst c
    have e : ((0 : Int).toNat + ns.length - 1) % ns.length = ns.length - 1 := by
      rw [show (0 : Int).toNat + ns.length - 1 = ns.length - 1 by omega]
      exact Nat.mod_eq_of_lt (by omega)
    rw [e]
    unfold atI ixN
    rw [if_neg (by omega), if_pos (by rw [List.length_map]; omega)]
    show (ns.map V.int)[(0 - 1 + ((ns.map V.int).length : Int)).toNat]? = _
    rw [show (0 - 1 + ((ns.map V.int).length : Int)).toNat = ns.length - 1 by rw [List.length_map]; omega, List.getElem?_map, List.getElem?_eq_getElem (by omega), List.getD_eq_getElem?_getD, List.getElem?_eq_getElem (by omega)] <;> rfl
  · have e : (k.toNat + ns.length - 1) % ns.length = (k - 1).toNat := by
      rw [show k.toNat + ns.length - 1 = (k - 1).toNat + ns.length by omega, Nat.add_mod_right]
      exact Nat.mod_eq_of_lt (by omega)
    rw [e]
    exact atI_int (by omega) (by omega)
section
variable {P : Program} {w : World} {K : PySem.W.Frag} {mg : Str → Option Value} {base : Heap}
theorem ok_law_pair (T : Tx P K mg base) : FnOk P w K mg base CX0 41 T.a_law_pair T.fd_law_pair ["_law_a", "_law_b"] spPair := by
  refine T.F_law_pair.ok sc_law_pair (fun vs H Q E h => ?_) (fun cdv A outer s H vs Q E hr h => ?_)
  · obtain ⟨a, b, rfl, _⟩ := h
    rfl
  obtain ⟨a, b, rfl, q⟩ := h
  refine ⟨_, (pss_one (ps_ret (pe_tup (pa_cons (pe_callB (c_min rfl) (by rfl) T.m_min (by decide +kernel) (pa_cons (pv 0) (pa_cons (pv 1) pa_nil))) (pa_cons (pe_callB (c_max rfl) (by rfl) T.m_max (by decide +kernel) (pa_cons (pv 0) (pa_cons (pv 1) pa_nil))) pa_nil))))), ?_⟩
  walk_at "st"
  refine Pm.w_newT (fun t ht => ?_)
  exact q t _ (same_new ht _) ht (pr_new upd_same)
def spEars (K : PySem.W.Frag) : Sp := fun vs H Q _ => ∃ (n : Nat) (r : Addr) (row : List Int), vs = [.int n, .ref r] ∧ SqL K H r (row.map V.int) ∧ 3 ≤ n ∧ n ≤ 12 ∧ n ≤ row.length + 3 ∧
  ∀ (p : Addr) (H' : Hp) (evs : List V) (es : List Ear), Same H H' → H p = none → H' p = some (.lst evs) → All2 (Er H') evs es → Ears (posts n) es → es.length + 3 = n → Q (.ref p) H'
theorem ok_law_ears (T : Tx P K mg base) : FnOk P w K mg base CX0 41 T.a_law_ears T.fd_law_ears ["_law_n", "_law_row"] (spEars K) := by
  refine T.F_law_ears.ok sc_law_ears (fun vs H Q E h => ?_) (fun cdv A outer s H vs Q E hr h => ?_)
  · obtain ⟨n, r, row, rfl, _⟩ := h
    rfl
  obtain ⟨n, r, row, rfl, hR, n3, n12, hrow, q⟩ := h
  refine ⟨_, (pss_cons (ps_setLc (i := 2) (own := [("_law_k", 3)]) (g := gName 3) (tt := tYes) rfl sc_law_ears.nd rfl rfl (sw_true rfl rfl rfl (by decide +kernel)) (pi_range1 (by rfl) T.m_range (pa_cons (pv 0) pa_nil)) (blkOk_by (N := N_law_ears) (sc := defScope s_law_ears) (by decide +kernel)) (fun _ _ _ _ _ => (pg_name (i := 3) sc_law_ears.nd rfl (.inl rfl))) (fun _ _ _ _ _ => pts_nil) (fun _ _ _ _ _ => (pv 3)))
      (pss_cons (ps_set (i := 4) sc_law_ears.nd rfl (.inl rfl) (pe_lst pa_nil))
      (pss_cons (ps_while PassesOwn.never (pt_cmpR op_gt (pe_callB (c_len (K := K)) (by rfl) T.m_len PySem.boot_len (pa_cons (pv 2) pa_nil)) (pe_int) (nomark _)) (pss_cons (ps_set (i := 3) sc_law_ears.nd rfl (.inl rfl) (pe_op op_mod (pe_ix (ix_listK (K := K)) (pv 1) (pe_callB (c_len (K := K)) (by rfl) T.m_len PySem.boot_len (pa_cons (pv 4) pa_nil)) (fun _ _ => rfl)) (pe_callB (c_len (K := K)) (by rfl) T.m_len PySem.boot_len (pa_cons (pv 2) pa_nil))))
      (pss_cons (ps_expr (k_bm (K := K) (pe_bm PySem.F.plainAttrs_list PySem.F.slot_list_append PySem.F.type_list_append mt_append (pv 4) (pa_cons (pe_tup (pa_cons (pe_ix (ix_listK (K := K)) (pv 2) (pv 3) (fun _ _ => rfl)) (pa_cons (pe_ix (ix_listK (K := K)) (pv 2) (pe_op op_sub (pv 3) (pe_int)) (fun _ _ => rfl)) (pa_cons (pe_ix (ix_listK (K := K)) (pv 2) (pe_op op_mod (pe_op op_add (pv 3) (pe_int)) (pe_callB (c_len (K := K)) (by rfl) T.m_len PySem.boot_len (pa_cons (pv 2) pa_nil))) (fun _ _ => rfl)) pa_nil)))) pa_nil))))
      (pss_one (ps_set (i := 2) sc_law_ears.nd rfl (.inl rfl) (pe_op op_cat (pe_slice (sl_listK (K := K)) (pv 2) po_none (po_some (pv 3))) (pe_slice (sl_listK (K := K)) (pv 2) (po_some (pe_op op_add (pv 3) (pe_int))) po_none)))))))
      (pss_one (ps_ret (pv 4)))))), ?_⟩
  walk_at "st"
  rw [Int.toNat_natCast]
  refine Pm.w_lcRm (R := In) in_mono (fun i : Nat => (i : Int)) (by omega) (fun D i H1 Nx hD hi s1 put => ?_) (fun D H1 ws hD s1 hd ha => ?_)
  · walk_at "st"
    exact put _ _ (Same.refl _) (by show V.int (0 + (i : Int)) = _; rw [Int.zero_add])
  have ew := ins_map ha
  subst ew
  walk_at "st"
  refine Pm.w_newL (fun e he => ?_)
  walk_at "st"
  have nD : e ≠ D := fun z => by subst z; rw [hd] at he; cases he
  have hD2 : (upd H1 e (.lst [])) D = some (.lst ((posts n).map V.int)) := by rw [upd_ne nD.symm]; exact hd
  have sE : Same H (upd H1 e (.lst [])) := s1.trans (same_new he _)
  have hHe : H e = none := s1.free he
  refine Pm.w_while (fun m σ H2 => ∃ (l : Addr) (L : List Int) (x : Option V) (evs : List V) (es : List Ear), σ = [some (.int n), some (.ref r), some (.ref l), x, some (.ref e)] ∧ H2 l = some (.lst (L.map V.int)) ∧ H2 e = some (.lst evs) ∧ All2 (Er H2) evs es ∧
    L.length + es.length = n ∧ 3 ≤ L.length ∧ (∀ es', Ears L es' → Ears (posts n) (es ++ es')) ∧ Same H H2 ∧ l ≠ e ∧ m = L.length) n ⟨D, posts n, _, [], [], rfl, hD2, upd_same, trivial, by rw [posts_len] <;> rfl, by rw [posts_len]; exact n3, fun _ h => h, sE, nD.symm, (posts_len n).symm⟩ ?_
  rintro m σ H2 ⟨l, L, x, evs, es, rfl, hl, hE, hA, hlen, hL3, hears, s2, nle, rfl⟩
  have hlL : (L.map V.int).length = L.length := List.length_map _
  have hR2 : SqL K H2 r (row.map V.int) := s2.seq hR
  have ale := hA.length
  walk_at "st"
  refine Pm.w_lenL (SqL.of hl) ?_
  walk_at "st"
  refine Pm.w_wh (fun c => ?_) (fun c => ?_)
  · rw [hlL] at c
    walk_at "st"
    refine Pm.w_lenL (SqL.of hE) ?_
    walk_at "st"
    refine Pm.w_ixL hR2 (atI_int (by omega) (by omega)) ?_
    walk_at "st"
    refine Pm.w_lenL (SqL.of hl) ?_
    rw [hlL]
    walk_at "st"
    generalize hk : row.getD (evs.length : Int).toNat 0 % (L.length : Int) = k
    have k0 : 0 ≤ k := by rw [← hk]; exact Int.emod_nonneg _ (by omega)
    have k1 : k < (L.length : Int) := by rw [← hk]; exact Int.emod_lt_of_pos _ (by omega)
    refine ⟨.inl ⟨rfl, _, SqL.of hE⟩, ?_⟩
    walk_at "st"
    refine Pm.w_ixL (SqL.of hl) (atI_int k0 k1) ?_
    walk_at "st"
    refine Pm.w_ixL (SqL.of hl) (atI_prev k0 k1) ?_
    walk_at "st"
    refine Pm.w_lenL (SqL.of hl) ?_
    rw [hlL]
    walk_at "st"
    refine Pm.w_ixL (SqL.of hl) (atI_int (Int.emod_nonneg _ (by omega)) (Int.emod_lt_of_pos _ (by omega))) ?_
    walk_at "st"
    refine Pm.w_newT (fun t ht => ?_)
    walk_at "st"
    have ek : ((k + 1) % (L.length : Int)).toNat = (k.toNat + 1) % L.length := by
      have e1 : k + 1 = ((k.toNat + 1 : Nat) : Int) := by omega
      rw [e1, ← Int.natCast_emod, Int.toNat_natCast]
    rw [ek]
    have nte : e ≠ t := ne_of_none hE ht
    have ntl : l ≠ t := ne_of_none hl ht
    refine Pm.w_append (by rw [upd_ne nte]; exact hE) (size_lt (by omega)) ?_
    walk_at "st"
    generalize hT : (V.ref t) = tv
    have hl3 : (upd (upd H2 t (.tup [.int (L.getD k.toNat 0), .int (L.getD ((k.toNat + L.length - 1) % L.length) 0), .int (L.getD ((k.toNat + 1) % L.length) 0)])) e (.lst (evs ++ [tv]))) l = some (.lst (L.map V.int)) := by
      rw [upd_ne nle, upd_ne ntl]; exact hl
    refine Pm.w_slL (SqL.of hl3) (fun p1 hp1 => ?_)
    rw [cut_take k0 (by rw [hlL]; omega)]
    walk_at "st"
    have np1 : l ≠ p1 := ne_of_none hl3 hp1
    refine Pm.w_slL (SqL.of (by rw [upd_ne np1]; exact hl3)) (fun p2 hp2 => ?_)
    have np12 : p1 ≠ p2 := ne_of_none upd_same hp2
    rw [cut_drop (by omega) (by rw [hlL]; omega)]
    refine Pm.w_cat (by rw [upd_ne np12]; exact upd_same) upd_same (size_ok (by rw [List.length_take, List.length_drop, hlL]; omega)) (fun p3 hp3 => ?_)
    walk_at "st"
    have eL : (L.map V.int).take k.toNat ++ (L.map V.int).drop (k + 1).toNat = (L.eraseIdx k.toNat).map V.int := by
      rw [List.eraseIdx_eq_take_drop_succ, List.map_append, List.map_take, List.map_drop, show (k + 1).toNat = k.toNat + 1 by omega]
    have hkL : k.toNat < L.length := by omega
    have leL : (L.eraseIdx k.toNat).length = L.length - 1 := List.length_eraseIdx_of_lt hkL
    have kk : Keeps H2 (upd (upd H2 t (.tup [.int (L.getD k.toNat 0), .int (L.getD ((k.toNat + L.length - 1) % L.length) 0), .int (L.getD ((k.toNat + 1) % L.length) 0)])) e (.lst (evs ++ [tv]))) := (keeps (same_new ht _)).trans (keeps_lst (xs := evs) (by rw [upd_ne nte]; exact hE))
    have sF : Same (upd (upd H2 t (.tup [.int (L.getD k.toNat 0), .int (L.getD ((k.toNat + L.length - 1) % L.length) 0), .int (L.getD ((k.toNat + 1) % L.length) 0)])) e (.lst (evs ++ [tv]))) (upd (upd (upd (upd (upd H2 t (.tup [.int (L.getD k.toNat 0), .int (L.getD ((k.toNat + L.length - 1) % L.length) 0), .int (L.getD ((k.toNat + 1) % L.length) 0)])) e (.lst (evs ++ [tv]))) p1 (.lst (List.take k.toNat (List.map V.int L)))) p2 (.lst (List.drop (k + 1).toNat (List.map V.int L)))) p3 (.lst (List.take k.toNat (List.map V.int L) ++ List.drop (k + 1).toNat (List.map V.int L)))) :=
      (same_new hp1 _).trans ((same_new hp2 _).trans (same_new hp3 _))
    refine ⟨L.length - 1, by omega, p3, L.eraseIdx k.toNat, _, evs ++ [tv], es ++ [(L.getD k.toNat 0, L.getD ((k.toNat + L.length - 1) % L.length) 0, L.getD ((k.toNat + 1) % L.length) 0)], rfl, by rw [upd_same, eL], sF _ _ upd_same, ?_, ?_, by omega, fun es' h' => ?_, ?_, ?_, leL.symm⟩
    · refine (hA.mono fun _ _ r => er_mono _ _ _ _ (kk.trans (keeps sF)) r).snoc (er_mono _ _ _ _ (keeps sF) ⟨t, hT.symm, ?_⟩)
      rw [upd_ne nte.symm, upd_same]
    · rw [leL, List.length_append, List.length_singleton]; omega
    · rw [List.append_assoc]
      exact hears _ (Ears.step k.toNat (by omega) hkL h')
    · exact (same_but hHe (s2.trans (same_new ht _))).trans sF
    · exact fun z => by
        have : e ≠ p3 := ne_of_none (o := .lst (evs ++ [tv])) (((same_new hp1 _).trans (same_new hp2 _)) _ _ upd_same) hp3
        exact this z.symm
  · rw [hlL] at c
    walk_at "st"
    have h0 : Ears L [] := .done (by omega)
    have h1 := hears _ h0
    rw [List.append_nil] at h1
    exact q e H2 evs es s2 hHe hE hA h1 (by omega)
def spRopes (K : PySem.W.Frag) : Sp := fun vs H Q _ => ∃ (r : Addr) (evs : List V) (es : List Ear), vs = [.ref r] ∧ SqL K H r evs ∧ All2 (Er H) evs es ∧ es.length ≤ 1000 ∧ PLNew H (sortP (es.map ropeOf)) Q
theorem ok_law_ropes (T : Tx P K mg base) : FnOk P w K mg base CX0 42 T.a_law_ropes T.fd_law_ropes ["_law_ears_here"] (spRopes K) := by
  refine T.F_law_ropes.ok sc_law_ropes (fun vs H Q E h => ?_) (fun cdv A outer s H vs Q E hr h => ?_)
  · obtain ⟨r, evs, es, rfl, _⟩ := h
    rfl
  obtain ⟨r, evs, es, rfl, hR, hA, hn, q⟩ := h
  refine ⟨_, (pss_one (ps_ret (pe_callB (cr_sortK (K := K)) (by rfl) T.m_sorted (by decide +kernel) (pa_cons (pe_lc (own := [("_law_ear", 1)]) (g := gName 1) (tt := tYes) rfl sc_law_ropes.nd (k_il (K := K) (pi_list (pv 0))) (blkOk_by (N := N_law_ropes) (sc := defScope s_law_ropes) (by decide +kernel)) (fun _ _ _ _ _ => (pg_name (i := 1) sc_law_ropes.nd rfl (.inl rfl))) (fun _ _ _ _ _ => pts_nil) (fun _ _ _ _ _ => (pe_call (ok_law_pair T) (hr.mono (by decide)) (by rfl) T.g_law_pair T.F_law_pair.kp T.b_law_pair .nil pass0 (pa_cons (pe_ix (ix_tupK (K := K)) (pv 1) (pe_int) (fun _ _ => rfl)) (pa_cons (pe_ix (ix_tupK (K := K)) (pv 1) (pe_int) (fun _ _ => rfl)) pa_nil))))) pa_nil)))), ?_⟩
  walk_at "st"
  refine Pm.w_rdL hR ?_
  refine Pm.w_lcLf (R := Pr) pr_mono (S := Er) er_mono hR hA ropeOf (fun _ => true) (by omega) (fun D x c H1 Nx hD hc hs s1 put skip => ?_) (fun D H1 ws hD s1 hd ha => ?_)
  · obtain ⟨t, rfl, ht⟩ := hs
    walk_at "st"
    refine Pm.w_ixT (SqT.of ht) (show atI [V.int c.1, V.int c.2.1, V.int c.2.2] 1 = some (V.int c.2.1) from rfl) ?_
    walk_at "st"
    refine Pm.w_ixT (SqT.of ht) (show atI [V.int c.1, V.int c.2.1, V.int c.2.2] 2 = some (V.int c.2.2) from rfl) ?_
    walk_at "st"
    exact ⟨_, _, rfl, fun u H2 s2 nu hu => put _ _ rfl s2 hu⟩
  · rw [List.filter_eq_self.mpr (fun _ _ => rfl)] at ha
    walk_at "st"
    refine Pm.w_sortP (SqL.of hd) ha (fun ys p hp hy => ?_)
    exact q p _ ys (s1.trans (same_new hp _)) (s1.free hp) upd_same (prs_keep (keeps (same_new hp _)) hy)
end
section
variable {P : Program} {w : World} {K : PySem.W.Frag} {mg : Str → Option Value} {base : Heap}
def spMany (K : PySem.W.Frag) : Sp := fun vs H Q _ => ∃ (r : Addr) (row : List Int), vs = [.ref r] ∧ SqL K H r (row.map V.int) ∧ 2 ≤ row.length ∧ ∀ n : Nat, 3 ≤ n → n ≤ 12 → Q (.int n) H
theorem ok_law_many (T : Tx P K mg base) : FnOk P w K mg base CX0 41 T.a_law_many T.fd_law_many ["_law_row"] (spMany K) := by
  refine T.F_law_many.ok sc_law_many (fun vs H Q E h => ?_) (fun cdv A outer s H vs Q E hr h => ?_)
  · obtain ⟨r, row, rfl, _⟩ := h
    rfl
  obtain ⟨r, row, rfl, hR, hn, q⟩ := h
  have q' : ∀ n : Int, 3 ≤ n → n ≤ 12 → Q (.int n) H := fun n h1 h2 => by
    have e : n = (n.toNat : Int) := by omega
    rw [e]
    exact q _ (by omega) (by omega)
  refine ⟨_, (pss_cons (ps_if (pt_cmpR op_eq (pe_op op_mod (pe_ix (ix_listK (K := K)) (pv 0) (pe_int) (fun _ _ => rfl)) (pe_int)) (pe_int) (nomark _)) (pss_one (ps_ret (pe_op op_add (pe_int) (pe_op op_mod (pe_ix (ix_listK (K := K)) (pv 0) (pe_int) (fun _ _ => rfl)) (pe_int))))) pss_nil)
      (pss_one (ps_ret (pe_op op_add (pe_int) (pe_op op_mod (pe_ix (ix_listK (K := K)) (pv 0) (pe_int) (fun _ _ => rfl)) (pe_int)))))), ?_⟩
  walk_at "st"
  refine Pm.w_ixL hR (atI_int (by omega) (by omega)) ?_
  walk_at "st"
  refine Pm.w_ite (fun e => ?_) (fun e => ?_)
  · walk_at "st"
    refine Pm.w_ixL hR (atI_int (by omega) (by omega)) ?_
    walk_at "st"
    exact q' _ (by omega) (by omega)
  · walk_at "st"
    refine Pm.w_ixL hR (atI_int (by omega) (by omega)) ?_
    walk_at "st"
    exact q' _ (by omega) (by omega)
end
section
variable {P : Program} {w : World} {K : PySem.W.Frag} {mg : Str → Option Value} {base : Heap}
theorem ok_tie_of (T : Tx P K mg base) : FnOk P w K mg base CX0 41 T.a_tie_of T.fd_tie_of ["a", "b"] spPair := by
  refine T.F_tie_of.ok sc_tie_of (fun vs H Q E h => ?_) (fun cdv A outer s H vs Q E hr h => ?_)
  · obtain ⟨a, b, rfl, _⟩ := h
    rfl
  obtain ⟨a, b, rfl, q⟩ := h
  refine ⟨_, (pss_one (ps_ret (pe_tup (pa_cons (pe_callB (c_min rfl) (by rfl) T.m_min (by decide +kernel) (pa_cons (pv 0) (pa_cons (pv 1) pa_nil))) (pa_cons (pe_callB (c_max rfl) (by rfl) T.m_max (by decide +kernel) (pa_cons (pv 0) (pa_cons (pv 1) pa_nil))) pa_nil))))), ?_⟩
  walk_at "st"
  refine Pm.w_newT (fun t ht => ?_)
  exact q t _ (same_new ht _) ht (pr_new upd_same)
end
section
variable {P : Program} {w : World} {K : PySem.W.Frag} {mg : Str → Option Value} {base : Heap}
def spSides : Sp := fun vs H Q _ => ∃ n : Nat, vs = [.int n] ∧ 1 ≤ n ∧ n ≤ 1000 ∧ PLNew H (sidesL n) Q
theorem ok_sides (T : Tx P K mg base) : FnOk P w K mg base CX0 41 T.a_sides T.fd_sides ["n"] spSides := by
  refine T.F_sides.ok sc_sides (fun vs H Q E h => ?_) (fun cdv A outer s H vs Q E hr h => ?_)
  · obtain ⟨n, rfl, _⟩ := h
    rfl
  obtain ⟨n, rfl, n1, n2, q⟩ := h
  refine ⟨_, (pss_one (ps_ret (pe_callB (cr_sortK (K := K)) (by rfl) T.m_sorted (by decide +kernel) (pa_cons (pe_op op_cat (pe_lc (own := [("k", 1)]) (g := gName 1) (tt := tYes) rfl sc_sides.nd (pi_range1 (by rfl) T.m_range (pa_cons (pe_op op_sub (pv 0) (pe_int)) pa_nil)) (blkOk_by (N := N_sides) (sc := defScope s_sides) (by decide +kernel)) (fun _ _ _ _ _ => (pg_name (i := 1) sc_sides.nd rfl (.inl rfl))) (fun _ _ _ _ _ => pts_nil) (fun _ _ _ _ _ => (pe_tup (pa_cons (pv 1) (pa_cons (pe_op op_add (pv 1) (pe_int)) pa_nil))))) (pe_lst (pa_cons (pe_tup (pa_cons (pe_int) (pa_cons (pe_op op_sub (pv 0) (pe_int)) pa_nil))) pa_nil))) pa_nil)))), ?_⟩
  walk_at "st"
  have en : ((n : Int) - 1).toNat = n - 1 := by omega
  rw [en]
  refine Pm.w_lcRm (R := Pr) pr_mono (fun k : Nat => ((k : Int), (k : Int) + 1)) (by omega) (fun D i H1 Nx hD hi s1 put => ?_) (fun D H1 ws hD s1 hd ha => ?_)
  · walk_at "st"
    refine Pm.w_newT (fun t ht => ?_)
    refine put _ _ (same_new ht _) ⟨t, rfl, ?_⟩
    rw [upd_same, Int.zero_add]
  · walk_at "st"
    refine Pm.w_newT (fun t ht => ?_)
    walk_at "st"
    refine Pm.w_newL (fun l hl => ?_)
    have nD : D ≠ l := ne_of_none (o := .lst ws) ((same_new ht _) _ _ hd) hl
    have hlen := ha.length
    rw [List.length_map, List.length_range] at hlen
    refine Pm.w_cat (by rw [upd_ne nD, upd_ne (ne_of_none hd ht)]; exact hd) upd_same (size_ok (by rw [hlen, List.length_singleton]; omega)) (fun p hp => ?_)
    have k1 : Keeps H1 (upd (upd (upd H1 t (.tup [.int 0, .int ((n : Int) - 1)])) l (.lst [.ref t])) p (.lst (ws ++ [.ref t]))) := keeps ((same_new ht _).trans ((same_new hl _).trans (same_new hp _)))
    refine Pm.w_sortP (ps := sides0 n) (SqL.of upd_same) ((prs_keep k1 ha).append ⟨⟨t, rfl, ?_⟩, trivial⟩) (fun ys p2 hp2 hy => ?_)
    · exact ((same_new hl _).trans (same_new hp _)) _ _ upd_same
    · have s2 := s1.trans ((same_new ht _).trans ((same_new hl _).trans (same_new hp (.lst (ws ++ [.ref t])))))
      exact q p2 _ ys (s2.trans (same_new hp2 _)) (s2.free hp2) upd_same (prs_keep (keeps (same_new hp2 _)) hy)
end
section
variable {P : Program} {w : World} {K : PySem.W.Frag} {mg : Str → Option Value} {base : Heap}
def spTies : Sp := fun vs H Q _ => ∃ (n : Nat) (c : Addr) (cut : List IP), vs = [.int n, .ref c] ∧ 1 ≤ n ∧ n ≤ 1000 ∧ PLt H c cut ∧ cut.length ≤ 1000 ∧ PLNew H (tiesL n cut) Q
theorem ok_ties (T : Tx P K mg base) : FnOk P w K mg base CX0 42 T.a_ties T.fd_ties ["n", "cut"] spTies := by
  refine T.F_ties.ok sc_ties (fun vs H Q E h => ?_) (fun cdv A outer s H vs Q E hr h => ?_)
  · obtain ⟨n, c, cut, rfl, _⟩ := h
    rfl
  obtain ⟨n, c, cut, rfl, n1, n2, ⟨cvs, hc, pc⟩, cl, q⟩ := h
  refine ⟨_, (pss_one (ps_ret (pe_callB (cr_sortK (K := K)) (by rfl) T.m_sorted (by decide +kernel) (pa_cons (pe_op op_cat (pe_call (ok_sides T) (hr.mono (by decide)) (by rfl) T.g_sides T.F_sides.kp T.b_sides .nil pass0 (pa_cons (pv 0) pa_nil)) (pv 1)) pa_nil)))), ?_⟩
  walk_at "st"
  refine ⟨n, rfl, n1, n2, fun p H1 ws s1 np hp ha => ?_⟩
  walk_at "st"
  have l1 := ha.length
  rw [sidesL, sortP_len, sides0_len n1] at l1
  have l2 := pc.length
  refine Pm.w_cat hp (s1 _ _ hc) (size_ok (by omega)) (fun l hl => ?_)
  have k1 := keeps (same_new hl (.lst (ws ++ cvs)))
  refine Pm.w_sortP (SqL.of upd_same) ((prs_keep k1 ha).append (prs_keep ((keeps s1).trans k1) pc)) (fun ys p2 hp2 hy => ?_)
  rw [tiesL_eq] at hy
  have s2 := s1.trans (same_new hl (.lst (ws ++ cvs)))
  exact q p2 _ ys (s2.trans (same_new hp2 _)) (s2.free hp2) upd_same (prs_keep (keeps (same_new hp2 _)) hy)
end
/-- a pair as a key -/
def pk (p : IP) : List L2.Key := [Sum.inl p.1, Sum.inl p.2]
theorem pk_inj {p q : IP} (h : pk p = pk q) : p = q := by
  obtain ⟨a, b⟩ := p
  obtain ⟨c, d⟩ := q
  unfold pk at h
  injection h with h1 h2
  injection h2 with h2 _
  simp only at h1 h2
  rw [Sum.inl.inj h1, Sum.inl.inj h2]
theorem Pr.key {H : Hp} {t : Addr} {p : IP} (h : Pr H (.ref t) p) : H t = some (.tup ((pk p).map kV)) := by
  obtain ⟨u, e, hu⟩ := h
  cases e
  exact hu
section
variable {P : Program} {w : World} {K : PySem.W.Frag} {mg : Str → Option Value} {base : Heap}
def spPlots : Sp := fun vs H Q _ => ∃ (n : Nat) (c : Addr) (cut : List IP), vs = [.int n, .ref c] ∧ 1 ≤ n ∧ n ≤ 1000 ∧ PLt H c cut ∧ cut.length ≤ 1000 ∧ (∀ p ∈ tiesL n cut, -1000 ≤ p.2 ∧ p.2 ≤ 1000) ∧ (plots0 n (tiesL n cut) (tiesL n cut)).length ≤ 1000 ∧
  ∀ (p : Addr) (H' : Hp) (ws : List V), Same H H' → H p = none → H' p = some (.lst ws) → All2 (Er H') ws (plotsL n cut) → Q (.ref p) H'
theorem above_more (n : Nat) (T : List IP) (p : IP) (i : Nat) : ((List.range (i + 1)).filter fun i : Nat => decide ((p.1, p.2 + 1 + (i : Int)) ∈ T) && decide ((p.2, p.2 + 1 + (i : Int)) ∈ T)) = ((List.range i).filter fun i : Nat => decide ((p.1, p.2 + 1 + (i : Int)) ∈ T) && decide ((p.2, p.2 + 1 + (i : Int)) ∈ T)) ++ (if (p.1, p.2 + 1 + (i : Int)) ∈ T ∧ (p.2, p.2 + 1 + (i : Int)) ∈ T then [i] else []) := by
  rw [List.range_succ, List.filter_append]
  congr 1
  by_cases h1 : (p.1, p.2 + 1 + (i : Int)) ∈ T <;> by_cases h2 : (p.2, p.2 + 1 + (i : Int)) ∈ T <;> simp [h1, h2]
theorem plots0_app (n : Nat) (T S R : List IP) : plots0 n T (S ++ R) = plots0 n T S ++ plots0 n T R := by unfold plots0; rw [List.flatMap_append]
theorem plots0_one (n : Nat) (T : List IP) (p : IP) : plots0 n T [p] = (above n T p).map fun i : Nat => (p.1, p.2, p.2 + 1 + (i : Int)) := by unfold plots0; rw [List.flatMap_singleton]
theorem plots0_le (n : Nat) (T S R : List IP) : (plots0 n T S).length ≤ (plots0 n T (S ++ R)).length := by rw [plots0_app, List.length_append]; omega
theorem ok_plots (T : Tx P K mg base) : FnOk P w K mg base CX0 43 T.a_plots T.fd_plots ["n", "cut"] spPlots := by
  refine T.F_plots.ok sc_plots (fun vs H Q E h => ?_) (fun cdv A outer s H vs Q E hr h => ?_)
  · obtain ⟨n, c, cut, rfl, _⟩ := h
    rfl
  obtain ⟨n, c, cut, rfl, n1, n2, hc, cl, hbd, hpl, q⟩ := h
  refine ⟨_, (pss_cons (ps_set (i := 2) sc_plots.nd rfl (.inl rfl) (pe_dnewT))
      (pss_cons (ps_for PassesOwn.never rfl (k_il (K := K) (pi_list (pe_call (ok_ties T) (hr.mono (by decide)) (by rfl) T.g_ties T.F_ties.kp T.b_ties .nil pass0 (pa_cons (pv 0) (pa_cons (pv 1) pa_nil))))) (pg_name (i := 3) sc_plots.nd rfl (.inl rfl)) (pss_one (ps_dput (hu_of hr) (pv 2) (pv 3) (pe_bl) rfl)))
      (pss_cons (ps_set (i := 4) sc_plots.nd rfl (.inl rfl) (pe_lst pa_nil))
      (pss_cons (ps_for PassesOwn.never rfl (k_il (K := K) (pi_list (pe_call (ok_ties T) (hr.mono (by decide)) (by rfl) T.g_ties T.F_ties.kp T.b_ties .nil pass0 (pa_cons (pv 0) (pa_cons (pv 1) pa_nil))))) (k_gt (K := K) (pg_tup (by rfl) (pgs_cons (pg_name (i := 5) sc_plots.nd rfl (.inl rfl)) (pgs_cons (pg_name (i := 6) sc_plots.nd rfl (.inl rfl)) pgs_nil)))) (pss_one (ps_for PassesOwn.never rfl (pi_range2 (by rfl) T.m_range (pa_cons (pe_op op_add (pv 6) (pe_int)) (pa_cons (pv 0) pa_nil))) (pg_name (i := 7) sc_plots.nd rfl (.inl rfl)) (pss_one (ps_if (PW.pt (pw_and (pt_cmp (pc_din (hu_of hr) (pe_tup (pa_cons (pv 5) (pa_cons (pv 7) pa_nil))) (pv 2))) (pw_and1 (pt_cmp (pc_din (hu_of hr) (pe_tup (pa_cons (pv 6) (pa_cons (pv 7) pa_nil))) (pv 2)))))) (pss_one (ps_expr (k_bm (K := K) (pe_bm PySem.F.plainAttrs_list PySem.F.slot_list_append PySem.F.type_list_append mt_append (pv 4) (pa_cons (pe_tup (pa_cons (pv 5) (pa_cons (pv 6) (pa_cons (pv 7) pa_nil)))) pa_nil))))) pss_nil)))))
      (pss_one (ps_ret (pe_callB (cr_sortN (K := K) hr.u40) (by rfl) T.m_sorted (by decide +kernel) (pa_cons (pv 4) pa_nil)))))))), ?_⟩
  walk_at "st"
  refine Pm.w_dnewT (fun d hd => ?_)
  walk_at "st"
  have s1 := same_new hd (.dT [])
  have tlen : (tiesL n cut).length ≤ 3000 := by rw [tiesL, sortP_len, List.length_append, sides0_len n1]; omega
  refine ⟨n, c, cut, rfl, n1, n2, hc.same s1, cl, fun l H1 tvs s2 nl hl ha => ?_⟩
  walk_at "st"
  refine Pm.w_rdL (SqL.of hl) ?_
  have hd1 : H1 d = some (.dT []) := s2 _ _ upd_same
  refine Pm.w_forL (xs := tvs) (fun i σ H2 => ∃ x kvs, σ = [some (.int n), some (.ref c), some (.ref d), x, none, none, none, none] ∧ Same H H2 ∧ H2 l = some (.lst tvs) ∧ Prs H2 tvs (tiesL n cut) ∧ H2 d = some (.dT kvs) ∧ kvs.length ≤ i ∧ ∀ p : IP, (valV kvs (pk p)).isSome = decide (p ∈ (tiesL n cut).take i)) ?_ (fun i σ H2 _ ⟨x, kvs, _, _, h2, _⟩ => SqL.of h2) ?_ ?_
  · exact ⟨_, [], rfl, s1.trans s2, hl, ha, hd1, Nat.le_refl _, fun p => by rw [List.take_zero]; rfl⟩
  · rintro i x σ H2 hx ⟨y, kvs, rfl, sm, hl2, ha2, hd2, hk, hv⟩
    obtain ⟨p, hp, t, rfl, ht⟩ := ha2.get hx
    have hi : i < (tiesL n cut).length := (List.getElem?_eq_some_iff.mp hp).1
    walk_at "st"
    refine Pm.w_dpT hd2 (Pr.key ⟨t, rfl, ht⟩) (size_lt (by omega)) ?_
    have kd := keeps_dT (ys := putK kvs (pk p) (.bl true)) hd2
    have nld : l ≠ d := fun z => by subst z; rw [hl2] at hd2; cases hd2
    refine ⟨_, _, rfl, same_but hd sm, by rw [upd_ne nld]; exact hl2, prs_keep kd ha2, upd_same, Nat.le_trans (putK_len _ _ _) (by omega), fun p' => ?_⟩
    rw [valV_put, take_snoc hp]
    by_cases e : pk p' = pk p
    · rw [if_pos e, pk_inj e]
      simp
    · rw [if_neg e, hv]
      have : p' ≠ p := fun z => e (by rw [z])
      simp [this]
  · rintro σ H2 ⟨y, kvs, rfl, sm, hl2, ha2, hd2, hk, hv⟩
    rw [ha2.length, List.take_length] at hv
    clear hk
    walk_at "st"
    refine Pm.w_newL (fun f hf => ?_)
    walk_at "st"
    have s3 := same_new hf (.lst [])
    have hHf : H f = none := sm.free hf
    have hHd : H d = none := hd
    refine ⟨n, c, cut, rfl, n1, n2, hc.same (sm.trans s3), cl, fun l' H3 tvs' s4 nl' hl' ha' => ?_⟩
    walk_at "st"
    refine Pm.w_rdL (SqL.of hl') ?_
    have nlf : l' ≠ f := fun z => by subst z; rw [upd_same] at nl'; cases nl'
    have ndf : d ≠ f := ne_of_none hd2 hf
    have hlen' := ha'.length
    refine Pm.w_forL (xs := tvs') (fun i σ H4 => ∃ x a b c', σ = [some (.int n), some (.ref c), some (.ref d), x, some (.ref f), a, b, c'] ∧ Same H H4 ∧ H4 l' = some (.lst tvs') ∧ Prs H4 tvs' (tiesL n cut) ∧ H4 d = some (.dT kvs) ∧ ∃ fvs, H4 f = some (.lst fvs) ∧ All2 (Er H4) fvs (plots0 n (tiesL n cut) ((tiesL n cut).take i))) ?_ (fun i σ H4 _ ⟨x, a, b, c', _, _, h2, _⟩ => SqL.of h2) ?_ ?_
    · exact ⟨_, _, _, _, rfl, sm.trans (s3.trans s4), hl', ha', s4 _ _ (s3 _ _ hd2), [], s4 _ _ upd_same, trivial⟩
    · rintro i x σ H4 hx ⟨y1, y2, y3, y4, rfl, sm4, hl4, ha4, hd4, fvs, hf4, hA4⟩
      obtain ⟨p, hp, t, rfl, ht⟩ := ha4.get hx
      have hpm : p ∈ tiesL n cut := List.mem_of_getElem? hp
      have pb := hbd p hpm
      walk_at "st"
      refine Pm.w_gtup (SqT.of ht) rfl ?_
      walk_at "st"
      refine Pm.w_forR (fun j σ H5 => ∃ z, σ = [some (.int n), some (.ref c), some (.ref d), y1, some (.ref f), some (.int p.1), some (.int p.2), z] ∧ Same H H5 ∧ H5 l' = some (.lst tvs') ∧ Prs H5 tvs' (tiesL n cut) ∧ H5 d = some (.dT kvs) ∧ ∃ fvs, H5 f = some (.lst fvs) ∧ All2 (Er H5) fvs (plots0 n (tiesL n cut) ((tiesL n cut).take i) ++
        ((List.range j).filter fun i : Nat => decide ((p.1, p.2 + 1 + (i : Int)) ∈ tiesL n cut) && decide ((p.2, p.2 + 1 + (i : Int)) ∈ tiesL n cut)).map fun i : Nat => (p.1, p.2, p.2 + 1 + (i : Int)))) ?_ ?_ ?_
      · exact ⟨_, rfl, sm4, hl4, ha4, hd4, fvs, hf4, by rw [List.range_zero, List.filter_nil, List.map_nil, List.append_nil]; exact hA4⟩
      · rintro j σ H5 hj ⟨z, rfl, sm5, hl5, ha5, hd5, fvs5, hf5, hA5⟩
        have fin : ∀ H6, Same H5 H6 → ¬ ((p.1, p.2 + 1 + (j : Int)) ∈ tiesL n cut ∧ (p.2, p.2 + 1 + (j : Int)) ∈ tiesL n cut) → ∃ z, ([some (.int n), some (.ref c), some (.ref d), y1, some (.ref f), some (.int p.1), some (.int p.2), some (.int (p.2 + 1 + (j : Int)))] : L2.St) = [some (.int n), some (.ref c), some (.ref d), y1, some (.ref f), some (.int p.1), some (.int p.2), z] ∧ Same H H6 ∧ H6 l' = some (.lst tvs') ∧ Prs H6 tvs' (tiesL n cut) ∧ H6 d = some (.dT kvs) ∧ ∃ fvs, H6 f = some (.lst fvs) ∧ All2 (Er H6) fvs (plots0 n (tiesL n cut) ((tiesL n cut).take i) ++
        ((List.range (j + 1)).filter fun i : Nat => decide ((p.1, p.2 + 1 + (i : Int)) ∈ tiesL n cut) && decide ((p.2, p.2 + 1 + (i : Int)) ∈ tiesL n cut)).map fun i : Nat => (p.1, p.2, p.2 + 1 + (i : Int))) := fun H6 s6 hno => by
          refine ⟨_, rfl, sm5.trans s6, s6 _ _ hl5, prs_keep (keeps s6) ha5, s6 _ _ hd5, fvs5, s6 _ _ hf5, ?_⟩
          rw [above_more n, if_neg hno, List.append_nil]
          exact hA5.mono fun _ _ r => er_mono _ _ _ _ (keeps s6) r
        walk_at "st"
        refine Pm.w_newT (fun u hu => ?_)
        walk_at "st"
        have s6 := same_new hu (.tup [.int p.1, .int (p.2 + 1 + (j : Int))])
        refine Pm.w_diT (k := pk (p.1, p.2 + 1 + (j : Int))) (s6 _ _ hd5) upd_same ?_
        rw [hv]
        walk_at "st"
        refine Pm.w_ite (fun e1 => ?_) (fun e1 => ?_)
        · walk_at "st"
          refine Pm.w_newT (fun u2 hu2 => ?_)
          walk_at "st"
          have s7 := same_new hu2 (.tup [.int p.2, .int (p.2 + 1 + (j : Int))])
          have s67 := s6.trans s7
          refine Pm.w_diT (k := pk (p.2, p.2 + 1 + (j : Int))) (s67 _ _ hd5) upd_same ?_
          rw [hv]
          walk_at "st"
          refine Pm.w_ite (fun e2 => ?_) (fun e2 => ?_)
          · walk_at "st"
            refine ⟨.inl ⟨rfl, _, SqL.of (s67 _ _ hf5)⟩, ?_⟩
            walk_at "st"
            refine Pm.w_newT (fun u3 hu3 => ?_)
            have s8 := same_new hu3 (.tup [.int p.1, .int p.2, .int (p.2 + 1 + (j : Int))])
            have s58 := s67.trans s8
            have lA := hA5.length
            have lz : fvs5.length < 16777216 := by
              rw [lA, List.length_append, List.length_map]
              have l1 := plots0_le n (tiesL n cut) ((tiesL n cut).take i) ((tiesL n cut).drop i)
              rw [List.take_append_drop] at l1
              have l2 := List.length_filter_le (fun i : Nat => decide ((p.1, p.2 + 1 + (i : Int)) ∈ tiesL n cut) && decide ((p.2, p.2 + 1 + (i : Int)) ∈ tiesL n cut)) (List.range j)
              rw [List.length_range] at l2
              omega
            walk_at "st"
            refine Pm.w_append (s58 _ _ hf5) (size_lt lz) ?_
            have k9 := (keeps s58).trans (keeps_lst (ys := fvs5 ++ [.ref u3]) (s58 _ _ hf5))
            have nuf : u3 ≠ f := fun z => by subst z; rw [s67 _ _ hf5] at hu3; cases hu3
            walk_at "st"
            refine ⟨_, rfl, same_but hHf (sm5.trans s58), by rw [upd_ne nlf]; exact s58 _ _ hl5, prs_keep k9 ha5, by rw [upd_ne ndf]; exact s58 _ _ hd5, _, upd_same, ?_⟩
            rw [above_more n, if_pos ⟨e1, e2⟩, List.map_append, ← List.append_assoc]
            refine (hA5.mono fun _ _ r => er_mono _ _ _ _ k9 r).snoc ⟨u3, rfl, ?_⟩
            rw [upd_ne nuf, upd_same]
          · walk_at "st"
            exact fin _ s67 (fun z => e2 z.2)
        · walk_at "st"
          exact fin _ s6 (fun z => e1 z.1)
      · rintro σ H5 ⟨z, rfl, sm5, hl5, ha5, hd5, fvs5, hf5, hA5⟩
        refine ⟨_, _, _, _, rfl, sm5, hl5, ha5, hd5, fvs5, hf5, ?_⟩
        rw [take_snoc hp, plots0_app, plots0_one]
        exact hA5
    · rintro σ H4 ⟨y1, y2, y3, y4, rfl, sm4, hl4, ha4, hd4, fvs, hf4, hA4⟩
      rw [hlen', List.take_length] at hA4
      walk_at "st"
      refine Pm.w_sort3 (SqL.of hf4) hA4 (fun ys p hp hy => ?_)
      exact q p _ ys (sm4.trans (same_new hp _)) (sm4.free hp) upd_same (hy.mono fun _ _ r => er_mono _ _ _ _ (keeps (same_new hp _)) r)
end
section
variable {P : Program} {w : World} {K : PySem.W.Frag} {mg : Str → Option Value} {base : Heap}
def spMeasure : Sp := fun vs H Q _ => ∃ a b : Int, vs = [.int a, .int b] ∧ Q (.int ((Int.gcd a b : Nat) : Int)) H
theorem ok_measure (T : Tx P K mg base) : FnOk P w K mg base CX0 41 T.a_measure T.fd_measure ["one", "other"] spMeasure := by
  refine T.F_measure.ok sc_measure (fun vs H Q E h => ?_) (fun cdv A outer s H vs Q E hr h => ?_)
  · obtain ⟨a, b, rfl, _⟩ := h
    rfl
  obtain ⟨a, b, rfl, q⟩ := h
  refine ⟨_, (pss_cons (ps_set (i := 0) sc_measure.nd rfl (.inl rfl) (pe_callB c_abs (by rfl) T.m_abs (by decide +kernel) (pa_cons (pv 0) pa_nil)))
      (pss_cons (ps_set (i := 1) sc_measure.nd rfl (.inl rfl) (pe_callB c_abs (by rfl) T.m_abs (by decide +kernel) (pa_cons (pv 1) pa_nil)))
      (pss_cons (ps_while PassesOwn.never (pt_cmpR op_gt (pv 1) (pe_int) (nomark _)) (pss_one (ps_par (i := 0) (j := 1) (by rfl) sc_measure.nd rfl rfl (by decide) rfl rfl (pa_cons (pv 1) (pa_cons (pe_op op_mod (pv 0) (pv 1)) pa_nil)) (by rfl))))
      (pss_one (ps_ret (pv 0)))))), ?_⟩
  walk_at "st"
  refine Pm.w_while (fun m σ H' => ∃ x y : Nat, σ = [some (.int x), some (.int y)] ∧ m = y ∧ Nat.gcd x y = Int.gcd a b ∧ H' = H) _ ⟨(if a < 0 then -a else a).natAbs, (if b < 0 then -b else b).natAbs, ?_, rfl, gcd_abs a b, rfl⟩ ?_
  · have e : ∀ c : Int, (if c < 0 then -c else c) = (((if c < 0 then -c else c).natAbs : Nat) : Int) := fun c => by split <;> omega
    show [some (V.int (if a < 0 then -a else a)), some (V.int (if b < 0 then -b else b))] = _
    rw [← e a, ← e b]
  · rintro m σ H' ⟨x, y, rfl, rfl, hg, rfl⟩
    walk_at "st"
    refine Pm.w_wh (fun c => ?_) (fun c => ?_)
    · walk_at "st"
      exact ⟨_, Nat.mod_lt x (by omega), m, x % m, rfl, rfl, by rw [gcd_turn x m (by omega)]; exact hg, rfl⟩
    · have e : m = 0 := by omega
      subst e
      rw [Nat.gcd_zero_right] at hg
      rw [hg]
      walk_at "st"
      exact q
def spLowest (C : Addr) : Sp := fun vs H Q E => ∃ (a b : Int) (n : Nat), vs = [.int a, .int b] ∧ b.natAbs < 2 ^ n ∧ n ≤ 120000000 ∧ (b = 0 → E (.ref C) none H) ∧ (b ≠ 0 → FrNew H (Rat.divInt a b) Q)
theorem ok_lowest (T : Tx P K mg base) : FnOk P w K mg base (L2.CX P w) 42 T.a_lowest T.fd_lowest ["top", "bottom"] (spLowest T.c_NoFraction) := by
  refine T.F_lowest.okX sc_lowest (fun vs H Q E h => ?_) (fun cdv A outer s H vs Q E hr h => ?_)
  · obtain ⟨a, b, n, rfl, _⟩ := h
    rfl
  obtain ⟨a, b, n, rfl, hn, hn9, hE, q⟩ := h
  refine ⟨_, (pss_cons (ps_if (pt_cmpR op_eq (pv 1) (pe_int) (nomark _)) (pss_one (ps_raise rfl (takes_of rfl rfl rfl rfl) (pmk_own PySem.F.excBase_ValueError T.x_NoFraction T.g_NoFraction T.k_NoFraction (raises_own T.b_NoFraction T.t_NoFraction) rfl))) pss_nil)
      (C8.pss_cut (ps_if (pt_cmpR op_lt (pv 1) (pe_int) (nomark _)) (pss_cons (ps_set (i := 0) sc_lowest.nd rfl (.inl rfl) (pe_un un_neg (pv 0)))
      (pss_one (ps_set (i := 1) sc_lowest.nd rfl (.inl rfl) (pe_un un_neg (pv 1))))) pss_nil)
      (pss_cons (ps_set (i := 2) sc_lowest.nd rfl (.inl rfl) (pe_call (ok_measure T) (hr.mono (by decide)) (by rfl) T.g_measure T.F_measure.kp T.b_measure .nil pass0 (pa_cons (pv 0) (pa_cons (pv 1) pa_nil))))
      (pss_one (ps_ret (pe_tup (pa_cons (pe_op (op_fdivL T.seer T.tree (room_long hr (by decide))) (pv 0) (pv 2)) (pa_cons (pe_op (op_fdivL T.seer T.tree (room_long hr (by decide))) (pv 1) (pv 2)) pa_nil)))))))), ?_⟩
  walk_at "st"
  refine Pm.w_ite (fun c => ?_) (fun c => ?_)
  · exact hE c
  · walk_at "st"
    refine Pm.w_cut (fun σ' H' => ∃ a' b' : Int, σ' = [some (.int a'), some (.int b'), none] ∧ H' = H ∧ 0 < b' ∧ b'.natAbs < 2 ^ n ∧ Rat.divInt a' b' = Rat.divInt a b) ?_ ?_
    · walk_at "st"
      refine Pm.w_ite (fun d => ?_) (fun d => ?_)
      · walk_at "st"
        exact ⟨-a, -b, rfl, rfl, by omega, by omega, Rat.neg_divInt_neg a b⟩
      · walk_at "st"
        exact ⟨a, b, rfl, rfl, by omega, hn, rfl⟩
    · rintro σ H' ⟨a', b', rfl, rfl, hb, hn, e⟩
      have g0 : 0 < ((Int.gcd a' b' : Nat) : Int) := gcd_pos (by omega)
      have g1 := gcd_le_right (a := a') hb
      have n0 : 0 < n := by
        rcases Nat.eq_zero_or_pos n with z | z
        · subst z
          exact absurd hn (by omega)
        · exact z
      have hd : ∀ i : Int, CDivL i ((Int.gcd a' b' : Nat) : Int) := fun i => long_div g0 (Nat.lt_of_le_of_lt (by omega) hn) n0 hn9
      walk_at "st"
      refine ⟨a', b', rfl, ?_⟩
      walk_at "st"
      refine Pm.w_i (hd _) ?_
      walk_at "st"
      refine Pm.w_i (hd _) ?_
      walk_at "st"
      refine Pm.w_newT (fun t ht => ?_)
      have z := div_pos_num (a := a') hb
      rw [z.1, z.2, e]
      exact q c t _ (same_new ht _) ht upd_same
end
section
variable {P : Program} {w : World} {K : PySem.W.Frag} {mg : Str → Option Value} {base : Heap}
def spPlus (K : PySem.W.Frag) : Sp := fun vs H Q _ => ∃ (t u : Addr) (x y : Rat) (n m : Nat), vs = [.ref t, .ref u] ∧ SqT K H t [.int x.num, .int x.den] ∧ SqT K H u [.int y.num, .int y.den] ∧ rb x n ∧ rb y m ∧ n + m ≤ 120000000 ∧ FrNew H (x + y) Q
theorem ok_plus (T : Tx P K mg base) : FnOk P w K mg base CX0 43 T.a_plus T.fd_plus ["one", "other"] (spPlus K) := by
  refine T.F_plus.ok sc_plus (fun vs H Q E h => ?_) (fun cdv A outer s H vs Q E hr h => ?_)
  · obtain ⟨t, u, x, y, n, m, rfl, _⟩ := h
    rfl
  obtain ⟨t, u, x, y, n, m, rfl, ht, hu, bx, byy, hnm, q⟩ := h
  refine ⟨_, (pss_one (ps_ret (pe_call (ok_lowest T) (hr.mono (by decide)) (by rfl) T.g_lowest T.F_lowest.kp T.b_lowest .nil passL (pa_cons (pe_op op_add (pe_op op_mulL (pe_ix (ix_tupK (K := K)) (pv 0) (pe_int) (fun _ _ => rfl)) (pe_ix (ix_tupK (K := K)) (pv 1) (pe_int) (fun _ _ => rfl))) (pe_op op_mulL (pe_ix (ix_tupK (K := K)) (pv 1) (pe_int) (fun _ _ => rfl)) (pe_ix (ix_tupK (K := K)) (pv 0) (pe_int) (fun _ _ => rfl)))) (pa_cons (pe_op op_mulL (pe_ix (ix_tupK (K := K)) (pv 0) (pe_int) (fun _ _ => rfl)) (pe_ix (ix_tupK (K := K)) (pv 1) (pe_int) (fun _ _ => rfl))) pa_nil))))), ?_⟩
  have n0 := rb_pos bx
  have m0 := rb_pos byy
  walk_at "st"
  refine Pm.w_ixT ht (atI2 _ _).1 ?_
  walk_at "st"
  refine Pm.w_ixT hu (atI2 _ _).2 ?_
  walk_at "st"
  refine Pm.w_i (long_mul bx.1 (rb_den byy) n0 m0 (by omega)) ?_
  walk_at "st"
  refine Pm.w_ixT hu (atI2 _ _).1 ?_
  walk_at "st"
  refine Pm.w_ixT ht (atI2 _ _).2 ?_
  walk_at "st"
  refine Pm.w_i (long_mul byy.1 (rb_den bx) m0 n0 (by omega)) ?_
  walk_at "st"
  refine Pm.w_ixT ht (atI2 _ _).2 ?_
  walk_at "st"
  refine Pm.w_ixT hu (atI2 _ _).2 ?_
  walk_at "st"
  refine Pm.w_i (long_mul (rb_den bx) (rb_den byy) n0 m0 (by omega)) ?_
  walk_at "st"
  refine ⟨_, _, n + m, rfl, wide_lt (rb_den bx) (rb_den byy), hnm, fun z => absurd z (den_mul x y), fun _ => ?_⟩
  rw [plus_is]
  exact q
end
section
variable {P : Program} {w : World} {K : PySem.W.Frag} {mg : Str → Option Value} {base : Heap}
def spLess (K : PySem.W.Frag) : Sp := fun vs H Q _ => ∃ (t u : Addr) (x y : Rat) (n m : Nat), vs = [.ref t, .ref u] ∧ SqT K H t [.int x.num, .int x.den] ∧ SqT K H u [.int y.num, .int y.den] ∧ rb x n ∧ rb y m ∧ n + m ≤ 120000000 ∧ FrNew H (x - y) Q
theorem ok_less (T : Tx P K mg base) : FnOk P w K mg base CX0 43 T.a_less T.fd_less ["one", "other"] (spLess K) := by
  refine T.F_less.ok sc_less (fun vs H Q E h => ?_) (fun cdv A outer s H vs Q E hr h => ?_)
  · obtain ⟨t, u, x, y, n, m, rfl, _⟩ := h
    rfl
  obtain ⟨t, u, x, y, n, m, rfl, ht, hu, bx, byy, hnm, q⟩ := h
  refine ⟨_, (pss_one (ps_ret (pe_call (ok_lowest T) (hr.mono (by decide)) (by rfl) T.g_lowest T.F_lowest.kp T.b_lowest .nil passL (pa_cons (pe_op op_sub (pe_op op_mulL (pe_ix (ix_tupK (K := K)) (pv 0) (pe_int) (fun _ _ => rfl)) (pe_ix (ix_tupK (K := K)) (pv 1) (pe_int) (fun _ _ => rfl))) (pe_op op_mulL (pe_ix (ix_tupK (K := K)) (pv 1) (pe_int) (fun _ _ => rfl)) (pe_ix (ix_tupK (K := K)) (pv 0) (pe_int) (fun _ _ => rfl)))) (pa_cons (pe_op op_mulL (pe_ix (ix_tupK (K := K)) (pv 0) (pe_int) (fun _ _ => rfl)) (pe_ix (ix_tupK (K := K)) (pv 1) (pe_int) (fun _ _ => rfl))) pa_nil))))), ?_⟩
  have n0 := rb_pos bx
  have m0 := rb_pos byy
  walk_at "st"
  refine Pm.w_ixT ht (atI2 _ _).1 ?_
  walk_at "st"
  refine Pm.w_ixT hu (atI2 _ _).2 ?_
  walk_at "st"
  refine Pm.w_i (long_mul bx.1 (rb_den byy) n0 m0 (by omega)) ?_
  walk_at "st"
  refine Pm.w_ixT hu (atI2 _ _).1 ?_
  walk_at "st"
  refine Pm.w_ixT ht (atI2 _ _).2 ?_
  walk_at "st"
  refine Pm.w_i (long_mul byy.1 (rb_den bx) m0 n0 (by omega)) ?_
  walk_at "st"
  refine Pm.w_ixT ht (atI2 _ _).2 ?_
  walk_at "st"
  refine Pm.w_ixT hu (atI2 _ _).2 ?_
  walk_at "st"
  refine Pm.w_i (long_mul (rb_den bx) (rb_den byy) n0 m0 (by omega)) ?_
  walk_at "st"
  refine ⟨_, _, n + m, rfl, wide_lt (rb_den bx) (rb_den byy), hnm, fun z => absurd z (den_mul x y), fun _ => ?_⟩
  rw [less_is]
  exact q
end
section
variable {P : Program} {w : World} {K : PySem.W.Frag} {mg : Str → Option Value} {base : Heap}
def spTimes (K : PySem.W.Frag) : Sp := fun vs H Q _ => ∃ (t u : Addr) (x y : Rat) (n m : Nat), vs = [.ref t, .ref u] ∧ SqT K H t [.int x.num, .int x.den] ∧ SqT K H u [.int y.num, .int y.den] ∧ rb x n ∧ rb y m ∧ n + m ≤ 120000000 ∧ FrNew H (x * y) Q
theorem ok_times (T : Tx P K mg base) : FnOk P w K mg base CX0 43 T.a_times T.fd_times ["one", "other"] (spTimes K) := by
  refine T.F_times.ok sc_times (fun vs H Q E h => ?_) (fun cdv A outer s H vs Q E hr h => ?_)
  · obtain ⟨t, u, x, y, n, m, rfl, _⟩ := h
    rfl
  obtain ⟨t, u, x, y, n, m, rfl, ht, hu, bx, byy, hnm, q⟩ := h
  refine ⟨_, (pss_one (ps_ret (pe_call (ok_lowest T) (hr.mono (by decide)) (by rfl) T.g_lowest T.F_lowest.kp T.b_lowest .nil passL (pa_cons (pe_op op_mulL (pe_ix (ix_tupK (K := K)) (pv 0) (pe_int) (fun _ _ => rfl)) (pe_ix (ix_tupK (K := K)) (pv 1) (pe_int) (fun _ _ => rfl))) (pa_cons (pe_op op_mulL (pe_ix (ix_tupK (K := K)) (pv 0) (pe_int) (fun _ _ => rfl)) (pe_ix (ix_tupK (K := K)) (pv 1) (pe_int) (fun _ _ => rfl))) pa_nil))))), ?_⟩
  have n0 := rb_pos bx
  have m0 := rb_pos byy
  walk_at "st"
  refine Pm.w_ixT ht (atI2 _ _).1 ?_
  walk_at "st"
  refine Pm.w_ixT hu (atI2 _ _).1 ?_
  walk_at "st"
  refine Pm.w_i (long_mul bx.1 byy.1 n0 m0 (by omega)) ?_
  walk_at "st"
  refine Pm.w_ixT ht (atI2 _ _).2 ?_
  walk_at "st"
  refine Pm.w_ixT hu (atI2 _ _).2 ?_
  walk_at "st"
  refine Pm.w_i (long_mul (rb_den bx) (rb_den byy) n0 m0 (by omega)) ?_
  walk_at "st"
  refine ⟨_, _, n + m, rfl, wide_lt (rb_den bx) (rb_den byy), hnm, fun z => absurd z (den_mul x y), fun _ => ?_⟩
  rw [times_is]
  exact q
end
section
variable {P : Program} {w : World} {K : PySem.W.Frag} {mg : Str → Option Value} {base : Heap}
def spOver (K : PySem.W.Frag) (C : Addr) : Sp := fun vs H Q E => ∃ (t u : Addr) (x y : Rat) (n m : Nat), vs = [.ref t, .ref u] ∧ SqT K H t [.int x.num, .int x.den] ∧ SqT K H u [.int y.num, .int y.den] ∧ rb x n ∧ rb y m ∧ n + m ≤ 120000000 ∧
  (y = 0 → E (.ref C) none H) ∧ (y ≠ 0 → FrNew H (x / y) Q)
theorem ok_over (T : Tx P K mg base) : FnOk P w K mg base (L2.CX P w) 43 T.a_over T.fd_over ["one", "other"] (spOver K T.c_NoFraction) := by
  refine T.F_over.okX sc_over (fun vs H Q E h => ?_) (fun cdv A outer s H vs Q E hr h => ?_)
  · obtain ⟨t, u, x, y, n, m, rfl, _⟩ := h
    rfl
  obtain ⟨t, u, x, y, n, m, rfl, ht, hu, bx, byy, hnm, hE, q⟩ := h
  refine ⟨_, (pss_cons (ps_if (pt_cmpR op_eq (pe_ix (ix_tupK (K := K)) (pv 1) (pe_int) (fun _ _ => rfl)) (pe_int) (nomark _)) (pss_one (ps_raise rfl (takes_of rfl rfl rfl rfl) (pmk_own PySem.F.excBase_ValueError T.x_NoFraction T.g_NoFraction T.k_NoFraction (raises_own T.b_NoFraction T.t_NoFraction) rfl))) pss_nil)
      (pss_one (ps_ret (pe_call (ok_lowest T) (hr.mono (by decide)) (by rfl) T.g_lowest T.F_lowest.kp T.b_lowest .nil (passes_call (takes_of rfl rfl rfl rfl) (fun _ _ _ _ h => h)) (pa_cons (pe_op op_mulL (pe_ix (ix_tupK (K := K)) (pv 0) (pe_int) (fun _ _ => rfl)) (pe_ix (ix_tupK (K := K)) (pv 1) (pe_int) (fun _ _ => rfl))) (pa_cons (pe_op op_mulL (pe_ix (ix_tupK (K := K)) (pv 0) (pe_int) (fun _ _ => rfl)) (pe_ix (ix_tupK (K := K)) (pv 1) (pe_int) (fun _ _ => rfl))) pa_nil)))))), ?_⟩
  have n0 := rb_pos bx
  have m0 := rb_pos byy
  walk_at "st"
  refine Pm.w_ixT hu (atI2 _ _).1 ?_
  walk_at "st"
  refine Pm.w_ite (fun e => ?_) (fun e => ?_)
  · exact hE (Rat.num_eq_zero.mp e)
  have e2 : y ≠ 0 := fun z => e (Rat.num_eq_zero.mpr z)
  walk_at "st"
  refine Pm.w_ixT ht (atI2 _ _).1 ?_
  walk_at "st"
  refine Pm.w_ixT hu (atI2 _ _).2 ?_
  walk_at "st"
  refine Pm.w_i (long_mul bx.1 (rb_den byy) n0 m0 (by omega)) ?_
  walk_at "st"
  refine Pm.w_ixT ht (atI2 _ _).2 ?_
  walk_at "st"
  refine Pm.w_ixT hu (atI2 _ _).1 ?_
  walk_at "st"
  refine Pm.w_i (long_mul (rb_den bx) byy.1 n0 m0 (by omega)) ?_
  walk_at "st"
  refine ⟨_, _, n + m, rfl, wide_lt (rb_den bx) byy.1, hnm, fun z => absurd z (Int.mul_ne_zero (den_ne x) e), fun _ => ?_⟩
  rw [over_is]
  exact q e2
end
def spSpread (K : PySem.W.Frag) : Sp := fun vs H Q _ => ∃ (x y : Addr) (s r : V2) (n : Nat), vs = [.ref x, .ref y] ∧ PrV K H (.ref x) s ∧ PrV K H (.ref y) r ∧ rb s.p n ∧ rb s.q n ∧ rb r.p n ∧ rb r.q n ∧ 4 * n ≤ 120000000 ∧ FrNew H (det s r) Q
section
variable {P : Program} {w : World} {K : PySem.W.Frag} {mg : Str → Option Value} {base : Heap}
theorem ok_between (T : Tx P K mg base) : FnOk P w K mg base CX0 42 T.a_between T.fd_between ["lengths", "a", "b"] (spBetween K) := by
  refine T.F_between.ok sc_between (fun vs H Q E h => ?_) (fun cdv A outer s H vs Q E hr h => ?_)
  · obtain ⟨d, t, D, a, b, rfl, _⟩ := h
    rfl
  obtain ⟨d, t, D, a, b, rfl, hd, hm, ne, an, q⟩ := h
  refine ⟨_, (pss_cons (ps_set (i := 3) sc_between.nd rfl (.inl rfl) (pe_dget (hu_of hr) (pv 0) (pe_call (ok_tie_of T) (hr.mono (by decide)) (by rfl) T.g_tie_of T.F_tie_of.kp T.b_tie_of .nil pass0 (pa_cons (pv 1) (pa_cons (pv 2) pa_nil))) (fun _ _ => rfl)))
      (pss_cons (ps_if (pt_cmpR op_lt (pv 1) (pv 2) (nomark _)) (pss_one (ps_ret (pv 3))) pss_nil)
      (pss_one (ps_ret (pe_tup (pa_cons (pe_un un_neg (pe_ix (ix_tupK (K := K)) (pv 3) (pe_int) (fun _ _ => rfl))) (pa_cons (pe_ix (ix_tupK (K := K)) (pv 3) (pe_int) (fun _ _ => rfl)) pa_nil))))))), ?_⟩
  walk_at "st"
  refine ⟨_, _, rfl, fun p H1 s1 np hp => ?_⟩
  rw [tie_cast] at hp
  refine w_lenGet (hd.same s1) hp hm (fun u hu => ?_)
  walk_at "st"
  refine Pm.w_ite (fun e => ?_) (fun e => ?_)
  · walk_at "st"
    rw [show min a b = a by omega, show max a b = b by omega] at hu
    exact q u _ s1 hu
  · rw [show min a b = b by omega, show max a b = a by omega] at hu
    walk_at "st"
    refine Pm.w_ixT hu.rat (atI2 _ _).1 ?_
    walk_at "st"
    refine Pm.w_ixT hu.rat (atI2 _ _).2 ?_
    walk_at "st"
    refine Pm.w_newT (fun v hv => ?_)
    have s2 := same_new hv (.tup [.int (-(D b a).num), .int ((D b a).den : Int)])
    refine q v _ (s1.trans s2) ?_
    rw [an]
    refine frv_new ?_
    rw [Rat.neg_num, Rat.neg_den]
    exact upd_same
theorem ok_spread (T : Tx P K mg base) : FnOk P w K mg base CX0 44 T.a_spread T.fd_spread ["one", "other"] (spSpread K) := by
  refine T.F_spread.ok sc_spread (fun vs H Q E h => ?_) (fun cdv A outer s H vs Q E hr h => ?_)
  · obtain ⟨x, y, s, r, n, rfl, _⟩ := h
    rfl
  obtain ⟨x, y, s, r, n, rfl, hx, hy, b1, b2, b3, b4, hn, q⟩ := h
  refine ⟨_, (pss_one (ps_ret (pe_call (ok_less T) (hr.mono (by decide)) (by rfl) T.g_less T.F_less.kp T.b_less .nil pass0 (pa_cons (pe_call (ok_times T) (hr.mono (by decide)) (by rfl) T.g_times T.F_times.kp T.b_times .nil pass0 (pa_cons (pe_ix (ix_tupK (K := K)) (pv 0) (pe_int) (fun _ _ => rfl)) (pa_cons (pe_ix (ix_tupK (K := K)) (pv 1) (pe_int) (fun _ _ => rfl)) pa_nil))) (pa_cons (pe_call (ok_times T) (hr.mono (by decide)) (by rfl) T.g_times T.F_times.kp T.b_times .nil pass0 (pa_cons (pe_ix (ix_tupK (K := K)) (pv 1) (pe_int) (fun _ _ => rfl)) (pa_cons (pe_ix (ix_tupK (K := K)) (pv 0) (pe_int) (fun _ _ => rfl)) pa_nil))) pa_nil))))), ?_⟩
  obtain ⟨_, x1, x2, ex, hxt, hx1, hx2⟩ := hx
  cases ex
  obtain ⟨_, y1, y2, ey, hyt, hy1, hy2⟩ := hy
  cases ey
  walk_at "st"
  refine Pm.w_ixT (SqT.of hxt) (atI2 _ _).1 ?_
  walk_at "st"
  refine Pm.w_ixT (SqT.of hyt) (atI2 _ _).2 ?_
  walk_at "st"
  refine ⟨_, _, _, _, n, n, rfl, hx1.rat, hy2.rat, b1, b4, by omega, fun u H1 s1 nu hu => ?_⟩
  have k1 := keeps s1
  walk_at "st"
  refine Pm.w_ixT (SqT.of (s1 _ _ hyt)) (atI2 _ _).1 ?_
  walk_at "st"
  refine Pm.w_ixT (SqT.of (s1 _ _ hxt)) (atI2 _ _).2 ?_
  walk_at "st"
  refine ⟨_, _, _, _, n, n, rfl, (hy1.keep k1).rat, (hx2.keep k1).rat, b3, b2, by omega, fun u2 H2 s2 nu2 hu2 => ?_⟩
  walk_at "st"
  refine ⟨_, _, _, _, n + n, n + n, rfl, SqT.of (s2 _ _ hu), SqT.of hu2, rb_mul b1 b4, rb_mul b3 b2, by omega, fun v H3 s3 nv hv => ?_⟩
  exact q v H3 ((s1.trans s2).trans s3) ((s1.trans s2).free nv) hv
/-- a new pair of fractions -/
def P2New (K : PySem.W.Frag) (H : Hp) (s : V2) (Q : VK) : Prop := ∀ (t : Addr) (H' : Hp), Same H H' → H t = none → PrV K H' (.ref t) s → Q (.ref t) H'
def spMixed (K : PySem.W.Frag) : Sp := fun vs H Q _ => ∃ (x p y r : Addr) (s s' : V2) (a b : Rat) (n : Nat), vs = [.ref x, .ref p, .ref y, .ref r] ∧ PrV K H (.ref x) s ∧ FrV K H (.ref p) (rp a) ∧ PrV K H (.ref y) s' ∧ FrV K H (.ref r) (rp b) ∧
  rb s.p n ∧ rb s.q n ∧ rb s'.p n ∧ rb s'.q n ∧ rb a n ∧ rb b n ∧ 4 * n ≤ 120000000 ∧ P2New K H (mix s a s' b) Q
theorem ok_pair_mixed (T : Tx P K mg base) : FnOk P w K mg base CX0 44 T.a_pair_mixed T.fd_pair_mixed ["one", "part", "other", "share"] (spMixed K) := by
  refine T.F_pair_mixed.ok sc_pair_mixed (fun vs H Q E h => ?_) (fun cdv A outer s H vs Q E hr h => ?_)
  · obtain ⟨x, p, y, r, s, s', a, b, n, rfl, _⟩ := h
    rfl
  obtain ⟨x, p, y, r, s, s', a, b, n, rfl, hx, hp, hy, hr', b1, b2, b3, b4, b5, b6, hn, q⟩ := h
  refine ⟨_, (pss_one (ps_ret (pe_tup (pa_cons (pe_call (ok_plus T) (hr.mono (by decide)) (by rfl) T.g_plus T.F_plus.kp T.b_plus .nil pass0 (pa_cons (pe_call (ok_times T) (hr.mono (by decide)) (by rfl) T.g_times T.F_times.kp T.b_times .nil pass0 (pa_cons (pe_ix (ix_tupK (K := K)) (pv 0) (pe_int) (fun _ _ => rfl)) (pa_cons (pv 1) pa_nil))) (pa_cons (pe_call (ok_times T) (hr.mono (by decide)) (by rfl) T.g_times T.F_times.kp T.b_times .nil pass0 (pa_cons (pe_ix (ix_tupK (K := K)) (pv 2) (pe_int) (fun _ _ => rfl)) (pa_cons (pv 3) pa_nil))) pa_nil))) (pa_cons (pe_call (ok_plus T) (hr.mono (by decide)) (by rfl) T.g_plus T.F_plus.kp T.b_plus .nil pass0 (pa_cons (pe_call (ok_times T) (hr.mono (by decide)) (by rfl) T.g_times T.F_times.kp T.b_times .nil pass0 (pa_cons (pe_ix (ix_tupK (K := K)) (pv 0) (pe_int) (fun _ _ => rfl)) (pa_cons (pv 1) pa_nil))) (pa_cons (pe_call (ok_times T) (hr.mono (by decide)) (by rfl) T.g_times T.F_times.kp T.b_times .nil pass0 (pa_cons (pe_ix (ix_tupK (K := K)) (pv 2) (pe_int) (fun _ _ => rfl)) (pa_cons (pv 3) pa_nil))) pa_nil))) pa_nil))))), ?_⟩
  obtain ⟨_, x1, x2, ex, hxt, hx1, hx2⟩ := hx
  cases ex
  obtain ⟨_, y1, y2, ey, hyt, hy1, hy2⟩ := hy
  cases ey
  walk_at "st"
  refine Pm.w_ixT (SqT.of hxt) (atI2 _ _).1 ?_
  walk_at "st"
  refine ⟨_, _, _, _, n, n, rfl, hx1.rat, hp.rat, b1, b5, by omega, fun u1 H1 s1 n1 hu1 => ?_⟩
  have k1 := keeps s1
  walk_at "st"
  refine Pm.w_ixT (SqT.of (s1 _ _ hyt)) (atI2 _ _).1 ?_
  walk_at "st"
  refine ⟨_, _, _, _, n, n, rfl, (hy1.keep k1).rat, (hr'.keep k1).rat, b3, b6, by omega, fun u2 H2 s2 n2 hu2 => ?_⟩
  walk_at "st"
  refine ⟨_, _, _, _, n + n, n + n, rfl, SqT.of (s2 _ _ hu1), SqT.of hu2, rb_mul b1 b5, rb_mul b3 b6, by omega, fun v1 H3 s3 n3 hv1 => ?_⟩
  have s03 := (s1.trans s2).trans s3
  have k3 := keeps s03
  walk_at "st"
  refine Pm.w_ixT (SqT.of (s03 _ _ hxt)) (atI2 _ _).2 ?_
  walk_at "st"
  refine ⟨_, _, _, _, n, n, rfl, (hx2.keep k3).rat, (hp.keep k3).rat, b2, b5, by omega, fun u4 H4 s4 n4 hu4 => ?_⟩
  have s04 := s03.trans s4
  have k4 := keeps s04
  walk_at "st"
  refine Pm.w_ixT (SqT.of (s04 _ _ hyt)) (atI2 _ _).2 ?_
  walk_at "st"
  refine ⟨_, _, _, _, n, n, rfl, (hy2.keep k4).rat, (hr'.keep k4).rat, b4, b6, by omega, fun u5 H5 s5 n5 hu5 => ?_⟩
  walk_at "st"
  refine ⟨_, _, _, _, n + n, n + n, rfl, SqT.of (s5 _ _ hu4), SqT.of hu5, rb_mul b2 b5, rb_mul b4 b6, by omega, fun v2 H6 s6 n6 hv2 => ?_⟩
  have s36 := (s4.trans s5).trans s6
  walk_at "st"
  refine Pm.w_newT (fun v hv => ?_)
  have s7 := same_new hv (.tup [.ref v1, .ref v2])
  have s37 := s36.trans s7
  exact q v _ (s03.trans s37) ((s03.trans s36).free hv) ⟨v, v1, v2, rfl, upd_same, frv_new (s37 _ _ hv1), frv_new (s7 _ _ hv2)⟩
def spThird (K : PySem.W.Frag) : Sp := fun vs H Q _ => ∃ (d e : Addr) (a b c n B F : Nat) (t : Tr) (L : Len) (D : Nat → Nat → Rat) (S : Nat → V2) (ks : List Nat), vs = [.ref d, .ref e, .int a, .int b, .int c] ∧ LenD K H d t D ∧ SD K H e ks S ∧
  a ∈ ks ∧ b ∈ ks ∧ Meas n t L D ∧ Bd n D F B ∧ 4 * B ≤ 120000000 ∧ (∀ i, i < n → rb (S i).p B ∧ rb (S i).q B) ∧ (min a b, max a b) ∈ t.all 0 ∧ (min c b, max c b) ∈ t.all 0 ∧ (min a c, max a c) ∈ t.all 0 ∧ P2New K H (mix (S a) (D c b / D a b) (S b) (D a c / D a b)) Q
theorem ok_third (T : Tx P K mg base) : FnOk P w K mg base CX0 45 T.a_third T.fd_third ["lengths", "stood", "a", "b", "c"] (spThird K) := by
  refine T.F_third.ok sc_third (fun vs H Q E h => ?_) (fun cdv A outer s H vs Q E hr h => ?_)
  · obtain ⟨d, e, a, b, c, n, B, F, t, L, D, S, ks, rfl, _⟩ := h
    rfl
  obtain ⟨d, e, a, b, c, n, B, F, t, L, D, S, ks, rfl, hd, he, ma, mb, M, Z, hB, hS, tab, tcb, tac, q⟩ := h
  have hw := M.w
  have b1 := Tr.bd tab
  have b2 := Tr.bd tcb
  have b3 := Tr.bd tac
  simp only at b1 b2 b3
  have an : a < n := by omega
  have bn : b < n := by omega
  have cn : c < n := by omega
  have n0 := M.ne (show a ≠ b by omega) an bn
  refine ⟨_, (pss_cons (ps_set (i := 5) sc_third.nd rfl (.inl rfl) (pe_call (ok_between T) (hr.mono (by decide)) (by rfl) T.g_between T.F_between.kp T.b_between .nil pass0 (pa_cons (pv 0) (pa_cons (pv 2) (pa_cons (pv 3) pa_nil)))))
      (pss_cons (ps_set (i := 6) sc_third.nd rfl (.inl rfl) (pe_call (ok_over T) (hr.mono (by decide)) (by rfl) T.g_over T.F_over.kp T.b_over .nil passL (pa_cons (pe_call (ok_between T) (hr.mono (by decide)) (by rfl) T.g_between T.F_between.kp T.b_between .nil pass0 (pa_cons (pv 0) (pa_cons (pv 4) (pa_cons (pv 3) pa_nil)))) (pa_cons (pv 5) pa_nil))))
      (pss_cons (ps_set (i := 7) sc_third.nd rfl (.inl rfl) (pe_call (ok_over T) (hr.mono (by decide)) (by rfl) T.g_over T.F_over.kp T.b_over .nil passL (pa_cons (pe_call (ok_between T) (hr.mono (by decide)) (by rfl) T.g_between T.F_between.kp T.b_between .nil pass0 (pa_cons (pv 0) (pa_cons (pv 2) (pa_cons (pv 4) pa_nil)))) (pa_cons (pv 5) pa_nil))))
      (pss_one (ps_ret (pe_call (ok_pair_mixed T) (hr.mono (by decide)) (by rfl) T.g_pair_mixed T.F_pair_mixed.kp T.b_pair_mixed .nil pass0 (pa_cons (pe_dget (hu_of hr) (pv 1) (pv 2) (fun _ _ => rfl)) (pa_cons (pv 6) (pa_cons (pe_dget (hu_of hr) (pv 1) (pv 3) (fun _ _ => rfl)) (pa_cons (pv 7) pa_nil)))))))))), ?_⟩
  walk_at "st"
  refine ⟨d, t, D, a, b, rfl, hd, tab, by omega, M.anti bn an, fun w1 H1 s1 h1 => ?_⟩
  walk_at "st"
  refine ⟨d, t, D, c, b, rfl, hd.same s1, tcb, by omega, M.anti bn cn, fun w2 H2 s2 h2 => ?_⟩
  walk_at "st"
  refine ⟨_, _, _, _, B, B, rfl, h2.rat, (h1.keep (keeps s2)).rat, Z.rb cn bn, Z.rb an bn, by omega, fun z => absurd z n0, fun _ w3 H3 s3 n3 h3 => ?_⟩
  have s13 := s2.trans s3
  walk_at "st"
  refine ⟨d, t, D, a, c, rfl, hd.same (s1.trans s13), tac, by omega, M.anti cn an, fun w4 H4 s4 h4 => ?_⟩
  have s14 := s13.trans s4
  walk_at "st"
  refine ⟨_, _, _, _, B, B, rfl, h4.rat, (h1.keep (keeps s14)).rat, Z.rb an cn, Z.rb an bn, by omega, fun z => absurd z n0, fun _ w5 H5 s5 n5 h5 => ?_⟩
  have s05 := (s1.trans s14).trans s5
  have he5 := he.same s05
  walk_at "st"
  refine w_sdGet he5 ma (fun x hx => ?_)
  walk_at "st"
  refine w_sdGet he5 mb (fun y hy => ?_)
  walk_at "st"
  refine ⟨_, _, _, _, _, _, _, _, B, rfl, hx, frv_new ((s4.trans s5) _ _ h3), hy, frv_new h5, (hS a an).1, (hS a an).2, (hS b bn).1, (hS b bn).2, Z.quot cn bn an bn n0, Z.quot an cn an bn n0, hB, fun v H6 s6 nv hv => ?_⟩
  exact q v H6 (s05.trans s6) (s05.free nv) hv
end
section
variable {P : Program} {w : World} {K : PySem.W.Frag} {mg : Str → Option Value} {base : Heap}
def spStands (K : PySem.W.Frag) : Sp := fun vs H Q _ => ∃ (n : Nat) (c d : Addr) (cut : List IP) (t : Tr) (L : Len) (D : Nat → Nat → Rat) (F B : Nat), vs = [.int n, .ref c, .ref d] ∧ n ≤ 1000 ∧ PLt H c cut ∧ Cutting n cut t ∧ LenD K H d t D ∧ Meas n t L D ∧ Bd n D F B ∧ 4 * B ≤ 120000000 ∧
  ∀ (l : Addr) (H' : Hp) (ws : List V) (S : Nat → V2), Same H H' → H l = none → H' l = some (.lst ws) → All2 (PrV K H') ws ((List.range n).map S) → (∀ i k, i < n → k < n → det (S i) (S k) = D i k) → (∀ i, i < n → rb (S i).p B ∧ rb (S i).q B) → Q (.ref l) H'
theorem plots_bd2 {n : Nat} {cut : List IP} {t : Tr} (C : Cutting n cut t) (n2 : n ≤ 1000) : (∀ p ∈ tiesL n cut, -1000 ≤ p.2 ∧ p.2 ≤ 1000) ∧ (plots0 n (tiesL n cut) (tiesL n cut)).length ≤ 1000 := by
  refine ⟨fun p hp => ?_, ?_⟩
  · obtain ⟨q, hq, rfl⟩ := C.ties.mp hp
    have := Tr.bd hq
    have := C.w
    simp only [castP]
    omega
  · have := C.plots_len
    unfold plotsL at this
    rw [(sort3_perm _).length_eq] at this
    omega
theorem ok_stands (T : Tx P K mg base) : FnOk P w K mg base CX0 46 T.a_stands T.fd_stands ["n", "cut", "lengths"] (spStands K) := by
  refine T.F_stands.ok sc_stands (fun vs H Q E h => ?_) (fun cdv A outer s H vs Q E hr h => ?_)
  · obtain ⟨n, c, d, cut, t, L, D, F, B, rfl, _⟩ := h
    rfl
  obtain ⟨n, c, d, cut, t, L, D, F, B, rfl, n2, hc, C, hd, M, Z, hB, q⟩ := h
  have n3 := C.n3
  have cl := C.cut_len
  obtain ⟨pb1, pb2⟩ := plots_bd2 C n2
  refine ⟨_, (pss_cons (ps_set (i := 3) sc_stands.nd rfl (.inl rfl) (pe_call (ok_plots T) (hr.mono (by decide)) (by rfl) T.g_plots T.F_plots.kp T.b_plots .nil pass0 (pa_cons (pv 0) (pa_cons (pv 1) pa_nil))))
      (pss_cons (ps_asg (pe_ix (ix_listK (K := K)) (pv 3) (pe_int) (fun _ _ => rfl)) (k_gt (K := K) (pg_tup (by rfl) (pgs_cons (pg_name (i := 4) sc_stands.nd rfl (.inl rfl)) (pgs_cons (pg_name (i := 5) sc_stands.nd rfl (.inl rfl)) (pgs_cons (pg_name (i := 6) sc_stands.nd rfl (.inl rfl)) pgs_nil))))))
      (pss_cons (ps_set (i := 7) sc_stands.nd rfl (.inr rfl) (pe_disp (pps_cons (pv 4) (pe_tup (pa_cons (pe_glob (by rfl) T.g_ONE T.r_ONE) (pa_cons (pe_glob (by rfl) T.g_NOUGHT T.r_NOUGHT) pa_nil))) (pps_cons (pv 5) (pe_tup (pa_cons (pe_glob (by rfl) T.g_NOUGHT T.r_NOUGHT) (pa_cons (pe_dget (hu_of hr) (pv 2) (pe_tup (pa_cons (pv 4) (pa_cons (pv 5) pa_nil))) (fun _ _ => rfl)) pa_nil))) pps_nil)) rfl rfl (by simp) (by decide)))
      (pss_cons (ps_while PassesOwn.never (pt_cmpR op_lt (pe_callB c_lenD (by rfl) T.m_len PySem.boot_len (pa_cons (pv 7) pa_nil)) (pv 0) (nomark _)) (pss_one (ps_for PassesOwn.never rfl (k_il (K := K) (pi_list (pv 3))) (k_gt (K := K) (pg_tup (by rfl) (pgs_cons (pg_name (i := 4) sc_stands.nd rfl (.inl rfl)) (pgs_cons (pg_name (i := 5) sc_stands.nd rfl (.inl rfl)) (pgs_cons (pg_name (i := 6) sc_stands.nd rfl (.inl rfl)) pgs_nil))))) (C8.pss_cut (ps_if (PW.pt (pw_and (pt_cmp (pc_din (hu_of hr) (pv 4) (pv 7))) (pw_and (pt_cmp (pc_din (hu_of hr) (pv 5) (pv 7))) (pw_and1 (pt_cmp (pc_dnotin (hu_of hr) (pv 6) (pv 7))))))) (pss_one (ps_dput (hu_of hr) (pv 7) (pv 6) (pe_call (ok_third T) (hr.mono (by decide)) (by rfl) T.g_third T.F_third.kp T.b_third .nil pass0 (pa_cons (pv 2) (pa_cons (pv 7) (pa_cons (pv 4) (pa_cons (pv 5) (pa_cons (pv 6) pa_nil)))))) rfl)) pss_nil)
      (C8.pss_cut (ps_if (PW.pt (pw_and (pt_cmp (pc_din (hu_of hr) (pv 4) (pv 7))) (pw_and (pt_cmp (pc_din (hu_of hr) (pv 6) (pv 7))) (pw_and1 (pt_cmp (pc_dnotin (hu_of hr) (pv 5) (pv 7))))))) (pss_one (ps_dput (hu_of hr) (pv 7) (pv 5) (pe_call (ok_third T) (hr.mono (by decide)) (by rfl) T.g_third T.F_third.kp T.b_third .nil pass0 (pa_cons (pv 2) (pa_cons (pv 7) (pa_cons (pv 4) (pa_cons (pv 6) (pa_cons (pv 5) pa_nil)))))) rfl)) pss_nil)
      (pss_one (ps_if (PW.pt (pw_and (pt_cmp (pc_din (hu_of hr) (pv 5) (pv 7))) (pw_and (pt_cmp (pc_din (hu_of hr) (pv 6) (pv 7))) (pw_and1 (pt_cmp (pc_dnotin (hu_of hr) (pv 4) (pv 7))))))) (pss_one (ps_dput (hu_of hr) (pv 7) (pv 4) (pe_call (ok_third T) (hr.mono (by decide)) (by rfl) T.g_third T.F_third.kp T.b_third .nil pass0 (pa_cons (pv 2) (pa_cons (pv 7) (pa_cons (pv 5) (pa_cons (pv 6) (pa_cons (pv 4) pa_nil)))))) rfl)) pss_nil)))))))
      (pss_one (ps_ret (pe_lc (own := [("k", 8)]) (g := gName 8) (tt := tYes) rfl sc_stands.nd (pi_range1 (by rfl) T.m_range (pa_cons (pv 0) pa_nil)) (blkOk_by (N := N_stands) (sc := defScope s_stands) (by decide +kernel)) (fun _ _ _ _ _ => (pg_name (i := 8) sc_stands.nd rfl (.inl rfl))) (fun _ _ _ _ _ => pts_nil) (fun _ _ _ _ _ => (pe_dget (hu_of hr) (pv 7) (pv 8) (fun _ _ => rfl)))))))))), ?_⟩
  walk_at "st"
  refine ⟨n, c, cut, rfl, by omega, n2, hc, by omega, pb1, pb2, fun l H1 ws s1 nl hl ha => ?_⟩
  have pl := C.plots_len
  have wl := ha.length
  obtain ⟨e0, he0⟩ : ∃ e, ws[0]? = some e := ⟨ws[0], List.getElem?_eq_getElem (by omega)⟩
  obtain ⟨q0, hq0, u0, rfl, hu0⟩ := ha.get he0
  obtain ⟨⟨a, b, c0⟩, hp0, rfl⟩ := C.mem_plots.mp (List.mem_of_getElem? hq0)
  obtain ⟨⟨ab, bc⟩, tab, tbc, tac⟩ := Tr.plots_iff.mp hp0
  have hw := M.w
  have bn : b < n := by have := Tr.bd tab; simp only at this; omega
  have an : a < n := by omega
  walk_at "st"
  refine Pm.w_ixL (SqL.of hl) (v := .ref u0) (atI_nat (j := 0) he0) ?_
  walk_at "st"
  refine Pm.w_gtup (SqT.of hu0) rfl ?_
  walk_at "st"
  refine w_disp (fun e he => ?_)
  walk_at "st"
  have h1T : FrV K (upd H1 e (.dK [])) (.ref T.c_ONE) (rp 1) := ⟨_, rfl, .inr T.v_ONE⟩
  have h0T : ∀ H', FrV K H' (.ref T.c_NOUGHT) (rp 0) := fun H' => ⟨_, rfl, .inr T.v_NOUGHT⟩
  have h1T' : ∀ H', FrV K H' (.ref T.c_ONE) (rp 1) := fun H' => ⟨_, rfl, .inr T.v_ONE⟩
  have nab : a ≠ b := by omega
  refine Pm.w_newT (fun v1 hv1 => ?_)
  have s2 := same_new he (.dK [])
  have s3 := same_new hv1 (.tup [.ref T.c_ONE, .ref T.c_NOUGHT])
  walk_at "st"
  refine Pm.w_newT (fun v2 hv2 => ?_)
  have s4 := same_new hv2 (.tup [.int (cast3 (a, b, c0)).1, .int (cast3 (a, b, c0)).2.1])
  have s14 := (s1.trans s2).trans (s3.trans s4)
  refine w_lenGet (hd.same s14) (i := a) (k := b) (pr_new upd_same) tab (fun u hu => ?_)
  walk_at "st"
  refine Pm.w_newT (fun v3 hv3 => ?_)
  have s5 := same_new hv3 (.tup [.ref T.c_NOUGHT, .ref u])
  have s25 := (s3.trans s4).trans s5
  generalize hS : tgt D a b = S
  have Sa : S a = ⟨1, 0⟩ := by rw [← hS]; exact tgt_a M an bn nab
  have Sb : S b = ⟨0, D a b⟩ := by rw [← hS]; exact tgt_b M an bn nab
  have Srb : ∀ i, i < n → rb (S i).p B ∧ rb (S i).q B := fun i hi => by rw [← hS]; exact tgt_rb M Z an bn nab hi
  have Sdet : ∀ i k, i < n → k < n → det (S i) (S k) = D i k := fun i k hi hk => by rw [← hS]; exact tgt_det M an bn nab hi hk
  have Smix : ∀ x y z, x < n → y < n → z < n → x ≠ y → mix (S x) (D z y / D x y) (S y) (D x z / D x y) = S z := fun x y z hx hy hz ne => by rw [← hS]; exact tgt_mix M an bn nab hx hy hz ne
  walk_at "st"
  refine w_sdDisp (K := K) (S := S) (s25 _ _ upd_same) nab ?_ ?_ (fun es hSD kp => ?_)
  · rw [Sa]
    exact ⟨v1, _, _, rfl, (s4.trans s5) _ _ upd_same, h1T' _, h0T _⟩
  · rw [Sb]
    exact ⟨v3, _, _, rfl, upd_same, h0T _, hu.keep (keeps s5)⟩
  have He : H1 e = none := he
  have se : Same H1 (upd (upd (upd (upd (upd H1 e (.dK [])) v1 (.tup [.ref T.c_ONE, .ref T.c_NOUGHT])) v2 (.tup [.int (cast3 (a, b, c0)).1, .int (cast3 (a, b, c0)).2.1])) v3 (.tup [.ref T.c_NOUGHT, .ref u])) e (.dK es)) := same_but He (s2.trans s25)
  generalize (upd (upd (upd (upd (upd H1 e (.dK [])) v1 (.tup [.ref T.c_ONE, .ref T.c_NOUGHT])) v2 (.tup [.int (cast3 (a, b, c0)).1, .int (cast3 (a, b, c0)).2.1])) v3 (.tup [.ref T.c_NOUGHT, .ref u])) e (.dK es)) = H2 at se hSD
  walk_at "st"
  obtain ⟨qs, hqs⟩ : ∃ qs : List (Nat × Nat × Nat), plotsL n cut = qs.map cast3 := by
    have e : ∀ l : List I3, (∀ x ∈ l, ∃ y, x = cast3 y) → ∃ qs : List (Nat × Nat × Nat), l = qs.map cast3 := by
      intro l
      induction l with
      | nil => intro _; exact ⟨[], rfl⟩
      | cons x l ih =>
        intro h
        obtain ⟨y, rfl⟩ := h x List.mem_cons_self
        obtain ⟨qs, rfl⟩ := ih fun z hz => h z (List.mem_cons_of_mem _ hz)
        exact ⟨y :: qs, rfl⟩
    exact e _ fun x hx => let ⟨y, _, h⟩ := C.mem_plots.mp hx; ⟨y, h⟩
  have hall : ∀ q, q ∈ t.plots 0 → q ∈ qs := fun q hq => by
    have := C.mem_plots.mpr ⟨q, hq, rfl⟩
    rw [hqs] at this
    obtain ⟨p, hp, e⟩ := List.mem_map.mp this
    rw [← cast3_inj e]; exact hp
  have hmem : ∀ q, q ∈ qs → q ∈ t.plots 0 := fun q hq => by
    obtain ⟨p, hp, e⟩ := C.mem_plots.mp (by rw [hqs]; exact List.mem_map.mpr ⟨q, hq, rfl⟩)
    rw [cast3_inj e]; exact hp
  rw [hqs] at ha wl
  rw [List.length_map] at wl
  have stand : ∀ (H3 : Hp) (ks : List Nat), Same H1 H3 → SD K H3 e ks S → ∀ x y z, x < n → y < n → z < n → x ≠ y → x ∈ ks → y ∈ ks → (min x y, max x y) ∈ t.all 0 → (min z y, max z y) ∈ t.all 0 → (min x z, max x z) ∈ t.all 0 → ∀ QQ EE,
      (∀ (v : Addr) H4, Same H3 H4 → PrV K H4 (.ref v) (S z) → QQ (.ref v) H4) → spThird K [.ref d, .ref e, .int x, .int y, .int z] H3 QQ EE := by
    intro H3 ks s3 h3 x y z hx hy hz nxy mx my t1 t2 t3 QQ EE q3
    refine ⟨d, e, x, y, z, n, B, F, t, L, D, S, ks, rfl, hd.same (s1.trans s3), h3, mx, my, M, Z, hB, Srb, t1, t2, t3, fun v H4 s4 nv hv => ?_⟩
    rw [Smix x y z hx hy hz nxy] at hv
    exact q3 v H4 s4 hv
  refine Pm.w_while (fun m σ H3 => ∃ (ks : List Nat) (x y z : Option V), σ = [some (.int n), some (.ref c), some (.ref d), some (.ref l), x, y, z, some (.ref e), none] ∧ m = n - ks.length ∧ Same H1 H3 ∧ SD K H3 e ks S ∧ a ∈ ks ∧ b ∈ ks ∧ ∀ k ∈ ks, k < n) _ ⟨[a, b], _, _, _, rfl, rfl, se, hSD, by simp, by simp, by simp [an, bn]⟩ ?_
  rintro m σ H3 ⟨ks, x, y, z, rfl, rfl, s3, hSD, ma, mb, hk⟩
  have kl := nodup_bd hSD.nd hk
  walk_at "st"
  refine w_sdLen hSD ?_
  walk_at "st"
  refine Pm.w_wh (fun e1 => ?_) (fun e1 => ?_)
  · walk_at "st"
    refine Pm.w_rdL (SqL.of (s3 _ _ hl)) ?_
    refine Pm.w_forL (xs := ws) (fun i σ H4 => ∃ (x y z : Option V), σ = [some (.int n), some (.ref c), some (.ref d), some (.ref l), x, y, z, some (.ref e), none] ∧ Same H1 H4 ∧ SD K H4 e (runs ks (qs.take i)) S ∧ ∀ k ∈ runs ks (qs.take i), k < n) ⟨_, _, _, rfl, s3, by rw [List.take_zero]; exact hSD, by rw [List.take_zero]; exact hk⟩ (fun i σ H4 _ ⟨_, _, _, _, s4, _⟩ => SqL.of (s4 _ _ hl)) ?_ ?_
    · rintro i v σ H4 hi ⟨x, y, z, rfl, s3, hSD, hk⟩
      obtain ⟨q', hq', u', rfl, hu'⟩ := ha.get hi
      rw [List.getElem?_map] at hq'
      obtain ⟨⟨x1, y1, z1⟩, hqi, rfl⟩ := Option.map_eq_some_iff.mp hq'
      obtain ⟨⟨xy, yz⟩, txy, tyz, txz⟩ := Tr.plots_iff.mp (hmem _ (List.mem_of_getElem? hqi))
      have zn : z1 < n := by have := Tr.bd txz; simp only at this; omega
      have tk : runs ks (qs.take (i + 1)) = st3 (st3 (st3 (runs ks (qs.take i)) x1 y1 z1) x1 z1 y1) y1 z1 x1 := by rw [take_snoc hqi, runs_snoc]; rfl
      generalize runs ks (qs.take i) = k0 at tk hSD hk
      have k0l := nodup_bd hSD.nd hk
      walk_at "st"
      refine Pm.w_gtup (SqT.of (s3 _ _ hu')) rfl ?_
      walk_at "st"
      refine Pm.w_cut (fun σ' H' => σ' = [some (.int n), some (.ref c), some (.ref d), some (.ref l), some (.int x1), some (.int y1), some (.int z1), some (.ref e), none] ∧ Same H1 H' ∧ SD K H' e (st3 k0 x1 y1 z1) S) ?_ ?_
      · walk_at "st"
        refine w_sdIn hSD ?_
        walk_at "st"
        refine Pm.w_ite (fun m1 => ?_) (fun m1 => ?_)
        rotate_left
        · walk_at "st"
          have e9 : st3 (k0) x1 y1 z1 = k0 := if_neg (fun q => m1 q.1)
          exact ⟨rfl, s3, by rw [e9]; exact hSD⟩
        walk_at "st"
        refine w_sdIn hSD ?_
        walk_at "st"
        refine Pm.w_ite (fun m2 => ?_) (fun m2 => ?_)
        rotate_left
        · walk_at "st"
          have e9 : st3 (k0) x1 y1 z1 = k0 := if_neg (fun q => m2 q.2.1)
          exact ⟨rfl, s3, by rw [e9]; exact hSD⟩
        walk_at "st"
        refine w_sdNotIn hSD ?_
        walk_at "st"
        refine Pm.w_iteN (fun m3 => ?_) (fun m3 => ?_)
        rotate_left
        · walk_at "st"
          have e9 : st3 (k0) x1 y1 z1 = k0 := if_neg (fun q => q.2.2 m3)
          exact ⟨rfl, s3, by rw [e9]; exact hSD⟩
        walk_at "st"
        refine stand _ _ s3 hSD x1 y1 z1 (by omega) (by omega) zn (by omega) m1 m2 (by rw [Nat.min_eq_left (by omega), Nat.max_eq_right (by omega)]; exact txy) (by rw [Nat.min_eq_right (by omega), Nat.max_eq_left (by omega)]; exact tyz) (by rw [Nat.min_eq_left (by omega), Nat.max_eq_right (by omega)]; exact txz) _ _ (fun v H4 s4 hv => ?_)
        walk_at "st"
        refine w_sdPut (hSD.same s4) m3 hv (by omega) (fun es hSD kp => ?_)
        have e9 : st3 (k0) x1 y1 z1 = k0 ++ [z1] := if_pos ⟨m1, m2, m3⟩
        have s3 := same_but (o := .dK es) he (s3.trans s4)
        exact ⟨rfl, s3, by rw [e9]; exact hSD⟩
      rintro σ H4 ⟨rfl, s3, hSD⟩
      have hk1 := st3_mem (x := x1) (y := y1) hk zn
      generalize st3 k0 x1 y1 z1 = k1 at hSD hk1 tk
      have k1l := nodup_bd hSD.nd hk1
      refine Pm.w_cut (fun σ' H' => σ' = [some (.int n), some (.ref c), some (.ref d), some (.ref l), some (.int x1), some (.int y1), some (.int z1), some (.ref e), none] ∧ Same H1 H' ∧ SD K H' e (st3 k1 x1 z1 y1) S) ?_ ?_
      · walk_at "st"
        refine w_sdIn hSD ?_
        walk_at "st"
        refine Pm.w_ite (fun m1 => ?_) (fun m1 => ?_)
        rotate_left
        · walk_at "st"
          have e9 : st3 (k1) x1 z1 y1 = k1 := if_neg (fun q => m1 q.1)
          exact ⟨rfl, s3, by rw [e9]; exact hSD⟩
        walk_at "st"
        refine w_sdIn hSD ?_
        walk_at "st"
        refine Pm.w_ite (fun m2 => ?_) (fun m2 => ?_)
        rotate_left
        · walk_at "st"
          have e9 : st3 (k1) x1 z1 y1 = k1 := if_neg (fun q => m2 q.2.1)
          exact ⟨rfl, s3, by rw [e9]; exact hSD⟩
        walk_at "st"
        refine w_sdNotIn hSD ?_
        walk_at "st"
        refine Pm.w_iteN (fun m3 => ?_) (fun m3 => ?_)
        rotate_left
        · walk_at "st"
          have e9 : st3 (k1) x1 z1 y1 = k1 := if_neg (fun q => q.2.2 m3)
          exact ⟨rfl, s3, by rw [e9]; exact hSD⟩
        walk_at "st"
        refine stand _ _ s3 hSD x1 z1 y1 (by omega) zn (by omega) (by omega) m1 m2 (by rw [Nat.min_eq_left (by omega), Nat.max_eq_right (by omega)]; exact txz) (by rw [Nat.min_eq_left (by omega), Nat.max_eq_right (by omega)]; exact tyz) (by rw [Nat.min_eq_left (by omega), Nat.max_eq_right (by omega)]; exact txy) _ _ (fun v H4 s4 hv => ?_)
        walk_at "st"
        refine w_sdPut (hSD.same s4) m3 hv (by omega) (fun es hSD kp => ?_)
        have e9 : st3 (k1) x1 z1 y1 = k1 ++ [y1] := if_pos ⟨m1, m2, m3⟩
        have s3 := same_but (o := .dK es) he (s3.trans s4)
        exact ⟨rfl, s3, by rw [e9]; exact hSD⟩
      rintro σ H4 ⟨rfl, s3, hSD⟩
      have hk2 := st3_mem (x := x1) (y := z1) (z := y1) hk1 (by omega)
      generalize st3 k1 x1 z1 y1 = k2 at hSD hk2 tk
      have k2l := nodup_bd hSD.nd hk2
      have hk3 := st3_mem (x := y1) (y := z1) (z := x1) hk2 (by omega)
      have tk' : runs ks (qs.take (i + 1)) = st3 k2 y1 z1 x1 := tk
      rw [← tk'] at hk3
      walk_at "st"
      refine w_sdIn hSD ?_
      walk_at "st"
      refine Pm.w_ite (fun m1 => ?_) (fun m1 => ?_)
      rotate_left
      · walk_at "st"
        have e9 : st3 (k2) y1 z1 x1 = k2 := if_neg (fun q => m1 q.1)
        exact ⟨_, _, _, rfl, s3, by rw [tk', e9]; exact hSD, hk3⟩
      walk_at "st"
      refine w_sdIn hSD ?_
      walk_at "st"
      refine Pm.w_ite (fun m2 => ?_) (fun m2 => ?_)
      rotate_left
      · walk_at "st"
        have e9 : st3 (k2) y1 z1 x1 = k2 := if_neg (fun q => m2 q.2.1)
        exact ⟨_, _, _, rfl, s3, by rw [tk', e9]; exact hSD, hk3⟩
      walk_at "st"
      refine w_sdNotIn hSD ?_
      walk_at "st"
      refine Pm.w_iteN (fun m3 => ?_) (fun m3 => ?_)
      rotate_left
      · walk_at "st"
        have e9 : st3 (k2) y1 z1 x1 = k2 := if_neg (fun q => q.2.2 m3)
        exact ⟨_, _, _, rfl, s3, by rw [tk', e9]; exact hSD, hk3⟩
      walk_at "st"
      refine stand _ _ s3 hSD y1 z1 x1 (by omega) zn (by omega) (by omega) m1 m2 (by rw [Nat.min_eq_left (by omega), Nat.max_eq_right (by omega)]; exact tyz) (by rw [Nat.min_eq_left (by omega), Nat.max_eq_right (by omega)]; exact txz) (by rw [Nat.min_eq_right (by omega), Nat.max_eq_left (by omega)]; exact txy) _ _ (fun v H4 s4 hv => ?_)
      walk_at "st"
      refine w_sdPut (hSD.same s4) m3 hv (by omega) (fun es hSD kp => ?_)
      have e9 : st3 (k2) y1 z1 x1 = k2 ++ [x1] := if_pos ⟨m1, m2, m3⟩
      have s3 := same_but (o := .dK es) he (s3.trans s4)
      exact ⟨_, _, _, rfl, s3, by rw [tk', e9]; exact hSD, hk3⟩
    · rintro σ H4 ⟨x, y, z, rfl, s4, hSD4, hk4⟩
      rw [List.take_of_length_le (by omega)] at hSD4 hk4
      refine ⟨n - (runs ks qs).length, ?_, _, _, _, _, rfl, rfl, s4, hSD4, runs_sub ma, runs_sub mb, hk4⟩
      have := runs_more C hall hSD.nd tab ma mb (by omega) hk
      omega
  · walk_at "st"
    rw [Int.toNat_natCast]
    refine Pm.w_lcRm (R := PrV K) prv_mono S (by omega) (fun Dl i H4 Nx hD hi s4 put => ?_) (fun Dl H4 ws2 hD s4 hd4 ha4 => ?_)
    · walk_at "st"
      rw [Int.zero_add]
      refine w_sdGet (hSD.same s4) (all_in hSD.nd hk (by omega) hi) (fun u hu => ?_)
      exact put _ _ (Same.refl _) hu
    · exact q Dl H4 ws2 S ((s1.trans s3).trans s4) (s1.free (s3.free hD)) hd4 ha4 Sdet Srb
end
theorem besides_snoc (T : List IP) (a b : Int) (i : Nat) : ((List.range (i + 1)).filter (isBeside T a b)).map (fun c : Nat => (c : Int)) = ((List.range i).filter (isBeside T a b)).map (fun c : Nat => (c : Int)) ++ (if isBeside T a b i = true then [(i : Int)] else []) := by
  rw [List.range_succ, List.filter_append, List.map_append]
  congr 1
  by_cases h : isBeside T a b i = true
  · simp [h]
  · simp [h]
/-- a new list of numbers -/
def ILNew (H : Hp) (ns : List Int) (Q : VK) : Prop := ∀ (p : Addr) (H' : Hp), Same H H' → H p = none → H' p = some (.lst (ns.map V.int)) → Q (.ref p) H'
section
variable {P : Program} {w : World} {K : PySem.W.Frag} {mg : Str → Option Value} {base : Heap}
def spBeside (C : Addr) : Sp := fun vs H Q E => ∃ (n : Nat) (c : Addr) (cut : List IP) (a b : Int), vs = [.int n, .ref c, .int a, .int b] ∧ 1 ≤ n ∧ n ≤ 1000 ∧ PLt H c cut ∧ cut.length ≤ 1000 ∧
  (tieOf a b ∉ tiesL n cut → ∀ H', Same H H' → E (.ref C) none H') ∧ (tieOf a b ∈ tiesL n cut → ILNew H (besideL n (tiesL n cut) a b) Q)
theorem ok_beside (T : Tx P K mg base) : FnOk P w K mg base (L2.CX P w) 43 T.a_beside T.fd_beside ["n", "cut", "a", "b"] (spBeside T.c_NoRope) := by
  refine T.F_beside.okX sc_beside (fun vs H Q E h => ?_) (fun cdv A outer s H vs Q E hr h => ?_)
  · obtain ⟨n, c, cut, a, b, rfl, _⟩ := h
    rfl
  obtain ⟨n, c, cut, a, b, rfl, n1, n2, hc, cl, hE, q⟩ := h
  refine ⟨_, (pss_cons (ps_set (i := 4) sc_beside.nd rfl (.inl rfl) (pe_call (ok_ties T) (hr.mono (by decide)) (by rfl) T.g_ties T.F_ties.kp T.b_ties .nil pass0 (pa_cons (pv 0) (pa_cons (pv 1) pa_nil))))
      (pss_cons (ps_if (pt_cmpR (op_notInDK (K := K) hr.u65) (pe_call (ok_tie_of T) (hr.mono (by decide)) (by rfl) T.g_tie_of T.F_tie_of.kp T.b_tie_of .nil pass0 (pa_cons (pv 2) (pa_cons (pv 3) pa_nil))) (pv 4) (by rfl)) (pss_one (ps_raise rfl (takes_of rfl rfl rfl rfl) (pmk_own PySem.F.excBase_ValueError T.x_NoRope T.g_NoRope T.k_NoRope (raises_own T.b_NoRope T.t_NoRope) rfl))) pss_nil)
      (pss_cons (ps_set (i := 5) sc_beside.nd rfl (.inl rfl) (pe_lst pa_nil))
      (pss_cons (ps_for (passes_of rfl) rfl (pi_range1 (by rfl) T.m_range (pa_cons (pv 0) pa_nil)) (pg_name (i := 6) sc_beside.nd rfl (.inl rfl)) (pss_one (ps_if (PW.pt (pw_and (pt_cmpR (op_inDK (K := K) hr.u65) (pe_call (ok_tie_of T) (hr.mono (by decide)) (by rfl) T.g_tie_of T.F_tie_of.kp T.b_tie_of .nil pass0 (pa_cons (pv 2) (pa_cons (pv 6) pa_nil))) (pv 4) (by rfl)) (pw_and1 (pt_cmpR (op_inDK (K := K) hr.u65) (pe_call (ok_tie_of T) (hr.mono (by decide)) (by rfl) T.g_tie_of T.F_tie_of.kp T.b_tie_of .nil pass0 (pa_cons (pv 3) (pa_cons (pv 6) pa_nil))) (pv 4) (by rfl))))) (pss_one (ps_expr (k_bm (K := K) (pe_bm PySem.F.plainAttrs_list PySem.F.slot_list_append PySem.F.type_list_append mt_append (pv 5) (pa_cons (pv 6) pa_nil))))) pss_nil)))
      (pss_one (ps_ret (pv 5))))))), ?_⟩
  walk_at "st"
  refine ⟨n, c, cut, rfl, n1, n2, hc, cl, fun l H1 ws s1 nl hl ha => ?_⟩
  walk_at "st"
  refine ⟨a, b, rfl, fun t H2 s2 nt ht => ?_⟩
  walk_at "st"
  refine Pm.w_ninPL ht (SqL.of (s2 _ _ hl)) (prs_keep (keeps s2) ha) ?_
  walk_at "st"
  refine Pm.w_iteN (fun e => ?_) (fun e => ?_)
  · exact hE e _ (s1.trans s2)
  walk_at "st"
  refine Pm.w_newL (fun f hf => ?_)
  walk_at "st"
  rw [Int.toNat_natCast]
  have s3 : Same H2 (upd H2 f (.lst [])) := same_new hf _
  have nlf : l ≠ f := ne_of_none (s2 _ _ hl) hf
  have hHf : H f = none := (s1.trans s2).free hf
  refine Pm.w_forR (fun i σ H3 => ∃ x, σ = [some (.int n), some (.ref c), some (.int a), some (.int b), some (.ref l), some (.ref f), x] ∧ Same H H3 ∧ H3 l = some (.lst ws) ∧ Prs H3 ws (tiesL n cut) ∧ H3 f = some (.lst ((((List.range i).filter (isBeside (tiesL n cut) a b)).map fun c : Nat => (c : Int)).map V.int))) ?_ ?_ ?_
  · exact ⟨_, rfl, same_but hHf (s1.trans s2), s3 _ _ (s2 _ _ hl), prs_keep (keeps (s2.trans s3)) ha, upd_same⟩
  · rintro i σ H3 hi ⟨x, rfl, sm, hl3, ha3, hf3⟩
    have hz : ((((List.range i).filter (isBeside (tiesL n cut) a b)).map fun c : Nat => (c : Int)).map V.int).length < sizeLine := by
      rw [List.length_map, List.length_map]
      have := List.length_filter_le (isBeside (tiesL n cut) a b) (List.range i)
      rw [List.length_range] at this
      exact size_lt (by omega)
    have fin : ∀ H5 : Hp, Same H3 H5 → isBeside (tiesL n cut) a b i = false → ∃ x, ([some (.int n), some (.ref c), some (.int a), some (.int b), some (.ref l), some (.ref f), some (.int (0 + (i : Nat)))] : L2.St) = [some (.int n), some (.ref c), some (.int a), some (.int b), some (.ref l), some (.ref f), x] ∧ Same H H5 ∧ H5 l = some (.lst ws) ∧ Prs H5 ws (tiesL n cut) ∧ H5 f = some (.lst ((((List.range (i + 1)).filter (isBeside (tiesL n cut) a b)).map fun c : Nat => (c : Int)).map V.int)) := fun H5 s5 z => by
      refine ⟨_, rfl, sm.trans s5, s5 _ _ hl3, prs_keep (keeps s5) ha3, ?_⟩
      rw [besides_snoc, z, if_neg Bool.false_ne_true, List.append_nil]
      exact s5 _ _ hf3
    walk_at "st"
    refine ⟨a, _, rfl, fun t4 H4 s4 nt4 ht4 => ?_⟩
    rw [Int.zero_add] at ht4
    walk_at "st"
    refine Pm.w_inPL ht4 (SqL.of (s4 _ _ hl3)) (prs_keep (keeps s4) ha3) ?_
    walk_at "st"
    refine Pm.w_ite (fun e1 => ?_) (fun e1 => ?_)
    · walk_at "st"
      refine ⟨b, _, rfl, fun t5 H5 s5 nt5 ht5 => ?_⟩
      rw [Int.zero_add] at ht5
      have s45 := s4.trans s5
      walk_at "st"
      refine Pm.w_inPL ht5 (SqL.of (s45 _ _ hl3)) (prs_keep (keeps s45) ha3) ?_
      walk_at "st"
      refine Pm.w_ite (fun e2 => ?_) (fun e2 => ?_)
      · have z : isBeside (tiesL n cut) a b i = true := by unfold isBeside; rw [decide_eq_true e1, decide_eq_true e2]; rfl
        walk_at "st"
        refine ⟨.inl ⟨rfl, _, SqL.of (s45 _ _ hf3)⟩, ?_⟩
        walk_at "st"
        refine Pm.w_append (s45 _ _ hf3) hz ?_
        walk_at "st"
        refine ⟨_, rfl, same_but hHf (sm.trans s45), ?_, ?_, ?_⟩
        · rw [upd_ne nlf]; exact s45 _ _ hl3
        · exact prs_keep (keeps_lst (s45 _ _ hf3)) (prs_keep (keeps s45) ha3)
        · rw [upd_same, besides_snoc, z, if_pos rfl, List.map_append, Int.zero_add]
          rfl
      · have z : isBeside (tiesL n cut) a b i = false := by unfold isBeside; rw [decide_eq_false e2, Bool.and_false]
        walk_at "st"
        exact fin H5 s45 z
    · have z : isBeside (tiesL n cut) a b i = false := by unfold isBeside; rw [decide_eq_false e1, Bool.false_and]
      walk_at "st"
      exact fin H4 s4 z
  · rintro σ H3 ⟨x, rfl, sm, hl3, ha3, hf3⟩
    walk_at "st"
    exact q e f _ sm hHf hf3
end
section
variable {P : Program} {w : World} {K : PySem.W.Frag} {mg : Str → Option Value} {base : Heap}
def spTurned (C : Addr) : Sp := fun vs H Q E => ∃ (n : Nat) (c : Addr) (cut : List IP) (a b : Int), vs = [.int n, .ref c, .int a, .int b] ∧ 1 ≤ n ∧ n ≤ 1000 ∧ PLt H c cut ∧ cut.length ≤ 1000 ∧
  (tieOf a b ∉ cut → ∀ H', Same H H' → E (.ref C) none H') ∧ (tieOf a b ∈ cut → 2 ≤ (besideL n (tiesL n cut) a b).length ∧ PLNew H (turnedL n cut a b) Q)
theorem ok_turned (T : Tx P K mg base) : FnOk P w K mg base (L2.CX P w) 44 T.a_turned T.fd_turned ["n", "cut", "a", "b"] (spTurned T.c_NoRope) := by
  refine T.F_turned.okX sc_turned (fun vs H Q E h => ?_) (fun cdv A outer s H vs Q E hr h => ?_)
  · obtain ⟨n, c, cut, a, b, rfl, _⟩ := h
    rfl
  obtain ⟨n, c, cut, a, b, rfl, n1, n2, hc, cl, hE, q⟩ := h
  refine ⟨_, (pss_cons (ps_set (i := 4) sc_turned.nd rfl (.inr rfl) (pe_call (ok_tie_of T) (hr.mono (by decide)) (by rfl) T.g_tie_of T.F_tie_of.kp T.b_tie_of .nil pass0 (pa_cons (pv 2) (pa_cons (pv 3) pa_nil))))
      (pss_cons (ps_if (pt_cmpR (op_notInDK (K := K) hr.u65) (pv 4) (pv 1) (by rfl)) (pss_one (ps_raise rfl (takes_of rfl rfl rfl rfl) (pmk_own PySem.F.excBase_ValueError T.x_NoRope T.g_NoRope T.k_NoRope (raises_own T.b_NoRope T.t_NoRope) rfl))) pss_nil)
      (pss_cons (ps_set (i := 5) sc_turned.nd rfl (.inl rfl) (pe_call (ok_beside T) (hr.mono (by decide)) (by rfl) T.g_beside T.F_beside.kp T.b_beside .nil (passes_call (takes_of rfl rfl rfl rfl) (fun _ _ _ _ h => h)) (pa_cons (pv 0) (pa_cons (pv 1) (pa_cons (pv 2) (pa_cons (pv 3) pa_nil))))))
      (pss_one (ps_ret (pe_callB (cr_sortK (K := K)) (by rfl) T.m_sorted (by decide +kernel) (pa_cons (pe_op op_cat (pe_lc (own := [("one", 6)]) (g := gName 6) rfl sc_turned.nd (k_il (K := K) (pi_list (pv 1))) (blkOk_by (N := N_turned) (sc := defScope s_turned) (by decide +kernel)) (fun _ _ _ _ _ => (pg_name (i := 6) sc_turned.nd rfl (.inl rfl))) (fun _ _ _ _ _ => (pts_one (pt_cmpR (op_neDK (K := K) hr.units) (pv 6) (pv 4) (nomark _)))) (fun _ _ _ _ _ => (pv 6))) (pe_lst (pa_cons (pe_tup (pa_cons (pe_ix (ix_listK (K := K)) (pv 5) (pe_int) (fun _ _ => rfl)) (pa_cons (pe_ix (ix_listK (K := K)) (pv 5) (pe_int) (fun _ _ => rfl)) pa_nil))) pa_nil))) pa_nil))))))), ?_⟩
  walk_at "st"
  refine ⟨a, b, rfl, fun r H1 s1 nr hr1 => ?_⟩
  obtain ⟨cv1, hc1, hp1⟩ := hc.same s1
  walk_at "st"
  refine Pm.w_ninPL hr1 (SqL.of hc1) hp1 ?_
  walk_at "st"
  refine Pm.w_iteN (fun e => ?_) (fun e => ?_)
  · exact hE e _ s1
  obtain ⟨l2, q⟩ := q e
  walk_at "st"
  refine ⟨n, c, cut, a, b, rfl, n1, n2, ⟨cv1, hc1, hp1⟩, cl, fun z => absurd (mem_ties.mpr (.inr e)) z, fun _ l H2 s2 nl hl => ?_⟩
  obtain ⟨cv2, hc2, hp2⟩ := PLt.same ⟨cv1, hc1, hp1⟩ s2
  walk_at "st"
  refine Pm.w_rdL (SqL.of hc2) ?_
  refine Pm.w_lcLf (R := Pr) pr_mono (S := Pr) pr_mono (SqL.of hc2) hp2 id (fun p => !decide (p = tieOf a b)) (by omega) (fun D x p H3 Nx hD hm hs s3 put skip => ?_) (fun D H3 ws hD s3 hd ha => ?_)
  · obtain ⟨t, rfl, ht⟩ := hs
    obtain ⟨u, eu, hu⟩ := hr1.keep (keeps (s2.trans s3))
    cases eu
    walk_at "st"
    refine Pm.w_neP ⟨t, rfl, ht⟩ ⟨_, rfl, hu⟩ ?_
    walk_at "st"
    refine Pm.w_iteN (fun z => ?_) (fun z => ?_)
    · walk_at "st"
      exact put _ _ (by simp [z]) (Same.refl _) ⟨t, rfl, ht⟩
    · exact skip _ (by simp [z]) (Same.refl _)
  · rw [List.map_id] at ha
    have hl3 := s3 _ _ hl
    walk_at "st"
    refine Pm.w_ixL (SqL.of hl3) (atI_getD (i := 0) (by omega)) ?_
    walk_at "st"
    refine Pm.w_ixL (SqL.of hl3) (atI_getD (i := 1) (by omega)) ?_
    walk_at "st"
    refine Pm.w_newT (fun t ht => ?_)
    walk_at "st"
    refine Pm.w_newL (fun k hk => ?_)
    have nDk : D ≠ k := ne_of_none (o := .lst ws) ((same_new ht _) _ _ hd) hk
    have hlen := ha.length
    have hlf := List.length_filter_le (fun p : IP => !decide (p = tieOf a b)) cut
    refine Pm.w_cat (by rw [upd_ne nDk, upd_ne (ne_of_none hd ht)]; exact hd) upd_same (size_ok (by rw [List.length_singleton]; omega)) (fun g hg => ?_)
    have k1 := keeps ((same_new ht (.tup [.int ((besideL n (tiesL n cut) a b).getD 0 0), .int ((besideL n (tiesL n cut) a b).getD 1 0)])).trans ((same_new hk (.lst [.ref t])).trans (same_new hg (.lst (ws ++ [.ref t])))))
    have s4 := (same_new ht (.tup [.int ((besideL n (tiesL n cut) a b).getD 0 0), .int ((besideL n (tiesL n cut) a b).getD 1 0)])).trans ((same_new hk (.lst [.ref t])).trans (same_new hg (.lst (ws ++ [.ref t]))))
    refine Pm.w_sortP (SqL.of upd_same) ((prs_keep k1 ha).append (ys' := [((besideL n (tiesL n cut) a b).getD 0 0, (besideL n (tiesL n cut) a b).getD 1 0)]) ⟨⟨t, rfl, ?_⟩, trivial⟩) (fun ys p2 hp2' hy => ?_)
    · exact ((same_new hk _).trans (same_new hg _)) _ _ upd_same
    · have s5 := s1.trans (s2.trans (s3.trans s4))
      exact q p2 _ ys (s5.trans (same_new hp2' _)) (s5.free hp2') upd_same (prs_keep (keeps (same_new hp2' _)) hy)
end
section
variable {P : Program} {w : World} {K : PySem.W.Frag} {mg : Str → Option Value} {base : Heap}
def spTwo (C : Addr) : Sp := fun vs H Q E => ∃ (n : Nat) (a b : Int), vs = [.int n, .int a, .int b] ∧ (¬ twoOk n a b → E (.ref C) none H) ∧ (twoOk n a b → Q .non H)
theorem ok_two_posts (T : Tx P K mg base) : FnOk P w K mg base (L2.CX P w) 41 T.a_two_posts T.fd_two_posts ["n", "a", "b"] (spTwo T.c_NoPost) := by
  refine T.F_two_posts.okX sc_two_posts (fun vs H Q E h => ?_) (fun cdv A outer s H vs Q E hr h => ?_)
  · obtain ⟨n, a, b, rfl, _⟩ := h
    rfl
  obtain ⟨n, a, b, rfl, hE, q⟩ := h
  refine ⟨_, (pss_one (ps_if (PW.pt (pw_or (pt_cmpR op_lt (pv 1) (pe_int) (nomark _)) (pw_or (pt_cmpR op_lt (pv 2) (pe_int) (nomark _)) (pw_or (pt_cmpR op_ge (pv 1) (pv 0) (nomark _)) (pw_or (pt_cmpR op_ge (pv 2) (pv 0) (nomark _)) (pw_or1 (pt_cmpR op_eq (pv 1) (pv 2) (nomark _)))))))) (pss_one (ps_raise rfl (takes_of rfl rfl rfl rfl) (pmk_own PySem.F.excBase_ValueError T.x_NoPost T.g_NoPost T.k_NoPost (raises_own T.b_NoPost T.t_NoPost) rfl))) pss_nil)), ?_⟩
  walk_at "st"
  refine Pm.w_ite (fun e => hE (fun z => by unfold twoOk at z; omega)) (fun e1 => ?_)
  walk_at "st"
  refine Pm.w_ite (fun e => hE (fun z => by unfold twoOk at z; omega)) (fun e2 => ?_)
  walk_at "st"
  refine Pm.w_ite (fun e => hE (fun z => by unfold twoOk at z; omega)) (fun e3 => ?_)
  walk_at "st"
  refine Pm.w_ite (fun e => hE (fun z => by unfold twoOk at z; omega)) (fun e4 => ?_)
  walk_at "st"
  refine Pm.w_ite (fun e => hE (fun z => by unfold twoOk at z; omega)) (fun e5 => ?_)
  walk_at "st"
  exact q ⟨⟨by omega, by omega⟩, ⟨by omega, by omega⟩, e5⟩
def spMeasured (K : PySem.W.Frag) (C : Addr) : Sp := fun vs H Q E => ∃ (n : Nat) (c d : Addr) (cut : List IP) (t : Tr) (L : Len) (D : Nat → Nat → Rat) (F B : Nat) (a b : Int), vs = [.int n, .ref c, .ref d, .int a, .int b] ∧ n ≤ 1000 ∧ PLt H c cut ∧ Cutting n cut t ∧ LenD K H d t D ∧ Meas n t L D ∧ Bd n D F B ∧ 4 * B ≤ 120000000 ∧
  (¬ twoOk n a b → E (.ref C) none H) ∧ (twoOk n a b → FrNew H (D (min a.toNat b.toNat) (max a.toNat b.toNat)) Q)
theorem ok_measured (T : Tx P K mg base) : FnOk P w K mg base (L2.CX P w) 47 T.a_measured T.fd_measured ["n", "cut", "lengths", "a", "b"] (spMeasured K T.c_NoPost) := by
  refine T.F_measured.okX sc_measured (fun vs H Q E h => ?_) (fun cdv A outer s H vs Q E hr h => ?_)
  · obtain ⟨n, c, d, cut, t, L, D, F, B, a, b, rfl, _⟩ := h
    rfl
  obtain ⟨n, c, d, cut, t, L, D, F, B, a, b, rfl, n2, hc, C, hd, M, Z, hB, hE, q⟩ := h
  refine ⟨_, (pss_cons (ps_expr (pe_call (ok_two_posts T) (hr.mono (by decide)) (by rfl) T.g_two_posts T.F_two_posts.kp T.b_two_posts .nil (passes_call (takes_of rfl rfl rfl rfl) (fun _ _ _ _ h => h)) (pa_cons (pv 0) (pa_cons (pv 3) (pa_cons (pv 4) pa_nil)))))
      (pss_cons (ps_set (i := 5) sc_measured.nd rfl (.inl rfl) (pe_call (ok_stands T) (hr.mono (by decide)) (by rfl) T.g_stands T.F_stands.kp T.b_stands .nil pass0 (pa_cons (pv 0) (pa_cons (pv 1) (pa_cons (pv 2) pa_nil)))))
      (pss_one (ps_ret (pe_call (ok_spread T) (hr.mono (by decide)) (by rfl) T.g_spread T.F_spread.kp T.b_spread .nil pass0 (pa_cons (pe_ix (ix_listK (K := K)) (pv 5) (pe_callB (c_min rfl) (by rfl) T.m_min (by decide +kernel) (pa_cons (pv 3) (pa_cons (pv 4) pa_nil))) (fun _ _ => rfl)) (pa_cons (pe_ix (ix_listK (K := K)) (pv 5) (pe_callB (c_max rfl) (by rfl) T.m_max (by decide +kernel) (pa_cons (pv 3) (pa_cons (pv 4) pa_nil))) (fun _ _ => rfl)) pa_nil))))))), ?_⟩
  walk_at "st"
  refine ⟨n, a, b, rfl, hE, fun ok => ?_⟩
  have q := q ok
  obtain ⟨⟨a0, a1⟩, ⟨b0, b1⟩, ne⟩ := ok
  obtain ⟨x, rfl⟩ : ∃ x : Nat, a = (x : Int) := ⟨a.toNat, by omega⟩
  obtain ⟨y, rfl⟩ : ∃ x : Nat, b = (x : Int) := ⟨b.toNat, by omega⟩
  rw [Int.toNat_natCast, Int.toNat_natCast] at q
  walk_at "st"
  refine ⟨n, c, d, cut, t, L, D, F, B, rfl, n2, hc, C, hd, M, Z, hB, fun l H1 ws S s1 nl hl ha hS hb => ?_⟩
  have pr : ∀ {i : Nat}, i < n → ∃ u, ws[i]? = some (.ref u) ∧ PrV K H1 (.ref u) (S i) := fun {i} hi => by
    obtain ⟨v, hv, r⟩ := ha.get' (i := i) (y := S i) (by rw [List.getElem?_map, List.getElem?_range hi]; rfl)
    obtain ⟨t, u, w, rfl, r'⟩ := id r
    exact ⟨t, hv, r⟩
  have mn : min x y < n := by omega
  have mx : max x y < n := by omega
  obtain ⟨u1, hu1, p1⟩ := pr mn
  obtain ⟨u2, hu2, p2⟩ := pr mx
  have emin : min (x : Int) (y : Int) = ((min x y : Nat) : Int) := by omega
  have emax : max (x : Int) (y : Int) = ((max x y : Nat) : Int) := by omega
  walk_at "st"
  rw [emin]
  refine Pm.w_ixL (SqL.of hl) (atI_nat hu1) ?_
  walk_at "st"
  rw [emax]
  refine Pm.w_ixL (SqL.of hl) (atI_nat hu2) ?_
  walk_at "st"
  refine ⟨u1, u2, _, _, B, rfl, p1, p2, (hb _ mn).1, (hb _ mn).2, (hb _ mx).1, (hb _ mx).2, hB, fun v H2 s2 nv hv => ?_⟩
  rw [hS _ _ mn mx] at hv
  exact q v H2 (s1.trans s2) (s1.free nv) hv
end
section
variable {P : Program} {w : World} {K : PySem.W.Frag} {mg : Str → Option Value} {base : Heap}
/-- the rope of two posts in a cutting -/
theorem Cutting.rope_nat {n : Nat} {cut : List IP} {t : Tr} (C : Cutting n cut t) {a b : Int} (h : tieOf a b ∈ cut) : ∃ x y : Nat, tieOf a b = castP (x, y) ∧ (x, y) ∈ t.ropes 0 ∧ turnedL n cut a b = turnedL n cut x y := by
  obtain ⟨⟨x, y⟩, hq, e⟩ := C.mem.mp h
  refine ⟨x, y, e, hq, ?_⟩
  have e1 := congrArg Prod.fst e
  have e2 := congrArg Prod.snd e
  simp only [tieOf, castP] at e1 e2
  rcases Int.le_total a b with z | z
  · rw [show a = (x : Int) by omega, show b = (y : Int) by omega]
  · rw [turned_comm, show a = (y : Int) by omega, show b = (x : Int) by omega]
/-- the dict of a cutting's lengths behind a turning -/
theorem laid_len {H : Hp} {d' : Addr} {n : Nat} {cut : List IP} {t t' : Tr} {x y m o : Nat} {Rr : List (Nat × Nat)} {D : Nat → Nat → Rat} {ks ks' : List IP} {L L' : IP → IP} (C : Cutting n cut t) (U : Turning n cut t t' x y m o Rr)
    (hks : ∀ p, p ∈ ks ↔ ∃ q, q ∈ t.all 0 ∧ p = castP q) (hL : ∀ q ∈ t.all 0, L (castP q) = rp (D q.1 q.2)) (hLD : LD K H d' ks' L') (h1 : ∀ p, p ∈ ks' ↔ (p ∈ ks ∧ p ≠ castP (x, y)) ∨ p = castP (min m o, max m o)) (h2 : ∀ p ∈ ks, p ≠ castP (x, y) → L' p = L p) (h3 : L' (castP (min m o, max m o)) = rp (D (min m o) (max m o))) : LenD K H d' t' D := by
  refine ⟨ks', L', hLD, fun p => ?_, fun q hq => ?_⟩
  · rw [h1]
    constructor
    · rintro (⟨hp, ne⟩ | rfl)
      · obtain ⟨q, hq, rfl⟩ := (hks p).mp hp
        exact ⟨q, (U.all_iff C).mpr (.inl ⟨hq, fun z => ne (by rw [z])⟩), rfl⟩
      · exact ⟨_, (U.all_iff C).mpr (.inr rfl), rfl⟩
    · rintro ⟨q, hq, rfl⟩
      rcases (U.all_iff C).mp hq with ⟨hq, ne⟩ | rfl
      · exact .inl ⟨(hks _).mpr ⟨q, hq, rfl⟩, fun z => ne (castP_inj z)⟩
      · exact .inr rfl
  · rcases (U.all_iff C).mp hq with ⟨hq, ne⟩ | rfl
    · rw [h2 _ ((hks _).mpr ⟨q, hq, rfl⟩) (fun z => ne (castP_inj z)), hL q hq]
    · exact h3
theorem Meas.turn' {n : Nat} {cut : List IP} {t t' : Tr} {x y m o : Nat} {R : List (Nat × Nat)} {L : Len} {D : Nat → Nat → Rat} (M : Meas n t L D) (C : Cutting n cut t) (U : Turning n cut t t' x y m o R) : Meas n t' (fun p => D p.1 p.2) D :=
  M.turn C U (fun p hp _ => M.tie hp) rfl
def spLaid (K : PySem.W.Frag) (C : Addr) : Sp := fun vs H Q E => ∃ (n : Nat) (c d : Addr) (cut : List IP) (t : Tr) (L : Len) (D : Nat → Nat → Rat) (F B : Nat) (a b : Int), vs = [.int n, .ref c, .ref d, .int a, .int b] ∧ n ≤ 1000 ∧ PLt H c cut ∧ Cutting n cut t ∧ LenD K H d t D ∧ Meas n t L D ∧ Bd n D F B ∧ 4 * B ≤ 120000000 ∧
  (tieOf a b ∉ cut → ∀ H', Same H H' → E (.ref C) none H') ∧ (tieOf a b ∈ cut → ∀ (d' : Addr) (H' : Hp) (t' : Tr), Same H H' → H d' = none → Cutting n (turnedL n cut a b) t' → LenD K H' d' t' D → Meas n t' (fun p => D p.1 p.2) D → Q (.ref d') H')
theorem ok_laid (T : Tx P K mg base) : FnOk P w K mg base (L2.CX P w) 48 T.a_laid T.fd_laid ["n", "cut", "lengths", "a", "b"] (spLaid K T.c_NoRope) := by
  refine T.F_laid.okX sc_laid (fun vs H Q E h => ?_) (fun cdv A outer s H vs Q E hr h => ?_)
  · obtain ⟨n, c, d, cut, t, L, D, F, B, a, b, rfl, _⟩ := h
    rfl
  obtain ⟨n, c, d, cut, t, L, D, F, B, a, b, rfl, n2, hc, C, hd, M, Z, hB, hE, q⟩ := h
  have cl := C.cut_len
  have n3 := C.n3
  refine ⟨_, (pss_cons (ps_set (i := 5) sc_laid.nd rfl (.inl rfl) (pe_call (ok_tie_of T) (hr.mono (by decide)) (by rfl) T.g_tie_of T.F_tie_of.kp T.b_tie_of .nil pass0 (pa_cons (pv 3) (pa_cons (pv 4) pa_nil))))
      (pss_cons (ps_if (pt_cmpR (op_notInDK (K := K) hr.u65) (pv 5) (pv 1) (by rfl)) (pss_one (ps_raise rfl (takes_of rfl rfl rfl rfl) (pmk_own PySem.F.excBase_ValueError T.x_NoRope T.g_NoRope T.k_NoRope (raises_own T.b_NoRope T.t_NoRope) rfl))) pss_nil)
      (pss_cons (ps_set (i := 6) sc_laid.nd rfl (.inl rfl) (pe_ix (ix_listK (K := K)) (pe_lc (own := [("one", 7)]) (g := gName 7) rfl sc_laid.nd (k_il (K := K) (pi_list (pe_call (ok_turned T) (hr.mono (by decide)) (by rfl) T.g_turned T.F_turned.kp T.b_turned .nil (passes_call (takes_of rfl rfl rfl rfl) (fun _ _ _ _ h => h)) (pa_cons (pv 0) (pa_cons (pv 1) (pa_cons (pv 3) (pa_cons (pv 4) pa_nil))))))) (blkOk_by (N := N_laid) (sc := defScope s_laid) (by decide +kernel)) (fun _ _ _ _ _ => (pg_name (i := 7) sc_laid.nd rfl (.inl rfl))) (fun _ _ _ _ _ => (pts_one (pt_cmpR (op_notInDK (K := K) hr.u65) (pv 7) (pv 1) (by rfl)))) (fun _ _ _ _ _ => (pv 7))) (pe_int) (fun _ _ => rfl)))
      (pss_cons (ps_set (i := 8) sc_laid.nd rfl (.inl rfl) (pe_dnewT))
      (pss_cons (ps_lock (ps_for (passes_of rfl) rfl (pi_itemsT (pv 2)) (k_gt (K := K) (pg_tup (by rfl) (pgs_cons (pg_name (i := 9) sc_laid.nd rfl (.inl rfl)) (pgs_cons (pg_name (i := 10) sc_laid.nd rfl (.inl rfl)) pgs_nil)))) (pss_one (ps_if (pt_cmpR (op_neDK (K := K) hr.units) (pv 9) (pv 5) (nomark _)) (pss_one (ps_dput (hu_of hr) (pv 8) (pv 9) (pv 10) rfl)) pss_nil))))
      (pss_cons (ps_dput (hu_of hr) (pv 8) (pv 6) (pe_call (ok_measured T) (hr.mono (by decide)) (by rfl) T.g_measured T.F_measured.kp T.b_measured .nil (passes_call (takes_of rfl rfl rfl rfl) (fun _ _ _ _ h => h)) (pa_cons (pv 0) (pa_cons (pv 1) (pa_cons (pv 2) (pa_cons (pe_ix (ix_tupK (K := K)) (pv 6) (pe_int) (fun _ _ => rfl)) (pa_cons (pe_ix (ix_tupK (K := K)) (pv 6) (pe_int) (fun _ _ => rfl)) pa_nil)))))) rfl)
      (pss_one (ps_ret (pv 8))))))))), ?_⟩
  walk_at "st"
  refine ⟨a, b, rfl, fun r H1 s1 nr hr1 => ?_⟩
  obtain ⟨cv1, hc1, hp1⟩ := hc.same s1
  walk_at "st"
  refine Pm.w_ninPL hr1 (SqL.of hc1) hp1 ?_
  walk_at "st"
  refine Pm.w_iteN (fun e => ?_) (fun e => ?_)
  · exact hE e _ s1
  have q := q e
  obtain ⟨x, y, et, hxy, eT⟩ := C.rope_nat e
  obtain ⟨t', m, o, Rr, U⟩ := C.turn hxy
  have fresh := U.fresh C
  have bl : 2 ≤ (besideL n (tiesL n cut) a b).length := by
    rw [C.beside_len (mem_ties.mpr (.inr e)), if_pos e]
    omega
  walk_at "st"
  refine ⟨n, c, cut, a, b, rfl, by omega, n2, ⟨cv1, hc1, hp1⟩, by omega, fun z => absurd e z, fun _ => ⟨bl, fun l H2 ws s2 nl hl hpl => ?_⟩⟩
  rw [eT] at hpl
  have wl := hpl.length
  rw [U.len C] at wl
  have s12 := s1.trans s2
  walk_at "st"
  refine Pm.w_rdL (SqL.of hl) ?_
  refine Pm.w_lcLf (R := Pr) pr_mono (S := Pr) pr_mono (SqL.of hl) hpl id (fun p => !decide (p ∈ cut)) (by have := hpl.length; omega) (fun D1 x1 p H3 Nx hD hm hs s3 put skip => ?_) (fun D1 H3 ws3 hD s3 hd3 ha => ?_)
  · have s13 := s2.trans s3
    walk_at "st"
    refine Pm.w_ninPL hs (SqL.of (s13 _ _ hc1)) (prs_keep (keeps s13) hp1) ?_
    walk_at "st"
    refine Pm.w_iteN (fun z => ?_) (fun z => ?_)
    · walk_at "st"
      exact put _ _ (by simp [z]) (Same.refl _) hs
    · exact skip _ (by simp [z]) (Same.refl _)
  rw [List.map_id, fresh] at ha
  have hw : ∃ u, ws3 = [.ref u] ∧ Pr H3 (.ref u) (castP (min m o, max m o)) := by
    match ws3, ha with
    | [x], h =>
      obtain ⟨u, rfl, hu⟩ := h.1
      exact ⟨u, rfl, u, rfl, hu⟩
  obtain ⟨u, rfl, hu⟩ := hw
  walk_at "st"
  refine Pm.w_ixL (SqL.of hd3) (show atI [V.ref u] 0 = some (.ref u) from rfl) ?_
  walk_at "st"
  refine Pm.w_dnewT (fun f hf => ?_)
  have s4 := same_new hf (.dT [])
  have s03 := s12.trans s3
  have hrope : Pr H3 (.ref r) (castP (x, y)) := by rw [← et]; exact hr1.keep (keeps (s2.trans s3))
  obtain ⟨ks, Ld, hLD, hks, hLv⟩ := hd.same s03
  have hfd : f ≠ d := by
    obtain ⟨_, es3, h1, _⟩ := hLD
    exact (ne_of_none h1 hf).symm
  walk_at "st"
  refine w_forItems hLD s4 (fun od uo i σ H4 => ∃ x1 y1, σ = [some (.int n), some (.ref c), some (.ref d), some (.int a), some (.int b), some (.ref r), some (.ref u), none, some (.ref f), x1, y1] ∧ ∃ kf Lf, LD K H4 f kf Lf ∧ kf.length ≤ i ∧ (∀ p, p ∈ kf ↔ p ∈ ks.take i ∧ p ≠ castP (x, y)) ∧ ∀ p ∈ kf, Lf p = Ld p) (fun od uo Q _ _ h => Pm.w_var rfl h) ?_ ?_ ?_
  · intro od uo huo
    refine ⟨_, _, rfl, [], Ld, ?_, Nat.le_refl _, fun p => by simp, fun _ h => nomatch h⟩
    exact ld_nil (by rw [upd_ne hfd]; exact upd_same) _
  · rintro od es i k σ H4 hes hki sl kp ⟨x1, y1, rfl, kf, Lf, hLf, kl, hkf, hLfv⟩ T1 p v hT1 hp hv
    have sT := same_new hT1 (.tup [.ref p, v])
    obtain ⟨ur, er, hur⟩ := (hrope.keep kp).keep (keeps sT)
    cases er
    have hp2 := hp.keep (keeps sT)
    have hLf2 := hLf.same sT
    have ktk : ks.take (i + 1) = ks.take i ++ [k] := by rw [List.take_add_one, hki] <;> rfl
    have knd := hLD.nd
    have knot : k ∉ ks.take i := fun z => by
      have e1 : (ks.take (i + 1)).Nodup := knd.sublist (List.take_sublist _ _)
      rw [ktk, List.nodup_append] at e1
      exact e1.2.2 k z k List.mem_cons_self rfl
    have ksl : i < ks.length := (List.getElem?_eq_some_iff.mp hki).1
    walk_at "st"
    refine Pm.w_gtup (SqT.of upd_same) rfl ?_
    walk_at "st"
    refine Pm.w_neP hp2 ⟨_, rfl, hur⟩ ?_
    walk_at "st"
    refine Pm.w_iteN (fun z => ?_) (fun z => ?_)
    · walk_at "st"
      have kls : kf.length < 1000000 := by
        have h1 := hLf.nd
        have h2 : kf.length ≤ i := kl
        have h3 := hLD.nd
        have h4 : ks.length = (tiesL n cut).length := perm_len hLD.nd C.ties_nodup (fun p => by rw [hks, C.ties])
        have h5 : (tiesL n cut).length ≤ 3000 := by rw [tiesL, sortP_len, List.length_append, sides0_len (by omega)]; omega
        omega
      refine w_ldPut hLf2 hp2 (hv.keep (keeps sT)) kls (fun es5 hL5 kp5 => ?_)
      have nk : k ∉ kf := fun z => knot ((hkf k).mp z).1
      refine ⟨same_but (lock_none hes hf) (sl.trans sT), _, _, rfl, _, _, hL5, Nat.le_trans (putk_len _ _) (by omega), fun p' => ?_, fun p' hp' => ?_⟩
      · rw [mem_putk, hkf, ktk, List.mem_append, List.mem_singleton]
        constructor
        · rintro (⟨h1, h2⟩ | rfl)
          · exact ⟨.inl h1, h2⟩
          · exact ⟨.inr rfl, z⟩
        · rintro ⟨h1 | h1, h2⟩
          · exact .inl ⟨h1, h2⟩
          · exact .inr h1
      · by_cases e1 : p' = k
        · rw [e1, updF_same]
        · rw [updF_ne e1]
          rcases mem_putk.mp hp' with h | h
          · exact hLfv p' h
          · exact absurd h e1
    · walk_at "st"
      refine ⟨sl.trans sT, _, _, rfl, kf, Lf, hLf2, by omega, fun p' => ?_, hLfv⟩
      rw [hkf, ktk, List.mem_append, List.mem_singleton]
      constructor
      · rintro ⟨h1, h2⟩
        exact ⟨.inl h1, h2⟩
      · rintro ⟨h1 | h1, h2⟩
        · exact ⟨h1, h2⟩
        · exact absurd (h1.trans z) h2
  · rintro od es σ H4 hes sl ⟨x1, y1, rfl, kf, Lf, hLf, kl, hkf, hLfv⟩ s5
    rw [List.take_length] at hkf
    have hu5 := hu.keep (keeps s5)
    have s05 := s03.trans s5
    have ok : twoOk n ((min m o : Nat) : Int) ((max m o : Nat) : Int) := by
      have := U.new_bd C
      exact ⟨⟨by omega, by omega⟩, ⟨by omega, by omega⟩, by omega⟩
    walk_at "st"
    refine Pm.w_ixT hu5.tup (atI2 _ _).1 ?_
    walk_at "st"
    refine Pm.w_ixT hu5.tup (atI2 _ _).2 ?_
    walk_at "st"
    have hLf5 : LD K (upd H4 d (.dT es)) f kf Lf := hLf.keep (o := .dT es) (fun t xs e => by rw [upd_ne (ne_of e (sl _ _ upd_same) (fun z => nomatch z))]; exact e) (by rw [upd_ne hfd])
    refine ⟨n, c, d, cut, t, L, D, F, B, _, _, rfl, n2, hc.same s05, C, hd.same s05, M, Z, hB, fun z => absurd ok z, fun _ v H6 s6 nv hv => ?_⟩
    have hv : H6 v = some (.tup [.int (D (min (min m o) (max m o)) (max (min m o) (max m o))).num, .int ((D (min (min m o) (max m o)) (max (min m o) (max m o))).den : Int)]) := hv
    have bd := U.new_bd C
    rw [Nat.min_eq_left (a := min m o) (by omega), Nat.max_eq_right (a := min m o) (by omega)] at hv
    walk_at "st"
    have kls : kf.length < 1000000 := by
      have h4 : ks.length = (tiesL n cut).length := perm_len hLD.nd C.ties_nodup (fun p => by rw [hks, C.ties])
      have h5 : (tiesL n cut).length ≤ 3000 := by rw [tiesL, sortP_len, List.length_append, sides0_len (by omega)]; omega
      omega
    refine w_ldPut (hLf5.same s6) (hu5.keep (keeps s6)) (frv_new hv) kls (fun es7 hL7 kp7 => ?_)
    walk_at "st"
    have Hf : H f = none := s03.free hf
    rw [eT] at q
    have nnew : castP (min m o, max m o) ∉ ks := fun z => U.new_notin C (C.ties.mpr ((hks _).mp z))
    refine q f _ t' (same_but Hf (s05.trans s6)) Hf U.cut' ?_ (M.turn' C U)
    refine laid_len C U hks hLv hL7 (fun p => by rw [mem_putk, hkf]) (fun p hp ne => ?_) updF_same
    have ne2 : p ≠ castP (min m o, max m o) := fun z => nnew (z ▸ hp)
    rw [updF_ne ne2]
    exact hLfv p ((hkf p).mpr ⟨hp, ne⟩)
end
section
variable {P : Program} {w : World} {K : PySem.W.Frag} {mg : Str → Option Value} {base : Heap}
def spRing (C : Addr) : Sp := fun vs H Q E => ∃ (n : Nat) (c : Addr) (cut : List IP) (t : Tr) (a b : Int), vs = [.int n, .ref c, .int a, .int b] ∧ n ≤ 1000 ∧ PLt H c cut ∧ Cutting n cut t ∧
  (tieOf a b ∉ cut → ∀ H', Same H H' → E (.ref C) none H') ∧ (tieOf a b ∈ cut → ∀ t' x y m o R, Turning n cut t t' x y m o R → tieOf a b = castP (x, y) → ILNew H [(x : Int), (m : Int), (y : Int), (o : Int)] Q)
theorem ok_ring_of (T : Tx P K mg base) : FnOk P w K mg base (L2.CX P w) 45 T.a_ring_of T.fd_ring_of ["n", "cut", "a", "b"] (spRing T.c_NoRope) := by
  refine T.F_ring_of.okX sc_ring_of (fun vs H Q E h => ?_) (fun cdv A outer s H vs Q E hr h => ?_)
  · obtain ⟨n, c, cut, t, a, b, rfl, _⟩ := h
    rfl
  obtain ⟨n, c, cut, t, a, b, rfl, n2, hc, C, hE, q⟩ := h
  have cl := C.cut_len
  have n3 := C.n3
  refine ⟨_, (pss_cons (ps_set (i := 4) sc_ring_of.nd rfl (.inr rfl) (pe_call (ok_tie_of T) (hr.mono (by decide)) (by rfl) T.g_tie_of T.F_tie_of.kp T.b_tie_of .nil pass0 (pa_cons (pv 2) (pa_cons (pv 3) pa_nil))))
      (pss_cons (ps_if (pt_cmpR (op_notInDK (K := K) hr.u65) (pv 4) (pv 1) (by rfl)) (pss_one (ps_raise rfl (takes_of rfl rfl rfl rfl) (pmk_own PySem.F.excBase_ValueError T.x_NoRope T.g_NoRope T.k_NoRope (raises_own T.b_NoRope T.t_NoRope) rfl))) pss_nil)
      (pss_cons (ps_set (i := 5) sc_ring_of.nd rfl (.inl rfl) (pe_call (ok_beside T) (hr.mono (by decide)) (by rfl) T.g_beside T.F_beside.kp T.b_beside .nil (passes_call (takes_of rfl rfl rfl rfl) (fun _ _ _ _ h => h)) (pa_cons (pv 0) (pa_cons (pv 1) (pa_cons (pv 2) (pa_cons (pv 3) pa_nil))))))
      (pss_cons (ps_set (i := 6) sc_ring_of.nd rfl (.inr rfl) (pe_lc (own := [("post", 7)]) (g := gName 7) rfl sc_ring_of.nd (k_il (K := K) (pi_list (pv 5))) (blkOk_by (N := N_ring_of) (sc := defScope s_ring_of) (by decide +kernel)) (fun _ _ _ _ _ => (pg_name (i := 7) sc_ring_of.nd rfl (.inl rfl))) (fun _ _ _ _ _ => (pts_one (pt_chain op_lt op_lt (pe_ix (ix_tupK (K := K)) (pv 4) (pe_int) (fun _ _ => rfl)) (pv 7) (pe_ix (ix_tupK (K := K)) (pv 4) (pe_int) (fun _ _ => rfl))))) (fun _ _ _ _ _ => (pv 7))))
      (pss_cons (ps_setLc (i := 8) (own := [("post", 7)]) (g := gName 7) rfl sc_ring_of.nd rfl rfl (sw_true rfl rfl rfl (by decide +kernel)) (k_il (K := K) (pi_list (pv 5))) (blkOk_by (N := N_ring_of) (sc := defScope s_ring_of) (by decide +kernel)) (fun _ _ _ _ _ => (pg_name (i := 7) sc_ring_of.nd rfl (.inl rfl))) (fun _ _ _ _ _ => (pts_one (pt_cmpR (op_notIn_seqK (K := K)) (pv 7) (pv 6) (by rfl)))) (fun _ _ _ _ _ => (pv 7)))
      (pss_one (ps_ret (pe_lst (pa_cons (pe_ix (ix_tupK (K := K)) (pv 4) (pe_int) (fun _ _ => rfl)) (pa_cons (pe_ix (ix_listK (K := K)) (pv 6) (pe_int) (fun _ _ => rfl)) (pa_cons (pe_ix (ix_tupK (K := K)) (pv 4) (pe_int) (fun _ _ => rfl)) (pa_cons (pe_ix (ix_listK (K := K)) (pv 8) (pe_int) (fun _ _ => rfl)) pa_nil)))))))))))), ?_⟩
  walk_at "st"
  refine ⟨a, b, rfl, fun r H1 s1 nr hr1 => ?_⟩
  obtain ⟨cv1, hc1, hp1⟩ := hc.same s1
  walk_at "st"
  refine Pm.w_ninPL hr1 (SqL.of hc1) hp1 ?_
  walk_at "st"
  refine Pm.w_iteN (fun e => ?_) (fun e => ?_)
  · exact hE e _ s1
  obtain ⟨t', x, y, m, o, R, U, ex, et⟩ := C.turned_any e
  have q := q e t' x y m o R U ex
  have eb : besideL n (tiesL n cut) a b = [((min m o : Nat) : Int), ((max m o : Nat) : Int)] := by
    rw [← U.bes]
    have e1 := congrArg Prod.fst ex
    have e2 := congrArg Prod.snd ex
    simp only [tieOf, castP] at e1 e2
    rcases Int.le_total a b with z | z
    · rw [show a = (x : Int) by omega, show b = (y : Int) by omega]
    · rw [beside_comm, show a = (y : Int) by omega, show b = (x : Int) by omega]
  rw [ex] at hr1
  walk_at "st"
  refine ⟨n, c, cut, a, b, rfl, by omega, n2, ⟨cv1, hc1, hp1⟩, by omega, fun z => absurd (mem_ties.mpr (.inr e)) z, fun _ l H2 s2 nl hl => ?_⟩
  rw [eb] at hl
  have hr2 := hr1.keep (keeps s2)
  have F := U.four C
  have hin : ([((min m o : Nat) : Int), ((max m o : Nat) : Int)].filter fun p : Int => decide ((x : Int) < p) && decide (p < (y : Int))) = [(m : Int)] := by
    rcases U.cross C with ⟨h1, h2, h3, h4, h5⟩ | ⟨h1, h2, h3, h4, h5⟩
    · rw [h4, h5, List.filter_cons_of_pos (by simp; omega), List.filter_cons_of_neg (by simp; omega), List.filter_nil]
    · rw [h4, h5, List.filter_cons_of_neg (by simp; omega), List.filter_cons_of_pos (by simp; omega), List.filter_nil]
  have hout : ([((min m o : Nat) : Int), ((max m o : Nat) : Int)].filter fun p : Int => !decide (p ∈ [(m : Int)])) = [(o : Int)] := by
    rcases U.cross C with ⟨h1, h2, h3, h4, h5⟩ | ⟨h1, h2, h3, h4, h5⟩
    · rw [h4, h5, List.filter_cons_of_neg (by simp), List.filter_cons_of_pos (by simp; omega), List.filter_nil]
    · rw [h4, h5, List.filter_cons_of_pos (by simp; omega), List.filter_cons_of_neg (by simp), List.filter_nil]
  walk_at "st"
  refine Pm.w_rdL (SqL.of hl) ?_
  refine Pm.w_lcLf (R := In) in_mono (S := In) in_mono (SqL.of hl) (ins_of [((min m o : Nat) : Int), ((max m o : Nat) : Int)]) id (fun p : Int => decide ((x : Int) < p) && decide (p < (y : Int))) (by simp) (fun D1 v1 p H3 Nx hD hm hs s3 put skip => ?_) (fun D1 H3 ws3 hD s3 hd3 ha3 => ?_)
  · have e1 : v1 = .int p := hs
    subst e1
    have hr3 := hr2.keep (keeps s3)
    walk_at "st"
    refine Pm.w_ixT hr3.tup (atI2 _ _).1 ?_
    walk_at "st"
    refine Pm.w_ite (fun z1 => ?_) (fun z1 => ?_)
    · walk_at "st"
      refine Pm.w_ixT hr3.tup (atI2 _ _).2 ?_
      walk_at "st"
      refine Pm.w_ite (fun z2 => ?_) (fun z2 => ?_)
      · walk_at "st"
        exact put _ _ (by have a1 : (x : Int) < p := z1; have a2 : p < (y : Int) := z2; simp [a1, a2]) (Same.refl _) rfl
      · exact skip _ (by have a2 : ¬ p < (y : Int) := z2; simp [a2]) (Same.refl _)
    · walk_at "st"
      exact skip _ (by have a1 : ¬ (x : Int) < p := z1; simp [a1]) (Same.refl _)
  rw [List.map_id, hin] at ha3
  have e3 := ins_map ha3
  subst e3
  walk_at "st"
  refine Pm.w_rdL (SqL.of (s3 _ _ hl)) ?_
  refine Pm.w_lcLf (R := In) in_mono (S := In) in_mono (SqL.of (s3 _ _ hl)) (ins_of [((min m o : Nat) : Int), ((max m o : Nat) : Int)]) id (fun p : Int => !decide (p ∈ [(m : Int)])) (by simp) (fun D2 v1 p H4 Nx hD4 hm hs s4 put skip => ?_) (fun D2 H4 ws4 hD4 s4 hd4 ha4 => ?_)
  · have e1 : v1 = .int p := hs
    subst e1
    walk_at "st"
    refine Pm.w_ninInts (ns := [(m : Int)]) (.inl (SqL.of (s4 _ _ hd3))) ?_
    walk_at "st"
    refine Pm.w_iteN (fun z => ?_) (fun z => ?_)
    · walk_at "st"
      exact put _ _ (by simp only [z, decide_false]; rfl) (Same.refl _) rfl
    · exact skip _ (by simp only [z, decide_true]; rfl) (Same.refl _)
  rw [List.map_id, hout] at ha4
  have e4 := ins_map ha4
  subst e4
  have hr4 := hr2.keep (keeps (s3.trans s4))
  walk_at "st"
  refine Pm.w_ixT hr4.tup (atI2 _ _).1 ?_
  walk_at "st"
  refine Pm.w_ixL (SqL.of (s4 _ _ hd3)) (show atI [V.int (m : Int)] 0 = some (.int (m : Int)) from rfl) ?_
  walk_at "st"
  refine Pm.w_ixT hr4.tup (atI2 _ _).2 ?_
  walk_at "st"
  refine Pm.w_ixL (SqL.of hd4) (show atI [V.int (o : Int)] 0 = some (.int (o : Int)) from rfl) ?_
  walk_at "st"
  refine Pm.w_newL (fun g hg => ?_)
  have sA := (s1.trans s2).trans (s3.trans s4)
  exact q g _ (sA.trans (same_new hg _)) (sA.free hg) upd_same
/-- the length of a tie -/
def absD (D : Nat → Nat → Rat) (i k : Nat) : Rat := D (min i k) (max i k)
def spRatio (K : PySem.W.Frag) (C : Addr) : Sp := fun vs H Q E => ∃ (n : Nat) (c d : Addr) (cut : List IP) (t : Tr) (L : Len) (D : Nat → Nat → Rat) (F B : Nat) (a b : Int), vs = [.int n, .ref c, .ref d, .int a, .int b] ∧ n ≤ 1000 ∧ PLt H c cut ∧ Cutting n cut t ∧ LenD K H d t D ∧ Meas n t L D ∧ Bd n D F B ∧ 4 * B ≤ 120000000 ∧
  (tieOf a b ∉ cut → ∀ H', Same H H' → E (.ref C) none H') ∧ (tieOf a b ∈ cut → FrNew H (ratP n cut D (tieOf a b)) Q)
theorem ok_ratio (T : Tx P K mg base) : FnOk P w K mg base (L2.CX P w) 46 T.a_ratio T.fd_ratio ["n", "cut", "lengths", "a", "b"] (spRatio K T.c_NoRope) := by
  refine T.F_ratio.okX sc_ratio (fun vs H Q E h => ?_) (fun cdv A outer s H vs Q E hr h => ?_)
  · obtain ⟨n, c, d, cut, t, L, D, F, B, a, b, rfl, _⟩ := h
    rfl
  obtain ⟨n, c, d, cut, t, L, D, F, B, a, b, rfl, n2, hc, C, hd, M, Z, hB, hE, q⟩ := h
  refine ⟨_, (pss_cons (ps_set (i := 5) sc_ratio.nd rfl (.inr rfl) (pe_call (ok_ring_of T) (hr.mono (by decide)) (by rfl) T.g_ring_of T.F_ring_of.kp T.b_ring_of .nil (passes_call (takes_of rfl rfl rfl rfl) (fun _ _ _ _ h => h)) (pa_cons (pv 0) (pa_cons (pv 1) (pa_cons (pv 3) (pa_cons (pv 4) pa_nil))))))
      (pss_cons (ps_setLc (i := 6) (own := [("k", 7)]) (g := gName 7) (tt := tYes) rfl sc_ratio.nd rfl rfl (sw_true rfl rfl rfl (by decide +kernel)) (pi_range1 (by rfl) T.m_range (pa_cons (pe_int) pa_nil)) (blkOk_by (N := N_ratio) (sc := defScope s_ratio) (by decide +kernel)) (fun _ _ _ _ _ => (pg_name (i := 7) sc_ratio.nd rfl (.inl rfl))) (fun _ _ _ _ _ => pts_nil) (fun _ _ _ _ _ => (pe_dget (hu_of hr) (pv 2) (pe_call (ok_tie_of T) (hr.mono (by decide)) (by rfl) T.g_tie_of T.F_tie_of.kp T.b_tie_of .nil pass0 (pa_cons (pe_ix (ix_listK (K := K)) (pv 5) (pv 7) (fun _ _ => rfl)) (pa_cons (pe_ix (ix_listK (K := K)) (pv 5) (pe_op op_mod (pe_op op_add (pv 7) (pe_int)) (pe_int)) (fun _ _ => rfl)) pa_nil))) (fun _ _ => rfl))))
      (pss_one (ps_ret (pe_call (ok_over T) (hr.mono (by decide)) (by rfl) T.g_over T.F_over.kp T.b_over .nil (passes_call (takes_of rfl rfl rfl rfl) (fun _ _ _ _ h => h)) (pa_cons (pe_call (ok_times T) (hr.mono (by decide)) (by rfl) T.g_times T.F_times.kp T.b_times .nil pass0 (pa_cons (pe_ix (ix_listK (K := K)) (pv 6) (pe_int) (fun _ _ => rfl)) (pa_cons (pe_ix (ix_listK (K := K)) (pv 6) (pe_int) (fun _ _ => rfl)) pa_nil))) (pa_cons (pe_call (ok_times T) (hr.mono (by decide)) (by rfl) T.g_times T.F_times.kp T.b_times .nil pass0 (pa_cons (pe_ix (ix_listK (K := K)) (pv 6) (pe_int) (fun _ _ => rfl)) (pa_cons (pe_ix (ix_listK (K := K)) (pv 6) (pe_int) (fun _ _ => rfl)) pa_nil))) pa_nil))))))), ?_⟩
  walk_at "st"
  refine ⟨n, c, cut, t, a, b, rfl, n2, hc, C, hE, fun e t' x y m o R U ex g H1 s1 ng hg => ?_⟩
  have q := q e
  rw [ex, ratP_is C U] at q
  obtain ⟨txm, tmy, tyo, tox, xm, my, yn, on, out⟩ := U.four C
  have gat : ∀ i : Nat, i < 4 → atI ([(x : Int), (m : Int), (y : Int), (o : Int)].map V.int) (i : Int) = some (.int ([(x : Int), (m : Int), (y : Int), (o : Int)].getD i 0)) := fun i hi => atI_getD hi
  generalize hrg : (fun i : Nat => [x, m, y, o].getD i 0) = rg
  have rgI : ∀ i : Nat, i < 4 → [(x : Int), (m : Int), (y : Int), (o : Int)].getD i 0 = ((rg i : Nat) : Int) := fun i hi => by
    rw [← hrg]
    match i, hi with
    | 0, _ => rfl
    | 1, _ => rfl
    | 2, _ => rfl
    | 3, _ => rfl
  have tie : ∀ i : Nat, i < 4 → (min (rg i) (rg ((i + 1) % 4)), max (rg i) (rg ((i + 1) % 4))) ∈ t.all 0 := fun i hi => by
    rw [← hrg]
    match i, hi with
    | 0, _ => show (min x m, max x m) ∈ _; rw [Nat.min_eq_left (by omega), Nat.max_eq_right (by omega)]; exact txm
    | 1, _ => show (min m y, max m y) ∈ _; rw [Nat.min_eq_left (by omega), Nat.max_eq_right (by omega)]; exact tmy
    | 2, _ => exact tyo
    | 3, _ => exact tox
  walk_at "st"
  refine Pm.w_lcRm (R := FrV K) frv_mono (fun i : Nat => rp (absD D (rg i) (rg ((i + 1) % 4)))) (show (4 : Int).toNat < 1000000 by decide) (fun D1 i H2 Nx hD hi s2 put => ?_) (fun D1 H2 ws2 hD s2 hd2 ha2 => ?_)
  · have hi4 : i < 4 := hi
    have hg2 := s2 _ _ hg
    walk_at "st"
    rw [Int.zero_add]
    refine Pm.w_ixL (SqL.of hg2) (gat i hi4) ?_
    walk_at "st"
    rw [show ((i : Int) + 1) % 4 = (((i + 1) % 4 : Nat) : Int) by omega]
    refine Pm.w_ixL (SqL.of hg2) (gat ((i + 1) % 4) (Nat.mod_lt _ (by decide))) ?_
    walk_at "st"
    refine ⟨_, _, rfl, fun p H3 s3 np hp => ?_⟩
    rw [rgI i hi4, rgI _ (Nat.mod_lt _ (by decide)), tie_cast] at hp
    refine w_lenGet ((hd.same s1).same (s2.trans s3)) hp (tie i hi4) (fun u hu => ?_)
    exact put _ _ s3 hu
  have fr : ∀ i : Nat, i < 4 → ∃ u, ws2[i]? = some (.ref u) ∧ FrV K H2 (.ref u) (rp (absD D (rg i) (rg ((i + 1) % 4)))) := fun i hi => by
    have hi' : i < (4 : Int).toNat := hi
    obtain ⟨v, hv, r⟩ := ha2.get' (i := i) (y := rp (absD D (rg i) (rg ((i + 1) % 4)))) (by rw [List.getElem?_map, List.getElem?_range hi']; rfl)
    obtain ⟨u, rfl, r'⟩ := id r
    exact ⟨u, hv, r⟩
  obtain ⟨u0, h0, f0⟩ := fr 0 (by decide)
  obtain ⟨u1, h1, f1⟩ := fr 1 (by decide)
  obtain ⟨u2, h2, f2⟩ := fr 2 (by decide)
  obtain ⟨u3, h3, f3⟩ := fr 3 (by decide)
  have bdd : ∀ i k : Nat, i < n → k < n → rb (absD D i k) B := fun i k hi hk => Z.rb (by omega) (by omega)
  rw [← hrg] at f0 f1 f2 f3
  have f0 : FrV K H2 (.ref u0) (rp (absD D x m)) := f0
  have f1 : FrV K H2 (.ref u1) (rp (absD D m y)) := f1
  have f2 : FrV K H2 (.ref u2) (rp (absD D y o)) := f2
  have f3 : FrV K H2 (.ref u3) (rp (absD D o x)) := f3
  have b0 := bdd x m (by omega) (by omega)
  have b1 := bdd m y (by omega) (by omega)
  have b2 := bdd y o (by omega) (by omega)
  have b3 := bdd o x (by omega) (by omega)
  have p1 := M.above my yn
  have p3 : 0 < absD D o x := M.above (by omega) (by omega)
  have e1 : absD D m y = D m y := by unfold absD; rw [Nat.min_eq_left (by omega), Nat.max_eq_right (by omega)]
  have e0 : absD D x m = D x m := by unfold absD; rw [Nat.min_eq_left (by omega), Nat.max_eq_right (by omega)]
  walk_at "st"
  refine Pm.w_ixL (SqL.of hd2) (atI_nat (j := 0) h0) ?_
  walk_at "st"
  refine Pm.w_ixL (SqL.of hd2) (atI_nat (j := 2) h2) ?_
  walk_at "st"
  refine ⟨_, _, _, _, B, B, rfl, f0.rat, f2.rat, b0, b2, by omega, fun v1 H3 s3 n3' hv1 => ?_⟩
  walk_at "st"
  refine Pm.w_ixL (SqL.of (s3 _ _ hd2)) (atI_nat (j := 1) h1) ?_
  walk_at "st"
  refine Pm.w_ixL (SqL.of (s3 _ _ hd2)) (atI_nat (j := 3) h3) ?_
  walk_at "st"
  refine ⟨_, _, _, _, B, B, rfl, (f1.keep (keeps s3)).rat, (f3.keep (keeps s3)).rat, b1, b3, by omega, fun v2 H4 s4 n4' hv2 => ?_⟩
  have ne : absD D m y * absD D o x ≠ 0 := by
    rw [e1]
    have := rat_mul_pos p1 p3
    grind
  walk_at "st"
  refine ⟨_, _, _, _, B + B, B + B, rfl, SqT.of (s4 _ _ hv1), SqT.of hv2, rb_mul b0 b2, rb_mul b1 b3, by omega, fun z => absurd z ne, fun _ v H5 s5 nv hv => ?_⟩
  have sA := (s1.trans s2).trans (s3.trans s4)
  rw [e0, e1] at hv
  exact q v H5 (sA.trans s5) (sA.free nv) hv
/-- a new dict of all ratios -/
def spRatios (K : PySem.W.Frag) : Sp := fun vs H Q _ => ∃ (n : Nat) (c d : Addr) (cut : List IP) (t : Tr) (L : Len) (D : Nat → Nat → Rat) (F B : Nat), vs = [.int n, .ref c, .ref d] ∧ n ≤ 1000 ∧ PLt H c cut ∧ Cutting n cut t ∧ LenD K H d t D ∧ Meas n t L D ∧ Bd n D F B ∧ 4 * B ≤ 120000000 ∧
  ∀ (f : Addr) (H' : Hp), Same H H' → H f = none → LD K H' f cut (fun p => rp (ratP n cut D p)) → Q (.ref f) H'
theorem Cutting.cut_nodup {n : Nat} {cut : List IP} {t : Tr} (C : Cutting n cut t) : cut.Nodup := by
  refine (C.perm.nodup_iff).mpr (nodup_map_inj (fun x _ y _ e => castP_inj e) (Tr.ropes_nodup t 0))
theorem ok_ratios (T : Tx P K mg base) : FnOk P w K mg base CX0 47 T.a_ratios T.fd_ratios ["n", "cut", "lengths"] (spRatios K) := by
  refine T.F_ratios.ok sc_ratios (fun vs H Q E h => ?_) (fun cdv A outer s H vs Q E hr h => ?_)
  · obtain ⟨n, c, d, cut, t, L, D, F, B, rfl, _⟩ := h
    rfl
  obtain ⟨n, c, d, cut, t, L, D, F, B, rfl, n2, hc, C, hd, M, Z, hB, q⟩ := h
  have cl := C.cut_len
  have cnd := C.cut_nodup
  obtain ⟨cvs, hcl, hcp⟩ := hc
  refine ⟨_, (pss_cons (ps_set (i := 3) sc_ratios.nd rfl (.inl rfl) (pe_dnewT))
      (pss_cons (ps_for PassesOwn.never rfl (k_il (K := K) (pi_list (pv 1))) (k_gt (K := K) (pg_tup (by rfl) (pgs_cons (pg_name (i := 4) sc_ratios.nd rfl (.inl rfl)) (pgs_cons (pg_name (i := 5) sc_ratios.nd rfl (.inl rfl)) pgs_nil)))) (pss_one (ps_dput (hu_of hr) (pv 3) (pe_tup (pa_cons (pv 4) (pa_cons (pv 5) pa_nil))) (pe_call (ok_ratio T) (hr.mono (by decide)) (by rfl) T.g_ratio T.F_ratio.kp T.b_ratio .nil passL (pa_cons (pv 0) (pa_cons (pv 1) (pa_cons (pv 2) (pa_cons (pv 4) (pa_cons (pv 5) pa_nil)))))) rfl)))
      (pss_one (ps_ret (pv 3))))), ?_⟩
  walk_at "st"
  refine Pm.w_dnewT (fun f hf => ?_)
  have s1 := same_new hf (.dT [])
  walk_at "st"
  refine Pm.w_rdL (SqL.of (s1 _ _ hcl)) ?_
  refine Pm.w_forL (xs := cvs) (fun i σ H2 => ∃ x y, σ = [some (.int n), some (.ref c), some (.ref d), some (.ref f), x, y] ∧ Same H H2 ∧ LD K H2 f (cut.take i) (fun p => rp (ratP n cut D p))) ⟨_, _, rfl, s1, by rw [List.take_zero]; exact ld_nil upd_same _⟩ (fun i σ H2 _ ⟨_, _, _, s2, _⟩ => SqL.of (s2 _ _ hcl)) ?_ ?_
  · rintro i v σ H2 hi ⟨x, y, rfl, s2, hL⟩
    obtain ⟨p, hp, u, rfl, hu⟩ := hcp.get hi
    have mp := List.mem_of_getElem? hp
    obtain ⟨q0, hq0, ep⟩ := C.mem.mp mp
    have qb := Tr.bd (Tr.inn_all (ropes_bd hq0).1)
    have et : tieOf p.1 p.2 = p := by
      rw [ep]
      exact tie_lt (by simp only [castP]; omega)
    walk_at "st"
    refine Pm.w_gtup (SqT.of (s2 _ _ hu)) rfl ?_
    walk_at "st"
    refine ⟨n, c, d, cut, t, L, D, F, B, _, _, rfl, n2, PLt.same ⟨cvs, hcl, hcp⟩ s2, C, hd.same s2, M, Z, hB, fun z => absurd (by rw [et]; exact mp) z, fun _ v1 H3 s3 nv hv => ?_⟩
    rw [et] at hv
    walk_at "st"
    refine Pm.w_newT (fun w1 hw1 => ?_)
    have s4 := same_new hw1 (.tup [.int p.1, .int p.2])
    refine w_ldPut (k := p) (p := rp (ratP n cut D p)) (hL.same (s3.trans s4)) (pr_new upd_same) (frv_new (s4 _ _ hv)) (by rw [List.length_take]; omega) (fun es hL5 kp => ?_)
    have tk : cut.take (i + 1) = cut.take i ++ [p] := by rw [List.take_add_one, hp] <;> rfl
    have nin : p ∉ cut.take i := fun z => by
      have e1 : (cut.take (i + 1)).Nodup := cnd.sublist (List.take_sublist _ _)
      rw [tk, List.nodup_append] at e1
      exact e1.2.2 p z p List.mem_cons_self rfl
    refine ⟨_, _, rfl, same_but hf (s2.trans (s3.trans s4)), ?_⟩
    rw [tk, ← putk_new nin]
    refine hL5.congr fun k hk => ?_
    by_cases e : k = p
    · rw [e, updF_same]
    · rw [updF_ne e]
  · rintro σ H2 ⟨x, y, rfl, s2, hL⟩
    walk_at "st"
    rw [hcp.length, List.take_length] at hL
    exact q f H2 s2 hf hL
end
section
variable {P : Program} {w : World} {K : PySem.W.Frag} {mg : Str → Option Value} {base : Heap}
def spTRatios (K : PySem.W.Frag) (C : Addr) : Sp := fun vs H Q E => ∃ (n : Nat) (c d : Addr) (cut ks : List IP) (t : Tr) (G : IP → Rat) (B : Nat) (a b : Int), vs = [.int n, .ref c, .ref d, .int a, .int b] ∧ n ≤ 1000 ∧ PLt H c cut ∧ Cutting n cut t ∧ LD K H d ks (fun p => rp (G p)) ∧ (∀ p, p ∈ ks ↔ p ∈ cut) ∧ (∀ p ∈ cut, 0 < G p ∧ rb (G p) B) ∧ B ≤ 1000000 ∧
  (tieOf a b ∉ cut → ∀ H', Same H H' → E (.ref C) none H') ∧ (tieOf a b ∈ cut → ∀ t' x y m o R, Turning n cut t t' x y m o R → tieOf a b = castP (x, y) → ∀ (f : Addr) (H' : Hp) (kf : List IP), Same H H' → H f = none → LD K H' f kf (fun p => rp (turnV G x m y o p)) → (∀ p, p ∈ kf ↔ p ∈ turnedL n cut x y) → Q (.ref f) H')
theorem ok_turned_ratios (T : Tx P K mg base) : FnOk P w K mg base (L2.CX P w) 46 T.a_turned_ratios T.fd_turned_ratios ["n", "cut", "rates", "a", "b"] (spTRatios K T.c_NoRope) := by
  refine T.F_turned_ratios.okX sc_turned_ratios (fun vs H Q E h => ?_) (fun cdv A outer s H vs Q E hr h => ?_)
  · obtain ⟨n, c, d, cut, ks, t, G, B, a, b, rfl, _⟩ := h
    rfl
  obtain ⟨n, c, d, cut, ks, t, G, B, a, b, rfl, n2, hc, C, hLD, hks, hG, hB, hE, q⟩ := h
  refine ⟨_, (pss_cons (ps_set (i := 5) sc_turned_ratios.nd rfl (.inl rfl) (pe_call (ok_ring_of T) (hr.mono (by decide)) (by rfl) T.g_ring_of T.F_ring_of.kp T.b_ring_of .nil (passes_call (takes_of rfl rfl rfl rfl) (fun _ _ _ _ h => h)) (pa_cons (pv 0) (pa_cons (pv 1) (pa_cons (pv 3) (pa_cons (pv 4) pa_nil))))))
      (pss_cons (ps_set (i := 6) sc_turned_ratios.nd rfl (.inl rfl) (pe_dget (hu_of hr) (pv 2) (pe_call (ok_tie_of T) (hr.mono (by decide)) (by rfl) T.g_tie_of T.F_tie_of.kp T.b_tie_of .nil pass0 (pa_cons (pv 3) (pa_cons (pv 4) pa_nil))) (fun _ _ => rfl)))
      (pss_cons (ps_set (i := 7) sc_turned_ratios.nd rfl (.inl rfl) (pe_dnewT))
      (pss_cons (ps_lock (ps_for (passes_of rfl) rfl (pi_itemsT (pv 2)) (k_gt (K := K) (pg_tup (by rfl) (pgs_cons (pg_name (i := 8) sc_turned_ratios.nd rfl (.inl rfl)) (pgs_cons (pg_name (i := 9) sc_turned_ratios.nd rfl (.inl rfl)) pgs_nil)))) (pss_one (ps_if (pt_cmpR (op_neDK (K := K) hr.units) (pv 8) (pe_call (ok_tie_of T) (hr.mono (by decide)) (by rfl) T.g_tie_of T.F_tie_of.kp T.b_tie_of .nil pass0 (pa_cons (pv 3) (pa_cons (pv 4) pa_nil))) (nomark _)) (pss_one (ps_dput (hu_of hr) (pv 7) (pv 8) (pv 9) rfl)) pss_nil))))
      (pss_cons (ps_for (passes_of rfl) rfl (pi_range1 (by rfl) T.m_range (pa_cons (pe_int) pa_nil)) (pg_name (i := 10) sc_turned_ratios.nd rfl (.inl rfl)) (pss_cons (ps_set (i := 11) sc_turned_ratios.nd rfl (.inl rfl) (pe_call (ok_tie_of T) (hr.mono (by decide)) (by rfl) T.g_tie_of T.F_tie_of.kp T.b_tie_of .nil pass0 (pa_cons (pe_ix (ix_listK (K := K)) (pv 5) (pv 10) (fun _ _ => rfl)) (pa_cons (pe_ix (ix_listK (K := K)) (pv 5) (pe_op op_mod (pe_op op_add (pv 10) (pe_int)) (pe_int)) (fun _ _ => rfl)) pa_nil))))
      (pss_one (ps_if (pt_cmp (pc_din (hu_of hr) (pv 11) (pv 7))) (pss_cons (ps_set (i := 12) sc_turned_ratios.nd rfl (.inl rfl) (pe_call (ok_plus T) (hr.mono (by decide)) (by rfl) T.g_plus T.F_plus.kp T.b_plus .nil pass0 (pa_cons (pe_glob (by rfl) T.g_ONE T.r_ONE) (pa_cons (pv 6) pa_nil))))
      (C8.pss_cut (ps_if (pt_cmpR op_eq (pe_op op_mod (pv 10) (pe_int)) (pe_int) (nomark _)) (pss_one (ps_set (i := 12) sc_turned_ratios.nd rfl (.inl rfl) (pe_call (ok_over T) (hr.mono (by decide)) (by rfl) T.g_over T.F_over.kp T.b_over .nil (passes_call (takes_of rfl rfl rfl rfl) (fun _ _ _ _ h => h)) (pa_cons (pv 6) (pa_cons (pv 12) pa_nil))))) pss_nil)
      (pss_one (ps_dput (hu_of hr) (pv 7) (pv 11) (pe_call (ok_times T) (hr.mono (by decide)) (by rfl) T.g_times T.F_times.kp T.b_times .nil pass0 (pa_cons (pe_dget (hu_of hr) (pv 7) (pv 11) (fun _ _ => rfl)) (pa_cons (pv 12) pa_nil))) rfl)))) pss_nil))))
      (pss_cons (ps_dput (hu_of hr) (pv 7) (pe_call (ok_tie_of T) (hr.mono (by decide)) (by rfl) T.g_tie_of T.F_tie_of.kp T.b_tie_of .nil pass0 (pa_cons (pe_ix (ix_listK (K := K)) (pv 5) (pe_int) (fun _ _ => rfl)) (pa_cons (pe_ix (ix_listK (K := K)) (pv 5) (pe_int) (fun _ _ => rfl)) pa_nil))) (pe_call (ok_over T) (hr.mono (by decide)) (by rfl) T.g_over T.F_over.kp T.b_over .nil (passes_call (takes_of rfl rfl rfl rfl) (fun _ _ _ _ h => h)) (pa_cons (pe_glob (by rfl) T.g_ONE T.r_ONE) (pa_cons (pv 6) pa_nil))) rfl)
      (pss_one (ps_ret (pv 7))))))))), ?_⟩
  walk_at "st"
  refine ⟨n, c, cut, t, a, b, rfl, n2, hc, C, hE, fun e t' x y m o R U ex g H1 s1 ng hg => ?_⟩
  have q := q e t' x y m o R U ex
  obtain ⟨txm, tmy, tyo, tox, xm, my, yn, on, out⟩ := U.four C
  have mxy : castP (x, y) ∈ cut := C.mem.mpr ⟨_, U.rope_mem, rfl⟩
  have kxy : castP (x, y) ∈ ks := (hks _).mpr mxy
  obtain ⟨r0, rB⟩ := hG _ mxy
  have cl : cut.length ≤ 1000 := by have := C.cut_len; omega
  have ksl : ks.length ≤ 1000 := by rw [perm_len hLD.nd C.cut_nodup hks]; exact cl
  have hLD1 := hLD.same s1
  walk_at "st"
  refine ⟨a, b, rfl, fun rp0 H2 s2 nrp hrp => ?_⟩
  rw [ex] at hrp
  refine w_ldGet (hLD1.same s2) hrp kxy (fun u hu => ?_)
  have hLD2 := hLD1.same s2
  have s02 := s1.trans s2
  have hg2 := s2 _ _ hg
  generalize hrr : G (castP (x, y)) = r at r0 rB hu
  walk_at "st"
  refine Pm.w_dnewT (fun f hf => ?_)
  have s4 := same_new hf (.dT [])
  have hfd : f ≠ d := by
    obtain ⟨_, es3, h1, _⟩ := hLD2
    exact (ne_of_none h1 hf).symm
  walk_at "st"
  refine w_forItems hLD2 s4 (fun od uo i σ H4 => ∃ x1 y1, σ = [some (.int n), some (.ref c), some (.ref d), some (.int a), some (.int b), some (.ref g), some (.ref u), some (.ref f), x1, y1, none, none, none] ∧ ∃ kf, LD K H4 f kf (fun p => rp (G p)) ∧ kf.length ≤ i ∧ (∀ p, p ∈ kf ↔ p ∈ ks.take i ∧ p ≠ castP (x, y))) (fun od uo Q _ _ h => Pm.w_var rfl h) ?_ ?_ ?_
  · intro od uo huo
    refine ⟨_, _, rfl, [], ?_, Nat.le_refl _, fun p => by simp⟩
    exact ld_nil (by rw [upd_ne hfd]; exact upd_same) _
  · rintro od es i k σ H4 hes hki sl kp ⟨x1, y1, rfl, kf, hLf, kl, hkf⟩ T1 p v hT1 hp hv
    have sT := same_new hT1 (.tup [.ref p, v])
    have hp2 := hp.keep (keeps sT)
    have hLf2 := hLf.same sT
    have hv2 := hv.keep (keeps sT)
    have ktk : ks.take (i + 1) = ks.take i ++ [k] := by rw [List.take_add_one, hki] <;> rfl
    have knd := hLD.nd
    have knot : k ∉ ks.take i := fun z => by
      have e1 : (ks.take (i + 1)).Nodup := knd.sublist (List.take_sublist _ _)
      rw [ktk, List.nodup_append] at e1
      exact e1.2.2 k z k List.mem_cons_self rfl
    have kil : i < ks.length := (List.getElem?_eq_some_iff.mp hki).1
    walk_at "st"
    refine Pm.w_gtup (SqT.of upd_same) rfl ?_
    walk_at "st"
    refine ⟨a, b, rfl, fun r1 H5 s5 nr1 hr1 => ?_⟩
    rw [ex] at hr1
    refine Pm.w_neP (hp2.keep (keeps s5)) hr1 ?_
    have sl5 := (sl.trans sT).trans s5
    walk_at "st"
    refine Pm.w_iteN (fun z => ?_) (fun z => ?_)
    · walk_at "st"
      refine w_ldPut (hLf2.same s5) (hp2.keep (keeps s5)) (hv2.keep (keeps s5)) (by omega) (fun es5 hL5 kp5 => ?_)
      have nk : k ∉ kf := fun z => knot ((hkf k).mp z).1
      refine ⟨same_but (lock_none hes hf) sl5, _, _, rfl, _, hL5.congr (fun p' hp' => ?_), Nat.le_trans (putk_len _ _) (by omega), fun p' => ?_⟩
      · by_cases e1 : p' = k
        · rw [e1, updF_same]
        · rw [updF_ne e1]
      · rw [mem_putk, hkf, ktk, List.mem_append, List.mem_singleton]
        constructor
        · rintro (⟨h1, h2⟩ | rfl)
          · exact ⟨.inl h1, h2⟩
          · exact ⟨.inr rfl, z⟩
        · rintro ⟨h1 | h1, h2⟩
          · exact .inl ⟨h1, h2⟩
          · exact .inr h1
    · walk_at "st"
      refine ⟨sl5, _, _, rfl, kf, hLf2.same s5, by omega, fun p' => ?_⟩
      rw [hkf, ktk, List.mem_append, List.mem_singleton]
      constructor
      · rintro ⟨h1, h2⟩
        exact ⟨.inl h1, h2⟩
      · rintro ⟨h1 | h1, h2⟩
        · exact ⟨h1, h2⟩
        · exact absurd (h1.trans z) h2
  · rintro od es σ H4 hes sl ⟨x1, y1, rfl, kf, hLf, kl, hkf⟩ s5
    rw [List.take_length] at hkf
    have hLf5 : LD K (upd H4 d (.dT es)) f kf (fun p => rp (G p)) := hLf.keep (o := .dT es) (fun t xs e => by rw [upd_ne (ne_of e (sl _ _ upd_same) (fun z => nomatch z))]; exact e) (by rw [upd_ne hfd])
    have s25 : Same H2 (upd H4 d (.dT es)) := s5
    generalize upd H4 d (.dT es) = H5 at hLf5 s25 ⊢
    have hu5 := hu.keep (keeps s25)
    have hg5 := s25 _ _ hg2
    clear hLf sl s5
    have gat : ∀ i : Nat, i < 4 → atI ([(x : Int), (m : Int), (y : Int), (o : Int)].map V.int) (i : Int) = some (.int ([(x : Int), (m : Int), (y : Int), (o : Int)].getD i 0)) := fun i hi => atI_getD hi
    have rgI : ∀ i : Nat, i < 4 → [(x : Int), (m : Int), (y : Int), (o : Int)].getD i 0 = (([x, m, y, o].getD i 0 : Nat) : Int) := fun i hi => by
      match i, hi with
      | 0, _ => rfl
      | 1, _ => rfl
      | 2, _ => rfl
      | 3, _ => rfl
    have one : ∀ H', FrV K H' (.ref T.c_ONE) (rp 1) := fun H' => ⟨_, rfl, .inr T.v_ONE⟩
    have rb1 : rb (1 : Rat) 1 := ⟨by decide, by decide⟩
    have p2 : 0 < 1 + r := by grind
    have kfl : kf.length < 1000000 := by omega
    have vkf : ∀ p ∈ kf, rb (G p) B := fun p hp => (hG p ((hks p).mp ((hkf p).mp hp).1)).2
    walk_at "st"
    refine Pm.w_forR (fun k σ H6 => ∃ x1 x2 x3 x4 x5, σ = [some (.int n), some (.ref c), some (.ref d), some (.int a), some (.int b), some (.ref g), some (.ref u), some (.ref f), x1, x2, x3, x4, x5] ∧ Same H2 H6 ∧ LD K H6 f kf (fun p => rp (WK G r x m y o k p)) ∧ H6 g = some (.lst ([(x : Int), (m : Int), (y : Int), (o : Int)].map V.int))) ⟨_, _, _, _, _, rfl, s25, hLf5, hg5⟩ ?_ ?_
    · rintro k σ H6 hk ⟨z1, z2, z3, z4, z5, rfl, s26, hL6, hg6⟩
      have hk4 : k < 4 := hk
      rw [Int.zero_add]
      walk_at "st"
      refine Pm.w_ixL (SqL.of hg6) (gat k hk4) ?_
      walk_at "st"
      rw [show ((k : Int) + 1) % 4 = (((k + 1) % 4 : Nat) : Int) by omega]
      refine Pm.w_ixL (SqL.of hg6) (gat ((k + 1) % 4) (Nat.mod_lt _ (by decide))) ?_
      walk_at "st"
      refine ⟨_, _, rfl, fun p H7 s7 np hp => ?_⟩
      rw [rgI k hk4, rgI _ (Nat.mod_lt _ (by decide)), tie_cast] at hp
      have hp : Pr H7 (.ref p) (sdK x m y o k) := hp
      have hL7 := hL6.same s7
      have s27 := s26.trans s7
      have hg7 := s7 _ _ hg6
      have hu7 := hu.keep (keeps s27)
      walk_at "st"
      refine w_ldIn hL7 hp ?_
      walk_at "st"
      refine Pm.w_ite (fun mk => ?_) (fun mk => ?_)
      · walk_at "st"
        refine ⟨T.c_ONE, u, 1, r, 1, B, rfl, (one _).rat, hu7.rat, rb1, rB, by omega, fun v H8 s8 nv hv => ?_⟩
        have s28 := s27.trans s8
        walk_at "st"
        refine Pm.w_cut (fun σ' H' => ∃ fa, σ' = [some (.int n), some (.ref c), some (.ref d), some (.int a), some (.int b), some (.ref g), some (.ref u), some (.ref f), z1, z2, some (.int k), some (.ref p), some (.ref fa)] ∧ Same H8 H' ∧ FrV K H' (.ref fa) (rp (ffK r k))) ?_ ?_
        · walk_at "st"
          refine Pm.w_ite (fun z => ?_) (fun z => ?_)
          · walk_at "st"
            refine ⟨u, v, r, 1 + r, B, 1 + B + 1, rfl, (hu.keep (keeps s28)).rat, (frv_new hv).rat, rB, rb_add rb1 rB, by omega, fun z => absurd z (by grind), fun _ v2 H9 s9 nv2 hv2 => ?_⟩
            walk_at "st"
            refine ⟨v2, rfl, s9, ?_⟩
            rw [show ffK r k = r / (1 + r) from if_pos (by omega)]
            exact frv_new hv2
          · walk_at "st"
            refine ⟨v, rfl, Same.refl _, ?_⟩
            rw [show ffK r k = 1 + r from if_neg (by omega)]
            exact frv_new hv
        rintro σ H9 ⟨fa, rfl, s9, hfa⟩
        have s79 := s8.trans s9
        have hL9 := hL7.same s79
        walk_at "st"
        refine w_ldGet hL9 (hp.keep (keeps s79)) mk (fun w1 hw1 => ?_)
        walk_at "st"
        have wb := WK_rb (x := x) (m := m) (y := y) (o := o) r0 rB (vkf _ mk) k
        have kb : k * (2 * B + 3) ≤ 3 * (2 * B + 3) := Nat.mul_le_mul_right _ (by omega)
        refine ⟨w1, fa, _, _, B + k * (2 * B + 3), 2 * B + 3, rfl, hw1.rat, hfa.rat, wb, (ffK_rb r0 rB k).1, by omega, fun v3 HA sA nv3 hv3 => ?_⟩
        walk_at "st"
        have s7A := s79.trans sA
        refine w_ldPut (hL7.same s7A) (hp.keep (keeps s7A)) (frv_new hv3) kfl (fun esB hLB kpB => ?_)
        rw [putk_old mk] at hLB
        refine ⟨_, _, _, _, _, rfl, same_but hf (s27.trans s7A), hLB.congr (fun p' hp' => ?_), ?_⟩
        · by_cases e1 : p' = sdK x m y o k
          · rw [e1, updF_same]
            show rp (WK G r x m y o (k + 1) _) = _
            rw [WK, if_pos rfl]
          · rw [updF_ne e1]
            show rp (WK G r x m y o (k + 1) _) = _
            rw [WK, if_neg e1]
        · rw [upd_ne (ne_of_none hg2 hf)]
          exact s7A _ _ hg7
      · walk_at "st"
        refine ⟨_, _, _, _, _, rfl, s27, hL7.congr (fun p' hp' => ?_), hg7⟩
        rw [WK, if_neg (fun z => mk (by rw [← z]; exact hp'))]
    · rintro σ H6 ⟨z1, z2, z3, z4, z5, rfl, s26, hL6, hg6⟩
      have hu6 := hu.keep (keeps s26)
      walk_at "st"
      refine ⟨T.c_ONE, u, 1, r, 1, B, rfl, (one _).rat, hu6.rat, rb1, rB, by omega, fun z => absurd z (by grind), fun _ v H7 s7 nv hv => ?_⟩
      have hg7 := s7 _ _ hg6
      walk_at "st"
      refine Pm.w_ixL (SqL.of hg7) (gat 1 (by decide)) ?_
      walk_at "st"
      refine Pm.w_ixL (SqL.of hg7) (gat 3 (by decide)) ?_
      walk_at "st"
      refine ⟨_, _, rfl, fun p H8 s8 np hp => ?_⟩
      rw [rgI 1 (by decide), rgI 3 (by decide), tie_cast] at hp
      have hp : Pr H8 (.ref p) (castP (min m o, max m o)) := hp
      have s68 := s7.trans s8
      have nnew : castP (min m o, max m o) ∉ kf := fun z => U.new_notin C (mem_ties.mpr (.inr ((hks _).mp ((hkf _).mp z).1)))
      refine w_ldPut (hL6.same s68) hp ((frv_new hv).keep (keeps s8)) kfl (fun esB hLB kpB => ?_)
      walk_at "st"
      refine q f _ (putk kf (castP (min m o, max m o))) (same_but (s02.free hf) (s02.trans (s26.trans s68))) (s02.free hf) (hLB.congr (fun p' hp' => ?_)) (fun p' => ?_)
      · by_cases e1 : p' = castP (min m o, max m o)
        · rw [e1, updF_same]
          unfold turnV
          rw [if_pos rfl, hrr]
        · rw [updF_ne e1]
          unfold turnV
          rw [if_neg e1, hrr, show Int.toNat 4 = 4 from rfl, WK4 C U]
      · rw [mem_putk, hkf, hks, (U.newP).mem_iff, List.mem_cons, (U.cutP C).mem_iff, List.mem_cons]
        constructor
        · rintro (⟨h1 | h1, h2⟩ | h1)
          · exact absurd h1 h2
          · exact .inr h1
          · exact .inl h1
        · rintro (h1 | h1)
          · exact .inr h1
          · refine .inl ⟨.inr h1, fun z => ?_⟩
            rw [z] at h1
            have nd := ((U.cutP C).nodup_iff).mp C.cut_nodup
            exact (List.nodup_cons.mp nd).1 h1
end
section
variable {P : Program} {w : World} {K : PySem.W.Frag} {mg : Str → Option Value} {base : Heap}
def spLow : Sp := fun vs H Q _ => ∃ (a b : Int) (n : Nat), vs = [.int a, .int b] ∧ b ≠ 0 ∧ b.natAbs < 2 ^ n ∧ n ≤ 120000000 ∧ FrNew H (Rat.divInt a b) Q
theorem ok_law_low (T : Tx P K mg base) : FnOk P w K mg base CX0 41 T.a_law_low T.fd_law_low ["_law_top", "_law_bottom"] spLow := by
  refine T.F_law_low.ok sc_law_low (fun vs H Q E h => ?_) (fun cdv A outer s H vs Q E hr h => ?_)
  · obtain ⟨a, b, n, rfl, _⟩ := h
    rfl
  obtain ⟨a, b, n, rfl, hb, hn, hn9, q⟩ := h
  refine ⟨_, (pss_cons (ps_set (i := 2) sc_law_low.nd rfl (.inl rfl) (pe_callB c_abs (by rfl) T.m_abs (by decide +kernel) (pa_cons (pv 0) pa_nil)))
      (pss_cons (ps_set (i := 3) sc_law_low.nd rfl (.inl rfl) (pe_callB c_abs (by rfl) T.m_abs (by decide +kernel) (pa_cons (pv 1) pa_nil)))
      (pss_cons (ps_while PassesOwn.never (pt_cmpR op_gt (pv 3) (pe_int) (nomark _)) (pss_one (ps_par (i := 2) (j := 3) (by rfl) sc_law_low.nd rfl rfl (by decide) rfl rfl (pa_cons (pv 3) (pa_cons (pe_op op_mod (pv 2) (pv 3)) pa_nil)) (by rfl))))
      (C8.pss_cut (ps_if (pt_cmpR op_lt (pv 1) (pe_int) (nomark _)) (pss_cons (ps_set (i := 0) sc_law_low.nd rfl (.inl rfl) (pe_un un_neg (pv 0)))
      (pss_one (ps_set (i := 1) sc_law_low.nd rfl (.inl rfl) (pe_un un_neg (pv 1))))) pss_nil)
      (pss_one (ps_ret (pe_tup (pa_cons (pe_op (op_fdivL T.seer T.tree (room_long hr (by decide))) (pv 0) (pv 2)) (pa_cons (pe_op (op_fdivL T.seer T.tree (room_long hr (by decide))) (pv 1) (pv 2)) pa_nil))))))))), ?_⟩
  walk_at "st"
  refine Pm.w_while (fun m σ H' => ∃ x y : Nat, σ = [some (.int a), some (.int b), some (.int x), some (.int y)] ∧ m = y ∧ Nat.gcd x y = Int.gcd a b ∧ H' = H) _ ⟨(if a < 0 then -a else a).natAbs, (if b < 0 then -b else b).natAbs, ?_, rfl, gcd_abs a b, rfl⟩ ?_
  · have e : ∀ c : Int, (if c < 0 then -c else c) = (((if c < 0 then -c else c).natAbs : Nat) : Int) := fun c => by split <;> omega
    show [some (V.int a), some (V.int b), some (V.int (if a < 0 then -a else a)), some (V.int (if b < 0 then -b else b))] = _
    rw [← e a, ← e b]
  · rintro m σ H' ⟨x, y, rfl, rfl, hg, rfl⟩
    walk_at "st"
    refine Pm.w_wh (fun c => ?_) (fun c => ?_)
    · walk_at "st"
      exact ⟨_, Nat.mod_lt x (by omega), m, x % m, rfl, rfl, by rw [gcd_turn x m (by omega)]; exact hg, rfl⟩
    · have e : m = 0 := by omega
      subst e
      rw [Nat.gcd_zero_right] at hg
      subst hg
      refine Pm.w_cut (fun σ' H2 => ∃ a' b' : Int, σ' = [some (.int a'), some (.int b'), some (.int ((Int.gcd a b : Nat) : Int)), some (.int ((0 : Nat) : Int))] ∧ H2 = H' ∧ Int.gcd a' b' = Int.gcd a b ∧ 0 < b' ∧ b'.natAbs < 2 ^ n ∧ Rat.divInt a' b' = Rat.divInt a b) ?_ ?_
      · walk_at "st"
        refine Pm.w_ite (fun d => ?_) (fun d => ?_)
        · walk_at "st"
          exact ⟨-a, -b, rfl, rfl, by rw [Int.gcd_neg, Int.neg_gcd], by omega, by omega, Rat.neg_divInt_neg a b⟩
        · walk_at "st"
          exact ⟨a, b, rfl, rfl, rfl, by omega, hn, rfl⟩
      · rintro σ H2 ⟨a', b', rfl, rfl, eg, hb', hn, e⟩
        rw [← eg]
        have g0 : 0 < ((Int.gcd a' b' : Nat) : Int) := gcd_pos (by omega)
        have g1 := gcd_le_right (a := a') hb'
        have n0 : 0 < n := by
          rcases Nat.eq_zero_or_pos n with z | z
          · subst z
            exact absurd hn (by omega)
          · exact z
        have hd : ∀ i : Int, CDivL i ((Int.gcd a' b' : Nat) : Int) := fun i => long_div g0 (Nat.lt_of_le_of_lt (by omega) hn) n0 hn9
        walk_at "st"
        refine Pm.w_i (hd _) ?_
        walk_at "st"
        refine Pm.w_i (hd _) ?_
        walk_at "st"
        refine Pm.w_newT (fun t ht => ?_)
        have z := div_pos_num (a := a') hb'
        rw [z.1, z.2, e]
        exact q t _ (same_new ht _) ht upd_same
end
section
variable {P : Program} {w : World} {K : PySem.W.Frag} {mg : Str → Option Value} {base : Heap}
def spPart (K : PySem.W.Frag) : Sp := fun vs H Q _ => ∃ (t : Addr) (r : Rat) (n : Nat), vs = [.ref t] ∧ SqT K H t [.int r.num, .int r.den] ∧ r.den < 2 ^ n ∧ n ≤ 120000000 ∧ ∀ H', Same H H' → Q (.bl true) H'
theorem ok_law_part (T : Tx P K mg base) : FnOk P w K mg base CX0 42 T.a_law_part T.fd_law_part ["_law_found"] (spPart K) := by
  refine T.F_law_part.ok sc_law_part (fun vs H Q E h => ?_) (fun cdv A outer s H vs Q E hr h => ?_)
  · obtain ⟨t, r, n, rfl, _⟩ := h
    rfl
  obtain ⟨t, r, n, rfl, ht, hn, hn9, q⟩ := h
  refine ⟨_, (pss_cons (ps_if (PW.pt (pw_or (pt_not (pt_val (pe_callB (call_isK (K := K)) (by rfl) T.m_isinstance (by decide +kernel) (pa_cons (pv 0) (pa_cons (pe_bltn (v := .ty "tuple") (by rfl) T.m_tuple (by decide +kernel) rfl) pa_nil))))) (pw_or1 (pt_cmpR op_ne (pe_callB (c_len (K := K)) (by rfl) T.m_len PySem.boot_len (pa_cons (pv 0) pa_nil)) (pe_int) (nomark _))))) (pss_one (ps_ret (pe_bl))) pss_nil)
      (pss_cons (ps_if (PW.pt (pw_or (pt_not (pt_val (pe_call (ok_law_whole T) (hr.mono (by decide)) (by rfl) T.g_law_whole T.F_law_whole.kp T.b_law_whole .nil pass0 (pa_cons (pe_ix (ix_tupK (K := K)) (pv 0) (pe_int) (fun _ _ => rfl)) pa_nil)))) (pw_or (pt_not (pt_val (pe_call (ok_law_whole T) (hr.mono (by decide)) (by rfl) T.g_law_whole T.F_law_whole.kp T.b_law_whole .nil pass0 (pa_cons (pe_ix (ix_tupK (K := K)) (pv 0) (pe_int) (fun _ _ => rfl)) pa_nil)))) (pw_or1 (pt_cmpR op_le (pe_ix (ix_tupK (K := K)) (pv 0) (pe_int) (fun _ _ => rfl)) (pe_int) (nomark _)))))) (pss_one (ps_ret (pe_bl))) pss_nil)
      (pss_one (ps_ret (pe_cmpR (op_eqDK (K := K) hr.units) (pe_call (ok_law_low T) (hr.mono (by decide)) (by rfl) T.g_law_low T.F_law_low.kp T.b_law_low .nil pass0 (pa_cons (pe_ix (ix_tupK (K := K)) (pv 0) (pe_int) (fun _ _ => rfl)) (pa_cons (pe_ix (ix_tupK (K := K)) (pv 0) (pe_int) (fun _ _ => rfl)) pa_nil))) (pv 0) (nomark _)))))), ?_⟩
  have rd := r.den_nz
  walk_at "st"
  refine Pm.w_isiTup ht (b := true) (by decide +kernel) ?_
  walk_at "st"
  refine Pm.w_lenT ht ?_
  walk_at "st"
  refine Pm.w_iteN (fun z => absurd rfl z) (fun _ => ?_)
  walk_at "st"
  refine Pm.w_ixT ht (atI2 _ _).1 ?_
  walk_at "st"
  refine ⟨_, rfl, ?_⟩
  walk_at "st"
  refine Pm.w_ixT ht (atI2 _ _).2 ?_
  walk_at "st"
  refine ⟨_, rfl, ?_⟩
  walk_at "st"
  refine Pm.w_ixT ht (atI2 _ _).2 ?_
  walk_at "st"
  refine Pm.w_ite (fun z => absurd z (by omega)) (fun _ => ?_)
  walk_at "st"
  refine Pm.w_ixT ht (atI2 _ _).1 ?_
  walk_at "st"
  refine Pm.w_ixT ht (atI2 _ _).2 ?_
  walk_at "st"
  refine ⟨_, _, n, rfl, den_ne r, by omega, hn9, fun u H' s1 nu hu => ?_⟩
  walk_at "st"
  refine Pm.w_eqPair (SqT.of hu) (Same.tup s1 ht) ?_
  rw [divInt_self', decide_eq_true ⟨rfl, rfl⟩]
  exact q H' s1
end
section
variable {P : Program} {w : World} {K : PySem.W.Frag} {mg : Str → Option Value} {base : Heap}
def spLAdd (K : PySem.W.Frag) : Sp := fun vs H Q _ => ∃ (t u : Addr) (x y : Rat) (n m : Nat), vs = [.ref t, .ref u] ∧ FrV K H (.ref t) (rp x) ∧ FrV K H (.ref u) (rp y) ∧ rb x n ∧ rb y m ∧ n + m ≤ 120000000 ∧ FrNew H (x + y) Q
theorem ok_law_add (T : Tx P K mg base) : FnOk P w K mg base CX0 42 T.a_law_add T.fd_law_add ["_law_one", "_law_other"] (spLAdd K) := by
  refine T.F_law_add.ok sc_law_add (fun vs H Q E h => ?_) (fun cdv A outer s H vs Q E hr h => ?_)
  · obtain ⟨t, u, x, y, n, m, rfl, _⟩ := h
    rfl
  obtain ⟨t, u, x, y, n, m, rfl, ht, hu, bx, byy, hnm, q⟩ := h
  refine ⟨_, (pss_one (ps_ret (pe_call (ok_law_low T) (hr.mono (by decide)) (by rfl) T.g_law_low T.F_law_low.kp T.b_law_low .nil pass0 (pa_cons (pe_op op_add (pe_op op_mulL (pe_ix (ix_tupK (K := K)) (pv 0) (pe_int) (fun _ _ => rfl)) (pe_ix (ix_tupK (K := K)) (pv 1) (pe_int) (fun _ _ => rfl))) (pe_op op_mulL (pe_ix (ix_tupK (K := K)) (pv 1) (pe_int) (fun _ _ => rfl)) (pe_ix (ix_tupK (K := K)) (pv 0) (pe_int) (fun _ _ => rfl)))) (pa_cons (pe_op op_mulL (pe_ix (ix_tupK (K := K)) (pv 0) (pe_int) (fun _ _ => rfl)) (pe_ix (ix_tupK (K := K)) (pv 1) (pe_int) (fun _ _ => rfl))) pa_nil))))), ?_⟩
  have n0 := rb_pos bx
  have m0 := rb_pos byy
  walk_at "st"
  refine Pm.w_ixT ht.rat (atI2 _ _).1 ?_
  walk_at "st"
  refine Pm.w_ixT hu.rat (atI2 _ _).2 ?_
  walk_at "st"
  refine Pm.w_i (long_mul bx.1 (rb_den byy) n0 m0 (by omega)) ?_
  walk_at "st"
  refine Pm.w_ixT hu.rat (atI2 _ _).1 ?_
  walk_at "st"
  refine Pm.w_ixT ht.rat (atI2 _ _).2 ?_
  walk_at "st"
  refine Pm.w_i (long_mul byy.1 (rb_den bx) m0 n0 (by omega)) ?_
  walk_at "st"
  refine Pm.w_ixT ht.rat (atI2 _ _).2 ?_
  walk_at "st"
  refine Pm.w_ixT hu.rat (atI2 _ _).2 ?_
  walk_at "st"
  refine Pm.w_i (long_mul (rb_den bx) (rb_den byy) n0 m0 (by omega)) ?_
  walk_at "st"
  refine ⟨_, _, n + m, rfl, den_mul x y, wide_lt (rb_den bx) (rb_den byy), hnm, ?_⟩
  rw [plus_is]
  exact q
def spLMul (K : PySem.W.Frag) : Sp := fun vs H Q _ => ∃ (t u : Addr) (x y : Rat) (n m : Nat), vs = [.ref t, .ref u] ∧ FrV K H (.ref t) (rp x) ∧ FrV K H (.ref u) (rp y) ∧ rb x n ∧ rb y m ∧ n + m ≤ 120000000 ∧ FrNew H (x * y) Q
theorem ok_law_mul (T : Tx P K mg base) : FnOk P w K mg base CX0 42 T.a_law_mul T.fd_law_mul ["_law_one", "_law_other"] (spLMul K) := by
  refine T.F_law_mul.ok sc_law_mul (fun vs H Q E h => ?_) (fun cdv A outer s H vs Q E hr h => ?_)
  · obtain ⟨t, u, x, y, n, m, rfl, _⟩ := h
    rfl
  obtain ⟨t, u, x, y, n, m, rfl, ht, hu, bx, byy, hnm, q⟩ := h
  refine ⟨_, (pss_one (ps_ret (pe_call (ok_law_low T) (hr.mono (by decide)) (by rfl) T.g_law_low T.F_law_low.kp T.b_law_low .nil pass0 (pa_cons (pe_op op_mulL (pe_ix (ix_tupK (K := K)) (pv 0) (pe_int) (fun _ _ => rfl)) (pe_ix (ix_tupK (K := K)) (pv 1) (pe_int) (fun _ _ => rfl))) (pa_cons (pe_op op_mulL (pe_ix (ix_tupK (K := K)) (pv 0) (pe_int) (fun _ _ => rfl)) (pe_ix (ix_tupK (K := K)) (pv 1) (pe_int) (fun _ _ => rfl))) pa_nil))))), ?_⟩
  have n0 := rb_pos bx
  have m0 := rb_pos byy
  walk_at "st"
  refine Pm.w_ixT ht.rat (atI2 _ _).1 ?_
  walk_at "st"
  refine Pm.w_ixT hu.rat (atI2 _ _).1 ?_
  walk_at "st"
  refine Pm.w_i (long_mul bx.1 byy.1 n0 m0 (by omega)) ?_
  walk_at "st"
  refine Pm.w_ixT ht.rat (atI2 _ _).2 ?_
  walk_at "st"
  refine Pm.w_ixT hu.rat (atI2 _ _).2 ?_
  walk_at "st"
  refine Pm.w_i (long_mul (rb_den bx) (rb_den byy) n0 m0 (by omega)) ?_
  walk_at "st"
  refine ⟨_, _, n + m, rfl, den_mul x y, wide_lt (rb_den bx) (rb_den byy), hnm, ?_⟩
  rw [times_is]
  exact q
def spLDiv (K : PySem.W.Frag) : Sp := fun vs H Q _ => ∃ (t u : Addr) (x y : Rat) (n m : Nat), vs = [.ref t, .ref u] ∧ FrV K H (.ref t) (rp x) ∧ FrV K H (.ref u) (rp y) ∧ rb x n ∧ rb y m ∧ n + m ≤ 120000000 ∧ y ≠ 0 ∧ FrNew H (x / y) Q
theorem ok_law_div (T : Tx P K mg base) : FnOk P w K mg base CX0 42 T.a_law_div T.fd_law_div ["_law_one", "_law_other"] (spLDiv K) := by
  refine T.F_law_div.ok sc_law_div (fun vs H Q E h => ?_) (fun cdv A outer s H vs Q E hr h => ?_)
  · obtain ⟨t, u, x, y, n, m, rfl, _⟩ := h
    rfl
  obtain ⟨t, u, x, y, n, m, rfl, ht, hu, bx, byy, hnm, y0, q⟩ := h
  refine ⟨_, (pss_one (ps_ret (pe_call (ok_law_low T) (hr.mono (by decide)) (by rfl) T.g_law_low T.F_law_low.kp T.b_law_low .nil pass0 (pa_cons (pe_op op_mulL (pe_ix (ix_tupK (K := K)) (pv 0) (pe_int) (fun _ _ => rfl)) (pe_ix (ix_tupK (K := K)) (pv 1) (pe_int) (fun _ _ => rfl))) (pa_cons (pe_op op_mulL (pe_ix (ix_tupK (K := K)) (pv 0) (pe_int) (fun _ _ => rfl)) (pe_ix (ix_tupK (K := K)) (pv 1) (pe_int) (fun _ _ => rfl))) pa_nil))))), ?_⟩
  have n0 := rb_pos bx
  have m0 := rb_pos byy
  walk_at "st"
  refine Pm.w_ixT ht.rat (atI2 _ _).1 ?_
  walk_at "st"
  refine Pm.w_ixT hu.rat (atI2 _ _).2 ?_
  walk_at "st"
  refine Pm.w_i (long_mul bx.1 (rb_den byy) n0 m0 (by omega)) ?_
  walk_at "st"
  refine Pm.w_ixT ht.rat (atI2 _ _).2 ?_
  walk_at "st"
  refine Pm.w_ixT hu.rat (atI2 _ _).1 ?_
  walk_at "st"
  refine Pm.w_i (long_mul (rb_den bx) byy.1 n0 m0 (by omega)) ?_
  walk_at "st"
  refine ⟨_, _, n + m, rfl, Int.mul_ne_zero (den_ne x) (fun z => y0 (Rat.num_eq_zero.mp z)), wide_lt (rb_den bx) byy.1, hnm, ?_⟩
  rw [over_is]
  exact q
end
section
variable {P : Program} {w : World} {K : PySem.W.Frag} {mg : Str → Option Value} {base : Heap}
def spSize : Sp := fun vs H Q _ => ∃ x : Int, vs = [.int x] ∧ 0 ≤ x ∧ ∀ r : Rat, szd r 1024 128 → FrNew H r Q
theorem szd_div {a b : Int} {N M : Nat} (ha : 1 ≤ a ∧ a ≤ N) (hb : 1 ≤ b ∧ b ≤ M) : szd (Rat.divInt a b) N M := by
  have e := div_pos_num (a := a) (b := b) (by omega)
  have g : (0 : Int) < ((Int.gcd a b : Nat) : Int) := gcd_pos (by omega)
  have n1 : (Rat.divInt a b).num ≤ a := by
    rw [← e.1]
    exact Int.ediv_le_self _ (by omega)
  have d1 : ((Rat.divInt a b).den : Int) ≤ b := by
    rw [← e.2]
    exact Int.ediv_le_self _ (by omega)
  have p : 0 < Rat.divInt a b := by
    rw [Rat.divInt_eq_div]
    refine rat_div_pos ?_ ?_
    · exact Rat.intCast_pos.mpr (by omega)
    · exact Rat.intCast_pos.mpr (by omega)
  have := pos_num p
  exact ⟨p, by omega, by omega⟩
theorem ok_law_size (T : Tx P K mg base) : FnOk P w K mg base CX0 42 T.a_law_size T.fd_law_size ["_law_one"] spSize := by
  refine T.F_law_size.ok sc_law_size (fun vs H Q E h => ?_) (fun cdv A outer s H vs Q E hr h => ?_)
  · obtain ⟨x, rfl, _⟩ := h
    rfl
  obtain ⟨x, rfl, x0, q⟩ := h
  refine ⟨_, (pss_cons (ps_if (pt_cmpR op_eq (pe_op op_mod (pv 0) (pe_int)) (pe_int) (nomark _)) (pss_one (ps_ret (pe_call (ok_law_low T) (hr.mono (by decide)) (by rfl) T.g_law_low T.F_law_low.kp T.b_law_low .nil pass0 (pa_cons (pe_op op_add (pe_int) (pe_op op_mod (pe_op op_fdiv (pv 0) (pe_int)) (pe_int))) (pa_cons (pe_op op_add (pe_int) (pe_op op_mod (pe_op op_fdiv (pv 0) (pe_int)) (pe_int))) pa_nil))))) pss_nil)
      (pss_one (ps_ret (pe_call (ok_law_low T) (hr.mono (by decide)) (by rfl) T.g_law_low T.F_law_low.kp T.b_law_low .nil pass0 (pa_cons (pe_op op_add (pe_int) (pe_op op_mod (pv 0) (pe_int))) (pa_cons (pe_op op_add (pe_int) (pe_op op_mod (pe_op op_fdiv (pv 0) (pe_int)) (pe_int))) pa_nil)))))), ?_⟩
  walk_at "st"
  refine Pm.w_ite (fun e => ?_) (fun e => ?_)
  · walk_at "st"
    refine ⟨_, _, 8, rfl, by omega, by omega, by decide, q _ (szd_div ?_ ?_)⟩
    · constructor <;> omega
    · constructor <;> omega
  · walk_at "st"
    refine ⟨_, _, 8, rfl, by omega, by omega, by decide, q _ (szd_div ?_ ?_)⟩
    · constructor <;> omega
    · constructor <;> omega
def spSized (K : PySem.W.Frag) : Sp := fun vs H Q _ => ∃ (a r : Addr) (ts : List IP) (row : List Int), vs = [.ref a, .ref r] ∧ PLt H a ts ∧ ts.Nodup ∧ SqL K H r (row.map V.int) ∧ ts.length ≤ row.length ∧ 0 < ts.length ∧ ts.length ≤ 1000 ∧ (∀ x ∈ row, 0 ≤ x) ∧
  ∀ (d : Addr) (H' : Hp) (ks : List IP) (R : IP → Rat), Same H H' → H d = none → LD K H' d ks (fun k => rp (R k)) → (∀ p, p ∈ ks ↔ p ∈ ts) → (∀ p ∈ ts, szd (R p) 1024 128) → Q (.ref d) H'
theorem ok_law_sized (T : Tx P K mg base) : FnOk P w K mg base CX0 43 T.a_law_sized T.fd_law_sized ["_law_all_ties", "_law_row"] (spSized K) := by
  refine T.F_law_sized.ok sc_law_sized (fun vs H Q E h => ?_) (fun cdv A outer s H vs Q E hr h => ?_)
  · obtain ⟨a, r, ts, row, rfl, _⟩ := h
    rfl
  obtain ⟨a, r, ts, row, rfl, ⟨tvs, hta, hpt⟩, tnd, hR, trl, t0, t1, hrow, q⟩ := h
  have tl := hpt.length
  have r0 : ∀ i : Nat, i < row.length → 0 ≤ row.getD i 0 := fun i hi => by
    rw [List.getD_eq_getElem?_getD, List.getElem?_eq_getElem hi]
    exact hrow _ (List.getElem_mem hi)
  refine ⟨_, (pss_cons (ps_set (i := 2) sc_law_sized.nd rfl (.inl rfl) (pe_dnewT))
      (pss_cons (ps_for PassesOwn.never rfl (pi_range1 (by rfl) T.m_range (pa_cons (pe_callB (c_len (K := K)) (by rfl) T.m_len PySem.boot_len (pa_cons (pv 0) pa_nil)) pa_nil)) (pg_name (i := 3) sc_law_sized.nd rfl (.inl rfl)) (pss_cons (ps_set (i := 4) sc_law_sized.nd rfl (.inl rfl) (pe_op op_mod (pe_op op_add (pv 3) (pe_op op_fdiv (pe_ix (ix_listK (K := K)) (pv 1) (pe_int) (fun _ _ => rfl)) (pe_int))) (pe_callB (c_len (K := K)) (by rfl) T.m_len PySem.boot_len (pa_cons (pv 0) pa_nil))))
      (pss_one (ps_dput (hu_of hr) (pv 2) (pe_ix (ix_listK (K := K)) (pv 0) (pv 4) (fun _ _ => rfl)) (pe_call (ok_law_size T) (hr.mono (by decide)) (by rfl) T.g_law_size T.F_law_size.kp T.b_law_size .nil pass0 (pa_cons (pe_ix (ix_listK (K := K)) (pv 1) (pv 4) (fun _ _ => rfl)) pa_nil)) rfl))))
      (pss_one (ps_ret (pv 2))))), ?_⟩
  walk_at "st"
  refine Pm.w_dnewT (fun d hd => ?_)
  have s1 := same_new hd (.dT [])
  walk_at "st"
  refine Pm.w_lenL (SqL.of (s1 _ _ hta)) ?_
  walk_at "st"
  rw [tl, Int.toNat_natCast]
  have z0 := r0 0 (by omega)
  generalize hsh : (row.getD 0 0 / 17).toNat = sh
  have hsh' : row.getD 0 0 / 17 = (sh : Int) := by omega
  refine Pm.w_forR (fun i σ H2 => ∃ (x y : Option V) (ks : List IP) (R : IP → Rat), σ = [some (.ref a), some (.ref r), some (.ref d), x, y] ∧ Same H H2 ∧ LD K H2 d ks (fun k => rp (R k)) ∧ ks.length ≤ i ∧ (∀ p, p ∈ ks ↔ ∃ k, k < i ∧ ts[(k + sh) % ts.length]? = some p) ∧ ∀ p ∈ ks, szd (R p) 1024 128) ?_ ?_ ?_
  · exact ⟨_, _, [], fun _ => 0, rfl, s1, ld_nil upd_same _, Nat.le_refl _, fun p => ⟨fun h => (nomatch h), fun ⟨k, hk, _⟩ => absurd hk (by omega)⟩, fun _ h => nomatch h⟩
  · rintro i σ H2 hi ⟨x, y, ks, R, rfl, s2, hL, kl, hks, hz⟩
    have hR2 := s2.seq hR
    have hta2 := s2 _ _ hta
    walk_at "st"
    refine Pm.w_ixL hR2 (atI_int (by omega) (by omega)) ?_
    walk_at "st"
    refine Pm.w_lenL (SqL.of hta2) ?_
    walk_at "st"
    rw [tl, Int.zero_add]
    have em : ((i : Int) + row.getD 0 0 / 17) % (ts.length : Int) = (((i + sh) % ts.length : Nat) : Int) := by rw [hsh']; rfl
    rw [show (0 : Int).toNat = 0 from rfl, em]
    have jm : (i + sh) % ts.length < ts.length := Nat.mod_lt _ t0
    generalize hj : (i + sh) % ts.length = j at jm
    refine Pm.w_ixL hR2 (atI_int (by omega) (by omega)) ?_
    walk_at "st"
    refine ⟨_, rfl, by rw [Int.toNat_natCast]; exact r0 j (by omega), fun rr hrr t H3 s3 nt ht => ?_⟩
    walk_at "st"
    obtain ⟨p, hp, u, hu, hut⟩ := hpt.get (List.getElem?_eq_getElem (show j < tvs.length by omega))
    have hH3 := s2.trans s3
    refine Pm.w_ixL (SqL.of (hH3 _ _ hta)) (v := .ref u) (atI_nat (by rw [List.getElem?_eq_getElem (show j < tvs.length by omega), hu])) ?_
    refine w_ldPut (k := p) (p := rp rr) (hL.same s3) ⟨u, rfl, hH3 _ _ hut⟩ (frv_new ht) (by omega) (fun es hL4 kp => ?_)
    refine ⟨_, _, putk ks p, fun k => if k = p then rr else R k, rfl, same_but hd hH3, hL4.congr fun k hk => ?_, Nat.le_trans (putk_len _ _) (by omega), fun p' => ?_, fun p' hp' => ?_⟩
    · by_cases e : k = p
      · simp only [e, if_true, updF_same]
      · simp only [if_neg e, updF_ne e]
    · rw [mem_putk, hks]
      constructor
      · rintro (⟨k, hk, e⟩ | rfl)
        · exact ⟨k, by omega, e⟩
        · exact ⟨i, by omega, by rw [hj]; exact hp⟩
      · rintro ⟨k, hk, e⟩
        by_cases c : k = i
        · subst c
          rw [hj, hp] at e
          exact .inr (Option.some.inj e).symm
        · exact .inl ⟨k, by omega, e⟩
    · by_cases e : p' = p
      · simp only [e, if_true]; exact hrr
      · simp only [if_neg e]
        rcases mem_putk.mp hp' with z | z
        · exact hz _ z
        · exact absurd z e
  · rintro σ H2 ⟨x, y, ks, R, rfl, s2, hL, kl, hks, hz⟩
    walk_at "st"
    have all : ∀ p, p ∈ ks ↔ p ∈ ts := fun p => by
      rw [hks]
      constructor
      · rintro ⟨k, _, e⟩
        exact List.mem_of_getElem? e
      · intro hp
        obtain ⟨j, hj, e⟩ := List.mem_iff_getElem.mp hp
        refine ⟨(j + (ts.length - sh % ts.length)) % ts.length, Nat.mod_lt _ t0, ?_⟩
        have e2 : ((j + (ts.length - sh % ts.length)) % ts.length + sh) % ts.length = j := by
          rw [Nat.mod_add_mod, Nat.add_assoc]
          have h1 := Nat.mod_lt sh t0
          have h2 := Nat.div_add_mod sh ts.length
          rw [show ts.length - sh % ts.length + sh = ts.length * (sh / ts.length + 1) by rw [Nat.mul_add, Nat.mul_one]; omega, Nat.add_mul_mod_self_left]
          exact Nat.mod_eq_of_lt hj
        rw [e2, List.getElem?_eq_getElem hj, e]
    exact q d H2 ks R s2 hd hL all fun p hp => hz p ((all p).mpr hp)
end
section
variable {P : Program} {w : World} {K : PySem.W.Frag} {mg : Str → Option Value} {base : Heap}
def spTuple (K : PySem.W.Frag) : Sp := fun vs H Q _ => ∃ (t : Addr) (ns : List Int), vs = [.ref t, .int ns.length] ∧ SqT K H t (ns.map V.int) ∧ Q (.bl true) H
theorem ok_law_tuple (T : Tx P K mg base) : FnOk P w K mg base CX0 42 T.a_law_tuple T.fd_law_tuple ["_law_found", "_law_many_here"] (spTuple K) := by
  refine T.F_law_tuple.ok sc_law_tuple (fun vs H Q E h => ?_) (fun cdv A outer s H vs Q E hr h => ?_)
  · obtain ⟨t, ns, rfl, _⟩ := h
    rfl
  obtain ⟨t, ns, rfl, ht, q⟩ := h
  refine ⟨_, (pss_cons (ps_if (PW.pt (pw_or (pt_not (pt_val (pe_callB (call_isK (K := K)) (by rfl) T.m_isinstance (by decide +kernel) (pa_cons (pv 0) (pa_cons (pe_bltn (v := .ty "tuple") (by rfl) T.m_tuple (by decide +kernel) rfl) pa_nil))))) (pw_or1 (pt_cmpR op_ne (pe_callB (c_len (K := K)) (by rfl) T.m_len PySem.boot_len (pa_cons (pv 0) pa_nil)) (pv 1) (nomark _))))) (pss_one (ps_ret (pe_bl))) pss_nil)
      (pss_cons (ps_for PassesOwn.never rfl (k_it (K := K) (pi_tup (pv 0))) (pg_name (i := 2) sc_law_tuple.nd rfl (.inl rfl)) (pss_one (ps_if (pt_not (pt_val (pe_call (ok_law_whole T) (hr.mono (by decide)) (by rfl) T.g_law_whole T.F_law_whole.kp T.b_law_whole .nil pass0 (pa_cons (pv 2) pa_nil)))) (pss_one (ps_ret (pe_bl))) pss_nil)))
      (pss_one (ps_ret (pe_bl))))), ?_⟩
  walk_at "st"
  refine Pm.w_isiTup ht (b := true) (by decide +kernel) ?_
  walk_at "st"
  refine Pm.w_lenT ht ?_
  walk_at "st"
  refine Pm.w_iteN (fun z => absurd (by rw [List.length_map]) z) (fun _ => ?_)
  walk_at "st"
  refine Pm.w_rdT ht ?_
  refine Pm.w_forT (xs := ns.map V.int) (fun i σ H' => ∃ x, σ = [some (.ref t), some (.int ns.length), x] ∧ H' = H) ⟨_, rfl, rfl⟩ (fun i σ H' _ ⟨x, _, e⟩ => by rw [e]; exact ht) ?_ ?_
  · rintro i x σ H' hi ⟨y, rfl, rfl⟩
    rw [List.getElem?_map] at hi
    obtain ⟨k, _, rfl⟩ := Option.map_eq_some_iff.mp hi
    walk_at "st"
    refine ⟨_, rfl, ?_⟩
    walk_at "st"
    exact ⟨_, rfl, rfl⟩
  · rintro σ H' ⟨x, rfl, rfl⟩
    walk_at "st"
    exact q
end
section
variable {P : Program} {w : World} {K : PySem.W.Frag} {mg : Str → Option Value} {base : Heap}
def spLDict (K : PySem.W.Frag) : Sp := fun vs H Q _ => ∃ (f d : Addr) (kf kd : List IP) (Lf Ld : IP → IP) (R : IP → Rat) (B : Nat), vs = [.ref f, .ref d] ∧ LD K H f kf Lf ∧ LD K H d kd Ld ∧ f ≠ d ∧ (∀ p, p ∈ kf ↔ p ∈ kd) ∧ (∀ p ∈ kd, Lf p = rp (R p) ∧ Ld p = rp (R p) ∧ rb (R p) B) ∧ B ≤ 120000000 ∧ ∀ H', Same H H' → Q (.bl true) H'
theorem ok_law_dict (T : Tx P K mg base) : FnOk P w K mg base CX0 43 T.a_law_dict T.fd_law_dict (["_law_found", "_law_due_here"]) (spLDict K) := by
  refine T.F_law_dict.ok sc_law_dict (fun vs H Q E h => ?_) (fun cdv A outer s H vs Q E hr h => ?_)
  · obtain ⟨f, d, kf, kd, Lf, Ld, R, B, rfl, _⟩ := h
    rfl
  obtain ⟨f, d, kf, kd, Lf, Ld, R, B, rfl, hf, hd, ne, hk, hv, hB, q⟩ := h
  have len := perm_len hf.nd hd.nd hk
  refine ⟨_, (pss_cons (ps_if (PW.pt (pw_or (pt_not (pt_val (pe_callB (call_isK (K := K)) (by rfl) T.m_isinstance (by decide +kernel) (pa_cons (pv 0) (pa_cons (pe_bltn (v := .ty "dict") (by rfl) T.m_dict (by decide +kernel) rfl) pa_nil))))) (pw_or1 (pt_cmpR op_ne (pe_callB call_len_dT (by rfl) T.m_len PySem.boot_len (pa_cons (pv 0) pa_nil)) (pe_callB call_len_dT (by rfl) T.m_len PySem.boot_len (pa_cons (pv 1) pa_nil)) (nomark _))))) (pss_one (ps_ret (pe_bl))) pss_nil)
      (pss_cons (ps_lock (ps_for PassesOwn.never rfl (pi_itemsT (pv 1)) (k_gt (K := K) (pg_tup (by rfl) (pgs_cons (pg_name (i := 2) sc_law_dict.nd rfl (.inl rfl)) (pgs_cons (pg_name (i := 3) sc_law_dict.nd rfl (.inl rfl)) pgs_nil)))) (pss_one (ps_if (PW.pt (pw_or (pt_cmp (pc_dnotin (hu_of hr) (pv 2) (pv 0))) (pw_or (pt_not (pt_val (pe_call (ok_law_part T) (hr.mono (by decide)) (by rfl) T.g_law_part T.F_law_part.kp T.b_law_part .nil pass0 (pa_cons (pe_dget (hu_of hr) (pv 0) (pv 2) (fun _ _ => rfl)) pa_nil)))) (pw_or1 (pt_cmpR (op_neDK (K := K) hr.units) (pe_dget (hu_of hr) (pv 0) (pv 2) (fun _ _ => rfl)) (pv 3) (nomark _)))))) (pss_one (ps_ret (pe_bl))) pss_nil))))
      (pss_cons (ps_lock (ps_for PassesOwn.never rfl (pi_keysT (pv 0)) (pg_name (i := 2) sc_law_dict.nd rfl (.inl rfl)) (pss_one (ps_if (pt_not (pt_val (pe_call (ok_law_tuple T) (hr.mono (by decide)) (by rfl) T.g_law_tuple T.F_law_tuple.kp T.b_law_tuple .nil pass0 (pa_cons (pv 2) (pa_cons (pe_int) pa_nil))))) (pss_one (ps_ret (pe_bl))) pss_nil))))
      (pss_one (ps_ret (pe_bl)))))), ?_⟩
  walk_at "st"
  refine w_isiLd hf (bb := true) (by decide +kernel) ?_
  walk_at "st"
  refine w_ldLen hf ?_
  walk_at "st"
  refine w_ldLen hd ?_
  walk_at "st"
  refine Pm.w_iteN (fun z => absurd (by rw [len]) z) (fun _ => ?_)
  walk_at "st"
  refine w_forItems hd (Same.refl H) (fun od u i σ H1 => ∃ x y, σ = [some (.ref f), some (.ref d), x, y]) (fun od u Q _ _ h => Pm.w_var rfl h) (fun od u _ => ⟨_, _, rfl⟩) ?_ ?_
  · rintro od es i k σ H1 hes hki s1 kp ⟨x, y, rfl⟩ T1 p v hT1 hp hvv
    have mk := List.mem_of_getElem? hki
    obtain ⟨v1, v2, v3⟩ := hv k mk
    have s2 := same_new hT1 (.tup [.ref p, v])
    have hf1 := hf.lock hes ne (s1.trans s2)
    have hp2 := hp.keep (keeps s2)
    obtain ⟨vt, rfl, hvt⟩ := hvv.keep (keeps s2)
    have hv2 : FrV K _ (.ref vt) (Ld k) := ⟨vt, rfl, hvt⟩
    rw [v2] at hv2
    walk_at "st"
    refine Pm.w_gtup (SqT.of upd_same) rfl ?_
    walk_at "st"
    refine w_ldNotIn hf1 hp2 ?_
    rw [decide_eq_true ((hk k).mpr mk)]
    walk_at "st"
    refine w_ldGet hf1 hp2 ((hk k).mpr mk) (fun u hu => ?_)
    rw [v1] at hu
    walk_at "st"
    refine ⟨u, R k, B, rfl, hu.rat, v3.2, hB, fun H3 s3 => ?_⟩
    have hp3 := hp2.keep (keeps s3)
    have hf3 := hf.lock hes ne ((s1.trans s2).trans s3)
    walk_at "st"
    refine w_ldGet hf3 hp3 ((hk k).mpr mk) (fun u2 hu2 => ?_)
    rw [v1] at hu2
    walk_at "st"
    refine w_neFr hu2 (hv2.keep (keeps s3)) ?_
    rw [decide_eq_true rfl]
    walk_at "st"
    exact ⟨(s1.trans s2).trans s3, _, _, rfl⟩
  · rintro od es σ H1 hes s1 ⟨x, y, rfl⟩ s2
    walk_at "st"
    refine w_forKeysT (hf.same s2) (Same.refl _) (fun od u i σ H1 => ∃ x y, σ = [some (.ref f), some (.ref d), x, y]) (fun od u Q _ _ h => Pm.w_var rfl h) (fun od u _ => ⟨_, _, rfl⟩) ?_ ?_
    · rintro od2 es2 i k σ H3 hes2 hki s3 kp ⟨x, y, rfl⟩ p hp
      walk_at "st"
      refine ⟨p, [k.1, k.2], rfl, hp.tup, ?_⟩
      walk_at "st"
      exact ⟨s3, _, _, rfl⟩
    · rintro od2 es2 σ H3 hes2 s3 ⟨x, y, rfl⟩ s4
      walk_at "st"
      exact q _ (s2.trans s4)
end
section
variable {P : Program} {w : World} {K : PySem.W.Frag} {mg : Str → Option Value} {base : Heap}
def spLSides : Sp := fun vs H Q _ => ∃ n : Nat, vs = [.int n] ∧ 1 ≤ n ∧ n ≤ 1000 ∧ PLNew H (sides0 n) Q
theorem ok_law_sides (T : Tx P K mg base) : FnOk P w K mg base CX0 41 T.a_law_sides T.fd_law_sides ["_law_n"] spLSides := by
  refine T.F_law_sides.ok sc_law_sides (fun vs H Q E h => ?_) (fun cdv A outer s H vs Q E hr h => ?_)
  · obtain ⟨n, rfl, _⟩ := h
    rfl
  obtain ⟨n, rfl, n1, n2, q⟩ := h
  refine ⟨_, (pss_one (ps_ret (pe_op op_cat (pe_lc (own := [("_law_k", 1)]) (g := gName 1) (tt := tYes) rfl sc_law_sides.nd (pi_range1 (by rfl) T.m_range (pa_cons (pe_op op_sub (pv 0) (pe_int)) pa_nil)) (blkOk_by (N := N_law_sides) (sc := defScope s_law_sides) (by decide +kernel)) (fun _ _ _ _ _ => (pg_name (i := 1) sc_law_sides.nd rfl (.inl rfl))) (fun _ _ _ _ _ => pts_nil) (fun _ _ _ _ _ => (pe_tup (pa_cons (pv 1) (pa_cons (pe_op op_add (pv 1) (pe_int)) pa_nil))))) (pe_lst (pa_cons (pe_tup (pa_cons (pe_int) (pa_cons (pe_op op_sub (pv 0) (pe_int)) pa_nil))) pa_nil))))), ?_⟩
  walk_at "st"
  have en : ((n : Int) - 1).toNat = n - 1 := by omega
  rw [en]
  refine Pm.w_lcRm (R := Pr) pr_mono (fun k : Nat => ((k : Int), (k : Int) + 1)) (by omega) (fun D i H1 Nx hD hi s1 put => ?_) (fun D H1 ws hD s1 hd ha => ?_)
  · walk_at "st"
    refine Pm.w_newT (fun t ht => ?_)
    refine put _ _ (same_new ht _) ⟨t, rfl, ?_⟩
    rw [upd_same, Int.zero_add]
  · walk_at "st"
    refine Pm.w_newT (fun t ht => ?_)
    walk_at "st"
    refine Pm.w_newL (fun l hl => ?_)
    have nD : D ≠ l := ne_of_none (o := .lst ws) ((same_new ht _) _ _ hd) hl
    have hlen := ha.length
    rw [List.length_map, List.length_range] at hlen
    refine Pm.w_cat (by rw [upd_ne nD, upd_ne (ne_of_none hd ht)]; exact hd) upd_same (size_ok (by rw [hlen, List.length_singleton]; omega)) (fun p hp => ?_)
    have k1 : Keeps H1 (upd (upd (upd H1 t (.tup [.int 0, .int ((n : Int) - 1)])) l (.lst [.ref t])) p (.lst (ws ++ [.ref t]))) := keeps ((same_new ht _).trans ((same_new hl _).trans (same_new hp _)))
    have s2 := s1.trans ((same_new ht _).trans ((same_new hl _).trans (same_new hp (.lst (ws ++ [.ref t])))))
    refine q p _ _ s2 (by have := (s1.trans ((same_new ht _).trans (same_new hl (.lst [.ref t])))).free hp; exact this) upd_same ((prs_keep k1 ha).append ⟨⟨t, rfl, ?_⟩, trivial⟩)
    exact ((same_new hl _).trans (same_new hp _)) _ _ upd_same
end
section
variable {P : Program} {w : World} {K : PySem.W.Frag} {mg : Str → Option Value} {base : Heap}
def spLTies : Sp := fun vs H Q _ => ∃ (n : Nat) (c : Addr) (cut : List IP), vs = [.int n, .ref c] ∧ 1 ≤ n ∧ n ≤ 1000 ∧ PLt H c cut ∧ cut.length ≤ 1000 ∧ PLNew H (tiesL n cut) Q
theorem ok_law_ties (T : Tx P K mg base) : FnOk P w K mg base CX0 42 T.a_law_ties T.fd_law_ties ["_law_n", "_law_cut"] spLTies := by
  refine T.F_law_ties.ok sc_law_ties (fun vs H Q E h => ?_) (fun cdv A outer s H vs Q E hr h => ?_)
  · obtain ⟨n, c, cut, rfl, _⟩ := h
    rfl
  obtain ⟨n, c, cut, rfl, n1, n2, ⟨cvs, hc, pc⟩, cl, q⟩ := h
  refine ⟨_, (pss_one (ps_ret (pe_callB (cr_sortK (K := K)) (by rfl) T.m_sorted (by decide +kernel) (pa_cons (pe_op op_cat (pe_call (ok_law_sides T) (hr.mono (by decide)) (by rfl) T.g_law_sides T.F_law_sides.kp T.b_law_sides .nil pass0 (pa_cons (pv 0) pa_nil)) (pv 1)) pa_nil)))), ?_⟩
  walk_at "st"
  refine ⟨n, rfl, n1, n2, fun p H1 ws s1 np hp ha => ?_⟩
  walk_at "st"
  have l1 := ha.length
  rw [sides0_len n1] at l1
  have l2 := pc.length
  refine Pm.w_cat hp (s1 _ _ hc) (size_ok (by omega)) (fun l hl => ?_)
  have k1 := keeps (same_new hl (.lst (ws ++ cvs)))
  refine Pm.w_sortP (SqL.of upd_same) ((prs_keep k1 ha).append (prs_keep ((keeps s1).trans k1) pc)) (fun ys p2 hp2 hy => ?_)
  have s2 := s1.trans (same_new hl (.lst (ws ++ cvs)))
  exact q p2 _ ys (s2.trans (same_new hp2 _)) (s2.free hp2) upd_same (prs_keep (keeps (same_new hp2 _)) hy)
end
section
variable {P : Program} {w : World} {K : PySem.W.Frag} {mg : Str → Option Value} {base : Heap}
def spLBeside : Sp := fun vs H Q _ => ∃ (n : Nat) (l : Addr) (T0 : List IP) (a b : Int), vs = [.int n, .ref l, .int a, .int b] ∧ n ≤ 1000 ∧ PLt H l T0 ∧ ILNew H (besideL n T0 a b) Q
theorem ok_law_beside (T : Tx P K mg base) : FnOk P w K mg base CX0 42 T.a_law_beside T.fd_law_beside ["_law_n", "_law_all_ties", "_law_a", "_law_b"] spLBeside := by
  refine T.F_law_beside.ok sc_law_beside (fun vs H Q E h => ?_) (fun cdv A outer s H vs Q E hr h => ?_)
  · obtain ⟨n, l, T0, a, b, rfl, _⟩ := h
    rfl
  obtain ⟨n, l, T0, a, b, rfl, n2, ⟨ws, hl, ha⟩, q⟩ := h
  refine ⟨_, (pss_cons (ps_set (i := 4) sc_law_beside.nd rfl (.inl rfl) (pe_lst pa_nil))
      (pss_cons (ps_for PassesOwn.never rfl (pi_range1 (by rfl) T.m_range (pa_cons (pv 0) pa_nil)) (pg_name (i := 5) sc_law_beside.nd rfl (.inl rfl)) (pss_one (ps_if (PW.pt (pw_and (pt_cmpR (op_inDK (K := K) hr.u65) (pe_call (ok_law_pair T) (hr.mono (by decide)) (by rfl) T.g_law_pair T.F_law_pair.kp T.b_law_pair .nil pass0 (pa_cons (pv 2) (pa_cons (pv 5) pa_nil))) (pv 1) (by rfl)) (pw_and1 (pt_cmpR (op_inDK (K := K) hr.u65) (pe_call (ok_law_pair T) (hr.mono (by decide)) (by rfl) T.g_law_pair T.F_law_pair.kp T.b_law_pair .nil pass0 (pa_cons (pv 3) (pa_cons (pv 5) pa_nil))) (pv 1) (by rfl))))) (pss_one (ps_expr (k_bm (K := K) (pe_bm PySem.F.plainAttrs_list PySem.F.slot_list_append PySem.F.type_list_append mt_append (pv 4) (pa_cons (pv 5) pa_nil))))) pss_nil)))
      (pss_one (ps_ret (pv 4))))), ?_⟩
  walk_at "st"
  refine Pm.w_newL (fun f hf => ?_)
  walk_at "st"
  rw [Int.toNat_natCast]
  have s3 : Same H (upd H f (.lst [])) := same_new hf _
  have nlf : l ≠ f := ne_of_none hl hf
  have hHf : H f = none := hf
  refine Pm.w_forR (fun i σ H3 => ∃ x, σ = [some (.int n), some (.ref l), some (.int a), some (.int b), some (.ref f), x] ∧ Same H H3 ∧ H3 l = some (.lst ws) ∧ Prs H3 ws (T0) ∧ H3 f = some (.lst ((((List.range i).filter (isBeside (T0) a b)).map fun c : Nat => (c : Int)).map V.int))) ?_ ?_ ?_
  · exact ⟨_, rfl, same_but hHf (Same.refl _), s3 _ _ hl, prs_keep (keeps s3) ha, upd_same⟩
  · rintro i σ H3 hi ⟨x, rfl, sm, hl3, ha3, hf3⟩
    have hz : ((((List.range i).filter (isBeside (T0) a b)).map fun c : Nat => (c : Int)).map V.int).length < sizeLine := by
      rw [List.length_map, List.length_map]
      have := List.length_filter_le (isBeside (T0) a b) (List.range i)
      rw [List.length_range] at this
      exact size_lt (by omega)
    have fin : ∀ H5 : Hp, Same H3 H5 → isBeside (T0) a b i = false → ∃ x, ([some (.int n), some (.ref l), some (.int a), some (.int b), some (.ref f), some (.int (0 + (i : Nat)))] : L2.St) = [some (.int n), some (.ref l), some (.int a), some (.int b), some (.ref f), x] ∧ Same H H5 ∧ H5 l = some (.lst ws) ∧ Prs H5 ws (T0) ∧ H5 f = some (.lst ((((List.range (i + 1)).filter (isBeside (T0) a b)).map fun c : Nat => (c : Int)).map V.int)) := fun H5 s5 z => by
      refine ⟨_, rfl, sm.trans s5, s5 _ _ hl3, prs_keep (keeps s5) ha3, ?_⟩
      rw [besides_snoc, z, if_neg Bool.false_ne_true, List.append_nil]
      exact s5 _ _ hf3
    walk_at "st"
    refine ⟨a, _, rfl, fun t4 H4 s4 nt4 ht4 => ?_⟩
    rw [Int.zero_add] at ht4
    walk_at "st"
    refine Pm.w_inPL ht4 (SqL.of (s4 _ _ hl3)) (prs_keep (keeps s4) ha3) ?_
    walk_at "st"
    refine Pm.w_ite (fun e1 => ?_) (fun e1 => ?_)
    · walk_at "st"
      refine ⟨b, _, rfl, fun t5 H5 s5 nt5 ht5 => ?_⟩
      rw [Int.zero_add] at ht5
      have s45 := s4.trans s5
      walk_at "st"
      refine Pm.w_inPL ht5 (SqL.of (s45 _ _ hl3)) (prs_keep (keeps s45) ha3) ?_
      walk_at "st"
      refine Pm.w_ite (fun e2 => ?_) (fun e2 => ?_)
      · have z : isBeside (T0) a b i = true := by unfold isBeside; rw [decide_eq_true e1, decide_eq_true e2]; rfl
        walk_at "st"
        refine ⟨.inl ⟨rfl, _, SqL.of (s45 _ _ hf3)⟩, ?_⟩
        walk_at "st"
        refine Pm.w_append (s45 _ _ hf3) hz ?_
        walk_at "st"
        refine ⟨_, rfl, same_but hHf (sm.trans s45), ?_, ?_, ?_⟩
        · rw [upd_ne nlf]; exact s45 _ _ hl3
        · exact prs_keep (keeps_lst (s45 _ _ hf3)) (prs_keep (keeps s45) ha3)
        · rw [upd_same, besides_snoc, z, if_pos rfl, List.map_append, Int.zero_add]
          rfl
      · have z : isBeside (T0) a b i = false := by unfold isBeside; rw [decide_eq_false e2, Bool.and_false]
        walk_at "st"
        exact fin H5 s45 z
    · have z : isBeside (T0) a b i = false := by unfold isBeside; rw [decide_eq_false e1, Bool.false_and]
      walk_at "st"
      exact fin H4 s4 z
  · rintro σ H3 ⟨x, rfl, sm, hl3, ha3, hf3⟩
    walk_at "st"
    exact q f _ sm hHf hf3
end
section
variable {P : Program} {w : World} {K : PySem.W.Frag} {mg : Str → Option Value} {base : Heap}
def spLTurned : Sp := fun vs H Q _ => ∃ (n : Nat) (c r : Addr) (cut : List IP) (rope : IP), vs = [.int n, .ref c, .ref r] ∧ 1 ≤ n ∧ n ≤ 1000 ∧ PLt H c cut ∧ cut.length ≤ 1000 ∧ Pr H (.ref r) rope ∧ rope.1 < rope.2 ∧ 2 ≤ (besideL n (tiesL n cut) rope.1 rope.2).length ∧ PLNew H (turnedL n cut rope.1 rope.2) Q
theorem ok_law_turned (T : Tx P K mg base) : FnOk P w K mg base CX0 43 T.a_law_turned T.fd_law_turned ["_law_n", "_law_cut", "_law_rope"] spLTurned := by
  refine T.F_law_turned.ok sc_law_turned (fun vs H Q E h => ?_) (fun cdv A outer s H vs Q E hr h => ?_)
  · obtain ⟨n, c, r, cut, rope, rfl, _⟩ := h
    rfl
  obtain ⟨n, c, r, cut, rope, rfl, n1, n2, hc, cl, hrp, hlt, l2, q⟩ := h
  obtain ⟨a, b⟩ := rope
  simp only at hlt l2 q
  have eT : tieOf a b = (a, b) := tie_lt hlt
  refine ⟨_, (pss_cons (ps_set (i := 3) sc_law_turned.nd rfl (.inl rfl) (pe_call (ok_law_beside T) (hr.mono (by decide)) (by rfl) T.g_law_beside T.F_law_beside.kp T.b_law_beside .nil pass0 (pa_cons (pv 0) (pa_cons (pe_call (ok_law_ties T) (hr.mono (by decide)) (by rfl) T.g_law_ties T.F_law_ties.kp T.b_law_ties .nil pass0 (pa_cons (pv 0) (pa_cons (pv 1) pa_nil))) (pa_cons (pe_ix (ix_tupK (K := K)) (pv 2) (pe_int) (fun _ _ => rfl)) (pa_cons (pe_ix (ix_tupK (K := K)) (pv 2) (pe_int) (fun _ _ => rfl)) pa_nil))))))
      (pss_one (ps_ret (pe_callB (cr_sortK (K := K)) (by rfl) T.m_sorted (by decide +kernel) (pa_cons (pe_op op_cat (pe_lc (own := [("_law_one", 4)]) (g := gName 4) rfl sc_law_turned.nd (k_il (K := K) (pi_list (pv 1))) (blkOk_by (N := N_law_turned) (sc := defScope s_law_turned) (by decide +kernel)) (fun _ _ _ _ _ => (pg_name (i := 4) sc_law_turned.nd rfl (.inl rfl))) (fun _ _ _ _ _ => (pts_one (pt_cmpR (op_neDK (K := K) hr.units) (pv 4) (pv 2) (nomark _)))) (fun _ _ _ _ _ => (pv 4))) (pe_lst (pa_cons (pe_tup (pa_cons (pe_ix (ix_listK (K := K)) (pv 3) (pe_int) (fun _ _ => rfl)) (pa_cons (pe_ix (ix_listK (K := K)) (pv 3) (pe_int) (fun _ _ => rfl)) pa_nil))) pa_nil))) pa_nil))))), ?_⟩
  walk_at "st"
  refine ⟨n, c, cut, rfl, n1, n2, hc, cl, fun tl H1 tvs s1 ntl htl htp => ?_⟩
  have hr1 := hrp.keep (keeps s1)
  walk_at "st"
  refine Pm.w_ixT hr1.tup (atI2 _ _).1 ?_
  walk_at "st"
  refine Pm.w_ixT hr1.tup (atI2 _ _).2 ?_
  walk_at "st"
  refine ⟨n, tl, _, a, b, rfl, n2, ⟨tvs, htl, htp⟩, fun l H2 s2 nl hl => ?_⟩
  obtain ⟨cv2, hc2, hp2⟩ := hc.same (s1.trans s2)
  walk_at "st"
  refine Pm.w_rdL (SqL.of hc2) ?_
  refine Pm.w_lcLf (R := Pr) pr_mono (S := Pr) pr_mono (SqL.of hc2) hp2 id (fun p => !decide (p = tieOf a b)) (by omega) (fun D x p H3 Nx hD hm hs s3 put skip => ?_) (fun D H3 ws hD s3 hd ha => ?_)
  · obtain ⟨t, rfl, ht⟩ := hs
    obtain ⟨u, eu, hu⟩ := hr1.keep (keeps (s2.trans s3))
    cases eu
    walk_at "st"
    refine Pm.w_neP ⟨t, rfl, ht⟩ ⟨_, rfl, hu⟩ ?_
    walk_at "st"
    refine Pm.w_iteN (fun z => ?_) (fun z => ?_)
    · walk_at "st"
      exact put _ _ (by rw [eT]; simp [z]) (Same.refl _) ⟨t, rfl, ht⟩
    · exact skip _ (by rw [eT]; simp [z]) (Same.refl _)
  · rw [List.map_id] at ha
    have hl3 := s3 _ _ hl
    walk_at "st"
    refine Pm.w_ixL (SqL.of hl3) (atI_getD (i := 0) (by omega)) ?_
    walk_at "st"
    refine Pm.w_ixL (SqL.of hl3) (atI_getD (i := 1) (by omega)) ?_
    walk_at "st"
    refine Pm.w_newT (fun t ht => ?_)
    walk_at "st"
    refine Pm.w_newL (fun k hk => ?_)
    have nDk : D ≠ k := ne_of_none (o := .lst ws) ((same_new ht _) _ _ hd) hk
    have hlen := ha.length
    have hlf := List.length_filter_le (fun p : IP => !decide (p = tieOf a b)) cut
    refine Pm.w_cat (by rw [upd_ne nDk, upd_ne (ne_of_none hd ht)]; exact hd) upd_same (size_ok (by rw [List.length_singleton]; omega)) (fun g hg => ?_)
    have k1 := keeps ((same_new ht (.tup [.int ((besideL n (tiesL n cut) a b).getD 0 0), .int ((besideL n (tiesL n cut) a b).getD 1 0)])).trans ((same_new hk (.lst [.ref t])).trans (same_new hg (.lst (ws ++ [.ref t])))))
    have s4 := (same_new ht (.tup [.int ((besideL n (tiesL n cut) a b).getD 0 0), .int ((besideL n (tiesL n cut) a b).getD 1 0)])).trans ((same_new hk (.lst [.ref t])).trans (same_new hg (.lst (ws ++ [.ref t]))))
    refine Pm.w_sortP (SqL.of upd_same) ((prs_keep k1 ha).append (ys' := [((besideL n (tiesL n cut) a b).getD 0 0, (besideL n (tiesL n cut) a b).getD 1 0)]) ⟨⟨t, rfl, ?_⟩, trivial⟩) (fun ys p2 hp2' hy => ?_)
    · exact ((same_new hk _).trans (same_new hg _)) _ _ upd_same
    · have s5 := s1.trans (s2.trans (s3.trans s4))
      exact q p2 _ ys (s5.trans (same_new hp2' _)) (s5.free hp2') upd_same (prs_keep (keeps (same_new hp2' _)) hy)
end
section
variable {P : Program} {w : World} {K : PySem.W.Frag} {mg : Str → Option Value} {base : Heap}
/-- the four posts of a rope, rising -/
def ring4 (x m y o : Nat) : List Int := if o < x then [(o : Int), (x : Int), (m : Int), (y : Int)] else [(x : Int), (m : Int), (y : Int), (o : Int)]
def spLRing : Sp := fun vs H Q _ => ∃ (n : Nat) (c r : Addr) (cut : List IP) (t t' : Tr) (x y m o : Nat) (R : List (Nat × Nat)), vs = [.int n, .ref c, .ref r] ∧ n ≤ 1000 ∧ PLt H c cut ∧ Cutting n cut t ∧ Pr H (.ref r) (castP (x, y)) ∧ Turning n cut t t' x y m o R ∧ ILNew H (ring4 x m y o) Q
theorem ok_law_ring (T : Tx P K mg base) : FnOk P w K mg base CX0 43 T.a_law_ring T.fd_law_ring ["_law_n", "_law_cut", "_law_rope"] spLRing := by
  refine T.F_law_ring.ok sc_law_ring (fun vs H Q E h => ?_) (fun cdv A outer s H vs Q E hr h => ?_)
  · obtain ⟨n, c, r, cut, t, t', x, y, m, o, R, rfl, _⟩ := h
    rfl
  obtain ⟨n, c, r, cut, t, t', x, y, m, o, R, rfl, n2, hc, C, hrp, U, q⟩ := h
  have cl := C.cut_len
  have n3 := C.n3
  refine ⟨_, (pss_cons (ps_set (i := 3) sc_law_ring.nd rfl (.inl rfl) (pe_call (ok_law_beside T) (hr.mono (by decide)) (by rfl) T.g_law_beside T.F_law_beside.kp T.b_law_beside .nil pass0 (pa_cons (pv 0) (pa_cons (pe_call (ok_law_ties T) (hr.mono (by decide)) (by rfl) T.g_law_ties T.F_law_ties.kp T.b_law_ties .nil pass0 (pa_cons (pv 0) (pa_cons (pv 1) pa_nil))) (pa_cons (pe_ix (ix_tupK (K := K)) (pv 2) (pe_int) (fun _ _ => rfl)) (pa_cons (pe_ix (ix_tupK (K := K)) (pv 2) (pe_int) (fun _ _ => rfl)) pa_nil))))))
      (pss_one (ps_ret (pe_callB (cr_sortIK (K := K)) (by rfl) T.m_sorted (by decide +kernel) (pa_cons (pe_lst (pa_cons (pe_ix (ix_tupK (K := K)) (pv 2) (pe_int) (fun _ _ => rfl)) (pa_cons (pe_ix (ix_tupK (K := K)) (pv 2) (pe_int) (fun _ _ => rfl)) (pa_cons (pe_ix (ix_listK (K := K)) (pv 3) (pe_int) (fun _ _ => rfl)) (pa_cons (pe_ix (ix_listK (K := K)) (pv 3) (pe_int) (fun _ _ => rfl)) pa_nil))))) pa_nil))))), ?_⟩
  walk_at "st"
  refine ⟨n, c, cut, rfl, by omega, n2, hc, by omega, fun l H1 tvs s1 nl hl ha => ?_⟩
  have hr1 := hrp.keep (keeps s1)
  walk_at "st"
  refine Pm.w_ixT hr1.tup (atI2 _ _).1 ?_
  walk_at "st"
  refine Pm.w_ixT hr1.tup (atI2 _ _).2 ?_
  walk_at "st"
  refine ⟨n, l, tiesL n cut, _, _, rfl, by omega, ⟨tvs, hl, ha⟩, fun b H2 s2 nbd hbd => ?_⟩
  have bes' : besideL n (tiesL n cut) (castP (x, y)).1 (castP (x, y)).2 = [((min m o : Nat) : Int), ((max m o : Nat) : Int)] := U.bes
  rw [bes'] at hbd
  have hr2 := hr1.keep (keeps s2)
  walk_at "st"
  refine Pm.w_ixT hr2.tup (atI2 _ _).1 ?_
  walk_at "st"
  refine Pm.w_ixT hr2.tup (atI2 _ _).2 ?_
  walk_at "st"
  refine Pm.w_ixL (SqL.of hbd) (show atI [V.int ((min m o : Nat) : Int), V.int ((max m o : Nat) : Int)] 0 = some _ from rfl) ?_
  walk_at "st"
  refine Pm.w_ixL (SqL.of hbd) (show atI [V.int ((min m o : Nat) : Int), V.int ((max m o : Nat) : Int)] 1 = some _ from rfl) ?_
  walk_at "st"
  refine Pm.w_newL (fun g hg => ?_)
  have s3 := same_new hg (.lst [.int (castP (x, y)).1, .int (castP (x, y)).2, .int ((min m o : Nat) : Int), .int ((max m o : Nat) : Int)])
  refine w_sortI (ns := [(x : Int), (y : Int), ((min m o : Nat) : Int), ((max m o : Nat) : Int)]) (ms := ring4 x m y o) (SqL.of upd_same) ?_ ?_ (fun p hp => ?_)
  · unfold ring4
    have F := U.four C
    rcases U.cross C with ⟨h1, h2, h3, h4, h5⟩ | ⟨h1, h2, h3, h4, h5⟩
    · rw [if_neg (by omega), h4, h5]
      exact (List.Perm.swap _ _ _).cons _
    · rw [if_pos (by omega), h4, h5]
      refine List.perm_iff_count.mpr fun a => ?_
      simp only [List.count_cons, List.count_nil]
      omega
  · unfold ring4
    have F := U.four C
    obtain ⟨_, _, _, _, f1, f2, f3, f4, f5⟩ := F
    have pw : ∀ a b c d : Int, a ≤ b → b ≤ c → c ≤ d → [a, b, c, d].Pairwise (· ≤ ·) := fun a b c d h1 h2 h3 => by
      refine .cons (fun z hz => ?_) (.cons (fun z hz => ?_) (.cons (fun z hz => ?_) (.cons (fun z hz => nomatch hz) .nil)))
      all_goals
        simp only [List.mem_cons, List.not_mem_nil, or_false] at hz
        omega
    split
    · exact pw _ _ _ _ (by omega) (by omega) (by omega)
    · exact pw _ _ _ _ (by omega) (by omega) (by omega)
  · exact q p _ ((s1.trans s2).trans (s3.trans (same_new hp _))) ((s1.trans s2).free (s3.free hp)) upd_same
def spLRatio (K : PySem.W.Frag) : Sp := fun vs H Q _ => ∃ (n : Nat) (c d r : Addr) (cut : List IP) (t : Tr) (L : Len) (D : Nat → Nat → Rat) (F B : Nat) (p : IP), vs = [.int n, .ref c, .ref d, .ref r] ∧ n ≤ 1000 ∧ PLt H c cut ∧ Cutting n cut t ∧ LenD K H d t D ∧ Meas n t L D ∧ Bd n D F B ∧ 4 * B ≤ 120000000 ∧ Pr H (.ref r) p ∧ p ∈ cut ∧ FrNew H (ratP n cut D p) Q
theorem ok_law_ratio (T : Tx P K mg base) : FnOk P w K mg base CX0 44 T.a_law_ratio T.fd_law_ratio ["_law_n", "_law_cut", "_law_sized_here", "_law_rope"] (spLRatio K) := by
  refine T.F_law_ratio.ok sc_law_ratio (fun vs H Q E h => ?_) (fun cdv A outer s H vs Q E hr h => ?_)
  · obtain ⟨n, c, d, r, cut, t, L, D, F, B, p, rfl, _⟩ := h
    rfl
  obtain ⟨n, c, d, r, cut, t, L, D, F, B, p, rfl, n2, hc, C, hd, M, Z, hB, hrp, mp, q⟩ := h
  obtain ⟨⟨x, y⟩, hq, rfl⟩ := C.mem.mp mp
  obtain ⟨t', m, o, R, U⟩ := C.turn hq
  rw [ratP_is C U] at q
  obtain ⟨txm, tmy, tyo, tox, xm, my, yn, on, out⟩ := U.four C
  have bdd : ∀ i k : Nat, i < n → k < n → rb (absD D i k) B := fun i k hi hk => Z.rb (by omega) (by omega)
  have b0 := bdd x m (by omega) (by omega)
  have b1 := bdd m y (by omega) (by omega)
  have b2 := bdd y o (by omega) (by omega)
  have b3 := bdd o x (by omega) (by omega)
  have pmy := M.above my yn
  have pox : 0 < absD D o x := M.above (by omega) (by omega)
  have e1 : absD D m y = D m y := by unfold absD; rw [Nat.min_eq_left (by omega), Nat.max_eq_right (by omega)]
  have e0 : absD D x m = D x m := by unfold absD; rw [Nat.min_eq_left (by omega), Nat.max_eq_right (by omega)]
  refine ⟨_, (pss_cons (ps_set (i := 4) sc_law_ratio.nd rfl (.inl rfl) (pe_call (ok_law_ring T) (hr.mono (by decide)) (by rfl) T.g_law_ring T.F_law_ring.kp T.b_law_ring .nil pass0 (pa_cons (pv 0) (pa_cons (pv 1) (pa_cons (pv 3) pa_nil)))))
      (C8.pss_cut (ps_if (pt_cmpR op_ne (pe_ix (ix_listK (K := K)) (pv 4) (pe_int) (fun _ _ => rfl)) (pe_ix (ix_tupK (K := K)) (pv 3) (pe_int) (fun _ _ => rfl)) (nomark _)) (pss_one (ps_set (i := 4) sc_law_ratio.nd rfl (.inl rfl) (pe_op op_cat (pe_slice (sl_listK (K := K)) (pv 4) (po_some (pe_int)) po_none) (pe_slice (sl_listK (K := K)) (pv 4) po_none (po_some (pe_int)))))) pss_nil)
      (pss_cons (ps_set (i := 5) sc_law_ratio.nd rfl (.inl rfl) (pe_call (ok_law_mul T) (hr.mono (by decide)) (by rfl) T.g_law_mul T.F_law_mul.kp T.b_law_mul .nil pass0 (pa_cons (pe_dget (hu_of hr) (pv 2) (pe_call (ok_law_pair T) (hr.mono (by decide)) (by rfl) T.g_law_pair T.F_law_pair.kp T.b_law_pair .nil pass0 (pa_cons (pe_ix (ix_listK (K := K)) (pv 4) (pe_int) (fun _ _ => rfl)) (pa_cons (pe_ix (ix_listK (K := K)) (pv 4) (pe_int) (fun _ _ => rfl)) pa_nil))) (fun _ _ => rfl)) (pa_cons (pe_dget (hu_of hr) (pv 2) (pe_call (ok_law_pair T) (hr.mono (by decide)) (by rfl) T.g_law_pair T.F_law_pair.kp T.b_law_pair .nil pass0 (pa_cons (pe_ix (ix_listK (K := K)) (pv 4) (pe_int) (fun _ _ => rfl)) (pa_cons (pe_ix (ix_listK (K := K)) (pv 4) (pe_int) (fun _ _ => rfl)) pa_nil))) (fun _ _ => rfl)) pa_nil))))
      (pss_cons (ps_set (i := 6) sc_law_ratio.nd rfl (.inl rfl) (pe_call (ok_law_mul T) (hr.mono (by decide)) (by rfl) T.g_law_mul T.F_law_mul.kp T.b_law_mul .nil pass0 (pa_cons (pe_dget (hu_of hr) (pv 2) (pe_call (ok_law_pair T) (hr.mono (by decide)) (by rfl) T.g_law_pair T.F_law_pair.kp T.b_law_pair .nil pass0 (pa_cons (pe_ix (ix_listK (K := K)) (pv 4) (pe_int) (fun _ _ => rfl)) (pa_cons (pe_ix (ix_listK (K := K)) (pv 4) (pe_int) (fun _ _ => rfl)) pa_nil))) (fun _ _ => rfl)) (pa_cons (pe_dget (hu_of hr) (pv 2) (pe_call (ok_law_pair T) (hr.mono (by decide)) (by rfl) T.g_law_pair T.F_law_pair.kp T.b_law_pair .nil pass0 (pa_cons (pe_ix (ix_listK (K := K)) (pv 4) (pe_int) (fun _ _ => rfl)) (pa_cons (pe_ix (ix_listK (K := K)) (pv 4) (pe_int) (fun _ _ => rfl)) pa_nil))) (fun _ _ => rfl)) pa_nil))))
      (pss_one (ps_ret (pe_call (ok_law_div T) (hr.mono (by decide)) (by rfl) T.g_law_div T.F_law_div.kp T.b_law_div .nil pass0 (pa_cons (pv 5) (pa_cons (pv 6) pa_nil))))))))), ?_⟩
  walk_at "st"
  refine ⟨n, c, r, cut, t, t', x, y, m, o, R, rfl, n2, hc, C, hrp, U, fun g H1 s1 ng hg => ?_⟩
  have hr1 := hrp.keep (keeps s1)
  walk_at "st"
  refine Pm.w_cut (fun σ' H' => ∃ g', σ' = [some (.int n), some (.ref c), some (.ref d), some (.ref r), some (.ref g'), none, none] ∧ Same H H' ∧ H' g' = some (.lst [.int (x : Int), .int (m : Int), .int (y : Int), .int (o : Int)])) ?_ ?_
  · by_cases ox : o < x
    · have eg : ring4 x m y o = [(o : Int), (x : Int), (m : Int), (y : Int)] := if_pos ox
      rw [eg] at hg
      walk_at "st"
      refine Pm.w_ixL (SqL.of hg) (show atI [V.int (o : Int), V.int (x : Int), V.int (m : Int), V.int (y : Int)] 0 = some _ from rfl) ?_
      walk_at "st"
      refine Pm.w_ixT hr1.tup (atI2 _ _).1 ?_
      walk_at "st"
      refine Pm.w_iteN (fun z => ?_) (fun z => absurd z (by simp only [castP]; omega))
      walk_at "st"
      refine Pm.w_slL (SqL.of hg) (fun g1 hg1 => ?_)
      rw [cut_drop (by decide) (by show (1 : Int) ≤ ((4 : Nat) : Int); decide)]
      have s2 := same_new hg1 (.lst ([(o : Int), (x : Int), (m : Int), (y : Int)].map V.int |>.drop (1 : Int).toNat))
      walk_at "st"
      refine Pm.w_slL (SqL.of (s2 _ _ hg)) (fun g2 hg2 => ?_)
      rw [cut_take (by decide) (by show (1 : Int) ≤ ((4 : Nat) : Int); decide)]
      have s3 := same_new hg2 (.lst ([(o : Int), (x : Int), (m : Int), (y : Int)].map V.int |>.take (1 : Int).toNat))
      refine Pm.w_cat (s3 _ _ upd_same) upd_same (size_ok (by show 3 + 1 ≤ 16777216; decide)) (fun g3 hg3 => ?_)
      exact ⟨g3, rfl, (s1.trans s2).trans (s3.trans (same_new hg3 _)), upd_same⟩
    · have eg : ring4 x m y o = [(x : Int), (m : Int), (y : Int), (o : Int)] := if_neg ox
      rw [eg] at hg
      walk_at "st"
      refine Pm.w_ixL (SqL.of hg) (show atI [V.int (x : Int), V.int (m : Int), V.int (y : Int), V.int (o : Int)] 0 = some _ from rfl) ?_
      walk_at "st"
      refine Pm.w_ixT hr1.tup (atI2 _ _).1 ?_
      walk_at "st"
      refine Pm.w_iteN (fun z => absurd rfl z) (fun z => ?_)
      walk_at "st"
      exact ⟨g, rfl, s1, hg⟩
  rintro σ H2 ⟨g', rfl, s2, hg'⟩
  have a0 : atI [V.int (x : Int), V.int (m : Int), V.int (y : Int), V.int (o : Int)] 0 = some (.int (x : Int)) := rfl
  have a1 : atI [V.int (x : Int), V.int (m : Int), V.int (y : Int), V.int (o : Int)] 1 = some (.int (m : Int)) := rfl
  have a2 : atI [V.int (x : Int), V.int (m : Int), V.int (y : Int), V.int (o : Int)] 2 = some (.int (y : Int)) := rfl
  have a3 : atI [V.int (x : Int), V.int (m : Int), V.int (y : Int), V.int (o : Int)] 3 = some (.int (o : Int)) := rfl
  have t0 : (min x m, max x m) ∈ t.all 0 := by rw [Nat.min_eq_left (by omega), Nat.max_eq_right (by omega)]; exact txm
  have t1 : (min m y, max m y) ∈ t.all 0 := by rw [Nat.min_eq_left (by omega), Nat.max_eq_right (by omega)]; exact tmy
  walk_at "st"
  refine Pm.w_ixL (SqL.of hg') a0 ?_
  walk_at "st"
  refine Pm.w_ixL (SqL.of hg') a1 ?_
  walk_at "st"
  refine ⟨_, _, rfl, fun p3 H3 s3 n3' h3 => ?_⟩
  rw [tie_cast] at h3
  refine w_lenGet (hd.same (s2.trans s3)) h3 t0 (fun u1 hu1 => ?_)
  walk_at "st"
  refine Pm.w_ixL (SqL.of (s3 _ _ hg')) a2 ?_
  walk_at "st"
  refine Pm.w_ixL (SqL.of (s3 _ _ hg')) a3 ?_
  walk_at "st"
  refine ⟨_, _, rfl, fun p4 H4 s4 n4' h4 => ?_⟩
  rw [tie_cast] at h4
  have s24 := s2.trans (s3.trans s4)
  refine w_lenGet (hd.same s24) h4 tyo (fun u2 hu2 => ?_)
  walk_at "st"
  refine ⟨_, _, _, _, B, B, rfl, hu1.keep (keeps s4), hu2, b0, b2, by omega, fun u3 H5 s5 n5 h5 => ?_⟩
  have g5 := (s3.trans (s4.trans s5)) _ _ hg'
  walk_at "st"
  refine Pm.w_ixL (SqL.of g5) a1 ?_
  walk_at "st"
  refine Pm.w_ixL (SqL.of g5) a2 ?_
  walk_at "st"
  refine ⟨_, _, rfl, fun p6 H6 s6 n6' h6 => ?_⟩
  rw [tie_cast] at h6
  have s26 := (s24.trans s5).trans s6
  refine w_lenGet (hd.same s26) h6 t1 (fun u4 hu4 => ?_)
  walk_at "st"
  refine Pm.w_ixL (SqL.of (s6 _ _ g5)) a3 ?_
  walk_at "st"
  refine Pm.w_ixL (SqL.of (s6 _ _ g5)) a0 ?_
  walk_at "st"
  refine ⟨_, _, rfl, fun p7 H7 s7 n7' h7 => ?_⟩
  rw [tie_cast] at h7
  have s27 := s26.trans s7
  refine w_lenGet (hd.same s27) h7 tox (fun u5 hu5 => ?_)
  walk_at "st"
  refine ⟨_, _, _, _, B, B, rfl, hu4.keep (keeps s7), hu5, b1, b3, by omega, fun u6 H8 s8 n8 h8 => ?_⟩
  have ne : absD D m y * absD D o x ≠ 0 := by
    rw [e1]
    have := rat_mul_pos pmy pox
    grind
  walk_at "st"
  refine ⟨_, _, _, _, B + B, B + B, rfl, frv_new ((s6.trans (s7.trans s8)) _ _ h5), frv_new h8, rb_mul b0 b2, rb_mul b1 b3, by omega, ne, fun v H9 s9 nv hv => ?_⟩
  have hv : H9 v = some (.tup [.int (absD D x m * absD D y o / (absD D m y * absD D o x)).num, .int ((absD D x m * absD D y o / (absD D m y * absD D o x)).den : Int)]) := hv
  rw [e0, e1] at hv
  have sA := s27.trans s8
  exact q v H9 (sA.trans s9) (sA.free nv) hv
def spLRatios (K : PySem.W.Frag) : Sp := fun vs H Q _ => ∃ (n : Nat) (c d : Addr) (cut : List IP) (t : Tr) (L : Len) (D : Nat → Nat → Rat) (F B : Nat), vs = [.int n, .ref c, .ref d] ∧ n ≤ 1000 ∧ PLt H c cut ∧ Cutting n cut t ∧ LenD K H d t D ∧ Meas n t L D ∧ Bd n D F B ∧ 4 * B ≤ 120000000 ∧
  ∀ (f : Addr) (H' : Hp), Same H H' → H f = none → LD K H' f cut (fun p => rp (ratP n cut D p)) → Q (.ref f) H'
theorem ok_law_ratios (T : Tx P K mg base) : FnOk P w K mg base CX0 45 T.a_law_ratios T.fd_law_ratios ["_law_n", "_law_cut", "_law_sized_here"] (spLRatios K) := by
  refine T.F_law_ratios.ok sc_law_ratios (fun vs H Q E h => ?_) (fun cdv A outer s H vs Q E hr h => ?_)
  · obtain ⟨n, c, d, cut, t, L, D, F, B, rfl, _⟩ := h
    rfl
  obtain ⟨n, c, d, cut, t, L, D, F, B, rfl, n2, hc, C, hd, M, Z, hB, q⟩ := h
  have cl := C.cut_len
  have cnd := C.cut_nodup
  obtain ⟨cvs, hcl, hcp⟩ := hc
  refine ⟨_, (pss_cons (ps_set (i := 3) sc_law_ratios.nd rfl (.inl rfl) (pe_dnewT))
      (pss_cons (ps_for PassesOwn.never rfl (k_il (K := K) (pi_list (pv 1))) (pg_name (i := 4) sc_law_ratios.nd rfl (.inl rfl)) (pss_one (ps_dput (hu_of hr) (pv 3) (pv 4) (pe_call (ok_law_ratio T) (hr.mono (by decide)) (by rfl) T.g_law_ratio T.F_law_ratio.kp T.b_law_ratio .nil pass0 (pa_cons (pv 0) (pa_cons (pv 1) (pa_cons (pv 2) (pa_cons (pv 4) pa_nil))))) rfl)))
      (pss_one (ps_ret (pv 3))))), ?_⟩
  walk_at "st"
  refine Pm.w_dnewT (fun f hf => ?_)
  have s1 := same_new hf (.dT [])
  walk_at "st"
  refine Pm.w_rdL (SqL.of (s1 _ _ hcl)) ?_
  refine Pm.w_forL (xs := cvs) (fun i σ H2 => ∃ x, σ = [some (.int n), some (.ref c), some (.ref d), some (.ref f), x] ∧ Same H H2 ∧ LD K H2 f (cut.take i) (fun p => rp (ratP n cut D p))) ⟨_, rfl, s1, by rw [List.take_zero]; exact ld_nil upd_same _⟩ (fun i σ H2 _ ⟨_, _, s2, _⟩ => SqL.of (s2 _ _ hcl)) ?_ ?_
  · rintro i v σ H2 hi ⟨x, rfl, s2, hL⟩
    obtain ⟨p, hp, u, rfl, hu⟩ := hcp.get hi
    have mp := List.mem_of_getElem? hp
    walk_at "st"
    refine ⟨n, c, d, u, cut, t, L, D, F, B, p, rfl, n2, PLt.same ⟨cvs, hcl, hcp⟩ s2, C, hd.same s2, M, Z, hB, ⟨u, rfl, s2 _ _ hu⟩, mp, fun v1 H3 s3 nv hv => ?_⟩
    walk_at "st"
    refine w_ldPut (k := p) (p := rp (ratP n cut D p)) (hL.same s3) ⟨u, rfl, (s2.trans s3) _ _ hu⟩ (frv_new hv) (by rw [List.length_take]; omega) (fun es hL5 kp => ?_)
    have tk : cut.take (i + 1) = cut.take i ++ [p] := by rw [List.take_add_one, hp] <;> rfl
    have nin : p ∉ cut.take i := fun z => by
      have e1 : (cut.take (i + 1)).Nodup := cnd.sublist (List.take_sublist _ _)
      rw [tk, List.nodup_append] at e1
      exact e1.2.2 p z p List.mem_cons_self rfl
    refine ⟨_, rfl, same_but hf (s2.trans s3), ?_⟩
    rw [tk, ← putk_new nin]
    refine hL5.congr fun k hk => ?_
    by_cases e : k = p
    · rw [e, updF_same]
    · rw [updF_ne e]
  · rintro σ H2 ⟨x, rfl, s2, hL⟩
    walk_at "st"
    rw [hcp.length, List.take_length] at hL
    exact q f H2 s2 hf hL
end
section
variable {P : Program} {w : World} {K : PySem.W.Frag} {mg : Str → Option Value} {base : Heap}
def spWild : Sp := fun vs H Q _ => ∃ (n : Nat) (x : Int), vs = [.int n, .int x] ∧ ∀ (i : Int) H', Same H H' → Q (.int i) H'
theorem ok_law_wild (T : Tx P K mg base) : FnOk P w K mg base CX0 41 T.a_law_wild T.fd_law_wild ["_law_n", "_law_one"] spWild := by
  refine T.F_law_wild.ok sc_law_wild (fun vs H Q E h => ?_) (fun cdv A outer s H vs Q E hr h => ?_)
  · obtain ⟨n, x, rfl, _⟩ := h
    rfl
  obtain ⟨n, x, rfl, q⟩ := h
  refine ⟨_, (pss_cons (ps_if (pt_cmpR op_eq (pe_op op_mod (pe_op op_fdiv (pv 1) (pe_int)) (pe_int)) (pe_int) (nomark _)) (pss_one (ps_ret (pe_ix (ix_listK (K := K)) (pe_lst (pa_cons (pe_un un_neg (pv 0)) (pa_cons (pe_un un_neg (pe_int)) (pa_cons (pe_op op_add (pv 0) (pe_int)) (pa_cons (pe_op op_pow (pe_int) (pe_int)) (pa_cons (pe_un un_neg (pe_op op_pow (pe_int) (pe_int))) pa_nil)))))) (pe_op op_mod (pv 1) (pe_int)) (fun _ _ => rfl)))) pss_nil)
      (pss_one (ps_ret (pe_op op_sub (pe_op op_mod (pv 1) (pe_op op_add (pv 0) (pe_int))) (pe_int))))), ?_⟩
  walk_at "st"
  refine Pm.w_ite (fun e1 => ?_) (fun e1 => ?_)
  · walk_at "st"
    refine Pm.w_newL (fun p hp => ?_)
    walk_at "st"
    refine Pm.w_ixL (K := K) (xs := ([-(n : Int), -2, (n : Int) + 1, 10 ^ (20 : Int).toNat, -(10 ^ (20 : Int).toNat)] : List Int).map V.int) (SqL.of upd_same) (atI_int (by omega) (by show _ < (5 : Int); omega)) ?_
    exact q _ _ (same_new hp _)
  · walk_at "st"
    exact q _ _ (Same.refl _)
end
section
variable {P : Program} {w : World} {K : PySem.W.Frag} {mg : Str → Option Value} {base : Heap}
/-- what drawn lengths of a cutting measure -/
theorem drawn_len {n : Nat} {cut : List IP} {t : Tr} (C : Cutting n cut t) (n12 : n ≤ 12) {ks : List IP} {R : IP → Rat} (hks : ∀ p, p ∈ ks ↔ p ∈ tiesL n cut) (hsz : ∀ p ∈ tiesL n cut, szd (R p) 1024 128) :
    ∃ (L : Len) (D : Nat → Nat → Rat) (F : Nat), Meas n t L D ∧ Bd n D F 550 ∧ ∀ (K : PySem.W.Frag) (H : Hp) (d : Addr), LD K H d ks (fun k => rp (R k)) → LenD K H d t D := by
  have hL : ∀ p ∈ t.all 0, szd (R (castP p)) 1024 128 := fun p hp => hsz _ (C.ties.mpr ⟨p, hp, rfl⟩)
  have M := meas_mt (L := fun p => R (castP p)) C.w (fun p hp => (hL p hp).1)
  obtain ⟨F, Z⟩ := meas_bd (L := fun p => R (castP p)) C.w n12 hL
  refine ⟨_, _, F, M, Z, fun K H d h => ⟨ks, _, h, fun p => by rw [hks]; exact C.ties, fun q hq => ?_⟩⟩
  rw [M.tie hq]
theorem Cutting.ties_len {n : Nat} {cut : List IP} {t : Tr} (C : Cutting n cut t) : (tiesL n cut).length = 2 * n - 3 := by
  have := C.cut_len
  have := C.n3
  rw [tiesL, sortP_len, List.length_append, sides0_len (by omega)]
  omega
theorem small_tie {n : Nat} {cut : List IP} {t : Tr} (C : Cutting n cut t) (n12 : n ≤ 12) {p : IP} (h : p ∈ tiesL n cut) : smallP p := by
  obtain ⟨q, hq, rfl⟩ := C.ties.mp h
  have := Tr.bd hq
  have := C.w
  unfold smallP castP
  simp only
  omega
theorem szd_rb {r : Rat} (h : szd r 1024 128) : rb r 11 := by
  obtain ⟨_, h1, h2⟩ := h
  exact ⟨by omega, by omega⟩
theorem LenD.tree {H : Hp} {d : Addr} {n : Nat} {cut : List IP} {t t' : Tr} {D : Nat → Nat → Rat} (h : LenD K H d t D) (C : Cutting n cut t) (C' : Cutting n cut t') : LenD K H d t' D := by
  have e : ∀ q, q ∈ t.all 0 ↔ q ∈ t'.all 0 := fun q => by
    obtain ⟨a, b⟩ := q
    rw [← C.tied, C'.tied]
  obtain ⟨ks, L, h1, h2, h3⟩ := h
  refine ⟨ks, L, h1, fun p => by rw [h2]; exact ⟨fun ⟨q, a, b⟩ => ⟨q, (e q).mp a, b⟩, fun ⟨q, a, b⟩ => ⟨q, (e q).mpr a, b⟩⟩, fun q hq => h3 q ((e q).mpr hq)⟩
end
section
variable {P : Program} {w : World} {K : PySem.W.Frag} {mg : Str → Option Value} {base : Heap}
theorem w_ldPop {K : PySem.W.Frag} {H : Hp} {d b : Addr} {ks : List IP} {L : IP → IP} {k : IP} {Q : VK} (h : LD K H d ks L) (hb : Pr H (.ref b) k) (m : k ∈ ks) (q : ∀ v es, FrV K H v (L k) → LD K (upd H d (.dT es)) d (ks.filter fun j => decide (j ≠ k)) L → Q v (upd H d (.dT es))) : rPop1T (.ref d) [.ref b] H Q := by
  obtain ⟨n, es, h1, h2⟩ := h
  obtain ⟨v, e, hv⟩ := (ens_val h2 k).2 m
  exact ⟨d, es, kk k, b, v, rfl, rfl, h1, hb.kkey, e, q v _ hv ⟨n.sublist List.filter_sublist, _, upd_same, ens_keep (keeps_dT h1) (ens_drop h2)⟩⟩
end
section
variable {P : Program} {w : World} {K : PySem.W.Frag} {mg : Str → Option Value} {base : Heap}
theorem rp_inv {r : Rat} (h : 0 < r) : rp (1 / r) = ((r.den : Int), r.num) := by
  have hn := pos_num h
  have e : (1 / r : Rat) = Rat.divInt r.den r.num := by rw [Rat.div_def, Rat.one_mul, Rat.inv_def]
  have d := div_pos_num (a := (r.den : Int)) (b := r.num) (by omega)
  have g : ((Int.gcd (r.den : Int) r.num : Nat) : Int) = 1 := by
    have := r.reduced
    unfold Nat.Coprime at this
    rw [Int.gcd_comm]
    unfold Int.gcd
    rw [Int.natAbs_natCast, this]
    rfl
  rw [g, Int.ediv_one, Int.ediv_one] at d
  unfold rp
  rw [e]
  exact Prod.ext d.1.symm d.2.symm
def spLDue (K : PySem.W.Frag) : Sp := fun vs H Q _ => ∃ (n : Nat) (c d r : Addr) (cut ks : List IP) (t t' : Tr) (G : IP → Rat) (B x y m o : Nat) (R : List (Nat × Nat)), vs = [.int n, .ref c, .ref d, .ref r] ∧ n ≤ 12 ∧ PLt H c cut ∧ Cutting n cut t ∧ LD K H d ks (fun p => rp (G p)) ∧ (∀ p, p ∈ ks ↔ p ∈ cut) ∧ (∀ p ∈ cut, 0 < G p ∧ rb (G p) B) ∧ B ≤ 1000000 ∧ Pr H (.ref r) (castP (x, y)) ∧ Turning n cut t t' x y m o R ∧
  ∀ (f : Addr) (H' : Hp) (kf : List IP), Same H H' → H f = none → LD K H' f kf (fun p => rp (turnV G x m y o p)) → (∀ p, p ∈ kf ↔ p ∈ turnedL n cut x y) → Q (.ref f) H'
theorem ok_law_due (T : Tx P K mg base) : FnOk P w K mg base CX0 45 T.a_law_due T.fd_law_due (["_law_n", "_law_cut", "_law_rates", "_law_rope"]) (spLDue K) := by
  refine T.F_law_due.ok sc_law_due (fun vs H Q E h => ?_) (fun cdv A outer s H vs Q E hr h => ?_)
  · obtain ⟨n, c, d, r, cut, ks, t, t', G, B, x, y, m, o, R, rfl, _⟩ := h
    rfl
  obtain ⟨n, c, d, r, cut, ks, t, t', G, B, x, y, m, o, R, rfl, n12, hc, C, hLD, hks, hG, hB, hrp, U, q⟩ := h
  obtain ⟨txm, tmy, tyo, tox, xm, my, yn, on, out⟩ := U.four C
  have mxy : castP (x, y) ∈ cut := C.mem.mpr ⟨_, U.rope_mem, rfl⟩
  have kxy : castP (x, y) ∈ ks := (hks _).mpr mxy
  obtain ⟨r0, rB⟩ := hG _ mxy
  have cl : cut.length ≤ 1000 := by have := C.cut_len; omega
  have ksl : ks.length ≤ 1000 := by rw [perm_len hLD.nd C.cut_nodup hks]; exact cl
  refine ⟨_, (pss_cons (ps_set (i := 4) sc_law_due.nd rfl (.inl rfl) (pe_call (ok_law_ring T) (hr.mono (by decide)) (by rfl) T.g_law_ring T.F_law_ring.kp T.b_law_ring .nil pass0 (pa_cons (pv 0) (pa_cons (pv 1) (pa_cons (pv 3) pa_nil)))))
      (C8.pss_cut (ps_if (pt_cmpR op_ne (pe_ix (ix_listK (K := K)) (pv 4) (pe_int) (fun _ _ => rfl)) (pe_ix (ix_tupK (K := K)) (pv 3) (pe_int) (fun _ _ => rfl)) (nomark _)) (pss_one (ps_set (i := 4) sc_law_due.nd rfl (.inl rfl) (pe_op op_cat (pe_slice (sl_listK (K := K)) (pv 4) (po_some (pe_int)) po_none) (pe_slice (sl_listK (K := K)) (pv 4) po_none (po_some (pe_int)))))) pss_nil)
      (pss_cons (ps_set (i := 5) sc_law_due.nd rfl (.inl rfl) (pe_dget (hu_of hr) (pv 2) (pv 3) (fun _ _ => rfl)))
      (pss_cons (ps_set (i := 6) sc_law_due.nd rfl (.inl rfl) (pe_callTy (call_dictT hr.u2) (by rfl) T.m_dict (by decide +kernel) (pa_cons (pv 2) pa_nil)))
      (pss_cons (ps_expr (k_bm (K := K) (pe_bm PySem.F.plainAttrs_dict PySem.F.slot_dict_pop PySem.F.type_dict_pop (mt_pop1T hr.u2) (pv 6) (pa_cons (pv 3) pa_nil))))
      (pss_cons (ps_for PassesOwn.never rfl (pi_range1 (by rfl) T.m_range (pa_cons (pe_int) pa_nil)) (pg_name (i := 7) sc_law_due.nd rfl (.inl rfl)) (pss_cons (ps_set (i := 8) sc_law_due.nd rfl (.inl rfl) (pe_call (ok_law_pair T) (hr.mono (by decide)) (by rfl) T.g_law_pair T.F_law_pair.kp T.b_law_pair .nil pass0 (pa_cons (pe_ix (ix_listK (K := K)) (pv 4) (pv 7) (fun _ _ => rfl)) (pa_cons (pe_ix (ix_listK (K := K)) (pv 4) (pe_op op_mod (pe_op op_add (pv 7) (pe_int)) (pe_int)) (fun _ _ => rfl)) pa_nil))))
      (pss_one (ps_if (pt_cmp (pc_din (hu_of hr) (pv 8) (pv 6))) (pss_cons (ps_set (i := 9) sc_law_due.nd rfl (.inl rfl) (pe_call (ok_law_add T) (hr.mono (by decide)) (by rfl) T.g_law_add T.F_law_add.kp T.b_law_add .nil pass0 (pa_cons (pe_tup (pa_cons (pe_int) (pa_cons (pe_int) pa_nil))) (pa_cons (pv 5) pa_nil))))
      (C8.pss_cut (ps_if (pt_cmpR op_eq (pe_op op_mod (pv 7) (pe_int)) (pe_int) (nomark _)) (pss_one (ps_set (i := 9) sc_law_due.nd rfl (.inl rfl) (pe_call (ok_law_div T) (hr.mono (by decide)) (by rfl) T.g_law_div T.F_law_div.kp T.b_law_div .nil pass0 (pa_cons (pv 5) (pa_cons (pv 9) pa_nil))))) pss_nil)
      (pss_one (ps_dput (hu_of hr) (pv 6) (pv 8) (pe_call (ok_law_mul T) (hr.mono (by decide)) (by rfl) T.g_law_mul T.F_law_mul.kp T.b_law_mul .nil pass0 (pa_cons (pe_dget (hu_of hr) (pv 6) (pv 8) (fun _ _ => rfl)) (pa_cons (pv 9) pa_nil))) rfl)))) pss_nil))))
      (pss_cons (ps_dput (hu_of hr) (pv 6) (pe_call (ok_law_pair T) (hr.mono (by decide)) (by rfl) T.g_law_pair T.F_law_pair.kp T.b_law_pair .nil pass0 (pa_cons (pe_ix (ix_listK (K := K)) (pv 4) (pe_int) (fun _ _ => rfl)) (pa_cons (pe_ix (ix_listK (K := K)) (pv 4) (pe_int) (fun _ _ => rfl)) pa_nil))) (pe_tup (pa_cons (pe_ix (ix_tupK (K := K)) (pv 5) (pe_int) (fun _ _ => rfl)) (pa_cons (pe_ix (ix_tupK (K := K)) (pv 5) (pe_int) (fun _ _ => rfl)) pa_nil))) rfl)
      (pss_one (ps_ret (pv 6)))))))))), ?_⟩
  walk_at "st"
  refine ⟨n, c, r, cut, t, t', x, y, m, o, R, rfl, by omega, hc, C, hrp, U, fun g H1 s1 ng hg => ?_⟩
  have hr1 := hrp.keep (keeps s1)
  walk_at "st"
  refine Pm.w_cut (fun σ' H' => ∃ g', σ' = [some (.int n), some (.ref c), some (.ref d), some (.ref r), some (.ref g'), none, none, none, none, none] ∧ Same H H' ∧ H' g' = some (.lst ([(x : Int), (m : Int), (y : Int), (o : Int)].map V.int))) ?_ ?_
  · by_cases ox : o < x
    · have eg : ring4 x m y o = [(o : Int), (x : Int), (m : Int), (y : Int)] := if_pos ox
      rw [eg] at hg
      walk_at "st"
      refine Pm.w_ixL (SqL.of hg) (show atI [V.int (o : Int), V.int (x : Int), V.int (m : Int), V.int (y : Int)] 0 = some _ from rfl) ?_
      walk_at "st"
      refine Pm.w_ixT hr1.tup (atI2 _ _).1 ?_
      walk_at "st"
      refine Pm.w_iteN (fun z => ?_) (fun z => absurd z (by simp only [castP]; omega))
      walk_at "st"
      refine Pm.w_slL (SqL.of hg) (fun g1 hg1 => ?_)
      rw [cut_drop (by decide) (by show (1 : Int) ≤ ((4 : Nat) : Int); decide)]
      have s2 := same_new hg1 (.lst ([(o : Int), (x : Int), (m : Int), (y : Int)].map V.int |>.drop (1 : Int).toNat))
      walk_at "st"
      refine Pm.w_slL (SqL.of (s2 _ _ hg)) (fun g2 hg2 => ?_)
      rw [cut_take (by decide) (by show (1 : Int) ≤ ((4 : Nat) : Int); decide)]
      have s3 := same_new hg2 (.lst ([(o : Int), (x : Int), (m : Int), (y : Int)].map V.int |>.take (1 : Int).toNat))
      refine Pm.w_cat (s3 _ _ upd_same) upd_same (size_ok (by show 3 + 1 ≤ 16777216; decide)) (fun g3 hg3 => ?_)
      exact ⟨g3, rfl, (s1.trans s2).trans (s3.trans (same_new hg3 _)), upd_same⟩
    · have eg : ring4 x m y o = [(x : Int), (m : Int), (y : Int), (o : Int)] := if_neg ox
      rw [eg] at hg
      walk_at "st"
      refine Pm.w_ixL (SqL.of hg) (show atI [V.int (x : Int), V.int (m : Int), V.int (y : Int), V.int (o : Int)] 0 = some _ from rfl) ?_
      walk_at "st"
      refine Pm.w_ixT hr1.tup (atI2 _ _).1 ?_
      walk_at "st"
      refine Pm.w_iteN (fun z => absurd rfl z) (fun z => ?_)
      walk_at "st"
      exact ⟨g, rfl, s1, hg⟩
  rintro σ H2 ⟨g', rfl, s02, hg2⟩
  clear hg ng s1 hr1
  have hLD2 := hLD.same s02
  have hrp2 := hrp.keep (keeps s02)
  walk_at "st"
  refine w_ldGet hLD2 hrp2 kxy (fun u hu => ?_)
  generalize hrr : G (castP (x, y)) = r1 at r0 rB hu
  walk_at "st"
  refine w_ldDict hLD2 (fun k hk => small_tie C n12 (mem_ties.mpr (.inr ((hks k).mp hk)))) (fun f es hf hLf => ?_)
  have s3 := same_new hf (.dT es)
  walk_at "st"
  refine ⟨.inr (.inr (.inl ⟨rfl, .inr ⟨_, upd_same⟩⟩)), ?_⟩
  walk_at "st"
  refine w_ldPop hLf (hrp2.keep (keeps s3)) kxy (fun v es2 hv hLf2 => ?_)
  have s23 : Same H2 (upd (upd H2 f (.dT es)) f (.dT es2)) := same_but hf s3
  have hkf : ∀ p, p ∈ (ks.filter fun j => decide (j ≠ castP (x, y))) ↔ p ∈ ks ∧ p ≠ castP (x, y) := fun p => by rw [List.mem_filter, decide_eq_true_iff]
  generalize hkk : (ks.filter fun j => decide (j ≠ castP (x, y))) = kf at hLf2 hkf
  have kl : kf.length ≤ ks.length := by rw [← hkk]; exact List.length_filter_le _ _
  generalize upd (upd H2 f (.dT es)) f (.dT es2) = H5 at hLf2 s23 ⊢
  have gat : ∀ i : Nat, i < 4 → atI ([(x : Int), (m : Int), (y : Int), (o : Int)].map V.int) (i : Int) = some (.int ([(x : Int), (m : Int), (y : Int), (o : Int)].getD i 0)) := fun i hi => atI_getD hi
  have rgI : ∀ i : Nat, i < 4 → [(x : Int), (m : Int), (y : Int), (o : Int)].getD i 0 = (([x, m, y, o].getD i 0 : Nat) : Int) := fun i hi => by
    match i, hi with
    | 0, _ => rfl
    | 1, _ => rfl
    | 2, _ => rfl
    | 3, _ => rfl
  have rb1 : rb (1 : Rat) 1 := ⟨by decide, by decide⟩
  have p2 : 0 < 1 + r1 := by grind
  have kfl : kf.length < 1000000 := by omega
  have vkf : ∀ p ∈ kf, rb (G p) B := fun p hp => (hG p ((hks p).mp ((hkf p).mp hp).1)).2
  walk_at "st"
  refine Pm.w_forR (fun k σ H6 => ∃ x1 x2 x3, σ = [some (.int n), some (.ref c), some (.ref d), some (.ref r), some (.ref g'), some (.ref u), some (.ref f), x1, x2, x3] ∧ Same H2 H6 ∧ LD K H6 f kf (fun p => rp (WK G r1 x m y o k p)) ∧ H6 g' = some (.lst ([(x : Int), (m : Int), (y : Int), (o : Int)].map V.int))) ⟨_, _, _, rfl, s23, hLf2, s23 _ _ hg2⟩ ?_ ?_
  · rintro k σ H6 hk ⟨z1, z2, z3, rfl, s26, hL6, hg6⟩
    have hk4 : k < 4 := hk
    rw [Int.zero_add]
    walk_at "st"
    refine Pm.w_ixL (SqL.of hg6) (gat k hk4) ?_
    walk_at "st"
    rw [show ((k : Int) + 1) % 4 = (((k + 1) % 4 : Nat) : Int) by omega]
    refine Pm.w_ixL (SqL.of hg6) (gat ((k + 1) % 4) (Nat.mod_lt _ (by decide))) ?_
    walk_at "st"
    refine ⟨_, _, rfl, fun p H7 s7 np hp => ?_⟩
    rw [rgI k hk4, rgI _ (Nat.mod_lt _ (by decide)), tie_cast] at hp
    have hp : Pr H7 (.ref p) (sdK x m y o k) := hp
    have hL7 := hL6.same s7
    have s27 := s26.trans s7
    have hg7 := s7 _ _ hg6
    have hu7 := hu.keep (keeps s27)
    walk_at "st"
    refine w_ldIn hL7 hp ?_
    walk_at "st"
    refine Pm.w_ite (fun mk => ?_) (fun mk => ?_)
    · walk_at "st"
      refine Pm.w_newT (fun o1 ho1 => ?_)
      have so := same_new ho1 (.tup [.int 1, .int 1])
      have one : FrV K (upd H7 o1 (.tup [.int 1, .int 1])) (.ref o1) (rp 1) := ⟨_, rfl, .inl upd_same⟩
      walk_at "st"
      refine ⟨o1, u, 1, r1, 1, B, rfl, one, hu7.keep (keeps so), rb1, rB, by omega, fun v H8 s8 nv hv => ?_⟩
      have s78 := so.trans s8
      have s28 := s27.trans s78
      walk_at "st"
      refine Pm.w_cut (fun σ' H' => ∃ fa, σ' = [some (.int n), some (.ref c), some (.ref d), some (.ref r), some (.ref g'), some (.ref u), some (.ref f), some (.int k), some (.ref p), some (.ref fa)] ∧ Same H8 H' ∧ FrV K H' (.ref fa) (rp (ffK r1 k))) ?_ ?_
      · walk_at "st"
        refine Pm.w_ite (fun z => ?_) (fun z => ?_)
        · walk_at "st"
          refine ⟨u, v, r1, 1 + r1, B, 1 + B + 1, rfl, hu.keep (keeps s28), frv_new hv, rB, rb_add rb1 rB, by omega, by grind, fun v2 H9 s9 nv2 hv2 => ?_⟩
          walk_at "st"
          refine ⟨v2, rfl, s9, ?_⟩
          rw [show ffK r1 k = r1 / (1 + r1) from if_pos (by omega)]
          exact frv_new hv2
        · walk_at "st"
          refine ⟨v, rfl, Same.refl _, ?_⟩
          rw [show ffK r1 k = 1 + r1 from if_neg (by omega)]
          exact frv_new hv
      rintro σ H9 ⟨fa, rfl, s9, hfa⟩
      have s79 := s78.trans s9
      have hL9 := hL7.same s79
      walk_at "st"
      refine w_ldGet hL9 (hp.keep (keeps s79)) mk (fun w1 hw1 => ?_)
      walk_at "st"
      have wb := WK_rb (x := x) (m := m) (y := y) (o := o) r0 rB (vkf _ mk) k
      have kb : k * (2 * B + 3) ≤ 3 * (2 * B + 3) := Nat.mul_le_mul_right _ (by omega)
      refine ⟨w1, fa, _, _, B + k * (2 * B + 3), 2 * B + 3, rfl, hw1, hfa, wb, (ffK_rb r0 rB k).1, by omega, fun v3 HA sA nv3 hv3 => ?_⟩
      walk_at "st"
      have s7A := s79.trans sA
      refine w_ldPut (hL7.same s7A) (hp.keep (keeps s7A)) (frv_new hv3) kfl (fun esB hLB kpB => ?_)
      rw [putk_old mk] at hLB
      refine ⟨_, _, _, rfl, same_but hf (s27.trans s7A), hLB.congr (fun p' hp' => ?_), ?_⟩
      · by_cases e1 : p' = sdK x m y o k
        · rw [e1, updF_same]
          show rp (WK G r1 x m y o (k + 1) _) = _
          rw [WK, if_pos rfl]
        · rw [updF_ne e1]
          show rp (WK G r1 x m y o (k + 1) _) = _
          rw [WK, if_neg e1]
      · rw [upd_ne (ne_of_none hg2 hf)]
        exact s7A _ _ hg7
    · walk_at "st"
      refine ⟨_, _, _, rfl, s27, hL7.congr (fun p' hp' => ?_), hg7⟩
      rw [WK, if_neg (fun z => mk (by rw [← z]; exact hp'))]
  · rintro σ H6 ⟨z1, z2, z3, rfl, s26, hL6, hg6⟩
    have hu6 := hu.keep (keeps s26)
    walk_at "st"
    refine Pm.w_ixT hu6.rat (atI2 _ _).2 ?_
    walk_at "st"
    refine Pm.w_ixT hu6.rat (atI2 _ _).1 ?_
    walk_at "st"
    refine Pm.w_newT (fun v hv => ?_)
    have s7 := same_new hv (.tup [.int (r1.den : Int), .int r1.num])
    have fv : FrV K (upd H6 v (.tup [.int (r1.den : Int), .int r1.num])) (.ref v) (rp (1 / r1)) := ⟨v, rfl, .inl (by rw [rp_inv r0]; exact upd_same)⟩
    have hg7 := s7 _ _ hg6
    walk_at "st"
    refine Pm.w_ixL (SqL.of hg7) (gat 1 (by decide)) ?_
    walk_at "st"
    refine Pm.w_ixL (SqL.of hg7) (gat 3 (by decide)) ?_
    walk_at "st"
    refine ⟨_, _, rfl, fun p H8 s8 np hp => ?_⟩
    rw [rgI 1 (by decide), rgI 3 (by decide), tie_cast] at hp
    have hp : Pr H8 (.ref p) (castP (min m o, max m o)) := hp
    have s68 := s7.trans s8
    have nnew : castP (min m o, max m o) ∉ kf := fun z => U.new_notin C (mem_ties.mpr (.inr ((hks _).mp ((hkf _).mp z).1)))
    refine w_ldPut (hL6.same s68) hp (fv.keep (keeps s8)) kfl (fun esB hLB kpB => ?_)
    walk_at "st"
    refine q f _ (putk kf (castP (min m o, max m o))) (same_but (s02.free hf) (s02.trans (s26.trans s68))) (s02.free hf) (hLB.congr (fun p' hp' => ?_)) (fun p' => ?_)
    · by_cases e1 : p' = castP (min m o, max m o)
      · rw [e1, updF_same]
        unfold turnV
        rw [if_pos rfl, hrr]
      · rw [updF_ne e1]
        unfold turnV
        rw [if_neg e1, hrr, show Int.toNat 4 = 4 from rfl, WK4 C U]
    · rw [mem_putk, hkf, hks, (U.newP).mem_iff, List.mem_cons, (U.cutP C).mem_iff, List.mem_cons]
      constructor
      · rintro (⟨h1 | h1, h2⟩ | h1)
        · exact absurd h1 h2
        · exact .inr h1
        · exact .inl h1
      · rintro (h1 | h1)
        · exact .inr h1
        · refine .inl ⟨.inr h1, fun z => ?_⟩
          rw [z] at h1
          have nd := ((U.cutP C).nodup_iff).mp C.cut_nodup
          exact (List.nodup_cons.mp nd).1 h1
end
section
local macro_rules | `(tactic| walk_at "s1") => `(tactic| with_reducible refine Pm.w_ckw ?_)
variable {P : Program} {w : World} {K : PySem.W.Frag} {mg : Str → Option Value} {base : Heap}
def spLaw (K : PySem.W.Frag) : Sp := fun vs H Q _ => ∃ (a : Addr) (ns : List Int), vs = [.ref a] ∧ SqL K H a (ns.map V.int) ∧ ns.length ≤ 63 ∧ ∀ H', Q (.bl true) H'
theorem ok_law (T : Tx P K mg base) : FnOk P w K mg base CX0 52 T.a_law T.fd_law ["_law_script"] (spLaw K) := by
  refine T.F_law.ok sc_law (fun vs H Q E h => ?_) (fun cdv A outer s H vs Q E hr h => ?_)
  · obtain ⟨a, ns, rfl, _⟩ := h
    rfl
  obtain ⟨sc, ns, rfl, hS, hl, q⟩ := h
  refine ⟨_, (pss_cons (ps_set (i := 1) sc_law.nd rfl (.inl rfl) (pe_call (ok_law_flow T) (hr.mono (by decide)) (by rfl) T.g_law_flow T.F_law_flow.kp T.b_law_flow .nil pass0 (pa_cons (pv 0) (pa_cons (pe_int) pa_nil))))
      (pss_cons (ps_set (i := 2) sc_law.nd rfl (.inl rfl) (pe_call (ok_law_many T) (hr.mono (by decide)) (by rfl) T.g_law_many T.F_law_many.kp T.b_law_many .nil pass0 (pa_cons (pv 1) pa_nil)))
      (pss_cons (ps_set (i := 3) sc_law.nd rfl (.inr rfl) (pe_call (ok_law_ropes T) (hr.mono (by decide)) (by rfl) T.g_law_ropes T.F_law_ropes.kp T.b_law_ropes .nil pass0 (pa_cons (pe_call (ok_law_ears T) (hr.mono (by decide)) (by rfl) T.g_law_ears T.F_law_ears.kp T.b_law_ears .nil pass0 (pa_cons (pv 2) (pa_cons (pe_slice (sl_listK (K := K)) (pv 1) (po_some (pe_int)) po_none) pa_nil))) pa_nil)))
      (pss_cons (ps_set (i := 4) sc_law.nd rfl (.inl rfl) (pe_call (ok_law_sized T) (hr.mono (by decide)) (by rfl) T.g_law_sized T.F_law_sized.kp T.b_law_sized .nil pass0 (pa_cons (pe_call (ok_law_ties T) (hr.mono (by decide)) (by rfl) T.g_law_ties T.F_law_ties.kp T.b_law_ties .nil pass0 (pa_cons (pv 2) (pa_cons (pv 3) pa_nil))) (pa_cons (pe_slice (sl_listK (K := K)) (pv 1) (po_some (pe_int)) po_none) pa_nil))))
      (pss_cons (ps_set (i := 5) sc_law.nd rfl (.inl rfl) (pe_call (ok_law_ratios T) (hr.mono (by decide)) (by rfl) T.g_law_ratios T.F_law_ratios.kp T.b_law_ratios .nil pass0 (pa_cons (pv 2) (pa_cons (pv 3) (pa_cons (pv 4) pa_nil)))))
      (pss_cons (ps_set (i := 6) sc_law.nd rfl (.inl rfl) (pe_cmpR op_eq (pe_op op_mod (pe_ix (ix_listK (K := K)) (pv 1) (pe_int) (fun _ _ => rfl)) (pe_int)) (pe_int) (nomark _)))
      (C8.pss_cut (ps_if (pt_val (pv 6)) (pss_one (ps_for PassesOwn.never rfl (pi_range1 (by rfl) T.m_range (pa_cons (pe_callB (c_len (K := K)) (by rfl) T.m_len PySem.boot_len (pa_cons (pv 3) pa_nil)) pa_nil)) (pg_name (i := 7) sc_law.nd rfl (.inl rfl)) (pss_one (ps_dput (hu_of hr) (pv 5) (pe_ix (ix_listK (K := K)) (pv 3) (pv 7) (fun _ _ => rfl)) (pe_call (ok_law_size T) (hr.mono (by decide)) (by rfl) T.g_law_size T.F_law_size.kp T.b_law_size .nil pass0 (pa_cons (pe_ix (ix_listK (K := K)) (pv 1) (pe_op op_add (pe_int) (pv 7)) (fun _ _ => rfl)) pa_nil)) rfl)))) pss_nil)
      (pss_cons (ps_set (i := 8) sc_law.nd rfl (.inl rfl) (pe_tup (pa_cons (pe_call (ok_law_wild T) (hr.mono (by decide)) (by rfl) T.g_law_wild T.F_law_wild.kp T.b_law_wild .nil pass0 (pa_cons (pv 2) (pa_cons (pe_ix (ix_listK (K := K)) (pv 1) (pe_int) (fun _ _ => rfl)) pa_nil))) (pa_cons (pe_op op_sub (pe_op op_mod (pe_ix (ix_listK (K := K)) (pv 1) (pe_int) (fun _ _ => rfl)) (pe_op op_add (pv 2) (pe_int))) (pe_int)) pa_nil))))
      (C8.pss_cut (ps_if (PW.pt (pw_and (pt_cmpR op_ne (pe_op op_mod (pe_ix (ix_listK (K := K)) (pv 1) (pe_int) (fun _ _ => rfl)) (pe_int)) (pe_int) (nomark _)) (pw_and1 (pt_cmpR (op_neDK (K := K) hr.units) (pv 3) (pe_lst pa_nil) (nomark _))))) (pss_one (ps_set (i := 8) sc_law.nd rfl (.inl rfl) (pe_ix (ix_listK (K := K)) (pv 3) (pe_op op_mod (pe_ix (ix_listK (K := K)) (pv 1) (pe_int) (fun _ _ => rfl)) (pe_callB (c_len (K := K)) (by rfl) T.m_len PySem.boot_len (pa_cons (pv 3) pa_nil))) (fun _ _ => rfl)))) pss_nil)
      (pss_cons (ps_set (i := 9) sc_law.nd rfl (.inl rfl) (pe_cmpR (op_inDK (K := K) hr.u65) (pe_call (ok_law_pair T) (hr.mono (by decide)) (by rfl) T.g_law_pair T.F_law_pair.kp T.b_law_pair .nil pass0 (pa_cons (pe_ix (ix_tupK (K := K)) (pv 8) (pe_int) (fun _ _ => rfl)) (pa_cons (pe_ix (ix_tupK (K := K)) (pv 8) (pe_int) (fun _ _ => rfl)) pa_nil))) (pv 3) (by rfl)))
      (pss_cons (ps_set (i := 10) sc_law.nd rfl (.inl rfl) (pe_callTy (call_dictT hr.u2) (by rfl) T.m_dict (by decide +kernel) (pa_cons (pv 5) pa_nil)))
      (C8.pss_cut (ps_if (pt_cmpR op_eq (pe_op op_mod (pe_op op_fdiv (pe_ix (ix_listK (K := K)) (pv 1) (pe_int) (fun _ _ => rfl)) (pe_int)) (pe_int)) (pe_int) (nomark _)) (pss_one (ps_set (i := 10) sc_law.nd rfl (.inl rfl) (pe_callTy (call_dictP (K := K) rfl hr.u40) (by rfl) T.m_dict (by decide +kernel) (pa_cons (pe_callBK (cr_sortIt (K := K) rfl hr.u40) (by rfl) T.m_sorted (by decide +kernel) (pa_cons (k_bm0 (K := K) (pe_bm0 PySem.F.plainAttrs_dict PySem.F.slot_dict_items PySem.F.type_dict_items L2.DX.mt_itemsT (pv 5))) pa_nil) (pk_cons (pe_bl) pk_nil)) pa_nil)))) pss_nil)
      (pss_cons (ps_set (i := 11) sc_law.nd rfl (.inl rfl) (pe_callTy (c_listOf (K := K)) (by rfl) T.m_list (by decide +kernel) (pa_cons (pv 3) pa_nil)))
      (pss_cons (ps_try_as (i := 13) rfl rfl sc_law.nd rfl rfl ⟨rfl, by decide, .inl T.g_MeadError⟩ takes0 (fun W pn xe tk _ => (pss_one (ps_set (i := 12) sc_law.nd rfl (.inl rfl) (by exact (pe_callS (ok_turned_ratios T) (hr.mono (by decide)) (by rfl) T.g_turned_ratios T.F_turned_ratios.kp T.b_turned_ratios (fun q => passAt tk q) (by exact (pa_cons (pv 2) (pa_cons (pv 11) (pa_cons (pv 10) (pa_cons (pe_ix (ix_tupK (K := K)) (pv 8) (pe_int) (fun _ _ => rfl)) (pa_cons (pe_ix (ix_tupK (K := K)) (pv 8) (pe_int) (fun _ _ => rfl)) pa_nil))))))))))) (fun a oe cls d pn hz hf => (pss_one (ps_ret ((pe_and (pe_not (pv 9)) (pe_one (pe_callB (c_isX (K := K) hz hf) (by rfl) T.m_isinstance (by decide +kernel) (pa_cons (pv 13) (pa_cons (pe_glob (v := .ref T.c_NoRope) (by rfl) T.g_NoRope rfl) pa_nil))))))))))
      (pss_cons (ps_if (PW.pt (pw_or (pt_not (pt_val (pv 9))) (pw_or (pt_cmpR (op_neDK (K := K) hr.units) (pv 11) (pv 3) (nomark _)) (pw_or1 (pt_not (pt_val (pe_call (ok_law_dict T) (hr.mono (by decide)) (by rfl) T.g_law_dict T.F_law_dict.kp T.b_law_dict .nil pass0 (pa_cons (pv 10) (pa_cons (pv 5) pa_nil))))))))) (pss_one (ps_ret (pe_bl))) pss_nil)
      (pss_cons (ps_set (i := 8) sc_law.nd rfl (.inl rfl) (pe_call (ok_law_pair T) (hr.mono (by decide)) (by rfl) T.g_law_pair T.F_law_pair.kp T.b_law_pair .nil pass0 (pa_cons (pe_ix (ix_tupK (K := K)) (pv 8) (pe_int) (fun _ _ => rfl)) (pa_cons (pe_ix (ix_tupK (K := K)) (pv 8) (pe_int) (fun _ _ => rfl)) pa_nil))))
      (pss_cons (ps_if (pt_not (pt_val (pe_call (ok_law_dict T) (hr.mono (by decide)) (by rfl) T.g_law_dict T.F_law_dict.kp T.b_law_dict .nil pass0 (pa_cons (pv 12) (pa_cons (pe_call (ok_law_due T) (hr.mono (by decide)) (by rfl) T.g_law_due T.F_law_due.kp T.b_law_due .nil pass0 (pa_cons (pv 2) (pa_cons (pv 3) (pa_cons (pv 5) (pa_cons (pv 8) pa_nil))))) pa_nil))))) (pss_one (ps_ret (pe_bl))) pss_nil)
      (pss_cons (ps_set (i := 14) sc_law.nd rfl (.inl rfl) (pe_call (ok_law_turned T) (hr.mono (by decide)) (by rfl) T.g_law_turned T.F_law_turned.kp T.b_law_turned .nil pass0 (pa_cons (pv 2) (pa_cons (pv 3) (pa_cons (pv 8) pa_nil)))))
      (pss_cons (ps_set (i := 15) sc_law.nd rfl (.inl rfl) (pe_ix (ix_listK (K := K)) (pe_lc (own := [("_law_one", 16)]) (g := gName 16) rfl sc_law.nd (k_il (K := K) (pi_list (pv 14))) (blkOk_by (N := N_law) (sc := defScope s_law) (by decide +kernel)) (fun _ _ _ _ _ => (pg_name (i := 16) sc_law.nd rfl (.inl rfl))) (fun _ _ _ _ _ => (pts_one (pt_cmpR (op_notInDK (K := K) hr.u65) (pv 16) (pv 3) (by rfl)))) (fun _ _ _ _ _ => (pv 16))) (pe_int) (fun _ _ => rfl)))
      (C8.pss_cut (ps_if (pt_not (pt_val (pv 6))) (pss_cons (ps_set (i := 17) sc_law.nd rfl (.inl rfl) (pe_call (ok_laid T) (hr.mono (by decide)) (by rfl) T.g_laid T.F_laid.kp T.b_laid .nil passL (pa_cons (pv 2) (pa_cons (pe_callTy (c_listOf (K := K)) (by rfl) T.m_list (by decide +kernel) (pa_cons (pv 3) pa_nil)) (pa_cons (pe_callTy (call_dictT hr.u2) (by rfl) T.m_dict (by decide +kernel) (pa_cons (pv 4) pa_nil)) (pa_cons (pe_ix (ix_tupK (K := K)) (pv 8) (pe_int) (fun _ _ => rfl)) (pa_cons (pe_ix (ix_tupK (K := K)) (pv 8) (pe_int) (fun _ _ => rfl)) pa_nil)))))))
      (pss_one (ps_if (pt_not (pt_val (pe_call (ok_law_dict T) (hr.mono (by decide)) (by rfl) T.g_law_dict T.F_law_dict.kp T.b_law_dict .nil pass0 (pa_cons (pe_call (ok_ratios T) (hr.mono (by decide)) (by rfl) T.g_ratios T.F_ratios.kp T.b_ratios .nil pass0 (pa_cons (pv 2) (pa_cons (pe_callTy (c_listOf (K := K)) (by rfl) T.m_list (by decide +kernel) (pa_cons (pv 14) pa_nil)) (pa_cons (pv 17) pa_nil)))) (pa_cons (pv 12) pa_nil))))) (pss_one (ps_ret (pe_bl))) pss_nil))) pss_nil)
      (pss_one (ps_ret (pe_call (ok_law_dict T) (hr.mono (by decide)) (by rfl) T.g_law_dict T.F_law_dict.kp T.b_law_dict .nil pass0 (pa_cons (pe_call (ok_turned_ratios T) (hr.mono (by decide)) (by rfl) T.g_turned_ratios T.F_turned_ratios.kp T.b_turned_ratios .nil passL (pa_cons (pv 2) (pa_cons (pe_callTy (c_listOf (K := K)) (by rfl) T.m_list (by decide +kernel) (pa_cons (pv 14) pa_nil)) (pa_cons (pe_callTy (call_dictT hr.u2) (by rfl) T.m_dict (by decide +kernel) (pa_cons (pv 12) pa_nil)) (pa_cons (pe_ix (ix_tupK (K := K)) (pv 15) (pe_int) (fun _ _ => rfl)) (pa_cons (pe_ix (ix_tupK (K := K)) (pv 15) (pe_int) (fun _ _ => rfl)) pa_nil)))))) (pa_cons (pv 5) pa_nil))))))))))))))))))))))))), ?_⟩
  walk_at "st"
  refine ⟨sc, ns, 40, rfl, hS, by decide, fun row H1 r hrow hb s1 nr hr1 => ?_⟩
  have hR : SqL K H1 r (row.map V.int) := SqL.of hr1
  walk_at "st"
  refine ⟨r, row, rfl, hR, by omega, fun n n3 n12 => ?_⟩
  walk_at "st"
  refine Pm.w_slL hR (fun p1 hp1 => ?_)
  rw [cut_drop (by decide) (by rw [List.length_map, hrow]; decide), ← List.map_drop]
  walk_at "st"
  refine ⟨n, p1, row.drop (5 : Int).toNat, rfl, SqL.of upd_same, n3, n12, by rw [List.length_drop, hrow]; show n ≤ 40 - 5 + 3; omega, fun e H2 evs es s2 ne he hA hears hes => ?_⟩
  walk_at "st"
  refine ⟨e, evs, es, rfl, SqL.of he, hA, by omega, fun c H3 cvs s3 nc hc hpc => ?_⟩
  obtain ⟨t, C⟩ := drawn_cutting hears n3
  have hcut : ∃ cut, cut = sortP (es.map ropeOf) := ⟨_, rfl⟩
  obtain ⟨cut, hcut⟩ := hcut
  rw [← hcut] at C hpc
  have lcut := C.cut_len
  have s13 : Same H1 H3 := (same_new hp1 _).trans (s2.trans s3)
  have hR3 := s13.seq hR
  walk_at "st"
  refine ⟨n, c, cut, rfl, by omega, by omega, ⟨cvs, hc, hpc⟩, by omega, fun l H4 tvs s4 nl hl4 hpl => ?_⟩
  have hR4 := s4.seq hR3
  walk_at "st"
  refine Pm.w_slL hR4 (fun p5 hp5 => ?_)
  rw [cut_drop (by decide) (by rw [List.length_map, hrow]; decide), ← List.map_drop]
  have s5 := same_new hp5 (.lst ((row.drop (16 : Int).toNat).map V.int))
  have tl := C.ties_len
  walk_at "st"
  refine ⟨l, p5, tiesL n cut, row.drop (16 : Int).toNat, rfl, PLt.same ⟨tvs, hl4, hpl⟩ s5, C.ties_nodup, SqL.of upd_same, by rw [List.length_drop, hrow, tl]; show 2 * n - 3 ≤ 40 - 16; omega, by omega, by omega, fun x hx => (hb x (List.mem_of_mem_drop hx)).1, fun d H6 ks R s6 nd hLD hks hsz => ?_⟩
  obtain ⟨L, D, F, M, Z, hLen⟩ := drawn_len C n12 hks hsz
  have hD := hLen K H6 d hLD
  have s36 := s4.trans (s5.trans s6)
  have hR6 := s36.seq hR3
  have hc6 := s36 _ _ hc
  have hpc6 := prs_keep (keeps s36) hpc
  have hPL6 : PLt H6 c cut := ⟨cvs, hc6, hpc6⟩
  walk_at "st"
  refine ⟨n, c, d, cut, t, L, D, F, 550, rfl, by omega, hPL6, C, hD, M, Z, by decide, fun du H7 s7 ndu hdu => ?_⟩
  have hR7 := s7.seq hR6
  have hc7 := s7 _ _ hc6
  have hpc7 := prs_keep (keeps s7) hpc6
  have cvl := hpc7.length
  walk_at "st"
  refine Pm.w_ixL hR7 (atI_int (by omega) (by omega)) ?_
  walk_at "st"
  generalize hfr : decide (row.getD (2 : Int).toNat 0 % 3 = 1) = fr
  refine Pm.w_cut (fun σ' H' => ∃ (x7 : Option V) (G : IP → Rat), σ' = [some (.ref sc), some (.ref r), some (.int n), some (.ref c), some (.ref d), some (.ref du), some (.bl fr), x7, none, none, none, none, none, none, none, none, none, none] ∧ Same H6 H' ∧ LD K H' du cut (fun p => rp (G p)) ∧ (∀ p ∈ cut, 0 < G p ∧ rb (G p) 2200) ∧ (fr = false → ∀ p ∈ cut, G p = ratP n cut D p)) ?_ ?_
  · have hG0 : ∀ p ∈ cut, 0 < ratP n cut D p ∧ rb (ratP n cut D p) 2200 := fun p hp => ⟨ratP_up C M hp, ratP_rbB C M Z hp⟩
    cases fr with
    | false =>
      walk_at "st"
      exact ⟨_, _, rfl, s7, hdu, hG0, fun _ _ _ => rfl⟩
    | true =>
      walk_at "st"
      refine Pm.w_lenL (SqL.of hc7) ?_
      walk_at "st"
      refine Pm.w_forR (fun k σ H8 => ∃ (x7 : Option V) (G : IP → Rat), σ = [some (.ref sc), some (.ref r), some (.int n), some (.ref c), some (.ref d), some (.ref du), some (.bl true), x7, none, none, none, none, none, none, none, none, none, none] ∧ Same H6 H8 ∧ LD K H8 du cut (fun p => rp (G p)) ∧ (∀ p ∈ cut, 0 < G p ∧ rb (G p) 2200)) ⟨_, _, rfl, s7, hdu, hG0⟩ ?_ ?_
      · rintro k σ H8 hk ⟨x7, G, rfl, s68, hL8, hG⟩
        have hk : k < cvs.length := by simpa using hk
        rw [Int.zero_add]
        walk_at "st"
        refine Pm.w_ixL (s68.seq hR6) (atI_int (by omega) (by omega)) ?_
        walk_at "st"
        have x0 : 0 ≤ row.getD ((16 : Int) + k).toNat 0 := by
          rw [List.getD_eq_getElem?_getD, List.getElem?_eq_getElem (show ((16 : Int) + k).toNat < row.length by omega)]
          exact (hb _ (List.getElem_mem _)).1
        refine ⟨_, rfl, x0, fun z hz v H9 s9 nv hv => ?_⟩
        have hc9 := (s68.trans s9) _ _ hc6
        have hpc9 := prs_keep (keeps (s68.trans s9)) hpc6
        obtain ⟨p, hp, u, hu, hut⟩ := hpc9.get (List.getElem?_eq_getElem hk)
        walk_at "st"
        refine Pm.w_ixL (SqL.of hc9) (v := .ref u) (atI_nat (by rw [List.getElem?_eq_getElem hk, hu])) ?_
        have mp := List.mem_of_getElem? hp
        refine w_ldPut (hL8.same s9) ⟨u, rfl, hut⟩ (frv_new hv) (by omega) (fun es5 hL5 kp5 => ?_)
        rw [putk_old mp] at hL5
        refine ⟨_, fun j => if j = p then z else G j, rfl, same_but ndu (s68.trans s9), hL5.congr (fun j hj => ?_), fun j hj => ?_⟩
        · by_cases e1 : j = p
          · rw [e1, updF_same]
            show rp (if p = p then z else G p) = _
            rw [if_pos rfl]
          · rw [updF_ne e1]
            show rp (if j = p then z else G j) = _
            rw [if_neg e1]
        · by_cases e1 : j = p
          · show 0 < (if j = p then z else G j) ∧ rb (if j = p then z else G j) 2200
            rw [if_pos e1]
            exact ⟨hz.1, (szd_rb hz).mono (by decide)⟩
          · show 0 < (if j = p then z else G j) ∧ rb (if j = p then z else G j) 2200
            rw [if_neg e1]
            exact hG j hj
      · rintro σ H8 ⟨x7, G, rfl, s68, hL8, hG⟩
        exact ⟨_, G, rfl, s68, hL8, hG, fun z => Bool.noConfusion z⟩
  rintro σ H8 ⟨x7, G, rfl, s68, hL8, hG, hfree⟩
  have sm : ∀ k ∈ cut, smallP k := fun k hk => small_tie C n12 (mem_ties.mpr (.inr hk))
  have hR8 := s68.seq hR6
  have hc8 := s68 _ _ hc6
  have hpc8 := prs_keep (keeps s68) hpc6
  have hD8 := hD.same s68
  have hLD8 := hLD.same s68
  clear hR7 hdu hc7 hpc7 s7
  walk_at "st"
  refine Pm.w_ixL hR8 (atI_int (by omega) (by omega)) ?_
  walk_at "st"
  refine ⟨n, _, rfl, fun w0 H9 s9 => ?_⟩
  have hR9 := s9.seq hR8
  walk_at "st"
  refine Pm.w_ixL hR9 (atI_int (by omega) (by omega)) ?_
  walk_at "st"
  refine Pm.w_newT (fun r0 hr0 => ?_)
  have s10 := same_new hr0 (.tup [.int w0, .int (row.getD (2 : Int).toNat 0 % ((n : Int) + 2) - 1)])
  have hR10 := s10.seq hR9
  have s8a := s9.trans s10
  have hc10 := s8a _ _ hc8
  have hpc10 := prs_keep (keeps s8a) hpc8
  walk_at "st"
  refine Pm.w_cut (fun σ' H' => ∃ (a b : Int) (u : Addr), σ' = [some (.ref sc), some (.ref r), some (.int n), some (.ref c), some (.ref d), some (.ref du), some (.bl fr), x7, some (.ref u), none, none, none, none, none, none, none, none, none] ∧ Same H8 H' ∧ Pr H' (.ref u) (a, b)) ?_ ?_
  · have stay : ∃ (a b : Int) (u : Addr), [some (V.ref sc), some (V.ref r), some (V.int n), some (V.ref c), some (V.ref d), some (V.ref du), some (V.bl fr), x7, some (V.ref r0), none, none, none, none, none, none, none, none, none] = [some (V.ref sc), some (V.ref r), some (V.int n), some (V.ref c), some (V.ref d), some (V.ref du), some (V.bl fr), x7, some (V.ref u), none, none, none, none, none, none, none, none, none] ∧ Same H8 (upd H9 r0 (.tup [.int w0, .int (row.getD (2 : Int).toNat 0 % ((n : Int) + 2) - 1)])) ∧ Pr (upd H9 r0 (.tup [.int w0, .int (row.getD (2 : Int).toNat 0 % ((n : Int) + 2) - 1)])) (.ref u) (a, b) := ⟨_, _, r0, rfl, s8a, ⟨r0, rfl, upd_same⟩⟩
    walk_at "st"
    refine Pm.w_ixL hR10 (atI_int (by omega) (by omega)) ?_
    walk_at "st"
    refine Pm.w_iteN (fun z => ?_) (fun z => ?_)
    · walk_at "st"
      refine Pm.w_newL (fun o1 ho1 => ?_)
      have s11 := same_new ho1 (.lst [])
      refine Pm.w_nePL (SqL.of (s11 _ _ hc10)) (prs_keep (keeps s11) hpc10) (SqL.of upd_same) (show Prs _ [] ([] : List IP) from trivial) ?_
      walk_at "st"
      refine Pm.w_iteN (fun z2 => ?_) (fun z2 => ?_)
      · have lp : 0 < cvs.length := by
          rw [cvl]
          exact List.length_pos_iff.mpr z2
        have hc11 := s11 _ _ hc10
        have hpc11 := prs_keep (keeps s11) hpc10
        walk_at "st"
        refine Pm.w_ixL (s11.seq hR10) (atI_int (by omega) (by omega)) ?_
        walk_at "st"
        refine Pm.w_lenL (SqL.of hc11) ?_
        walk_at "st"
        generalize hk : row.getD (3 : Int).toNat 0 % (cvs.length : Int) = k
        have k0 : 0 ≤ k := by rw [← hk]; exact Int.emod_nonneg _ (by omega)
        have k1 : k < (cvs.length : Int) := by rw [← hk]; exact Int.emod_lt_of_pos _ (by omega)
        have kN : k.toNat < cvs.length := by omega
        obtain ⟨p, hp, u, hu, hut⟩ := hpc11.get (List.getElem?_eq_getElem kN)
        refine Pm.w_ixL (SqL.of hc11) (v := .ref u) (by rw [show k = ((k.toNat : Nat) : Int) by omega]; exact atI_nat (by rw [List.getElem?_eq_getElem kN, hu])) ?_
        exact ⟨p.1, p.2, u, rfl, s8a.trans s11, ⟨u, rfl, hut⟩⟩
      · walk_at "st"
        exact ⟨_, _, r0, rfl, s8a.trans s11, ⟨r0, rfl, s11 _ _ upd_same⟩⟩
    · walk_at "st"
      exact stay
  rintro σ HA ⟨a, b, u, rfl, s8A, hu⟩
  clear hR10 s8a hc10 hpc10
  have hLA := hL8.same s8A
  have hcA := s8A _ _ hc8
  have hpcA := prs_keep (keeps s8A) hpc8
  have hRA := s8A.seq hR8
  have hDA := hD8.same s8A
  have hLDA := hLD8.same s8A
  walk_at "st"
  refine Pm.w_ixT hu.tup (atI2 _ _).1 ?_
  walk_at "st"
  refine Pm.w_ixT hu.tup (atI2 _ _).2 ?_
  walk_at "st"
  refine ⟨a, b, rfl, fun g1 HB sB ng1 hg1 => ?_⟩
  walk_at "st"
  refine Pm.w_inPL hg1 (SqL.of (sB _ _ hcA)) (prs_keep (keeps sB) hpcA) ?_
  have huB := hu.keep (keeps sB)
  have hLB := hLA.same sB
  have sAB := s8A.trans sB
  have hcB := sB _ _ hcA
  have hpcB := prs_keep (keeps sB) hpcA
  have hRB := sB.seq hRA
  generalize hgd : decide (tieOf a b ∈ cut) = gd
  walk_at "st"
  refine w_ldDict hLB sm (fun h1 es1 hh1 hLh1 => ?_)
  have sh1 := same_new hh1 (.dT es1)
  walk_at "st"
  refine Pm.w_cut (fun σ' H' => ∃ (hd : Addr) (ksh : List IP), σ' = [some (.ref sc), some (.ref r), some (.int n), some (.ref c), some (.ref d), some (.ref du), some (.bl fr), x7, some (.ref u), some (.bl gd), some (.ref hd), none, none, none, none, none, none, none] ∧ Same HB H' ∧ HB hd = none ∧ LD K H' hd ksh (fun p => rp (G p)) ∧ (∀ p, p ∈ ksh ↔ p ∈ cut)) ?_ ?_
  · walk_at "st"
    refine Pm.w_ixL (sh1.seq hRB) (atI_int (by omega) (by omega)) ?_
    walk_at "st"
    refine Pm.w_ite (fun z => ?_) (fun z => ?_)
    · have hLC := hLB.same sh1
      obtain ⟨_, esd, hdd, _⟩ := id hLC
      walk_at "st"
      refine ⟨.inr (.inr (.inl ⟨rfl, .inr ⟨_, hdd⟩⟩)), ?_⟩
      refine w_ldItems hLC (fun pv hpv => ?_)
      have sv := same_new hpv (L2.DX.itemsO pv du)
      walk_at "st"
      refine ⟨pv, du, cut, _, rfl, rfl, upd_same, hLC.same sv, fun H' l qs s' hperm nl hl' hE => ?_⟩
      walk_at "st"
      have hnd : (qs.map (·.2.1)).Nodup := (hperm.nodup_iff).mpr C.cut_nodup
      refine ⟨l, qs, _, rfl, hl', hnd, hE, fun p es hp hLp => ?_⟩
      have sAll := sh1.trans (sv.trans s')
      exact ⟨p, _, rfl, sAll.trans (same_new hp _), sAll.free hp, hLp, fun k => hperm.mem_iff⟩
    · walk_at "st"
      exact ⟨h1, _, rfl, sh1, hh1, hLh1, fun _ => Iff.rfl⟩
  rintro σ HC ⟨hd, ksh, rfl, sBC, nhd, hLh, hksh⟩
  clear hLh1 sh1 hh1
  have hLC := hLB.same sBC
  have hcC := sBC _ _ hcB
  have hpcC := prs_keep (keeps sBC) hpcB
  have huC := huB.keep (keeps sBC)
  have hdu : hd ≠ du := by
    obtain ⟨_, es3, h1, _⟩ := hLB
    exact (ne_of_none h1 nhd).symm
  walk_at "st"
  refine Pm.w_listOf (SqL.of hcC) (fun x1 hx1 => ?_)
  have s1x := same_new hx1 (.lst cvs)
  have hcD := s1x _ _ hcC
  have hpcD := prs_keep (keeps s1x) hpcC
  have hx1D : upd HC x1 (.lst cvs) x1 = some (.lst cvs) := upd_same
  have hLD' := hLC.same s1x
  have hLhD := hLh.same s1x
  have huD := huC.keep (keeps s1x)
  have sD : Same H8 (upd HC x1 (.lst cvs)) := sAB.trans (sBC.trans s1x)
  generalize upd HC x1 (.lst cvs) = HD at hcD hpcD hx1D hLD' hLhD huD sD ⊢
  walk_at "st"
  refine Pm.w_ixT huD.tup (atI2 _ _).2 ?_
  walk_at "st"
  refine Pm.w_ixT huD.tup (atI2 _ _).1 ?_
  walk_at "st"
  refine ⟨n, x1, hd, cut, ksh, t, G, 2200, b, a, rfl, by omega, ⟨cvs, hx1D, hpcD⟩, C, hLhD, hksh, hG, by decide, fun hno H' s' => ?_, fun hyes t' x y m o R U ex f HE kf sE nf hLf hkf => ?_⟩
  · rw [tie_comm] at hno
    refine ⟨true, T.exm_NoRope_MeadError, fun _ x hx => ?_, fun z => Bool.noConfusion z⟩
    rw [← hgd, decide_eq_false hno]
    walk_at "st"
    refine Pm.w_isX T.exc_NoRope (fun u r => r) T.kit_NoRope_NoRope ?_
    exact q _
  rw [tie_comm] at hyes ex
  have hgt : gd = true := by rw [← hgd, decide_eq_true hyes]
  subst hgt
  have mxy : castP (x, y) ∈ cut := C.mem.mpr ⟨_, U.rope_mem, rfl⟩
  have n4 := U.four C
  have hcE := sE _ _ hcD
  have hpcE := prs_keep (keeps sE) hpcD
  have hLE := hLD'.same sE
  have huE := huD.keep (keeps sE)
  have sE8 := sD.trans sE
  have fdu : f ≠ du := by
    obtain ⟨_, es3, h1, _⟩ := hLD'
    exact (ne_of_none h1 nf).symm
  walk_at "st"
  refine Pm.w_nePL (SqL.of (sE _ _ hx1D)) hpcE (SqL.of hcE) hpcE ?_
  rw [decide_eq_true rfl]
  walk_at "st"
  refine ⟨hd, du, ksh, cut, _, _, G, 2200, rfl, hLhD.same sE, hLE, hdu, hksh, fun p hp => ⟨rfl, rfl, (hG p hp).2⟩, by decide, fun HF sF => ?_⟩
  have hu1 := huE.keep (keeps sF)
  walk_at "st"
  refine Pm.w_ixT hu1.tup (atI2 _ _).1 ?_
  walk_at "st"
  refine Pm.w_ixT hu1.tup (atI2 _ _).2 ?_
  walk_at "st"
  refine ⟨a, b, rfl, fun u2 HG sG nu2 hu2 => ?_⟩
  rw [ex] at hu2
  have sEG := sF.trans sG
  have hLfG := hLf.same sEG
  have hcG := sEG _ _ hcE
  have hpcG := prs_keep (keeps sEG) hpcE
  have hLG := hLE.same sEG
  walk_at "st"
  refine ⟨n, c, du, u2, cut, cut, t, t', G, 2200, x, y, m, o, R, rfl, n12, ⟨cvs, hcG, hpcG⟩, C, hLG, fun _ => Iff.rfl, hG, by decide, hu2, U, fun f2 HH kf2 sH nf2 hLf2 hkf2 => ?_⟩
  have ff2 : f ≠ f2 := by
    obtain ⟨_, es3, h1, _⟩ := hLfG
    exact ne_of_none h1 nf2
  have vrb : ∀ p ∈ turnedL n cut x y, rb (turnV G x m y o p) (9 * 2200 + 12) := fun p hp => turnV_rb C U hG hp
  walk_at "st"
  refine ⟨f, f2, kf, kf2, _, _, turnV G x m y o, 9 * 2200 + 12, rfl, hLfG.same sH, hLf2, ff2, fun p => by rw [hkf, hkf2], fun p hp => ⟨rfl, rfl, vrb p ((hkf2 p).mp hp)⟩, by decide, fun HI sI => ?_⟩
  have sGI := sH.trans sI
  have sEI := sEG.trans sGI
  have hcI := sGI _ _ hcG
  have hpcI := prs_keep (keeps sGI) hpcG
  have hu3 := hu2.keep (keeps sGI)
  clear hLf2 hkf2 ff2 nf2
  walk_at "st"
  refine ⟨n, c, u2, cut, castP (x, y), rfl, by omega, by omega, ⟨cvs, hcI, hpcI⟩, by omega, hu3, by simp only [castP]; omega, by rw [show besideL n (tiesL n cut) (castP (x, y)).1 (castP (x, y)).2 = _ from U.bes]; exact Nat.le_refl 2, fun lt HJ lws sJ nlt hlt hplt => ?_⟩
  have hplt : Prs HJ lws (turnedL n cut x y) := hplt
  have hcJ := sJ _ _ hcI
  have hpcJ := prs_keep (keeps sJ) hpcI
  have wl := hplt.length
  have wl2 := U.len C
  rw [wl2] at wl
  walk_at "st"
  refine Pm.w_rdL (SqL.of hlt) ?_
  refine Pm.w_lcLf (R := Pr) pr_mono (S := Pr) pr_mono (SqL.of hlt) hplt id (fun p => !decide (p ∈ cut)) (by omega) (fun D1 v1 p H3 Nx hD1 hm hs s3 put skip => ?_) (fun D1 HK ws3 hD1 sK hd3 ha => ?_)
  · walk_at "st"
    refine Pm.w_ninPL hs (SqL.of (s3 _ _ hcJ)) (prs_keep (keeps s3) hpcJ) ?_
    walk_at "st"
    refine Pm.w_iteN (fun z => ?_) (fun z => ?_)
    · walk_at "st"
      exact put _ _ (by simp [z]) (Same.refl _) hs
    · exact skip _ (by simp [z]) (Same.refl _)
  rw [List.map_id, U.fresh C] at ha
  have hw : ∃ u, ws3 = [.ref u] ∧ Pr HK (.ref u) (castP (min m o, max m o)) := by
    match ws3, ha with
    | [x], h =>
      obtain ⟨u, rfl, hu⟩ := h.1
      exact ⟨u, rfl, u, rfl, hu⟩
  obtain ⟨u4, rfl, hu4⟩ := hw
  walk_at "st"
  refine Pm.w_ixL (SqL.of hd3) (show atI [V.ref u4] 0 = some (.ref u4) from rfl) ?_
  have sEK := sEI.trans (sJ.trans sK)
  have hLfK := hLf.same sEK
  have hLK := hLE.same sEK
  have hltK := sK _ _ hlt
  have hpltK := prs_keep (keeps sK) hplt
  have hcK := sK _ _ hcJ
  have hpcK := prs_keep (keeps sK) hpcJ
  have hu3K := hu3.keep (keeps (sJ.trans sK))
  have hDK := hD8.same (sE8.trans sEK)
  have hLDK := hLD8.same (sE8.trans sEK)
  clear hd3 ha hplt hlt
  walk_at "st"
  refine Pm.w_cut (fun σ' H' => ∃ x17, σ' = [some (.ref sc), some (.ref r), some (.int n), some (.ref c), some (.ref d), some (.ref du), some (.bl fr), x7, some (.ref u2), some (.bl true), some (.ref hd), some (.ref x1), some (.ref f), none, some (.ref lt), some (.ref u4), none, x17] ∧ Same HK H') ?_ ?_
  · cases fr with
    | true =>
      walk_at "st"
      exact ⟨_, rfl, Same.refl _⟩
    | false =>
      walk_at "st"
      refine Pm.w_listOf (SqL.of hcK) (fun y1 hy1 => ?_)
      have t1 := same_new hy1 (.lst cvs)
      walk_at "st"
      refine w_ldDict (hLDK.same t1) (fun k hk => small_tie C n12 ((hks k).mp hk)) (fun y2 es2 hy2 hLy => ?_)
      have t2 := same_new hy2 (.dT es2)
      have t12 := t1.trans t2
      have hy1' := t2 _ _ (show upd HK y1 (.lst cvs) y1 = some (.lst cvs) from upd_same)
      walk_at "st"
      refine Pm.w_ixT (hu3K.keep (keeps t12)).tup (atI2 _ _).1 ?_
      walk_at "st"
      refine Pm.w_ixT (hu3K.keep (keeps t12)).tup (atI2 _ _).2 ?_
      walk_at "st"
      have exy : tieOf (castP (x, y)).1 (castP (x, y)).2 = castP (x, y) := tie_lt (by simp only [castP]; omega)
      refine ⟨n, y1, y2, cut, t, L, D, F, 550, _, _, rfl, by omega, ⟨cvs, hy1', prs_keep (keeps t12) hpcK⟩, C, hLen K _ y2 hLy, M, Z, by decide, fun hno => absurd (by rw [exy]; exact mxy) hno, fun _ d2 H2' t1' s2' nd2 C1 hD2 M1 => ?_⟩
      have C1 : Cutting n (turnedL n cut x y) t1' := C1
      have t13 := t12.trans s2'
      have hlt2 := t13 _ _ hltK
      have hplt2 := prs_keep (keeps t13) hpltK
      walk_at "st"
      refine Pm.w_listOf (SqL.of hlt2) (fun y3 hy3 => ?_)
      have t3 := same_new hy3 (.lst lws)
      walk_at "st"
      refine ⟨n, y3, d2, turnedL n cut x y, t1', _, D, F, 550, rfl, by omega, ⟨lws, upd_same, prs_keep (keeps t3) hplt2⟩, C1, hD2.same t3, M1, Z, by decide, fun f4 H4' s4' nf4 hf4 => ?_⟩
      have t14 := t13.trans (t3.trans s4')
      have f4f : f4 ≠ f := by
        obtain ⟨_, es3, h1, _⟩ := hLfK.same (t13.trans t3)
        exact (ne_of_none h1 nf4).symm
      walk_at "st"
      refine ⟨f4, f, turnedL n cut x y, kf, _, _, turnV G x m y o, 9 * 2200 + 12, rfl, hf4, hLfK.same t14, f4f, fun p => (hkf p).symm, fun p hp => ⟨?_, rfl, vrb p ((hkf p).mp hp)⟩, by decide, fun H5' s5' => ?_⟩
      · have hp' := (hkf p).mp hp
        rw [rates_turn C U M hp', turnV_congr C U (hfree rfl) hp']
      · walk_at "st"
        exact ⟨_, rfl, t14.trans s5'⟩
  rintro σ HL ⟨x17, rfl, sL⟩
  have hltL := sL _ _ hltK
  have hpltL := prs_keep (keeps sL) hpltK
  walk_at "st"
  refine Pm.w_listOf (SqL.of hltL) (fun z1 hz1 => ?_)
  have t1 := same_new hz1 (.lst lws)
  have smt : ∀ k ∈ kf, smallP k := fun k hk => small_tie U.cut' n12 (mem_ties.mpr (.inr ((hkf k).mp hk)))
  walk_at "st"
  refine w_ldDict ((hLfK.same sL).same t1) smt (fun z2 es2 hz2 hLz => ?_)
  have t2 := same_new hz2 (.dT es2)
  have t12 := t1.trans t2
  have hz1' := t2 _ _ (show upd HL z1 (.lst lws) z1 = some (.lst lws) from upd_same)
  have hu4L := hu4.keep (keeps (sL.trans t12))
  have bdn := U.new_bd C
  have en : tieOf (castP (min m o, max m o)).1 (castP (min m o, max m o)).2 = castP (min m o, max m o) := tie_lt (by simp only [castP]; omega)
  have mnew : castP (min m o, max m o) ∈ turnedL n cut x y := U.cut'.mem.mpr ⟨_, U.new_mem, rfl⟩
  walk_at "st"
  refine Pm.w_ixT hu4L.tup (atI2 _ _).1 ?_
  walk_at "st"
  refine Pm.w_ixT hu4L.tup (atI2 _ _).2 ?_
  walk_at "st"
  refine ⟨n, z1, z2, turnedL n cut x y, kf, t', turnV G x m y o, 9 * 2200 + 12, _, _, rfl, by omega, ⟨lws, hz1', prs_keep (keeps t12) hpltL⟩, U.cut', hLz, hkf, fun p hp => ⟨turnV_pos C U (fun p hp => (hG p hp).1) hp, vrb p hp⟩, by decide, fun hno => absurd (by rw [en]; exact mnew) hno, fun _ t2' x2 y2 m2 o2 R2 W ex2 f5 HM kf5 sM nf5 hL5 hk5 => ?_⟩
  rw [en] at ex2
  have e2 := castP_inj ex2
  have hLdu := hLK.same (sL.trans t12)
  have f5du : f5 ≠ du := by
    obtain ⟨_, es3, h1, _⟩ := hLdu
    exact (ne_of_none h1 nf5).symm
  have back := (U.back C).2
  walk_at "st"
  refine ⟨f5, du, kf5, cut, _, _, G, 2200, rfl, hL5, hLdu.same sM, f5du, fun p => ?_, fun p hp => ⟨?_, rfl, (hG p hp).2⟩, by decide, fun HN sN => q _⟩
  · rw [hk5]
    injection e2 with e3 e4
    rw [← e3, ← e4, back]
  · rw [turnV_back C U W e2.symm ((hG _ mxy).1) hp]
end
def D_tie_of : He.FnD := ⟨("tie_of", none), "tie_of", "tie_of", defArgs s_tie_of, defBody s_tie_of, defScope s_tie_of⟩
def D_sides : He.FnD := ⟨("sides", none), "sides", "sides", defArgs s_sides, defBody s_sides, defScope s_sides⟩
def D_ties : He.FnD := ⟨("ties", none), "ties", "ties", defArgs s_ties, defBody s_ties, defScope s_ties⟩
def D_plots : He.FnD := ⟨("plots", none), "plots", "plots", defArgs s_plots, defBody s_plots, defScope s_plots⟩
def D_beside : He.FnD := ⟨("beside", none), "beside", "beside", defArgs s_beside, defBody s_beside, defScope s_beside⟩
def D_turned : He.FnD := ⟨("turned", none), "turned", "turned", defArgs s_turned, defBody s_turned, defScope s_turned⟩
def D_measure : He.FnD := ⟨("measure", none), "measure", "measure", defArgs s_measure, defBody s_measure, defScope s_measure⟩
def D_lowest : He.FnD := ⟨("lowest", none), "lowest", "lowest", defArgs s_lowest, defBody s_lowest, defScope s_lowest⟩
def D_plus : He.FnD := ⟨("plus", none), "plus", "plus", defArgs s_plus, defBody s_plus, defScope s_plus⟩
def D_less : He.FnD := ⟨("less", none), "less", "less", defArgs s_less, defBody s_less, defScope s_less⟩
def D_times : He.FnD := ⟨("times", none), "times", "times", defArgs s_times, defBody s_times, defScope s_times⟩
def D_over : He.FnD := ⟨("over", none), "over", "over", defArgs s_over, defBody s_over, defScope s_over⟩
def D_ring_of : He.FnD := ⟨("ring_of", none), "ring_of", "ring_of", defArgs s_ring_of, defBody s_ring_of, defScope s_ring_of⟩
def D_ratio : He.FnD := ⟨("ratio", none), "ratio", "ratio", defArgs s_ratio, defBody s_ratio, defScope s_ratio⟩
def D_ratios : He.FnD := ⟨("ratios", none), "ratios", "ratios", defArgs s_ratios, defBody s_ratios, defScope s_ratios⟩
def D_turned_ratios : He.FnD := ⟨("turned_ratios", none), "turned_ratios", "turned_ratios", defArgs s_turned_ratios, defBody s_turned_ratios, defScope s_turned_ratios⟩
def D_two_posts : He.FnD := ⟨("two_posts", none), "two_posts", "two_posts", defArgs s_two_posts, defBody s_two_posts, defScope s_two_posts⟩
def D_between : He.FnD := ⟨("between", none), "between", "between", defArgs s_between, defBody s_between, defScope s_between⟩
def D_spread : He.FnD := ⟨("spread", none), "spread", "spread", defArgs s_spread, defBody s_spread, defScope s_spread⟩
def D_pair_mixed : He.FnD := ⟨("pair_mixed", none), "pair_mixed", "pair_mixed", defArgs s_pair_mixed, defBody s_pair_mixed, defScope s_pair_mixed⟩
def D_third : He.FnD := ⟨("third", none), "third", "third", defArgs s_third, defBody s_third, defScope s_third⟩
def D_stands : He.FnD := ⟨("stands", none), "stands", "stands", defArgs s_stands, defBody s_stands, defScope s_stands⟩
def D_measured : He.FnD := ⟨("measured", none), "measured", "measured", defArgs s_measured, defBody s_measured, defScope s_measured⟩
def D_laid : He.FnD := ⟨("laid", none), "laid", "laid", defArgs s_laid, defBody s_laid, defScope s_laid⟩
def D_law_flow : He.FnD := ⟨("_law_flow", none), "_law_flow", "_law_flow", defArgs s_law_flow, defBody s_law_flow, defScope s_law_flow⟩
def D_law_whole : He.FnD := ⟨("_law_whole", none), "_law_whole", "_law_whole", defArgs s_law_whole, defBody s_law_whole, defScope s_law_whole⟩
def D_law_low : He.FnD := ⟨("_law_low", none), "_law_low", "_law_low", defArgs s_law_low, defBody s_law_low, defScope s_law_low⟩
def D_law_add : He.FnD := ⟨("_law_add", none), "_law_add", "_law_add", defArgs s_law_add, defBody s_law_add, defScope s_law_add⟩
def D_law_mul : He.FnD := ⟨("_law_mul", none), "_law_mul", "_law_mul", defArgs s_law_mul, defBody s_law_mul, defScope s_law_mul⟩
def D_law_div : He.FnD := ⟨("_law_div", none), "_law_div", "_law_div", defArgs s_law_div, defBody s_law_div, defScope s_law_div⟩
def D_law_part : He.FnD := ⟨("_law_part", none), "_law_part", "_law_part", defArgs s_law_part, defBody s_law_part, defScope s_law_part⟩
def D_law_size : He.FnD := ⟨("_law_size", none), "_law_size", "_law_size", defArgs s_law_size, defBody s_law_size, defScope s_law_size⟩
def D_law_many : He.FnD := ⟨("_law_many", none), "_law_many", "_law_many", defArgs s_law_many, defBody s_law_many, defScope s_law_many⟩
def D_law_pair : He.FnD := ⟨("_law_pair", none), "_law_pair", "_law_pair", defArgs s_law_pair, defBody s_law_pair, defScope s_law_pair⟩
def D_law_ears : He.FnD := ⟨("_law_ears", none), "_law_ears", "_law_ears", defArgs s_law_ears, defBody s_law_ears, defScope s_law_ears⟩
def D_law_ropes : He.FnD := ⟨("_law_ropes", none), "_law_ropes", "_law_ropes", defArgs s_law_ropes, defBody s_law_ropes, defScope s_law_ropes⟩
def D_law_sides : He.FnD := ⟨("_law_sides", none), "_law_sides", "_law_sides", defArgs s_law_sides, defBody s_law_sides, defScope s_law_sides⟩
def D_law_ties : He.FnD := ⟨("_law_ties", none), "_law_ties", "_law_ties", defArgs s_law_ties, defBody s_law_ties, defScope s_law_ties⟩
def D_law_sized : He.FnD := ⟨("_law_sized", none), "_law_sized", "_law_sized", defArgs s_law_sized, defBody s_law_sized, defScope s_law_sized⟩
def D_law_beside : He.FnD := ⟨("_law_beside", none), "_law_beside", "_law_beside", defArgs s_law_beside, defBody s_law_beside, defScope s_law_beside⟩
def D_law_turned : He.FnD := ⟨("_law_turned", none), "_law_turned", "_law_turned", defArgs s_law_turned, defBody s_law_turned, defScope s_law_turned⟩
def D_law_tuple : He.FnD := ⟨("_law_tuple", none), "_law_tuple", "_law_tuple", defArgs s_law_tuple, defBody s_law_tuple, defScope s_law_tuple⟩
def D_law_dict : He.FnD := ⟨("_law_dict", none), "_law_dict", "_law_dict", defArgs s_law_dict, defBody s_law_dict, defScope s_law_dict⟩
def D_law_ring : He.FnD := ⟨("_law_ring", none), "_law_ring", "_law_ring", defArgs s_law_ring, defBody s_law_ring, defScope s_law_ring⟩
def D_law_ratio : He.FnD := ⟨("_law_ratio", none), "_law_ratio", "_law_ratio", defArgs s_law_ratio, defBody s_law_ratio, defScope s_law_ratio⟩
def D_law_ratios : He.FnD := ⟨("_law_ratios", none), "_law_ratios", "_law_ratios", defArgs s_law_ratios, defBody s_law_ratios, defScope s_law_ratios⟩
def D_law_wild : He.FnD := ⟨("_law_wild", none), "_law_wild", "_law_wild", defArgs s_law_wild, defBody s_law_wild, defScope s_law_wild⟩
def D_law_due : He.FnD := ⟨("_law_due", none), "_law_due", "_law_due", defArgs s_law_due, defBody s_law_due, defScope s_law_due⟩
def D_law : He.FnD := ⟨("law", none), "law", "law", defArgs s_law, defBody s_law, defScope s_law⟩
def hfn : List He.FnD := [D_tie_of, D_sides, D_ties, D_plots, D_beside, D_turned, D_measure, D_lowest, D_plus, D_less, D_times, D_over, D_ring_of, D_ratio, D_ratios, D_turned_ratios, D_two_posts, D_between, D_spread, D_pair_mixed, D_third, D_stands, D_measured, D_laid, D_law_flow, D_law_whole, D_law_low, D_law_add, D_law_mul, D_law_div, D_law_part, D_law_size, D_law_many, D_law_pair, D_law_ears, D_law_ropes, D_law_sides, D_law_ties, D_law_sized, D_law_beside, D_law_turned, D_law_tuple, D_law_dict, D_law_ring, D_law_ratio, D_law_ratios, D_law_wild, D_law_due, D_law]
def hfa0 : List He.Fa := [.glo "NoRope",
  .exc "NoRope",
  .glo "NoFraction",
  .exc "NoFraction",
  .glo "NoPost",
  .exc "NoPost",
  .glo "MeadError",
  .exc "MeadError",
  .keep "tie_of",
  .glo "tie_of",
  .keep "sides",
  .glo "sides",
  .keep "ties",
  .glo "ties",
  .keep "plots",
  .glo "plots",
  .keep "beside",
  .glo "beside",
  .keep "turned",
  .glo "turned",
  .keep "measure",
  .glo "measure",
  .keep "lowest",
  .glo "lowest",
  .keep "plus",
  .glo "plus",
  .keep "less",
  .glo "less",
  .keep "times",
  .glo "times",
  .keep "over",
  .glo "over",
  .keep "ring_of",
  .glo "ring_of",
  .keep "ratio",
  .glo "ratio",
  .keep "ratios",
  .glo "ratios",
  .keep "turned_ratios",
  .glo "turned_ratios",
  .keep "two_posts",
  .glo "two_posts",
  .keep "between",
  .glo "between",
  .keep "spread",
  .glo "spread",
  .keep "pair_mixed",
  .glo "pair_mixed",
  .keep "third",
  .glo "third",
  .keep "stands",
  .glo "stands",
  .keep "measured",
  .glo "measured",
  .keep "laid",
  .glo "laid",
  .keep "_law_flow",
  .glo "_law_flow",
  .keep "_law_whole",
  .glo "_law_whole",
  .keep "_law_low",
  .glo "_law_low",
  .keep "_law_add",
  .glo "_law_add",
  .keep "_law_mul",
  .glo "_law_mul",
  .keep "_law_div",
  .glo "_law_div",
  .keep "_law_part",
  .glo "_law_part",
  .keep "_law_size",
  .glo "_law_size",
  .keep "_law_many",
  .glo "_law_many",
  .keep "_law_pair",
  .glo "_law_pair",
  .keep "_law_ears",
  .glo "_law_ears",
  .keep "_law_ropes",
  .glo "_law_ropes",
  .keep "_law_sides",
  .glo "_law_sides",
  .keep "_law_ties",
  .glo "_law_ties",
  .keep "_law_sized",
  .glo "_law_sized",
  .keep "_law_beside",
  .glo "_law_beside",
  .keep "_law_turned",
  .glo "_law_turned",
  .keep "_law_tuple",
  .glo "_law_tuple",
  .keep "_law_dict",
  .glo "_law_dict",
  .keep "_law_ring",
  .glo "_law_ring",
  .keep "_law_ratio",
  .glo "_law_ratio",
  .keep "_law_ratios",
  .glo "_law_ratios",
  .keep "_law_wild",
  .glo "_law_wild",
  .keep "_law_due",
  .glo "_law_due",
  .keep "law",
  .glo "law",
  .free "min",
  .free "max",
  .free "sorted",
  .free "range",
  .free "abs",
  .free "len",
  .free "isinstance",
  .free "int",
  .free "bool",
  .free "tuple",
  .free "dict",
  .free "list",
  .glo "ONE",
  .glo "NOUGHT"]
def hfa : List He.Fa := hfa0
def hex0 (K : PySem.W.Frag) : List Bool := [PySem.W.isClsIn K (He.ga K "NoRope"),
  decide (PySem.W.subIn K (.ref (He.ga K "NoRope")) (.ref (He.ga K "NoRope")) = some true),
  PySem.W.isClsIn K (He.ga K "NoFraction"),
  decide (PySem.W.subIn K (.ref (He.ga K "NoFraction")) (.ref (He.ga K "NoFraction")) = some true),
  PySem.W.isClsIn K (He.ga K "NoPost"),
  decide (PySem.W.subIn K (.ref (He.ga K "NoPost")) (.ref (He.ga K "NoPost")) = some true),
  PySem.W.isClsIn K (He.ga K "MeadError"),
  decide (PySem.W.subIn K (.ref (He.ga K "MeadError")) (.ref (He.ga K "MeadError")) = some true),
  He.tupB K "ONE" [.int (1), .int (1)],
  He.tupB K "NOUGHT" [.int (0), .int (1)],
  decide (PySem.W.findIn K (.ref (He.ga K "NoRope")) "__getattribute__" = some (some (.builtin "BaseException.__getattribute__"))),
  decide (PySem.W.findIn K (.ref (He.ga K "NoRope")) "__getattr__" = some none),
  decide (PySem.W.hasDictIn K (He.ga K "NoRope") = true),
  decide (PySem.W.findIn K (.ref (He.ga K "NoRope")) "__class__" = some (some (.builtin "object.__class__"))),
  decide (PySem.W.specialIn K (.builtin "object.__class__") "__get__" = some (some (.builtin "getset_descriptor.__get__"))),
  decide (PySem.W.takesIn K (.builtin "object.__class__") = some true),
  decide (PySem.W.mroIn K (He.ga K "NoRope") (.type "object") = some true),
  decide (PySem.W.kitOne K (.ref (He.ga K "NoRope")) (.ref (He.ga K "MeadError")) = some true),
  decide (PySem.W.exmOne K (.ref (He.ga K "NoRope")) (.ref (He.ga K "MeadError")) = some true),
  decide (PySem.W.kitOne K (.ref (He.ga K "NoRope")) (.ref (He.ga K "NoRope")) = some true),
  decide (PySem.W.exmOne K (.ref (He.ga K "NoRope")) (.ref (He.ga K "NoRope")) = some true)]
def hex (K : PySem.W.Frag) : List Bool := hex0 K
def loose0 : List Str := [("MeadError" : Str), ("NoFraction" : Str), ("NoPost" : Str), ("NoRope" : Str), ("tie_of" : Str), ("sides" : Str), ("ties" : Str), ("plots" : Str), ("beside" : Str), ("turned" : Str), ("NOUGHT" : Str), ("ONE" : Str), ("measure" : Str), ("lowest" : Str), ("plus" : Str), ("less" : Str), ("times" : Str), ("over" : Str), ("ring_of" : Str), ("ratio" : Str), ("ratios" : Str), ("turned_ratios" : Str), ("two_posts" : Str), ("between" : Str), ("spread" : Str), ("pair_mixed" : Str), ("third" : Str), ("stands" : Str), ("measured" : Str), ("laid" : Str), ("_law_flow" : Str), ("_law_whole" : Str), ("_law_low" : Str), ("_law_add" : Str), ("_law_mul" : Str), ("_law_div" : Str), ("_law_part" : Str), ("_law_size" : Str), ("_law_many" : Str), ("_law_pair" : Str)]
def loose1 : List Str := [("_law_ears" : Str), ("_law_ropes" : Str), ("_law_sides" : Str), ("_law_ties" : Str), ("_law_sized" : Str), ("_law_beside" : Str), ("_law_turned" : Str), ("_law_tuple" : Str), ("_law_dict" : Str), ("_law_ring" : Str), ("_law_ratio" : Str), ("_law_ratios" : Str), ("_law_wild" : Str), ("_law_due" : Str)]
def looseA : List Str := loose0 ++ loose1
abbrev hRow : PySem.W.OpenRow := PySem.W.OpenLaw.row PySem.Challenge.rw_postmead_k32_ratios_turned
abbrev hHook : PySem.W.Hook := hookP 1200 hfa hfn hex
noncomputable abbrev hOb (s : PySem.W.SharedT) : He.Al := obT 1200 hfa hfn hex s
theorem hRunA (w : World) (os : OsState) : (endR hRow 40000 w os).map (fun s => (HandSHeadRun.looksF hRow.prog (PySem.W.boot_heap w.params) s.abs, HandSHeadRun.seenQ (PySem.W.view hRow.prog [61]) looseA (importedModules hRow.prog.main.body) (fun s => PySem.W.xlAt (PySem.W.view hRow.prog [61]) [] s && PySem.W.recOk hRow.toRowW.records s) s.abs)) = some (true, PySem.W.openGood (PySem.W.view hRow.prog [61]) looseA) := by kernel_rfl
theorem hRunD (w : World) : Look hRow 40000 1200 w (fun K => (hfn.map fun d => He.fnObs K d.at_, hfn.all fun d => (He.Fa.code d.at_ d.qual).ok K)) (hfn.map He.FnD.val, true) := by
  intro os
  kernel_rfl
theorem hRunF0 (w : World) : Look hRow 40000 1200 w (fun K => hfa0.all fun f => f.ok K) true := by
  intro os
  kernel_rfl
theorem hRunX0 (w : World) : Look hRow 40000 1200 w (fun K => (hex0 K).all id) true := by
  intro os
  kernel_rfl
theorem hRun (w : World) : HandSHeadRun.RunEq hRow (PySem.W.view hRow.prog [61]) hHook hOb 40000 looseA w := by
  refine run_of (hRunA w) fun os s e => obsP_of (congrArg Prod.fst ((hRunD w).at_ e)) (congrArg Prod.snd ((hRunD w).at_ e)) ?_ ?_
  · simp only [hfa, List.all_append, (hRunF0 w).at_ e, Bool.and_self]
  · simp only [hex, List.all_append, (hRunX0 w).at_ e, Bool.and_self]
theorem qe_NoRope {K : PySem.W.Frag} {h : Heap} {mg : Str → Option Value} (X : K.In h) (G : h.Ns mainGlobals mg) (c : SaysP hfa hfn hex K) : Nonempty { e : ExAt K mg "NoRope" // e.c = (He.ga K "NoRope") } := ⟨⟨{ c := _, g := He.glo_ok X G (c.e.fact 0 (f := .glo "NoRope") rfl), x := (He.exc_ok (c.e.fact 1 (f := .exc "NoRope") rfl)).1, k := (He.exc_ok (c.e.fact 1 (f := .exc "NoRope") rfl)).2.1, b := (He.exc_ok (c.e.fact 1 (f := .exc "NoRope") rfl)).2.2.1, t := (He.exc_ok (c.e.fact 1 (f := .exc "NoRope") rfl)).2.2.2, i := (c.b 0 (b := PySem.W.isClsIn K (He.ga K "NoRope")) rfl), z := (c.d 1 (p := PySem.W.subIn K (.ref (He.ga K "NoRope")) (.ref (He.ga K "NoRope")) = some true) rfl) }, rfl⟩⟩
theorem qe_NoFraction {K : PySem.W.Frag} {h : Heap} {mg : Str → Option Value} (X : K.In h) (G : h.Ns mainGlobals mg) (c : SaysP hfa hfn hex K) : Nonempty { e : ExAt K mg "NoFraction" // e.c = (He.ga K "NoFraction") } := ⟨⟨{ c := _, g := He.glo_ok X G (c.e.fact 2 (f := .glo "NoFraction") rfl), x := (He.exc_ok (c.e.fact 3 (f := .exc "NoFraction") rfl)).1, k := (He.exc_ok (c.e.fact 3 (f := .exc "NoFraction") rfl)).2.1, b := (He.exc_ok (c.e.fact 3 (f := .exc "NoFraction") rfl)).2.2.1, t := (He.exc_ok (c.e.fact 3 (f := .exc "NoFraction") rfl)).2.2.2, i := (c.b 2 (b := PySem.W.isClsIn K (He.ga K "NoFraction")) rfl), z := (c.d 3 (p := PySem.W.subIn K (.ref (He.ga K "NoFraction")) (.ref (He.ga K "NoFraction")) = some true) rfl) }, rfl⟩⟩
theorem qe_NoPost {K : PySem.W.Frag} {h : Heap} {mg : Str → Option Value} (X : K.In h) (G : h.Ns mainGlobals mg) (c : SaysP hfa hfn hex K) : Nonempty { e : ExAt K mg "NoPost" // e.c = (He.ga K "NoPost") } := ⟨⟨{ c := _, g := He.glo_ok X G (c.e.fact 4 (f := .glo "NoPost") rfl), x := (He.exc_ok (c.e.fact 5 (f := .exc "NoPost") rfl)).1, k := (He.exc_ok (c.e.fact 5 (f := .exc "NoPost") rfl)).2.1, b := (He.exc_ok (c.e.fact 5 (f := .exc "NoPost") rfl)).2.2.1, t := (He.exc_ok (c.e.fact 5 (f := .exc "NoPost") rfl)).2.2.2, i := (c.b 4 (b := PySem.W.isClsIn K (He.ga K "NoPost")) rfl), z := (c.d 5 (p := PySem.W.subIn K (.ref (He.ga K "NoPost")) (.ref (He.ga K "NoPost")) = some true) rfl) }, rfl⟩⟩
theorem qe_MeadError {K : PySem.W.Frag} {h : Heap} {mg : Str → Option Value} (X : K.In h) (G : h.Ns mainGlobals mg) (c : SaysP hfa hfn hex K) : Nonempty { e : ExAt K mg "MeadError" // e.c = (He.ga K "MeadError") } := ⟨⟨{ c := _, g := He.glo_ok X G (c.e.fact 6 (f := .glo "MeadError") rfl), x := (He.exc_ok (c.e.fact 7 (f := .exc "MeadError") rfl)).1, k := (He.exc_ok (c.e.fact 7 (f := .exc "MeadError") rfl)).2.1, b := (He.exc_ok (c.e.fact 7 (f := .exc "MeadError") rfl)).2.2.1, t := (He.exc_ok (c.e.fact 7 (f := .exc "MeadError") rfl)).2.2.2, i := (c.b 6 (b := PySem.W.isClsIn K (He.ga K "MeadError")) rfl), z := (c.d 7 (p := PySem.W.subIn K (.ref (He.ga K "MeadError")) (.ref (He.ga K "MeadError")) = some true) rfl) }, rfl⟩⟩
theorem qd_tie_of {K : PySem.W.Frag} {h : Heap} {mg : Str → Option Value} (X : K.In h) (G : h.Ns mainGlobals mg) (c : SaysP hfa hfn hex K) : Nonempty (DefAt K mg "tie_of" "tie_of" s_tie_of ["a", "b"]) := by
  obtain ⟨oc, od, osl, kV, dc, pm, an, cd, ct, l, cc⟩ := c.def_ 0 (D := D_tie_of) rfl
  have F := fun_mk (st := s_tie_of) l cc (c.e.fact 8 (f := .keep "tie_of") rfl)
  exact ⟨{ a := _, fd := _, F := F, g := He.glo_ok X G (c.e.fact 9 (f := .glo "tie_of") rfl), b := F.binds (ps := ["a", "b"]) fun _ _ _ _ _ _ us hl => match us, hl with | [_, _], _ => rfl }⟩
theorem qd_sides {K : PySem.W.Frag} {h : Heap} {mg : Str → Option Value} (X : K.In h) (G : h.Ns mainGlobals mg) (c : SaysP hfa hfn hex K) : Nonempty (DefAt K mg "sides" "sides" s_sides ["n"]) := by
  obtain ⟨oc, od, osl, kV, dc, pm, an, cd, ct, l, cc⟩ := c.def_ 1 (D := D_sides) rfl
  have F := fun_mk (st := s_sides) l cc (c.e.fact 10 (f := .keep "sides") rfl)
  exact ⟨{ a := _, fd := _, F := F, g := He.glo_ok X G (c.e.fact 11 (f := .glo "sides") rfl), b := F.binds (ps := ["n"]) fun _ _ _ _ _ _ us hl => match us, hl with | [_], _ => rfl }⟩
theorem qd_ties {K : PySem.W.Frag} {h : Heap} {mg : Str → Option Value} (X : K.In h) (G : h.Ns mainGlobals mg) (c : SaysP hfa hfn hex K) : Nonempty (DefAt K mg "ties" "ties" s_ties ["n", "cut"]) := by
  obtain ⟨oc, od, osl, kV, dc, pm, an, cd, ct, l, cc⟩ := c.def_ 2 (D := D_ties) rfl
  have F := fun_mk (st := s_ties) l cc (c.e.fact 12 (f := .keep "ties") rfl)
  exact ⟨{ a := _, fd := _, F := F, g := He.glo_ok X G (c.e.fact 13 (f := .glo "ties") rfl), b := F.binds (ps := ["n", "cut"]) fun _ _ _ _ _ _ us hl => match us, hl with | [_, _], _ => rfl }⟩
theorem qd_plots {K : PySem.W.Frag} {h : Heap} {mg : Str → Option Value} (X : K.In h) (G : h.Ns mainGlobals mg) (c : SaysP hfa hfn hex K) : Nonempty (DefAt K mg "plots" "plots" s_plots ["n", "cut"]) := by
  obtain ⟨oc, od, osl, kV, dc, pm, an, cd, ct, l, cc⟩ := c.def_ 3 (D := D_plots) rfl
  have F := fun_mk (st := s_plots) l cc (c.e.fact 14 (f := .keep "plots") rfl)
  exact ⟨{ a := _, fd := _, F := F, g := He.glo_ok X G (c.e.fact 15 (f := .glo "plots") rfl), b := F.binds (ps := ["n", "cut"]) fun _ _ _ _ _ _ us hl => match us, hl with | [_, _], _ => rfl }⟩
theorem qd_beside {K : PySem.W.Frag} {h : Heap} {mg : Str → Option Value} (X : K.In h) (G : h.Ns mainGlobals mg) (c : SaysP hfa hfn hex K) : Nonempty (DefAt K mg "beside" "beside" s_beside ["n", "cut", "a", "b"]) := by
  obtain ⟨oc, od, osl, kV, dc, pm, an, cd, ct, l, cc⟩ := c.def_ 4 (D := D_beside) rfl
  have F := fun_mk (st := s_beside) l cc (c.e.fact 16 (f := .keep "beside") rfl)
  exact ⟨{ a := _, fd := _, F := F, g := He.glo_ok X G (c.e.fact 17 (f := .glo "beside") rfl), b := F.binds (ps := ["n", "cut", "a", "b"]) fun _ _ _ _ _ _ us hl => match us, hl with | [_, _, _, _], _ => rfl }⟩
theorem qd_turned {K : PySem.W.Frag} {h : Heap} {mg : Str → Option Value} (X : K.In h) (G : h.Ns mainGlobals mg) (c : SaysP hfa hfn hex K) : Nonempty (DefAt K mg "turned" "turned" s_turned ["n", "cut", "a", "b"]) := by
  obtain ⟨oc, od, osl, kV, dc, pm, an, cd, ct, l, cc⟩ := c.def_ 5 (D := D_turned) rfl
  have F := fun_mk (st := s_turned) l cc (c.e.fact 18 (f := .keep "turned") rfl)
  exact ⟨{ a := _, fd := _, F := F, g := He.glo_ok X G (c.e.fact 19 (f := .glo "turned") rfl), b := F.binds (ps := ["n", "cut", "a", "b"]) fun _ _ _ _ _ _ us hl => match us, hl with | [_, _, _, _], _ => rfl }⟩
theorem qd_measure {K : PySem.W.Frag} {h : Heap} {mg : Str → Option Value} (X : K.In h) (G : h.Ns mainGlobals mg) (c : SaysP hfa hfn hex K) : Nonempty (DefAt K mg "measure" "measure" s_measure ["one", "other"]) := by
  obtain ⟨oc, od, osl, kV, dc, pm, an, cd, ct, l, cc⟩ := c.def_ 6 (D := D_measure) rfl
  have F := fun_mk (st := s_measure) l cc (c.e.fact 20 (f := .keep "measure") rfl)
  exact ⟨{ a := _, fd := _, F := F, g := He.glo_ok X G (c.e.fact 21 (f := .glo "measure") rfl), b := F.binds (ps := ["one", "other"]) fun _ _ _ _ _ _ us hl => match us, hl with | [_, _], _ => rfl }⟩
theorem qd_lowest {K : PySem.W.Frag} {h : Heap} {mg : Str → Option Value} (X : K.In h) (G : h.Ns mainGlobals mg) (c : SaysP hfa hfn hex K) : Nonempty (DefAt K mg "lowest" "lowest" s_lowest ["top", "bottom"]) := by
  obtain ⟨oc, od, osl, kV, dc, pm, an, cd, ct, l, cc⟩ := c.def_ 7 (D := D_lowest) rfl
  have F := fun_mk (st := s_lowest) l cc (c.e.fact 22 (f := .keep "lowest") rfl)
  exact ⟨{ a := _, fd := _, F := F, g := He.glo_ok X G (c.e.fact 23 (f := .glo "lowest") rfl), b := F.binds (ps := ["top", "bottom"]) fun _ _ _ _ _ _ us hl => match us, hl with | [_, _], _ => rfl }⟩
theorem qd_plus {K : PySem.W.Frag} {h : Heap} {mg : Str → Option Value} (X : K.In h) (G : h.Ns mainGlobals mg) (c : SaysP hfa hfn hex K) : Nonempty (DefAt K mg "plus" "plus" s_plus ["one", "other"]) := by
  obtain ⟨oc, od, osl, kV, dc, pm, an, cd, ct, l, cc⟩ := c.def_ 8 (D := D_plus) rfl
  have F := fun_mk (st := s_plus) l cc (c.e.fact 24 (f := .keep "plus") rfl)
  exact ⟨{ a := _, fd := _, F := F, g := He.glo_ok X G (c.e.fact 25 (f := .glo "plus") rfl), b := F.binds (ps := ["one", "other"]) fun _ _ _ _ _ _ us hl => match us, hl with | [_, _], _ => rfl }⟩
theorem qd_less {K : PySem.W.Frag} {h : Heap} {mg : Str → Option Value} (X : K.In h) (G : h.Ns mainGlobals mg) (c : SaysP hfa hfn hex K) : Nonempty (DefAt K mg "less" "less" s_less ["one", "other"]) := by
  obtain ⟨oc, od, osl, kV, dc, pm, an, cd, ct, l, cc⟩ := c.def_ 9 (D := D_less) rfl
  have F := fun_mk (st := s_less) l cc (c.e.fact 26 (f := .keep "less") rfl)
  exact ⟨{ a := _, fd := _, F := F, g := He.glo_ok X G (c.e.fact 27 (f := .glo "less") rfl), b := F.binds (ps := ["one", "other"]) fun _ _ _ _ _ _ us hl => match us, hl with | [_, _], _ => rfl }⟩
theorem qd_times {K : PySem.W.Frag} {h : Heap} {mg : Str → Option Value} (X : K.In h) (G : h.Ns mainGlobals mg) (c : SaysP hfa hfn hex K) : Nonempty (DefAt K mg "times" "times" s_times ["one", "other"]) := by
  obtain ⟨oc, od, osl, kV, dc, pm, an, cd, ct, l, cc⟩ := c.def_ 10 (D := D_times) rfl
  have F := fun_mk (st := s_times) l cc (c.e.fact 28 (f := .keep "times") rfl)
  exact ⟨{ a := _, fd := _, F := F, g := He.glo_ok X G (c.e.fact 29 (f := .glo "times") rfl), b := F.binds (ps := ["one", "other"]) fun _ _ _ _ _ _ us hl => match us, hl with | [_, _], _ => rfl }⟩
theorem qd_over {K : PySem.W.Frag} {h : Heap} {mg : Str → Option Value} (X : K.In h) (G : h.Ns mainGlobals mg) (c : SaysP hfa hfn hex K) : Nonempty (DefAt K mg "over" "over" s_over ["one", "other"]) := by
  obtain ⟨oc, od, osl, kV, dc, pm, an, cd, ct, l, cc⟩ := c.def_ 11 (D := D_over) rfl
  have F := fun_mk (st := s_over) l cc (c.e.fact 30 (f := .keep "over") rfl)
  exact ⟨{ a := _, fd := _, F := F, g := He.glo_ok X G (c.e.fact 31 (f := .glo "over") rfl), b := F.binds (ps := ["one", "other"]) fun _ _ _ _ _ _ us hl => match us, hl with | [_, _], _ => rfl }⟩
theorem qd_ring_of {K : PySem.W.Frag} {h : Heap} {mg : Str → Option Value} (X : K.In h) (G : h.Ns mainGlobals mg) (c : SaysP hfa hfn hex K) : Nonempty (DefAt K mg "ring_of" "ring_of" s_ring_of ["n", "cut", "a", "b"]) := by
  obtain ⟨oc, od, osl, kV, dc, pm, an, cd, ct, l, cc⟩ := c.def_ 12 (D := D_ring_of) rfl
  have F := fun_mk (st := s_ring_of) l cc (c.e.fact 32 (f := .keep "ring_of") rfl)
  exact ⟨{ a := _, fd := _, F := F, g := He.glo_ok X G (c.e.fact 33 (f := .glo "ring_of") rfl), b := F.binds (ps := ["n", "cut", "a", "b"]) fun _ _ _ _ _ _ us hl => match us, hl with | [_, _, _, _], _ => rfl }⟩
theorem qd_ratio {K : PySem.W.Frag} {h : Heap} {mg : Str → Option Value} (X : K.In h) (G : h.Ns mainGlobals mg) (c : SaysP hfa hfn hex K) : Nonempty (DefAt K mg "ratio" "ratio" s_ratio ["n", "cut", "lengths", "a", "b"]) := by
  obtain ⟨oc, od, osl, kV, dc, pm, an, cd, ct, l, cc⟩ := c.def_ 13 (D := D_ratio) rfl
  have F := fun_mk (st := s_ratio) l cc (c.e.fact 34 (f := .keep "ratio") rfl)
  exact ⟨{ a := _, fd := _, F := F, g := He.glo_ok X G (c.e.fact 35 (f := .glo "ratio") rfl), b := F.binds (ps := ["n", "cut", "lengths", "a", "b"]) fun _ _ _ _ _ _ us hl => match us, hl with | [_, _, _, _, _], _ => rfl }⟩
theorem qd_ratios {K : PySem.W.Frag} {h : Heap} {mg : Str → Option Value} (X : K.In h) (G : h.Ns mainGlobals mg) (c : SaysP hfa hfn hex K) : Nonempty (DefAt K mg "ratios" "ratios" s_ratios ["n", "cut", "lengths"]) := by
  obtain ⟨oc, od, osl, kV, dc, pm, an, cd, ct, l, cc⟩ := c.def_ 14 (D := D_ratios) rfl
  have F := fun_mk (st := s_ratios) l cc (c.e.fact 36 (f := .keep "ratios") rfl)
  exact ⟨{ a := _, fd := _, F := F, g := He.glo_ok X G (c.e.fact 37 (f := .glo "ratios") rfl), b := F.binds (ps := ["n", "cut", "lengths"]) fun _ _ _ _ _ _ us hl => match us, hl with | [_, _, _], _ => rfl }⟩
theorem qd_turned_ratios {K : PySem.W.Frag} {h : Heap} {mg : Str → Option Value} (X : K.In h) (G : h.Ns mainGlobals mg) (c : SaysP hfa hfn hex K) : Nonempty (DefAt K mg "turned_ratios" "turned_ratios" s_turned_ratios ["n", "cut", "rates", "a", "b"]) := by
  obtain ⟨oc, od, osl, kV, dc, pm, an, cd, ct, l, cc⟩ := c.def_ 15 (D := D_turned_ratios) rfl
  have F := fun_mk (st := s_turned_ratios) l cc (c.e.fact 38 (f := .keep "turned_ratios") rfl)
  exact ⟨{ a := _, fd := _, F := F, g := He.glo_ok X G (c.e.fact 39 (f := .glo "turned_ratios") rfl), b := F.binds (ps := ["n", "cut", "rates", "a", "b"]) fun _ _ _ _ _ _ us hl => match us, hl with | [_, _, _, _, _], _ => rfl }⟩
theorem qd_two_posts {K : PySem.W.Frag} {h : Heap} {mg : Str → Option Value} (X : K.In h) (G : h.Ns mainGlobals mg) (c : SaysP hfa hfn hex K) : Nonempty (DefAt K mg "two_posts" "two_posts" s_two_posts ["n", "a", "b"]) := by
  obtain ⟨oc, od, osl, kV, dc, pm, an, cd, ct, l, cc⟩ := c.def_ 16 (D := D_two_posts) rfl
  have F := fun_mk (st := s_two_posts) l cc (c.e.fact 40 (f := .keep "two_posts") rfl)
  exact ⟨{ a := _, fd := _, F := F, g := He.glo_ok X G (c.e.fact 41 (f := .glo "two_posts") rfl), b := F.binds (ps := ["n", "a", "b"]) fun _ _ _ _ _ _ us hl => match us, hl with | [_, _, _], _ => rfl }⟩
theorem qd_between {K : PySem.W.Frag} {h : Heap} {mg : Str → Option Value} (X : K.In h) (G : h.Ns mainGlobals mg) (c : SaysP hfa hfn hex K) : Nonempty (DefAt K mg "between" "between" s_between ["lengths", "a", "b"]) := by
  obtain ⟨oc, od, osl, kV, dc, pm, an, cd, ct, l, cc⟩ := c.def_ 17 (D := D_between) rfl
  have F := fun_mk (st := s_between) l cc (c.e.fact 42 (f := .keep "between") rfl)
  exact ⟨{ a := _, fd := _, F := F, g := He.glo_ok X G (c.e.fact 43 (f := .glo "between") rfl), b := F.binds (ps := ["lengths", "a", "b"]) fun _ _ _ _ _ _ us hl => match us, hl with | [_, _, _], _ => rfl }⟩
theorem qd_spread {K : PySem.W.Frag} {h : Heap} {mg : Str → Option Value} (X : K.In h) (G : h.Ns mainGlobals mg) (c : SaysP hfa hfn hex K) : Nonempty (DefAt K mg "spread" "spread" s_spread ["one", "other"]) := by
  obtain ⟨oc, od, osl, kV, dc, pm, an, cd, ct, l, cc⟩ := c.def_ 18 (D := D_spread) rfl
  have F := fun_mk (st := s_spread) l cc (c.e.fact 44 (f := .keep "spread") rfl)
  exact ⟨{ a := _, fd := _, F := F, g := He.glo_ok X G (c.e.fact 45 (f := .glo "spread") rfl), b := F.binds (ps := ["one", "other"]) fun _ _ _ _ _ _ us hl => match us, hl with | [_, _], _ => rfl }⟩
theorem qd_pair_mixed {K : PySem.W.Frag} {h : Heap} {mg : Str → Option Value} (X : K.In h) (G : h.Ns mainGlobals mg) (c : SaysP hfa hfn hex K) : Nonempty (DefAt K mg "pair_mixed" "pair_mixed" s_pair_mixed ["one", "part", "other", "share"]) := by
  obtain ⟨oc, od, osl, kV, dc, pm, an, cd, ct, l, cc⟩ := c.def_ 19 (D := D_pair_mixed) rfl
  have F := fun_mk (st := s_pair_mixed) l cc (c.e.fact 46 (f := .keep "pair_mixed") rfl)
  exact ⟨{ a := _, fd := _, F := F, g := He.glo_ok X G (c.e.fact 47 (f := .glo "pair_mixed") rfl), b := F.binds (ps := ["one", "part", "other", "share"]) fun _ _ _ _ _ _ us hl => match us, hl with | [_, _, _, _], _ => rfl }⟩
theorem qd_third {K : PySem.W.Frag} {h : Heap} {mg : Str → Option Value} (X : K.In h) (G : h.Ns mainGlobals mg) (c : SaysP hfa hfn hex K) : Nonempty (DefAt K mg "third" "third" s_third ["lengths", "stood", "a", "b", "c"]) := by
  obtain ⟨oc, od, osl, kV, dc, pm, an, cd, ct, l, cc⟩ := c.def_ 20 (D := D_third) rfl
  have F := fun_mk (st := s_third) l cc (c.e.fact 48 (f := .keep "third") rfl)
  exact ⟨{ a := _, fd := _, F := F, g := He.glo_ok X G (c.e.fact 49 (f := .glo "third") rfl), b := F.binds (ps := ["lengths", "stood", "a", "b", "c"]) fun _ _ _ _ _ _ us hl => match us, hl with | [_, _, _, _, _], _ => rfl }⟩
theorem qd_stands {K : PySem.W.Frag} {h : Heap} {mg : Str → Option Value} (X : K.In h) (G : h.Ns mainGlobals mg) (c : SaysP hfa hfn hex K) : Nonempty (DefAt K mg "stands" "stands" s_stands ["n", "cut", "lengths"]) := by
  obtain ⟨oc, od, osl, kV, dc, pm, an, cd, ct, l, cc⟩ := c.def_ 21 (D := D_stands) rfl
  have F := fun_mk (st := s_stands) l cc (c.e.fact 50 (f := .keep "stands") rfl)
  exact ⟨{ a := _, fd := _, F := F, g := He.glo_ok X G (c.e.fact 51 (f := .glo "stands") rfl), b := F.binds (ps := ["n", "cut", "lengths"]) fun _ _ _ _ _ _ us hl => match us, hl with | [_, _, _], _ => rfl }⟩
theorem qd_measured {K : PySem.W.Frag} {h : Heap} {mg : Str → Option Value} (X : K.In h) (G : h.Ns mainGlobals mg) (c : SaysP hfa hfn hex K) : Nonempty (DefAt K mg "measured" "measured" s_measured ["n", "cut", "lengths", "a", "b"]) := by
  obtain ⟨oc, od, osl, kV, dc, pm, an, cd, ct, l, cc⟩ := c.def_ 22 (D := D_measured) rfl
  have F := fun_mk (st := s_measured) l cc (c.e.fact 52 (f := .keep "measured") rfl)
  exact ⟨{ a := _, fd := _, F := F, g := He.glo_ok X G (c.e.fact 53 (f := .glo "measured") rfl), b := F.binds (ps := ["n", "cut", "lengths", "a", "b"]) fun _ _ _ _ _ _ us hl => match us, hl with | [_, _, _, _, _], _ => rfl }⟩
theorem qd_laid {K : PySem.W.Frag} {h : Heap} {mg : Str → Option Value} (X : K.In h) (G : h.Ns mainGlobals mg) (c : SaysP hfa hfn hex K) : Nonempty (DefAt K mg "laid" "laid" s_laid ["n", "cut", "lengths", "a", "b"]) := by
  obtain ⟨oc, od, osl, kV, dc, pm, an, cd, ct, l, cc⟩ := c.def_ 23 (D := D_laid) rfl
  have F := fun_mk (st := s_laid) l cc (c.e.fact 54 (f := .keep "laid") rfl)
  exact ⟨{ a := _, fd := _, F := F, g := He.glo_ok X G (c.e.fact 55 (f := .glo "laid") rfl), b := F.binds (ps := ["n", "cut", "lengths", "a", "b"]) fun _ _ _ _ _ _ us hl => match us, hl with | [_, _, _, _, _], _ => rfl }⟩
theorem qd_law_flow {K : PySem.W.Frag} {h : Heap} {mg : Str → Option Value} (X : K.In h) (G : h.Ns mainGlobals mg) (c : SaysP hfa hfn hex K) : Nonempty (DefAt K mg "_law_flow" "_law_flow" s_law_flow ["_law_script", "_law_many_here"]) := by
  obtain ⟨oc, od, osl, kV, dc, pm, an, cd, ct, l, cc⟩ := c.def_ 24 (D := D_law_flow) rfl
  have F := fun_mk (st := s_law_flow) l cc (c.e.fact 56 (f := .keep "_law_flow") rfl)
  exact ⟨{ a := _, fd := _, F := F, g := He.glo_ok X G (c.e.fact 57 (f := .glo "_law_flow") rfl), b := F.binds (ps := ["_law_script", "_law_many_here"]) fun _ _ _ _ _ _ us hl => match us, hl with | [_, _], _ => rfl }⟩
theorem qd_law_whole {K : PySem.W.Frag} {h : Heap} {mg : Str → Option Value} (X : K.In h) (G : h.Ns mainGlobals mg) (c : SaysP hfa hfn hex K) : Nonempty (DefAt K mg "_law_whole" "_law_whole" s_law_whole ["_law_found"]) := by
  obtain ⟨oc, od, osl, kV, dc, pm, an, cd, ct, l, cc⟩ := c.def_ 25 (D := D_law_whole) rfl
  have F := fun_mk (st := s_law_whole) l cc (c.e.fact 58 (f := .keep "_law_whole") rfl)
  exact ⟨{ a := _, fd := _, F := F, g := He.glo_ok X G (c.e.fact 59 (f := .glo "_law_whole") rfl), b := F.binds (ps := ["_law_found"]) fun _ _ _ _ _ _ us hl => match us, hl with | [_], _ => rfl }⟩
theorem qd_law_low {K : PySem.W.Frag} {h : Heap} {mg : Str → Option Value} (X : K.In h) (G : h.Ns mainGlobals mg) (c : SaysP hfa hfn hex K) : Nonempty (DefAt K mg "_law_low" "_law_low" s_law_low ["_law_top", "_law_bottom"]) := by
  obtain ⟨oc, od, osl, kV, dc, pm, an, cd, ct, l, cc⟩ := c.def_ 26 (D := D_law_low) rfl
  have F := fun_mk (st := s_law_low) l cc (c.e.fact 60 (f := .keep "_law_low") rfl)
  exact ⟨{ a := _, fd := _, F := F, g := He.glo_ok X G (c.e.fact 61 (f := .glo "_law_low") rfl), b := F.binds (ps := ["_law_top", "_law_bottom"]) fun _ _ _ _ _ _ us hl => match us, hl with | [_, _], _ => rfl }⟩
theorem qd_law_add {K : PySem.W.Frag} {h : Heap} {mg : Str → Option Value} (X : K.In h) (G : h.Ns mainGlobals mg) (c : SaysP hfa hfn hex K) : Nonempty (DefAt K mg "_law_add" "_law_add" s_law_add ["_law_one", "_law_other"]) := by
  obtain ⟨oc, od, osl, kV, dc, pm, an, cd, ct, l, cc⟩ := c.def_ 27 (D := D_law_add) rfl
  have F := fun_mk (st := s_law_add) l cc (c.e.fact 62 (f := .keep "_law_add") rfl)
  exact ⟨{ a := _, fd := _, F := F, g := He.glo_ok X G (c.e.fact 63 (f := .glo "_law_add") rfl), b := F.binds (ps := ["_law_one", "_law_other"]) fun _ _ _ _ _ _ us hl => match us, hl with | [_, _], _ => rfl }⟩
theorem qd_law_mul {K : PySem.W.Frag} {h : Heap} {mg : Str → Option Value} (X : K.In h) (G : h.Ns mainGlobals mg) (c : SaysP hfa hfn hex K) : Nonempty (DefAt K mg "_law_mul" "_law_mul" s_law_mul ["_law_one", "_law_other"]) := by
  obtain ⟨oc, od, osl, kV, dc, pm, an, cd, ct, l, cc⟩ := c.def_ 28 (D := D_law_mul) rfl
  have F := fun_mk (st := s_law_mul) l cc (c.e.fact 64 (f := .keep "_law_mul") rfl)
  exact ⟨{ a := _, fd := _, F := F, g := He.glo_ok X G (c.e.fact 65 (f := .glo "_law_mul") rfl), b := F.binds (ps := ["_law_one", "_law_other"]) fun _ _ _ _ _ _ us hl => match us, hl with | [_, _], _ => rfl }⟩
theorem qd_law_div {K : PySem.W.Frag} {h : Heap} {mg : Str → Option Value} (X : K.In h) (G : h.Ns mainGlobals mg) (c : SaysP hfa hfn hex K) : Nonempty (DefAt K mg "_law_div" "_law_div" s_law_div ["_law_one", "_law_other"]) := by
  obtain ⟨oc, od, osl, kV, dc, pm, an, cd, ct, l, cc⟩ := c.def_ 29 (D := D_law_div) rfl
  have F := fun_mk (st := s_law_div) l cc (c.e.fact 66 (f := .keep "_law_div") rfl)
  exact ⟨{ a := _, fd := _, F := F, g := He.glo_ok X G (c.e.fact 67 (f := .glo "_law_div") rfl), b := F.binds (ps := ["_law_one", "_law_other"]) fun _ _ _ _ _ _ us hl => match us, hl with | [_, _], _ => rfl }⟩
theorem qd_law_part {K : PySem.W.Frag} {h : Heap} {mg : Str → Option Value} (X : K.In h) (G : h.Ns mainGlobals mg) (c : SaysP hfa hfn hex K) : Nonempty (DefAt K mg "_law_part" "_law_part" s_law_part ["_law_found"]) := by
  obtain ⟨oc, od, osl, kV, dc, pm, an, cd, ct, l, cc⟩ := c.def_ 30 (D := D_law_part) rfl
  have F := fun_mk (st := s_law_part) l cc (c.e.fact 68 (f := .keep "_law_part") rfl)
  exact ⟨{ a := _, fd := _, F := F, g := He.glo_ok X G (c.e.fact 69 (f := .glo "_law_part") rfl), b := F.binds (ps := ["_law_found"]) fun _ _ _ _ _ _ us hl => match us, hl with | [_], _ => rfl }⟩
theorem qd_law_size {K : PySem.W.Frag} {h : Heap} {mg : Str → Option Value} (X : K.In h) (G : h.Ns mainGlobals mg) (c : SaysP hfa hfn hex K) : Nonempty (DefAt K mg "_law_size" "_law_size" s_law_size ["_law_one"]) := by
  obtain ⟨oc, od, osl, kV, dc, pm, an, cd, ct, l, cc⟩ := c.def_ 31 (D := D_law_size) rfl
  have F := fun_mk (st := s_law_size) l cc (c.e.fact 70 (f := .keep "_law_size") rfl)
  exact ⟨{ a := _, fd := _, F := F, g := He.glo_ok X G (c.e.fact 71 (f := .glo "_law_size") rfl), b := F.binds (ps := ["_law_one"]) fun _ _ _ _ _ _ us hl => match us, hl with | [_], _ => rfl }⟩
theorem qd_law_many {K : PySem.W.Frag} {h : Heap} {mg : Str → Option Value} (X : K.In h) (G : h.Ns mainGlobals mg) (c : SaysP hfa hfn hex K) : Nonempty (DefAt K mg "_law_many" "_law_many" s_law_many ["_law_row"]) := by
  obtain ⟨oc, od, osl, kV, dc, pm, an, cd, ct, l, cc⟩ := c.def_ 32 (D := D_law_many) rfl
  have F := fun_mk (st := s_law_many) l cc (c.e.fact 72 (f := .keep "_law_many") rfl)
  exact ⟨{ a := _, fd := _, F := F, g := He.glo_ok X G (c.e.fact 73 (f := .glo "_law_many") rfl), b := F.binds (ps := ["_law_row"]) fun _ _ _ _ _ _ us hl => match us, hl with | [_], _ => rfl }⟩
theorem qd_law_pair {K : PySem.W.Frag} {h : Heap} {mg : Str → Option Value} (X : K.In h) (G : h.Ns mainGlobals mg) (c : SaysP hfa hfn hex K) : Nonempty (DefAt K mg "_law_pair" "_law_pair" s_law_pair ["_law_a", "_law_b"]) := by
  obtain ⟨oc, od, osl, kV, dc, pm, an, cd, ct, l, cc⟩ := c.def_ 33 (D := D_law_pair) rfl
  have F := fun_mk (st := s_law_pair) l cc (c.e.fact 74 (f := .keep "_law_pair") rfl)
  exact ⟨{ a := _, fd := _, F := F, g := He.glo_ok X G (c.e.fact 75 (f := .glo "_law_pair") rfl), b := F.binds (ps := ["_law_a", "_law_b"]) fun _ _ _ _ _ _ us hl => match us, hl with | [_, _], _ => rfl }⟩
theorem qd_law_ears {K : PySem.W.Frag} {h : Heap} {mg : Str → Option Value} (X : K.In h) (G : h.Ns mainGlobals mg) (c : SaysP hfa hfn hex K) : Nonempty (DefAt K mg "_law_ears" "_law_ears" s_law_ears ["_law_n", "_law_row"]) := by
  obtain ⟨oc, od, osl, kV, dc, pm, an, cd, ct, l, cc⟩ := c.def_ 34 (D := D_law_ears) rfl
  have F := fun_mk (st := s_law_ears) l cc (c.e.fact 76 (f := .keep "_law_ears") rfl)
  exact ⟨{ a := _, fd := _, F := F, g := He.glo_ok X G (c.e.fact 77 (f := .glo "_law_ears") rfl), b := F.binds (ps := ["_law_n", "_law_row"]) fun _ _ _ _ _ _ us hl => match us, hl with | [_, _], _ => rfl }⟩
theorem qd_law_ropes {K : PySem.W.Frag} {h : Heap} {mg : Str → Option Value} (X : K.In h) (G : h.Ns mainGlobals mg) (c : SaysP hfa hfn hex K) : Nonempty (DefAt K mg "_law_ropes" "_law_ropes" s_law_ropes ["_law_ears_here"]) := by
  obtain ⟨oc, od, osl, kV, dc, pm, an, cd, ct, l, cc⟩ := c.def_ 35 (D := D_law_ropes) rfl
  have F := fun_mk (st := s_law_ropes) l cc (c.e.fact 78 (f := .keep "_law_ropes") rfl)
  exact ⟨{ a := _, fd := _, F := F, g := He.glo_ok X G (c.e.fact 79 (f := .glo "_law_ropes") rfl), b := F.binds (ps := ["_law_ears_here"]) fun _ _ _ _ _ _ us hl => match us, hl with | [_], _ => rfl }⟩
theorem qd_law_sides {K : PySem.W.Frag} {h : Heap} {mg : Str → Option Value} (X : K.In h) (G : h.Ns mainGlobals mg) (c : SaysP hfa hfn hex K) : Nonempty (DefAt K mg "_law_sides" "_law_sides" s_law_sides ["_law_n"]) := by
  obtain ⟨oc, od, osl, kV, dc, pm, an, cd, ct, l, cc⟩ := c.def_ 36 (D := D_law_sides) rfl
  have F := fun_mk (st := s_law_sides) l cc (c.e.fact 80 (f := .keep "_law_sides") rfl)
  exact ⟨{ a := _, fd := _, F := F, g := He.glo_ok X G (c.e.fact 81 (f := .glo "_law_sides") rfl), b := F.binds (ps := ["_law_n"]) fun _ _ _ _ _ _ us hl => match us, hl with | [_], _ => rfl }⟩
theorem qd_law_ties {K : PySem.W.Frag} {h : Heap} {mg : Str → Option Value} (X : K.In h) (G : h.Ns mainGlobals mg) (c : SaysP hfa hfn hex K) : Nonempty (DefAt K mg "_law_ties" "_law_ties" s_law_ties ["_law_n", "_law_cut"]) := by
  obtain ⟨oc, od, osl, kV, dc, pm, an, cd, ct, l, cc⟩ := c.def_ 37 (D := D_law_ties) rfl
  have F := fun_mk (st := s_law_ties) l cc (c.e.fact 82 (f := .keep "_law_ties") rfl)
  exact ⟨{ a := _, fd := _, F := F, g := He.glo_ok X G (c.e.fact 83 (f := .glo "_law_ties") rfl), b := F.binds (ps := ["_law_n", "_law_cut"]) fun _ _ _ _ _ _ us hl => match us, hl with | [_, _], _ => rfl }⟩
theorem qd_law_sized {K : PySem.W.Frag} {h : Heap} {mg : Str → Option Value} (X : K.In h) (G : h.Ns mainGlobals mg) (c : SaysP hfa hfn hex K) : Nonempty (DefAt K mg "_law_sized" "_law_sized" s_law_sized ["_law_all_ties", "_law_row"]) := by
  obtain ⟨oc, od, osl, kV, dc, pm, an, cd, ct, l, cc⟩ := c.def_ 38 (D := D_law_sized) rfl
  have F := fun_mk (st := s_law_sized) l cc (c.e.fact 84 (f := .keep "_law_sized") rfl)
  exact ⟨{ a := _, fd := _, F := F, g := He.glo_ok X G (c.e.fact 85 (f := .glo "_law_sized") rfl), b := F.binds (ps := ["_law_all_ties", "_law_row"]) fun _ _ _ _ _ _ us hl => match us, hl with | [_, _], _ => rfl }⟩
theorem qd_law_beside {K : PySem.W.Frag} {h : Heap} {mg : Str → Option Value} (X : K.In h) (G : h.Ns mainGlobals mg) (c : SaysP hfa hfn hex K) : Nonempty (DefAt K mg "_law_beside" "_law_beside" s_law_beside ["_law_n", "_law_all_ties", "_law_a", "_law_b"]) := by
  obtain ⟨oc, od, osl, kV, dc, pm, an, cd, ct, l, cc⟩ := c.def_ 39 (D := D_law_beside) rfl
  have F := fun_mk (st := s_law_beside) l cc (c.e.fact 86 (f := .keep "_law_beside") rfl)
  exact ⟨{ a := _, fd := _, F := F, g := He.glo_ok X G (c.e.fact 87 (f := .glo "_law_beside") rfl), b := F.binds (ps := ["_law_n", "_law_all_ties", "_law_a", "_law_b"]) fun _ _ _ _ _ _ us hl => match us, hl with | [_, _, _, _], _ => rfl }⟩
theorem qd_law_turned {K : PySem.W.Frag} {h : Heap} {mg : Str → Option Value} (X : K.In h) (G : h.Ns mainGlobals mg) (c : SaysP hfa hfn hex K) : Nonempty (DefAt K mg "_law_turned" "_law_turned" s_law_turned ["_law_n", "_law_cut", "_law_rope"]) := by
  obtain ⟨oc, od, osl, kV, dc, pm, an, cd, ct, l, cc⟩ := c.def_ 40 (D := D_law_turned) rfl
  have F := fun_mk (st := s_law_turned) l cc (c.e.fact 88 (f := .keep "_law_turned") rfl)
  exact ⟨{ a := _, fd := _, F := F, g := He.glo_ok X G (c.e.fact 89 (f := .glo "_law_turned") rfl), b := F.binds (ps := ["_law_n", "_law_cut", "_law_rope"]) fun _ _ _ _ _ _ us hl => match us, hl with | [_, _, _], _ => rfl }⟩
theorem qd_law_tuple {K : PySem.W.Frag} {h : Heap} {mg : Str → Option Value} (X : K.In h) (G : h.Ns mainGlobals mg) (c : SaysP hfa hfn hex K) : Nonempty (DefAt K mg "_law_tuple" "_law_tuple" s_law_tuple ["_law_found", "_law_many_here"]) := by
  obtain ⟨oc, od, osl, kV, dc, pm, an, cd, ct, l, cc⟩ := c.def_ 41 (D := D_law_tuple) rfl
  have F := fun_mk (st := s_law_tuple) l cc (c.e.fact 90 (f := .keep "_law_tuple") rfl)
  exact ⟨{ a := _, fd := _, F := F, g := He.glo_ok X G (c.e.fact 91 (f := .glo "_law_tuple") rfl), b := F.binds (ps := ["_law_found", "_law_many_here"]) fun _ _ _ _ _ _ us hl => match us, hl with | [_, _], _ => rfl }⟩
theorem qd_law_dict {K : PySem.W.Frag} {h : Heap} {mg : Str → Option Value} (X : K.In h) (G : h.Ns mainGlobals mg) (c : SaysP hfa hfn hex K) : Nonempty (DefAt K mg "_law_dict" "_law_dict" s_law_dict ["_law_found", "_law_due_here"]) := by
  obtain ⟨oc, od, osl, kV, dc, pm, an, cd, ct, l, cc⟩ := c.def_ 42 (D := D_law_dict) rfl
  have F := fun_mk (st := s_law_dict) l cc (c.e.fact 92 (f := .keep "_law_dict") rfl)
  exact ⟨{ a := _, fd := _, F := F, g := He.glo_ok X G (c.e.fact 93 (f := .glo "_law_dict") rfl), b := F.binds (ps := ["_law_found", "_law_due_here"]) fun _ _ _ _ _ _ us hl => match us, hl with | [_, _], _ => rfl }⟩
theorem qd_law_ring {K : PySem.W.Frag} {h : Heap} {mg : Str → Option Value} (X : K.In h) (G : h.Ns mainGlobals mg) (c : SaysP hfa hfn hex K) : Nonempty (DefAt K mg "_law_ring" "_law_ring" s_law_ring ["_law_n", "_law_cut", "_law_rope"]) := by
  obtain ⟨oc, od, osl, kV, dc, pm, an, cd, ct, l, cc⟩ := c.def_ 43 (D := D_law_ring) rfl
  have F := fun_mk (st := s_law_ring) l cc (c.e.fact 94 (f := .keep "_law_ring") rfl)
  exact ⟨{ a := _, fd := _, F := F, g := He.glo_ok X G (c.e.fact 95 (f := .glo "_law_ring") rfl), b := F.binds (ps := ["_law_n", "_law_cut", "_law_rope"]) fun _ _ _ _ _ _ us hl => match us, hl with | [_, _, _], _ => rfl }⟩
theorem qd_law_ratio {K : PySem.W.Frag} {h : Heap} {mg : Str → Option Value} (X : K.In h) (G : h.Ns mainGlobals mg) (c : SaysP hfa hfn hex K) : Nonempty (DefAt K mg "_law_ratio" "_law_ratio" s_law_ratio ["_law_n", "_law_cut", "_law_sized_here", "_law_rope"]) := by
  obtain ⟨oc, od, osl, kV, dc, pm, an, cd, ct, l, cc⟩ := c.def_ 44 (D := D_law_ratio) rfl
  have F := fun_mk (st := s_law_ratio) l cc (c.e.fact 96 (f := .keep "_law_ratio") rfl)
  exact ⟨{ a := _, fd := _, F := F, g := He.glo_ok X G (c.e.fact 97 (f := .glo "_law_ratio") rfl), b := F.binds (ps := ["_law_n", "_law_cut", "_law_sized_here", "_law_rope"]) fun _ _ _ _ _ _ us hl => match us, hl with | [_, _, _, _], _ => rfl }⟩
theorem qd_law_ratios {K : PySem.W.Frag} {h : Heap} {mg : Str → Option Value} (X : K.In h) (G : h.Ns mainGlobals mg) (c : SaysP hfa hfn hex K) : Nonempty (DefAt K mg "_law_ratios" "_law_ratios" s_law_ratios ["_law_n", "_law_cut", "_law_sized_here"]) := by
  obtain ⟨oc, od, osl, kV, dc, pm, an, cd, ct, l, cc⟩ := c.def_ 45 (D := D_law_ratios) rfl
  have F := fun_mk (st := s_law_ratios) l cc (c.e.fact 98 (f := .keep "_law_ratios") rfl)
  exact ⟨{ a := _, fd := _, F := F, g := He.glo_ok X G (c.e.fact 99 (f := .glo "_law_ratios") rfl), b := F.binds (ps := ["_law_n", "_law_cut", "_law_sized_here"]) fun _ _ _ _ _ _ us hl => match us, hl with | [_, _, _], _ => rfl }⟩
theorem qd_law_wild {K : PySem.W.Frag} {h : Heap} {mg : Str → Option Value} (X : K.In h) (G : h.Ns mainGlobals mg) (c : SaysP hfa hfn hex K) : Nonempty (DefAt K mg "_law_wild" "_law_wild" s_law_wild ["_law_n", "_law_one"]) := by
  obtain ⟨oc, od, osl, kV, dc, pm, an, cd, ct, l, cc⟩ := c.def_ 46 (D := D_law_wild) rfl
  have F := fun_mk (st := s_law_wild) l cc (c.e.fact 100 (f := .keep "_law_wild") rfl)
  exact ⟨{ a := _, fd := _, F := F, g := He.glo_ok X G (c.e.fact 101 (f := .glo "_law_wild") rfl), b := F.binds (ps := ["_law_n", "_law_one"]) fun _ _ _ _ _ _ us hl => match us, hl with | [_, _], _ => rfl }⟩
theorem qd_law_due {K : PySem.W.Frag} {h : Heap} {mg : Str → Option Value} (X : K.In h) (G : h.Ns mainGlobals mg) (c : SaysP hfa hfn hex K) : Nonempty (DefAt K mg "_law_due" "_law_due" s_law_due ["_law_n", "_law_cut", "_law_rates", "_law_rope"]) := by
  obtain ⟨oc, od, osl, kV, dc, pm, an, cd, ct, l, cc⟩ := c.def_ 47 (D := D_law_due) rfl
  have F := fun_mk (st := s_law_due) l cc (c.e.fact 102 (f := .keep "_law_due") rfl)
  exact ⟨{ a := _, fd := _, F := F, g := He.glo_ok X G (c.e.fact 103 (f := .glo "_law_due") rfl), b := F.binds (ps := ["_law_n", "_law_cut", "_law_rates", "_law_rope"]) fun _ _ _ _ _ _ us hl => match us, hl with | [_, _, _, _], _ => rfl }⟩
theorem qd_law {K : PySem.W.Frag} {h : Heap} {mg : Str → Option Value} (X : K.In h) (G : h.Ns mainGlobals mg) (c : SaysP hfa hfn hex K) : Nonempty (DefAt K mg "law" "law" s_law ["_law_script"]) := by
  obtain ⟨oc, od, osl, kV, dc, pm, an, cd, ct, l, cc⟩ := c.def_ 48 (D := D_law) rfl
  have F := fun_mk (st := s_law) l cc (c.e.fact 104 (f := .keep "law") rfl)
  exact ⟨{ a := _, fd := _, F := F, g := He.glo_ok X G (c.e.fact 105 (f := .glo "law") rfl), b := F.binds (ps := ["_law_script"]) fun _ _ _ _ _ _ us hl => match us, hl with | [_], _ => rfl }⟩
theorem tx_of {K : PySem.W.Frag} {h : Heap} {mg : Str → Option Value} (X : K.In h) (G : h.Ns mainGlobals mg) (c : SaysP hfa hfn hex K) : Nonempty (Tx0 K mg) := by
  obtain ⟨⟨e_NoRope, ee_NoRope⟩⟩ := qe_NoRope X G c
  obtain ⟨⟨e_NoFraction, ee_NoFraction⟩⟩ := qe_NoFraction X G c
  obtain ⟨⟨e_NoPost, ee_NoPost⟩⟩ := qe_NoPost X G c
  obtain ⟨⟨e_MeadError, ee_MeadError⟩⟩ := qe_MeadError X G c
  exact ⟨{
    d_tie_of := Classical.choice (qd_tie_of X G c),
    d_sides := Classical.choice (qd_sides X G c),
    d_ties := Classical.choice (qd_ties X G c),
    d_plots := Classical.choice (qd_plots X G c),
    d_beside := Classical.choice (qd_beside X G c),
    d_turned := Classical.choice (qd_turned X G c),
    d_measure := Classical.choice (qd_measure X G c),
    d_lowest := Classical.choice (qd_lowest X G c),
    d_plus := Classical.choice (qd_plus X G c),
    d_less := Classical.choice (qd_less X G c),
    d_times := Classical.choice (qd_times X G c),
    d_over := Classical.choice (qd_over X G c),
    d_ring_of := Classical.choice (qd_ring_of X G c),
    d_ratio := Classical.choice (qd_ratio X G c),
    d_ratios := Classical.choice (qd_ratios X G c),
    d_turned_ratios := Classical.choice (qd_turned_ratios X G c),
    d_two_posts := Classical.choice (qd_two_posts X G c),
    d_between := Classical.choice (qd_between X G c),
    d_spread := Classical.choice (qd_spread X G c),
    d_pair_mixed := Classical.choice (qd_pair_mixed X G c),
    d_third := Classical.choice (qd_third X G c),
    d_stands := Classical.choice (qd_stands X G c),
    d_measured := Classical.choice (qd_measured X G c),
    d_laid := Classical.choice (qd_laid X G c),
    d_law_flow := Classical.choice (qd_law_flow X G c),
    d_law_whole := Classical.choice (qd_law_whole X G c),
    d_law_low := Classical.choice (qd_law_low X G c),
    d_law_add := Classical.choice (qd_law_add X G c),
    d_law_mul := Classical.choice (qd_law_mul X G c),
    d_law_div := Classical.choice (qd_law_div X G c),
    d_law_part := Classical.choice (qd_law_part X G c),
    d_law_size := Classical.choice (qd_law_size X G c),
    d_law_many := Classical.choice (qd_law_many X G c),
    d_law_pair := Classical.choice (qd_law_pair X G c),
    d_law_ears := Classical.choice (qd_law_ears X G c),
    d_law_ropes := Classical.choice (qd_law_ropes X G c),
    d_law_sides := Classical.choice (qd_law_sides X G c),
    d_law_ties := Classical.choice (qd_law_ties X G c),
    d_law_sized := Classical.choice (qd_law_sized X G c),
    d_law_beside := Classical.choice (qd_law_beside X G c),
    d_law_turned := Classical.choice (qd_law_turned X G c),
    d_law_tuple := Classical.choice (qd_law_tuple X G c),
    d_law_dict := Classical.choice (qd_law_dict X G c),
    d_law_ring := Classical.choice (qd_law_ring X G c),
    d_law_ratio := Classical.choice (qd_law_ratio X G c),
    d_law_ratios := Classical.choice (qd_law_ratios X G c),
    d_law_wild := Classical.choice (qd_law_wild X G c),
    d_law_due := Classical.choice (qd_law_due X G c),
    d_law := Classical.choice (qd_law X G c),
    m_min := He.free_ok X G (c.e.fact 106 (f := .free "min") rfl),
    m_max := He.free_ok X G (c.e.fact 107 (f := .free "max") rfl),
    m_sorted := He.free_ok X G (c.e.fact 108 (f := .free "sorted") rfl),
    m_range := He.free_ok X G (c.e.fact 109 (f := .free "range") rfl),
    m_abs := He.free_ok X G (c.e.fact 110 (f := .free "abs") rfl),
    m_len := He.free_ok X G (c.e.fact 111 (f := .free "len") rfl),
    m_isinstance := He.free_ok X G (c.e.fact 112 (f := .free "isinstance") rfl),
    m_int := He.free_ok X G (c.e.fact 113 (f := .free "int") rfl),
    m_bool := He.free_ok X G (c.e.fact 114 (f := .free "bool") rfl),
    m_tuple := He.free_ok X G (c.e.fact 115 (f := .free "tuple") rfl),
    m_dict := He.free_ok X G (c.e.fact 116 (f := .free "dict") rfl),
    m_list := He.free_ok X G (c.e.fact 117 (f := .free "list") rfl),
    e_NoRope := e_NoRope,
    e_NoFraction := e_NoFraction,
    e_NoPost := e_NoPost,
    e_MeadError := e_MeadError,
    c_ONE := He.ga K "ONE", g_ONE := He.glo_ok X G (c.e.fact 118 (f := .glo "ONE") rfl), r_ONE := rfl, v_ONE := fun H => He.tupB_ok (x := "ONE") (vs := [.int (1), .int (1)]) (c.b 8 (b := He.tupB K "ONE" [.int (1), .int (1)]) rfl) H,
    c_NOUGHT := He.ga K "NOUGHT", g_NOUGHT := He.glo_ok X G (c.e.fact 119 (f := .glo "NOUGHT") rfl), r_NOUGHT := rfl, v_NOUGHT := fun H => He.tupB_ok (x := "NOUGHT") (vs := [.int (0), .int (1)]) (c.b 9 (b := He.tupB K "NOUGHT" [.int (0), .int (1)]) rfl) H,
    ex1_NoRope := by rw [ee_NoRope]; exact (c.d 10 (p := PySem.W.findIn K (.ref (He.ga K "NoRope")) "__getattribute__" = some (some (.builtin "BaseException.__getattribute__"))) rfl),
    ex2_NoRope := by rw [ee_NoRope]; exact (c.d 11 (p := PySem.W.findIn K (.ref (He.ga K "NoRope")) "__getattr__" = some none) rfl),
    ex3_NoRope := by rw [ee_NoRope]; exact (c.d 12 (p := PySem.W.hasDictIn K (He.ga K "NoRope") = true) rfl),
    ex4_NoRope := by rw [ee_NoRope]; exact (c.d 13 (p := PySem.W.findIn K (.ref (He.ga K "NoRope")) "__class__" = some (some (.builtin "object.__class__"))) rfl),
    ex5_NoRope := by exact (c.d 14 (p := PySem.W.specialIn K (.builtin "object.__class__") "__get__" = some (some (.builtin "getset_descriptor.__get__"))) rfl),
    ex6_NoRope := by exact (c.d 15 (p := PySem.W.takesIn K (.builtin "object.__class__") = some true) rfl),
    ex7_NoRope := by rw [ee_NoRope]; exact (c.d 16 (p := PySem.W.mroIn K (He.ga K "NoRope") (.type "object") = some true) rfl),
    kit_NoRope_MeadError := by rw [ee_NoRope]; rw [ee_MeadError]; exact (c.d 17 (p := PySem.W.kitOne K (.ref (He.ga K "NoRope")) (.ref (He.ga K "MeadError")) = some true) rfl),
    exm_NoRope_MeadError := by rw [ee_NoRope]; rw [ee_MeadError]; exact (c.d 18 (p := PySem.W.exmOne K (.ref (He.ga K "NoRope")) (.ref (He.ga K "MeadError")) = some true) rfl),
    kit_NoRope_NoRope := by rw [ee_NoRope]; exact (c.d 19 (p := PySem.W.kitOne K (.ref (He.ga K "NoRope")) (.ref (He.ga K "NoRope")) = some true) rfl),
    exm_NoRope_NoRope := by rw [ee_NoRope]; exact (c.d 20 (p := PySem.W.exmOne K (.ref (He.ga K "NoRope")) (.ref (He.ga K "NoRope")) = some true) rfl) }⟩
theorem all_mk {l : PySem.W.OpenLaw} {w : World} {K : PySem.W.Frag} {mg : Str → Option Value} {fa : Addr} (ht : l.prog.given.tree = none) (hfa : mg "law" = some (.ref fa)) (T : Tx0 K mg) :
    ∃ fd : FuncData, (∀ (s : Shared) (v : Value), BindsTo s fd ⟨[v], []⟩ [("_law_script", v)]) ∧ ∀ b : Heap, K.In b → b.Ns mainGlobals mg → b.NoSeer → FnOk l.prog w K mg b CX0 52 fa fd ["_law_script"] (spLaw K) := by
  have e := hfa.symm.trans T.g_law
  cases e
  refine ⟨T.fd_law, fun s v => ?_, fun b _ _ z => ok_law (base := b) { toTx0 := T, seer := z, tree := ht }⟩
  obtain ⟨oc, od, kV, doc, pm, an, cdv, ct, osl, e, lk, hcd⟩ := T.F_law.ex
  rw [e]
  exact .of_eq rfl
end Pm
open PySem PySem.W PySem.Calls PyProof.Rows
set_option maxHeartbeats 0 in
theorem PySem.Challenge.cw_postmead_k32_ratios_turned_holds : PySem.Challenge.rw_postmead_k32_ratios_turned.Holds := by
  w_on; o_law
  refine HandSHeadRun.head_any (r := PySem.W.OpenLaw.row PySem.Challenge.rw_postmead_k32_ratios_turned) (q := PySem.W.view (PySem.W.OpenLaw.row PySem.Challenge.rw_postmead_k32_ratios_turned).prog [61]) (H := Pm.hHook) (ob := Pm.hOb) (M := 40000) (loose := Pm.looseA) (d := HandSHeadRun.topDef (PySem.W.OpenLaw.row PySem.Challenge.rw_postmead_k32_ratios_turned).prog 61) (kwd := []) Pm.obT_eq
    (by kernel_rfl) (fun s => by kernel_rfl) Pm.hRun (by kernel_rfl) (by kernel_rfl) (by kernel_rfl) (by rfl) (by first | assumption | decide +kernel) (by decide +kernel) ⟨rfl, rfl, rfl, rfl, rfl, by decide +kernel⟩ ?hw ?hc
  case hw => w_witness2
  case hc =>
    refine Pm.walk_seerE (l := PySem.Challenge.rw_postmead_k32_ratios_turned) (n := 63) (k := 52) (x := "_law_script") (CX := L2.CX0) rfl (by decide) (by kernel_rfl) (by kernel_rfl) ⟨rfl, by decide, by decide⟩ ?F (fun _ _ _ _ z => z)
    intro w mg fa h Y G hmg0
    obtain ⟨K, KX, c⟩ := Y
    have hmg : mg ("law" : PySem.Str) = some (.ref fa) := by
      have e : (HandSHeadRun.topDef (PySem.W.OpenLaw.row PySem.Challenge.rw_postmead_k32_ratios_turned).prog 61).name = ("law" : PySem.Str) := by kernel_rfl
      rw [← e]
      exact hmg0
    obtain ⟨T⟩ := Pm.tx_of KX G c
    obtain ⟨fd, hb, hF⟩ := Pm.all_mk (l := PySem.Challenge.rw_postmead_k32_ratios_turned) (w := w) rfl hmg T
    exact ⟨K, fd, Pm.spLaw K, KX, hb, fun H a ns hl hS => ⟨a, ns, rfl, hS, hl, fun _ => rfl⟩, hF⟩
#print axioms PySem.Challenge.cw_postmead_k32_ratios_turned_holds
