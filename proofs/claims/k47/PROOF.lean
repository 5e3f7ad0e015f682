import PyProof.Rows.All
import PyProof.NoPylong
import HandS.Ends
import HandS.DictTup
import HandS.TupLen
import KE.KDictWalk
import KE.KDictCopyH
import KE.KDictOf
import HandS.Style
import HandS.SortInts
import HandS.ForExc
import HandS.SuiteRaise
import HandS.RaiseFrom
import KE.KTryMore
import HandS.TryMany
import HandS.CallSlots
import KE.KDictSum
import KE.IntTextText
import HandS.TryOnly
import HandS.ReplaceLit
import HandS.Head0
import HandS.Head1
import HandS.Head2
import HandS.HeadEnd
import HandS.HeadHook1
import HandS.HeadHook2
import Wide.All
import OpenK.AllK
import Wide.FinOn
import PySem.Challenge.RW_postmead_k47_sheets_refused
import HandS.ForMost
import HandS.IsInst
import HandS.Deep
import HandS.Codes
import HandS.SortRule
import HandS.Wide
import HandS.ExcIs
import HandS.TupLe
set_option exponentiation.threshold 2000
set_option Elab.async false
set_option linter.all false
set_option maxRecDepth 100000
set_option maxHeartbeats 4000000
namespace Pm
open PySem PySem.Spec PyProof.Rows L2
theorem size_ok {n : Nat} (h : n ≤ 16777216) : n ≤ sizeLine := by rw [sizeLine_eq]; exact h
theorem size_lt {n : Nat} (h : n < 16777216) : n < sizeLine := by rw [sizeLine_eq]; exact h
section
variable {X : Cx} {K : PySem.W.Frag}
theorem ix_listK (e : X.K = K := by rfl) : IxR X (rIxL K) := e ▸ ix_list
theorem ix_tupK (e : X.K = K := by rfl) : IxR X (rIxT K) := e ▸ ix_tup
theorem sl_listK (e : X.K = K := by rfl) : SlR X (rSlL K) := e ▸ sl_list
theorem op_eqDK (hu : X.A.units + 64 < cLine) (e : X.K = K := by rfl) : OpR X (compareOp .Eq) (rEqD K) := e ▸ op_eqD hu
theorem op_neDK (hu : X.A.units + 64 < cLine) (e : X.K = K := by rfl) : OpR X (compareOp .NotEq) (rNeD K) := e ▸ op_neD hu
theorem op_notInDK (hu : X.A.units + 65 < cLine) (e : X.K = K := by rfl) : OpR X (compareOp .NotIn) (rNotInD K) := e ▸ op_notInD hu
theorem op_in_seqK (e : X.K = K := by rfl) : OpR X (compareOp .In) (rIn K false) := e ▸ op_in_seq
theorem cr_sortK (e : X.K = K := by rfl) : CallR X (.builtin "sorted") (rSortedPO K) := e ▸ cr_sortedPO
theorem call_isK (e : X.K = K := by rfl) : CallR X (.builtin "isinstance") (rIsi K) := e ▸ call_isi
theorem k_bm {ex : Expr} {T : String} {r : V → List V → Hp → VK → Prop} {to : TE} {t : TA} (h : PE X ex (tBM X.K T r to t)) (e : X.K = K := by rfl) : PE X ex (tBM K T r to t) := e ▸ h
theorem k_bm0 {ex : Expr} {T : String} {r : V → List V → Hp → VK → Prop} {to : TE} (h : PE X ex (tBM0 X.K T r to)) (e : X.K = K := by rfl) : PE X ex (tBM0 K T r to) := e ▸ h
theorem k_il {tg ex : Expr} {te : TE} (h : PI X tg ex (iList X.K te)) (e : X.K = K := by rfl) : PI X tg ex (iList K te) := e ▸ h
theorem k_it {tg ex : Expr} {te : TE} (h : PI X tg ex (iTup X.K te)) (e : X.K = K := by rfl) : PI X tg ex (iTup K te) := e ▸ h
theorem k_gt {tg : Expr} {n : Nat} {t : TGs} (h : PG X tg (gTup X.K n t)) (e : X.K = K := by rfl) : PG X tg (gTup K n t) := e ▸ h
end
/-- a op1 b op2 c op3 d -/
def tChain3 (r r' r'' : R2) (ta tb tc td : TE) : TE := fun σ H Q => ta σ H fun x H1 => tb σ H1 fun y H2 => r x y H2 fun z H3 => ∃ k, z = .bl k ∧
  (if k = true then tc σ H3 fun w' H4 => r' y w' H4 fun z' H5 => ∃ k', z' = .bl k' ∧ (if k' = true then td σ H5 fun v' H6 => r'' w' v' H6 Q else Q (.bl false) H5) else Q (.bl false) H3)
def rAbs : List V → Hp → VK → Prop := fun xs H Q => ∃ i, xs = [.int i] ∧ Q (.int (if i < 0 then -i else i)) H
theorem c_abs {X : Cx} : CallR X (.builtin "abs") rAbs := call_abs
def rMax2 : List V → Hp → VK → Prop := fun xs H Q => ∃ i j, xs = [.int i, .int j] ∧ Q (.int (if j > i then j else i)) H
theorem c_max {X : Cx} (hc : X.calm = true) : CallR X (.builtin "max") rMax2 := call_max2 hc
def rMin2 : List V → Hp → VK → Prop := fun xs H Q => ∃ i j, xs = [.int i, .int j] ∧ Q (.int (if j < i then j else i)) H
theorem c_min {X : Cx} (hc : X.calm = true) : CallR X (.builtin "min") rMin2 := call_min2 hc
def rLen (K : PySem.W.Frag) : List V → Hp → VK → Prop := fun xs H Q => ∃ p ys, xs = [.ref p] ∧ (SqL K H p ys ∨ SqT K H p ys) ∧ Q (.int ys.length) H
theorem c_len {X : Cx} {K : PySem.W.Frag} (e : X.K = K := by rfl) : CallR X (.builtin "len") (rLen K) := e ▸ call_len_seq
def rLenS : List V → Hp → VK → Prop := fun xs H Q => ∃ z : Str, xs = [.str z] ∧ z.length ≤ sizeLine ∧ Q (.int z.length) H
theorem c_lenS {X : Cx} : CallR X (.builtin "len") rLenS := call_len_str
def rInt1 : List V → Hp → VK → Prop := fun xs H Q => (∃ i, xs = [.int i] ∧ Q (.int i) H) ∨ ∃ k, xs = [.bl k] ∧ Q (.int (if k then 1 else 0)) H
def rListOf (K : PySem.W.Frag) : List V → Hp → VK → Prop := fun xs H Q => ∃ p ys, xs = [.ref p] ∧ (SqL K H p ys ∨ SqT K H p ys) ∧ ∀ l, H l = none → Q (.ref l) (upd H l (.lst ys))
theorem c_listOf {X : Cx} {K : PySem.W.Frag} (e : X.K = K := by rfl) : CallR X (.type "list") (rListOf K) := e ▸ call_list_of
def rCatS : R2 := fun x y H Q => ∃ i j, x = .str i ∧ y = .str j ∧ i.length + j.length ≤ sizeLine ∧ Q (.str (i ++ j)) H
theorem o_catS {X : Cx} : OpR X (binaryOp .Add) rCatS := op_add_str
def TupK (Q : VK) : List V → Hp → Prop := fun xs H1 => xs.length ≤ sizeLine ∧ ∀ p, H1 p = none → Q (.ref p) (upd H1 p (.tup xs))
def LstK (Q : VK) : List V → Hp → Prop := fun xs H1 => xs.length ≤ sizeLine ∧ ∀ p, H1 p = none → Q (.ref p) (upd H1 p (.lst xs))
/-- isinstance(e, c) of the exception at a that an except suite holds (its class cls, its dict d) -/
def rIsX (K : PySem.W.Frag) (cls : Value) (d : Option Addr) (a : Addr) : List V → Hp → VK → Prop := fun xs H Q => ∃ (D : Addr) (c : V) (cv : Value) (b : Bool), cls = .ref D ∧ d = none ∧ ExcC K D ∧ xs = [.ref a, c] ∧ (∀ u, RelV c u → u = cv) ∧ PySem.W.kitOne K (.ref D) cv = some b ∧ Q (.bl b) H
theorem c_isX {X : Cx} {K : PySem.W.Frag} {a : Addr} {oe : Obj} {cls : Value} {d : Option Addr} {pn : List (Addr × Obj)} (hz : Zc cls d oe) (hf : ∃ vs, oe.data = .fields vs) (e : X.K = K := by rfl) : CallR (X.suite a ((a, oe) :: pn)) (.builtin "isinstance") (rIsX K cls d a) := by
  subst e
  intro pins s σ H xs us Q I r h
  obtain ⟨D, c, cv, b, rfl, rfl, C, ex, hc, k, q⟩ := h
  exact call_isE C hz hf pins s σ H xs us Q I r ⟨c, cv, b, ex, hc, k, q⟩
/-- what is asked of a for's body, once what is walked is there -/
def ForB (g : TG) (t : TS) (nx : L2.St → Hp → Prop) (rt : VK) (σ : L2.St) : It → Hp → Prop := fun J H1 => ∃ W : Nat → Nat → L2.St → Hp → Prop, (∃ m, W 0 m σ H1) ∧ ∀ i m σ H, W i m σ H →
  (J.stop i H ∧ nx σ H) ∨ (J.go i H ∧ ∃ N : L2.St → Hp → Prop, (∀ σ' H', N σ' H' → ∃ m', m' < m ∧ W (i + 1) m' σ' H') ∧ ∀ x H', J.yld i H x H' → g x σ H' fun σ2 H2 => t ⟨N, rt, nx, N⟩ σ2 H2)
def WhB (t : TS) (nx : L2.St → Hp → Prop) (rt : VK) (Pv : Nat → L2.St → Hp → Prop) (m : Nat) (σ : L2.St) : Bool → Hp → Prop := fun b H1 => if b = true then ∃ N : L2.St → Hp → Prop, (∀ σ' H', N σ' H' → ∃ m', m' < m ∧ Pv m' σ' H') ∧ t ⟨N, rt, nx, N⟩ σ H1 else nx σ H1
def ParK (i j : Nat) (nx : L2.St → Hp → Prop) (σ : L2.St) : List V → Hp → Prop := fun vs H1 => ∃ v w, vs = [v, w] ∧ nx ((σ.set i (some v)).set j (some w)) H1
def PartK (O : Option Int → Hp → Prop) : VK := fun x H1 => ∃ i, x = .int i ∧ O (some i) H1
def DPK (nx : L2.St → Hp → Prop) (σ : L2.St) (v x : V) : VK := fun y H3 => ∃ a H4, x = .ref a ∧ DPut H3 a y v H4 ∧ nx σ H4
def DInK (y : V) (Q : VK) : VK := fun x H2 => ∃ a o, x = .ref a ∧ DGet H2 a y o ∧ Q (.bl o.isSome) H2
def DNotInK (y : V) (Q : VK) : VK := fun x H2 => ∃ a o, x = .ref a ∧ DGet H2 a y o ∧ Q (.bl (!o.isSome)) H2
def DGK (x : V) (Q : VK) : VK := fun y H2 => ∃ a v, x = .ref a ∧ DGet H2 a y (some v) ∧ Q v H2
def RdL (K : PySem.W.Frag) (R : It → Hp → Prop) : VK := fun x H1 => ∃ a, x = .ref a ∧ (∃ xs, SqL K H1 a xs) ∧ R (Itl K a) H1
def RdT (K : PySem.W.Frag) (R : It → Hp → Prop) : VK := fun x H1 => ∃ a, x = .ref a ∧ (∃ xs, SqT K H1 a xs) ∧ R (Itt K a) H1
def Rg1 (R : It → Hp → Prop) : List V → Hp → Prop := fun vs H1 => ∃ j : Int, vs = [.int j] ∧ -(2 ^ 62) ≤ j ∧ j < 2 ^ 62 ∧ R (Itr 0 j.toNat) H1
def Rg2 (R : It → Hp → Prop) : List V → Hp → Prop := fun vs H1 => ∃ i j : Int, vs = [.int i, .int j] ∧ (-(2 ^ 62) ≤ i ∧ i < 2 ^ 62 ∧ -(2 ^ 62) ≤ j ∧ j < 2 ^ 62) ∧ R (Itr i (j - i).toNat) H1
/-- what is asked of a list comprehension, once what is walked is there -/
def LcB (g : TG) (tt : TT) (te : TE) (vs : List Nat) (σ : L2.St) (Q : VK) : It → Hp → Prop := fun J H1 => ∀ D, H1 D = none → ∃ W : Nat → Nat → Hp → Prop, (∃ m, W 0 m (upd H1 D (.lst []))) ∧ ∀ i m H, W i m H →
  (J.stop i H ∧ Q (.ref D) H) ∨ (J.go i H ∧ ∃ Nx : Hp → Prop, (∀ H', Nx H' → ∃ m', m' < m ∧ W (i + 1) m' H') ∧ ∀ x H', J.yld i H x H' → g x (wipe σ vs) H' fun σ2 H2 => wipe σ2 vs = wipe σ vs ∧ tt σ2 H2 fun b H3 =>
    if b = true then te σ2 H3 fun y H4 => ∃ acc, H4 D = some (.lst acc) ∧ acc.length < sizeLine ∧ Nx (upd H4 D (.lst (acc ++ [y]))) else Nx H3)
/-- a turn of a comprehension: the item put behind the list at D -/
def LcPut (D : Addr) (Nx : Hp → Prop) : VK := fun y H4 => ∃ acc, H4 D = some (.lst acc) ∧ acc.length < sizeLine ∧ Nx (upd H4 D (.lst (acc ++ [y])))
def LcTurn (tt : TT) (te : TE) (vs : List Nat) (σ : L2.St) (D : Addr) (Nx : Hp → Prop) : L2.St → Hp → Prop := fun σ2 H2 => wipe σ2 vs = wipe σ vs ∧ tt σ2 H2 fun b H3 => if b = true then te σ2 H3 (LcPut D Nx) else Nx H3
section
variable {nx bk ct : L2.St → Hp → Prop} {rt : VK} {σ : L2.St} {H : Hp} {t u : TS} {te ta tb tc : TE} {g : TG} {Q : VK} {B : Bool → Hp → Prop} {c c' : TT} {L : List V → Hp → Prop}
theorem w_seq (h : t ⟨u ⟨nx, rt, bk, ct⟩, rt, bk, ct⟩ σ H) : tSeq t u ⟨nx, rt, bk, ct⟩ σ H := h
theorem w_cut (Mid : L2.St → Hp → Prop) (h : t ⟨Mid, rt, bk, ct⟩ σ H) (h2 : ∀ σ' H', Mid σ' H' → u ⟨nx, rt, bk, ct⟩ σ' H') : C8.tCut t u ⟨nx, rt, bk, ct⟩ σ H := ⟨Mid, h, h2⟩
theorem w_asg (h : te σ H fun x H1 => g x σ H1 nx) : tAsg te g ⟨nx, rt, bk, ct⟩ σ H := h
theorem w_drop (h : te σ H fun _ H1 => nx σ H1) : tDrop te ⟨nx, rt, bk, ct⟩ σ H := h
theorem w_ret (h : te σ H rt) : tRet te ⟨nx, rt, bk, ct⟩ σ H := h
theorem w_retN (h : rt .non H) : tRetN ⟨nx, rt, bk, ct⟩ σ H := h
theorem w_next (h : nx σ H) : tNext ⟨nx, rt, bk, ct⟩ σ H := h
theorem w_brk (h : bk σ H) : tBreak ⟨nx, rt, bk, ct⟩ σ H := h
theorem w_cont (h : ct σ H) : tCont ⟨nx, rt, bk, ct⟩ σ H := h
theorem w_if (h : c σ H fun b H1 => if b = true then t ⟨nx, rt, bk, ct⟩ σ H1 else u ⟨nx, rt, bk, ct⟩ σ H1) : tIfS c t u ⟨nx, rt, bk, ct⟩ σ H := h
theorem w_par {i j : Nat} {t : TA} (h : t σ H (ParK i j nx σ)) : tPar i j t ⟨nx, rt, bk, ct⟩ σ H := h
theorem w_par2 {v w : V} {i j : Nat} (h : nx ((σ.set i (some v)).set j (some w)) H) : ParK i j nx σ [v, w] H := ⟨v, w, rfl, h⟩
theorem w_gname {v : V} {i : Nat} {R : L2.St → Hp → Prop} (h : R (σ.set i (some v)) H) : gName i v σ H R := h
theorem w_gtup {K : PySem.W.Frag} {n : Nat} {t : TGs} {a : Addr} {xs : List V} {R : L2.St → Hp → Prop} (hl : SqT K H a xs) (e : xs.length = n) (h : t xs σ H R) : gTup K n t (.ref a) σ H R := ⟨a, xs, rfl, hl, e, h⟩
theorem w_gcons {t : TG} {u : TGs} {v : V} {r : List V} {R : L2.St → Hp → Prop} (h : t v σ H fun σ' H' => u r σ' H' R) : gCons t u (v :: r) σ H R := ⟨v, r, rfl, h⟩
theorem w_gnil {R : L2.St → Hp → Prop} (h : R σ H) : gNil [] σ H R := ⟨rfl, h⟩
theorem w_gsub {to ti : TE} {t : TSet} {v : V} {R : L2.St → Hp → Prop} (h : to σ H fun o H1 => ti σ H1 fun i H2 => t o i v H2 fun H3 => R σ H3) : gSub to ti t v σ H R := h
theorem w_setL {p : Addr} {xs : List V} {k : Int} {v : V} {R : Hp → Prop} (hl : H p = some (.lst xs)) (h0 : 0 ≤ k) (h1 : k < (xs.length : Int)) (h : R (upd H p (.lst (xs.set k.toNat v)))) : rSetL (.ref p) (.int k) v H R := ⟨p, xs, k, k.toNat, rfl, rfl, hl, by unfold ixN; rw [if_pos h0, if_pos h1], h⟩
theorem w_var {i : Nat} {v : V} (e : σ[i]? = some (some v)) (h : Q v H) : tVar i σ H Q := ⟨v, e, h⟩
theorem w_c {v : V} (h : Q v H) : tC v σ H Q := h
theorem w_op {r : R2} (h : ta σ H fun x H1 => tb σ H1 fun y H2 => r x y H2 Q) : tOp r ta tb σ H Q := h
theorem w_un {r : V → Hp → VK → Prop} (h : ta σ H fun x H1 => r x H1 Q) : tUn r ta σ H Q := h
theorem w_i0 {k : Int → Int → V} {i j : Int} (h : Q (k i j) H) : rI0 k (.int i) (.int j) H Q := ⟨i, j, rfl, rfl, h⟩
theorem w_i {C : Int → Int → Prop} {k : Int → Int → V} {i j : Int} (hc : C i j) (h : Q (k i j) H) : rI C k (.int i) (.int j) H Q := ⟨i, j, rfl, rfl, hc, h⟩
theorem w_u {k : Int → V} {i : Int} (h : Q (k i) H) : rU k (.int i) H Q := ⟨i, rfl, h⟩
theorem w_eqi {i j : Int} (h : Q (.bl (decide (i = j))) H) : rEq (.int i) (.int j) H Q := by
  refine ⟨rfl, ?_⟩
  have e : decide (V.int i = V.int j) = decide (i = j) := by simp
  rw [e]; exact h
theorem w_nei {i j : Int} (h : Q (.bl (!decide (i = j))) H) : rNe (.int i) (.int j) H Q := by
  refine ⟨rfl, ?_⟩
  have e : decide (V.int i = V.int j) = decide (i = j) := by simp
  rw [e]; exact h
theorem w_eqb {i j : Bool} (h : Q (.bl (i == j)) H) : rEq (.bl i) (.bl j) H Q := by
  refine ⟨rfl, ?_⟩
  have e : decide (V.bl i = V.bl j) = (i == j) := by cases i <;> cases j <;> rfl
  rw [e]; exact h
theorem w_neb {i j : Bool} (h : Q (.bl (!(i == j))) H) : rNe (.bl i) (.bl j) H Q := by
  refine ⟨rfl, ?_⟩
  have e : decide (V.bl i = V.bl j) = (i == j) := by cases i <;> cases j <;> rfl
  rw [e]; exact h
theorem w_eqs {i j : Str} (h : Q (.bl (decide (i = j))) H) : rEq (.str i) (.str j) H Q := by
  refine ⟨rfl, ?_⟩
  have e : decide (V.str i = V.str j) = decide (i = j) := by simp
  rw [e]; exact h
theorem w_cb {r : List V → Hp → VK → Prop} {t : TA} (h : t σ H fun vs H1 => r vs H1 Q) : tCB r t σ H Q := h
theorem w_nil (h : L [] H) : tNil σ H L := h
theorem w_cons {t : TA} (h : ta σ H fun x H1 => t σ H1 fun xs H2 => L (x :: xs) H2) : tCons ta t σ H L := h
theorem w_call {sp : Sp} {E : XK} {t : TA} (h : t σ H fun vs H1 => sp (vs ++ []) H1 Q E) : tCall sp [] E t σ H Q := h
theorem w_tup {t : TA} (h : t σ H (TupK Q)) : tTup t σ H Q := h
theorem w_lst {t : TA} (h : t σ H (LstK Q)) : tLst t σ H Q := h
theorem w_newT {xs : List V} (h : ∀ p, H p = none → Q (.ref p) (upd H p (.tup xs))) (hz : xs.length ≤ sizeLine := by exact Pm.size_ok (Nat.le_of_ble_eq_true rfl)) : TupK Q xs H := ⟨hz, h⟩
theorem w_newL {xs : List V} (h : ∀ p, H p = none → Q (.ref p) (upd H p (.lst xs))) (hz : xs.length ≤ sizeLine := by exact Pm.size_ok (Nat.le_of_ble_eq_true rfl)) : LstK Q xs H := ⟨hz, h⟩
theorem w_test (h : te σ H fun x H' => ∃ k, x = .bl k ∧ B k H') : tTest te σ H B := h
theorem w_b (h : te σ H fun x H' => ∃ k, x = .bl k ∧ B k H') : tB te σ H B := h
theorem w_bl {k : Bool} (h : B k H) : ∃ k', V.bl k = .bl k' ∧ B k' H := ⟨k, rfl, h⟩
theorem w_and (h : c σ H fun b H1 => if b = true then c' σ H1 B else B false H1) : tAnd c c' σ H B := h
theorem w_or (h : c σ H fun b H1 => if b = true then B true H1 else c' σ H1 B) : tOr c c' σ H B := h
theorem w_not (h : c σ H fun b H1 => B (!b) H1) : tNot c σ H B := h
theorem w_andV (h : ta σ H fun x H1 => ∃ k, x = .bl k ∧ if k = true then tb σ H1 Q else Q (.bl false) H1) : tAndV ta tb σ H Q := h
theorem w_orV (h : ta σ H fun x H1 => ∃ k, x = .bl k ∧ if k = true then Q (.bl true) H1 else tb σ H1 Q) : tOrV ta tb σ H Q := h
theorem w_notV (h : ta σ H fun x H1 => ∃ k, x = .bl k ∧ Q (.bl (!k)) H1) : tNotV ta σ H Q := h
theorem w_ifE (h : c σ H fun b H1 => if b = true then ta σ H1 Q else tb σ H1 Q) : tIf c ta tb σ H Q := h
theorem w_chain {r r' : R2} (h : ta σ H fun x H1 => tb σ H1 fun y H2 => r x y H2 fun z H3 => ∃ k, z = .bl k ∧ (if k = true then tc σ H3 fun w H4 => r' y w H4 Q else Q (.bl false) H3)) : tChain r r' ta tb tc σ H Q := h
theorem w_chain3 {r r' r'' : R2} {td : TE} (h : ta σ H fun x H1 => tb σ H1 fun y H2 => r x y H2 fun z H3 => ∃ k, z = .bl k ∧
  (if k = true then tc σ H3 fun w' H4 => r' y w' H4 fun z' H5 => ∃ k', z' = .bl k' ∧ (if k' = true then td σ H5 fun v' H6 => r'' w' v' H6 Q else Q (.bl false) H5) else Q (.bl false) H3)) : tChain3 r r' r'' ta tb tc td σ H Q := h
theorem w_blx {k : Bool} {R : Bool → Prop} (h : R k) : ∃ k', V.bl k = .bl k' ∧ R k' := ⟨k, rfl, h⟩
theorem w_iteT {A C : Prop} (h : A) : if true = true then A else C := by rw [if_pos rfl]; exact h
theorem w_iteF {A C : Prop} (h : C) : if false = true then A else C := by rw [if_neg Bool.false_ne_true]; exact h
theorem w_iteN1 {A C : Prop} (h : C) : if (!true) = true then A else C := w_iteF h
theorem w_iteN0 {A C : Prop} (h : A) : if (!false) = true then A else C := w_iteT h
theorem w_ite {p A C : Prop} [Decidable p] (h1 : p → A) (h2 : ¬ p → C) : if decide p = true then A else C := by
  by_cases h : p
  · rw [decide_eq_true h, if_pos rfl]; exact h1 h
  · rw [decide_eq_false h, if_neg Bool.false_ne_true]; exact h2 h
theorem w_iteN {p A C : Prop} [Decidable p] (h1 : ¬ p → A) (h2 : p → C) : if (!decide p) = true then A else C := by
  by_cases h : p
  · rw [decide_eq_true h]; exact w_iteF (h2 h)
  · rw [decide_eq_false h]; exact w_iteT (h1 h)
theorem w_abs {i : Int} (h : Q (.int (if i < 0 then -i else i)) H) : rAbs [.int i] H Q := ⟨i, rfl, h⟩
theorem w_max {i j : Int} (h : Q (.int (max i j)) H) : rMax2 [V.int i, V.int j] H Q := by
  refine ⟨i, j, rfl, ?_⟩
  have e : (if j > i then j else i) = max i j := by rw [Int.max_def]; split <;> split <;> omega
  rw [e]; exact h
theorem w_min {i j : Int} (h : Q (.int (min i j)) H) : rMin2 [V.int i, V.int j] H Q := by
  refine ⟨i, j, rfl, ?_⟩
  have e : (if j < i then j else i) = min i j := by rw [Int.min_def]; split <;> split <;> omega
  rw [e]; exact h
theorem w_mul1 {i j : Int} (h : -(2 ^ 64) < i ∧ i < 2 ^ 64) : CMul i j := .inl h
theorem w_mul2 {i j : Int} (h : -(2 ^ 64) < j ∧ j < 2 ^ 64) : CMul i j := .inr h
theorem w_ixL {K : PySem.W.Frag} {p : Addr} {xs : List V} {i : Int} {v : V} (hl : SqL K H p xs) (e : atI xs i = some v) (h : Q v H) : rIxL K (.ref p) (.int i) H Q := ⟨p, xs, i, v, rfl, rfl, hl, e, h⟩
theorem w_ixT {K : PySem.W.Frag} {p : Addr} {xs : List V} {i : Int} {v : V} (hl : SqT K H p xs) (e : atI xs i = some v) (h : Q v H) : rIxT K (.ref p) (.int i) H Q := ⟨p, xs, i, v, rfl, rfl, hl, e, h⟩
theorem w_bm {K : PySem.W.Frag} {T : String} {r : V → List V → Hp → VK → Prop} {t : TA} (h : ta σ H fun x H1 => tyV K T x H1 ∧ t σ H1 fun xs H2 => r x xs H2 Q) : tBM K T r ta t σ H Q := h
theorem w_bm0 {K : PySem.W.Frag} {T : String} {r : V → List V → Hp → VK → Prop} (h : ta σ H fun x H1 => tyV K T x H1 ∧ r x [] H1 Q) : tBM0 K T r ta σ H Q := h
theorem w_append {l : Addr} {xs : List V} {y : V} (hl : H l = some (.lst xs)) (hz : xs.length < sizeLine) (h : Q .non (upd H l (.lst (xs ++ [y])))) : rAppend (.ref l) [y] H Q := ⟨l, xs, y, rfl, rfl, hl, hz, h⟩
theorem w_len {K : PySem.W.Frag} {p : Addr} {ys : List V} (hl : SqL K H p ys ∨ SqT K H p ys) (h : Q (.int ys.length) H) : rLen K [V.ref p] H Q := ⟨p, ys, rfl, hl, h⟩
theorem w_lenL {K : PySem.W.Frag} {p : Addr} {ys : List V} (hl : SqL K H p ys) (h : Q (.int ys.length) H) : rLen K [V.ref p] H Q := ⟨p, ys, rfl, .inl hl, h⟩
theorem w_lenT {K : PySem.W.Frag} {p : Addr} {ys : List V} (hl : SqT K H p ys) (h : Q (.int ys.length) H) : rLen K [V.ref p] H Q := ⟨p, ys, rfl, .inr hl, h⟩
theorem w_lenS {z : Str} (hl : z.length ≤ sizeLine) (h : Q (.int z.length) H) : rLenS [V.str z] H Q := ⟨z, rfl, hl, h⟩
theorem w_int1 {b : Bool} (h : Q (.int (if b then 1 else 0)) H) : rInt1 [.bl b] H Q := .inr ⟨b, rfl, h⟩
theorem w_listOf {K : PySem.W.Frag} {p : Addr} {ys : List V} (hl : SqL K H p ys) (h : ∀ l, H l = none → Q (.ref l) (upd H l (.lst ys))) : rListOf K [.ref p] H Q := ⟨p, ys, rfl, .inl hl, h⟩
theorem w_sl {r : V → Option Int → Option Int → Hp → VK → Prop} {tl th : TO} (h : te σ H fun x H1 => tl σ H1 fun l H2 => th σ H2 fun u H3 => r x l u H3 Q) : tSl r te tl th σ H Q := h
theorem w_noPart {O : Option Int → Hp → Prop} (h : O none H) : tNoPart σ H O := h
theorem w_part {O : Option Int → Hp → Prop} (h : te σ H (PartK O)) : tPart te σ H O := h
theorem w_partK {O : Option Int → Hp → Prop} {i : Int} (h : O (some i) H) : PartK O (.int i) H := ⟨i, rfl, h⟩
theorem w_slL {K : PySem.W.Frag} {a : Addr} {xs : List V} {lo hi : Option Int} (hl : SqL K H a xs) (h : ∀ p, H p = none → Q (.ref p) (upd H p (.lst (cutV xs lo hi)))) : rSlL K (.ref a) lo hi H Q := ⟨a, xs, rfl, hl, h⟩
theorem w_cat {l b : Addr} {xs zs : List V} (h1 : H l = some (.lst xs)) (h2 : H b = some (.lst zs)) (hz : xs.length + zs.length ≤ sizeLine) (h : ∀ p, H p = none → Q (.ref p) (upd H p (.lst (xs ++ zs)))) : rCat (.ref l) (.ref b) H Q := ⟨l, b, xs, zs, rfl, rfl, h1, h2, hz, h⟩
theorem w_dput {td ty tv : TE} (h : tv σ H fun v H1 => td σ H1 fun x H2 => ty σ H2 (DPK nx σ v x)) : sDPut td ty tv ⟨nx, rt, bk, ct⟩ σ H := h
theorem w_dpT {a b : Addr} {kvs : List (List L2.Key × V)} {k : List L2.Key} {v : V} (h1 : H a = some (.dT kvs)) (h2 : H b = some (.tup (k.map kV))) (hl : kvs.length < sizeLine) (h : nx σ (upd H a (.dT (putK kvs k v)))) : DPK nx σ v (.ref a) (.ref b) H := ⟨a, _, rfl, DPut.t h1 h2 hl, h⟩
theorem w_din {ty td : TE} (h : ty σ H fun y H1 => td σ H1 (DInK y Q)) : tDIn ty td σ H Q := h
theorem w_dnotin {ty td : TE} (h : ty σ H fun y H1 => td σ H1 (DNotInK y Q)) : tDNotIn ty td σ H Q := h
theorem w_diT {a b : Addr} {kvs : List (List L2.Key × V)} {k : List L2.Key} (h1 : H a = some (.dT kvs)) (h2 : H b = some (.tup (k.map kV))) (h : Q (.bl (valV kvs k).isSome) H) : DInK (.ref b) Q (.ref a) H := ⟨a, _, rfl, DGet.t h1 h2, h⟩
theorem w_dniT {a b : Addr} {kvs : List (List L2.Key × V)} {k : List L2.Key} (h1 : H a = some (.dT kvs)) (h2 : H b = some (.tup (k.map kV))) (h : Q (.bl (!(valV kvs k).isSome)) H) : DNotInK (.ref b) Q (.ref a) H := ⟨a, _, rfl, DGet.t h1 h2, h⟩
theorem w_dget {td ty : TE} (h : td σ H fun x H1 => ty σ H1 (DGK x Q)) : tDGet td ty σ H Q := h
theorem w_dgT {a b : Addr} {kvs : List (List L2.Key × V)} {k : List L2.Key} {v : V} (h1 : H a = some (.dT kvs)) (h2 : H b = some (.tup (k.map kV))) (e : valV kvs k = some v) (h : Q v H) : DGK (.ref a) Q (.ref b) H := ⟨a, v, rfl, by rw [← e]; exact DGet.t h1 h2, h⟩
theorem w_dnewT (h : ∀ p, H p = none → Q (.ref p) (upd H p (.dT []))) : tDNewT σ H Q := h
theorem w_for {wi : TI} (h : wi σ H (ForB g t nx rt σ)) : tFor wi g t ⟨nx, rt, bk, ct⟩ σ H := h
theorem w_iList {K : PySem.W.Frag} {R : It → Hp → Prop} (h : te σ H (RdL K R)) : iList K te σ H R := h
theorem w_iTup {K : PySem.W.Frag} {R : It → Hp → Prop} (h : te σ H (RdT K R)) : iTup K te σ H R := h
theorem w_rdL {K : PySem.W.Frag} {R : It → Hp → Prop} {a : Addr} {xs : List V} (hl : SqL K H a xs) (h : R (Itl K a) H) : RdL K R (.ref a) H := ⟨a, rfl, ⟨xs, hl⟩, h⟩
theorem w_rdT {K : PySem.W.Frag} {R : It → Hp → Prop} {a : Addr} {xs : List V} (hl : SqT K H a xs) (h : R (Itt K a) H) : RdT K R (.ref a) H := ⟨a, rfl, ⟨xs, hl⟩, h⟩
theorem w_iRng1 {t : TA} {R : It → Hp → Prop} (h : t σ H (Rg1 R)) : iRng1 t σ H R := h
theorem w_iRng2 {t : TA} {R : It → Hp → Prop} (h : t σ H (Rg2 R)) : iRng2 t σ H R := h
theorem w_rg1 {j : Int} {R : It → Hp → Prop} (h1 : -(2 ^ 62) ≤ j ∧ j < 2 ^ 62) (h : R (Itr 0 j.toNat) H) : Rg1 R [.int j] H := ⟨j, rfl, h1.1, h1.2, h⟩
theorem w_rg2 {i j : Int} {R : It → Hp → Prop} (h1 : (-(2 ^ 62) ≤ i ∧ i < 2 ^ 62) ∧ (-(2 ^ 62) ≤ j ∧ j < 2 ^ 62)) (h : R (Itr i (j - i).toNat) H) : Rg2 R [.int i, .int j] H := ⟨i, j, rfl, ⟨h1.1.1, h1.1.2, h1.2.1, h1.2.2⟩, h⟩
/-- for over a range, by what holds ahead of turn i -/
theorem w_forR {lo : Int} {n : Nat} (Pv : Nat → L2.St → Hp → Prop) (h0 : Pv 0 σ H) (hs : ∀ i σ H, i < n → Pv i σ H → g (.int (lo + i)) σ H fun σ2 H2 => t ⟨Pv (i + 1), rt, nx, Pv (i + 1)⟩ σ2 H2) (hd : ∀ σ H, Pv n σ H → nx σ H) : ForB g t nx rt σ (Itr lo n) H :=
  for_range (D := ⟨nx, rt, fun _ _ => False, fun _ _ => False⟩) Pv h0 hs hd
theorem w_forL {K : PySem.W.Frag} {a : Addr} {xs : List V} (Pv : Nat → L2.St → Hp → Prop) (h0 : Pv 0 σ H) (hl : ∀ i σ H, i ≤ xs.length → Pv i σ H → SqL K H a xs) (hs : ∀ i x σ H, xs[i]? = some x → Pv i σ H → g x σ H fun σ2 H2 => t ⟨Pv (i + 1), rt, nx, Pv (i + 1)⟩ σ2 H2) (hd : ∀ σ H, Pv xs.length σ H → nx σ H) : ForB g t nx rt σ (Itl K a) H :=
  for_list (D := ⟨nx, rt, fun _ _ => False, fun _ _ => False⟩) Pv h0 hl hs hd
theorem w_forT {K : PySem.W.Frag} {a : Addr} {xs : List V} (Pv : Nat → L2.St → Hp → Prop) (h0 : Pv 0 σ H) (hl : ∀ i σ H, i ≤ xs.length → Pv i σ H → SqT K H a xs) (hs : ∀ i x σ H, xs[i]? = some x → Pv i σ H → g x σ H fun σ2 H2 => t ⟨Pv (i + 1), rt, nx, Pv (i + 1)⟩ σ2 H2) (hd : ∀ σ H, Pv xs.length σ H → nx σ H) : ForB g t nx rt σ (Itt K a) H :=
  for_tup (D := ⟨nx, rt, fun _ _ => False, fun _ _ => False⟩) Pv h0 hl hs hd
/-- while, by an invariant with a measure -/
theorem w_while {c : TT} (Pv : Nat → L2.St → Hp → Prop) (m : Nat) (h0 : Pv m σ H) (hs : ∀ m σ H, Pv m σ H → c σ H (WhB t nx rt Pv m σ)) : tWhile c t ⟨nx, rt, bk, ct⟩ σ H := ⟨Pv, ⟨m, h0⟩, hs⟩
theorem w_whT {Pv : Nat → L2.St → Hp → Prop} {m : Nat} (h : t ⟨fun σ' H' => ∃ m', m' < m ∧ Pv m' σ' H', rt, nx, fun σ' H' => ∃ m', m' < m ∧ Pv m' σ' H'⟩ σ H) : WhB t nx rt Pv m σ true H := w_iteT ⟨_, fun _ _ h => h, h⟩
theorem w_whF {Pv : Nat → L2.St → Hp → Prop} {m : Nat} (h : nx σ H) : WhB t nx rt Pv m σ false H := w_iteF h
theorem w_wh {Pv : Nat → L2.St → Hp → Prop} {m : Nat} {p : Prop} [Decidable p] (h1 : p → t ⟨fun σ' H' => ∃ m', m' < m ∧ Pv m' σ' H', rt, nx, fun σ' H' => ∃ m', m' < m ∧ Pv m' σ' H'⟩ σ H) (h2 : ¬ p → nx σ H) : WhB t nx rt Pv m σ (decide p) H := by
  by_cases h : p
  · rw [decide_eq_true h]; exact w_whT (h1 h)
  · rw [decide_eq_false h]; exact w_whF (h2 h)
theorem w_lc {wi : TI} {tt : TT} {vs : List Nat} (h : wi σ H (LcB g tt te vs σ Q)) : tLc wi g tt te vs σ H Q := h
theorem w_yes (h : B true H) : tYes σ H B := h
theorem w_lcR {lo : Int} {n : Nat} {tt : TT} {vs : List Nat} (h : ∀ D, H D = none → ∃ Pv : Nat → Hp → Prop, Pv 0 (upd H D (.lst [])) ∧
    (∀ i H1, i < n → Pv i H1 → g (.int (lo + i)) (wipe σ vs) H1 (LcTurn tt te vs σ D (Pv (i + 1)))) ∧ ∀ H1, Pv n H1 → Q (.ref D) H1) : LcB g tt te vs σ Q (Itr lo n) H := fun D hD => by
  obtain ⟨Pv, h0, hs, hd⟩ := h D hD
  exact lc_range (Qd := Q (.ref D)) Pv h0 hs hd
theorem w_lcL {K : PySem.W.Frag} {a : Addr} {xs : List V} {tt : TT} {vs : List Nat} (h : ∀ D, H D = none → ∃ Pv : Nat → Hp → Prop, Pv 0 (upd H D (.lst [])) ∧ (∀ i H1, i ≤ xs.length → Pv i H1 → SqL K H1 a xs) ∧
    (∀ i x H1, xs[i]? = some x → Pv i H1 → g x (wipe σ vs) H1 (LcTurn tt te vs σ D (Pv (i + 1)))) ∧ ∀ H1, Pv xs.length H1 → Q (.ref D) H1) : LcB g tt te vs σ Q (Itl K a) H := fun D hD => by
  obtain ⟨Pv, h0, hl, hs, hd⟩ := h D hD
  exact lc_list (Qd := Q (.ref D)) Pv h0 hl hs hd
theorem w_turn {tt : TT} {vs : List Nat} {σ2 : L2.St} {D : Addr} {Nx : Hp → Prop} (e : wipe σ2 vs = wipe σ vs) (h : tt σ2 H fun b H3 => if b = true then te σ2 H3 (LcPut D Nx) else Nx H3) : LcTurn tt te vs σ D Nx σ2 H := ⟨e, h⟩
theorem w_put {D : Addr} {Nx : Hp → Prop} {acc : List V} {y : V} (hl : H D = some (.lst acc)) (hz : acc.length < sizeLine) (h : Nx (upd H D (.lst (acc ++ [y])))) : LcPut D Nx y H := ⟨acc, hl, hz, h⟩
theorem w_isiInt {K : PySem.W.Frag} {i : Int} {n : String} {b : Bool} (e : kitB "int" n = some b) (h : Q (.bl b) H) : rIsi K [.int i, .ty n] H Q := ⟨_, _, _, _, b, rfl, .ty n, .base (.int i), kit_ty e, h⟩
theorem w_isiTup {K : PySem.W.Frag} {a : Addr} {xs : List V} {n : String} {b : Bool} (hl : SqT K H a xs) (e : kitB "tuple" n = some b) (h : Q (.bl b) H) : rIsi K [.ref a, .ty n] H Q := by
  rcases hl with (h1 | ⟨o, h1⟩) | ⟨o, its, m, h1, h2, h3⟩
  · exact ⟨_, _, _, _, b, rfl, .ty n, .base (.tup h1), kit_ty e, h⟩
  · exact ⟨_, _, _, _, b, rfl, .ty n, .fTuple h1, kit_ty e, h⟩
  · exact ⟨_, _, _, _, b, rfl, .ty n, .kTuple h1 h2, kit_ty e, h⟩
theorem w_isiLst {K : PySem.W.Frag} {a : Addr} {xs : List V} {n : String} {b : Bool} (hl : SqL K H a xs) (e : kitB "list" n = some b) (h : Q (.bl b) H) : rIsi K [.ref a, .ty n] H Q := by
  rcases hl with (h1 | ⟨o, h1⟩) | ⟨o, its, m, h1, h2, h3⟩
  · exact ⟨_, _, _, _, b, rfl, .ty n, .base (.lst h1), kit_ty e, h⟩
  · exact ⟨_, _, _, _, b, rfl, .ty n, .base (.frz h1), kit_ty e, h⟩
  · exact ⟨_, _, _, _, b, rfl, .ty n, .kList h1 h2, kit_ty e, h⟩
theorem inV_ints (i : Int) : ∀ ns : List Int, inV (.int i) (ns.map V.int) = decide (i ∈ ns)
  | [] => rfl
  | x :: r => by
    have ih := inV_ints i r
    show (eqV (.int x) (.int i) || inV (.int i) (r.map V.int)) = _
    rw [ih]
    show ((x == i) || decide (i ∈ r)) = _
    by_cases h : x = i
    · subst h; simp
    · have h2 : ¬ i = x := fun e => h e.symm
      simp [h, h2]
theorem w_inInts {K : PySem.W.Frag} {a : Addr} {i : Int} {ns : List Int} (hl : SqL K H a (ns.map V.int) ∨ SqT K H a (ns.map V.int)) (h : Q (.bl (decide (i ∈ ns))) H) : rIn K false (.int i) (.ref a) H Q := by
  refine ⟨a, _, rfl, hl, rfl, ?_, ?_⟩
  · rw [List.all_map]; exact List.all_eq_true.mpr fun _ _ => rfl
  · rw [if_neg Bool.false_ne_true, inV_ints]
    exact h
theorem w_isX {K : PySem.W.Frag} {D a : Addr} {c : V} {cv : Value} {b : Bool} (C : ExcC K D) (hc : ∀ u, RelV c u → u = cv) (k : PySem.W.kitOne K (.ref D) cv = some b) (h : Q (.bl b) H) : rIsX K (.ref D) none a [.ref a, c] H Q := ⟨D, c, cv, b, rfl, rfl, C, rfl, hc, k, h⟩
theorem w_callS {sp : Sp} {E : L2.St → XK} {t : TA} (h : t σ H fun vs H1 => sp vs H1 Q (E σ)) : tCallS sp E t σ H Q := h
theorem eqv_ints2 (a b c d : Int) : PyData.eqv (.tuple [.int a, .int b]) (.tuple [.int c, .int d]) = decide (a = c ∧ b = d) := by
  simp only [PyData.eqv, PyData.eqvAll, Bool.and_true]
  by_cases h : a = c <;> by_cases h2 : b = d <;> simp [h, h2]
theorem dp_ints2 {K : PySem.W.Frag} {t : Addr} {a b : Int} (h : SqT K H t [.int a, .int b]) : Dp K H (.ref t) (.tuple [.int a, .int b]) := .tup h (.cons (.int a) (.cons (.int b) .nil))
theorem w_eqPair {K : PySem.W.Frag} {t u : Addr} {a b c d : Int} (h1 : SqT K H t [.int a, .int b]) (h2 : SqT K H u [.int c, .int d]) (h : Q (.bl (decide (a = c ∧ b = d))) H) : rEqD K (.ref t) (.ref u) H Q :=
  ⟨_, _, dp_ints2 h1, dp_ints2 h2, rfl, rfl, by rw [eqv_ints2]; exact h⟩
theorem Same.tup {K : PySem.W.Frag} {H H' : Hp} {a : Addr} {xs : List V} (e : Same H H') (h : SqT K H a xs) : SqT K H' a xs := by
  rcases h with (h | ⟨o, h⟩) | h
  · exact .inl (.inl (e _ _ h))
  · exact .inl (.inr ⟨o, e _ _ h⟩)
  · exact .inr h
end
theorem same_new {H : Hp} {p : Addr} (h : H p = none) (o : HO) : Same H (upd H p o) := fun b u q => by rw [upd_ne (ne_of_none q h)]; exact q
theorem cut_take {xs : List V} {k : Int} (h0 : 0 ≤ k) (h : k ≤ (xs.length : Int)) : cutV xs none (some k) = xs.take k.toNat := by
  unfold cutV HT.sIx
  simp only
  rw [if_neg (by omega), List.drop_zero, Nat.sub_zero, Nat.min_eq_left (by omega)]
theorem cut_drop {xs : List V} {k : Int} (h0 : 0 ≤ k) (h : k ≤ (xs.length : Int)) : cutV xs (some k) none = xs.drop k.toNat := by
  unfold cutV HT.sIx
  simp only
  rw [if_neg (by omega), Nat.min_eq_left (by omega)]
  exact List.take_of_length_le (by rw [List.length_drop]; omega)
theorem _root_.L2.Room.u65 {A : Around} {k : Nat} (hr : Room k A) : A.units + 65 < cLine := by have := hr.un; omega
theorem atI2 (a b : V) : atI [a, b] 0 = some a ∧ atI [a, b] 1 = some b := ⟨rfl, rfl⟩
theorem atI_int {ns : List Int} {i : Int} (h0 : 0 ≤ i) (h : i < (ns.length : Int)) : atI (ns.map V.int) i = some (.int (ns.getD i.toNat 0)) := by
  have hk : i.toNat < ns.length := by omega
  have ek : i = ((i.toNat : Nat) : Int) := by omega
  have q : atI (ns.map V.int) ((i.toNat : Nat) : Int) = some (.int ns[i.toNat]) := atI_nat (by rw [List.getElem?_map, List.getElem?_eq_getElem hk] <;> rfl)
  rw [← ek] at q
  rw [q, List.getD_eq_getElem?_getD, List.getElem?_eq_getElem hk] <;> rfl
end Pm
namespace Pm
open PySem PySem.Spec PyProof.Rows L2
@[irreducible] def CDivL (_ j : Int) : Prop := 0 < j
theorem CDivL.pos {i j : Int} (h : CDivL i j) : 0 < j := by unfold CDivL at h; exact h
theorem long_div {i j : Int} {b : Nat} (h : 0 < j) (_ : j.natAbs < 2 ^ b) (_ : 0 < b) (_ : b ≤ 120000000) : CDivL i j := by unfold CDivL; exact h
section
variable {X : Cx}
theorem op_fdivL {env : Env} {l : List Env} (hs : X.base.NoSeer) (ht : X.prog.given.tree = none) (hd : X.A.depth + Builtin.pylongFrames < recursionLimit) (hst : X.stack = env :: l := by rfl) (hgen : env.scope.isGenerator = false := by rfl) (hco : env.scope.isCoroutine = false := by rfl)
    (hb : env.builtins = builtinsNs := by rfl) (hg : env.globals = mainGlobals := by rfl) : OpR X (binaryOp .FloorDiv) (rI CDivL fun i j => .int (i / j)) := by
  intro pins s σ H x y v u Q I rx ry h
  obtain ⟨i, j, rfl, rfl, hc, q⟩ := h
  obtain ⟨t1, rfl⟩ := rx
  obtain ⟨t2, rfl⟩ := ry
  have hj : (0 : Int) < j := hc.pos
  have seer : SeerAt (model X.prog X.w) X.A s.heap := SeerAt.of (hs.keeps I.bk) ht (by rw [← hst]; exact I.ok.frames) hgen hco hb hg
  refine floordiv_int (by omega) ?_ (.inr (PylongRoom.of I.nolimit hd seer))
  rw [Int.fdiv_eq_ediv_of_nonneg i (by omega)]
  exact ⟨.int (i / j), H, I.tok _, ⟨_, rfl⟩, q⟩
end
theorem room_long {k : Nat} {A : Around} (hr : Room k A) (h : 32 ≤ k) : A.depth + Builtin.pylongFrames < recursionLimit := by
  have e : Builtin.pylongFrames = 100 := rfl
  have := hr.dp
  omega
/-- the law's call, where its base has no seer -/
theorem law_seer {P : Program} {w : World} {K : PySem.W.Frag} {mg mb : Str → Option Value} {CX : CXT} {k : Nat} {fa a : Addr} {fd : FuncData} {x : Str} {sp : Sp} {s1 : Shared} {us : List Value} {ms : List Int}
    (KX : K.In s1.heap) (gl : s1.heap.Ns mainGlobals mg) (bl : s1.heap.Ns builtinsNs mb) (boot : ∀ y : Str, y ≠ "__name__" → mb y = bootBuiltins y) (lim : s1.heap.NoLimit) (seer : s1.heap.NoSeer) (gens : s1.gens = #[])
    (at_a : s1.heap.get? a = some { cls := .type "list", data := .seq us.toArray }) (hin : IntsAre us ms) (few : ms.length ≤ sizeLine) (room : Room k callerA)
    (F : ∀ b : Heap, K.In b → b.Ns mainGlobals mg → b.NoSeer → FnOk P w K mg b CX k fa fd [x] sp) (binds : ∀ (s : Shared) (u : Value), BindsTo s fd ⟨[u], []⟩ [(x, u)])
    (want : ∀ G : Hp, SqL K G a (ms.map V.int) → sp [.ref a] G (fun v _ => v = .bl true) fun _ _ _ => False)
    (noX : ∀ G e s2, CX [] G s1 (fun _ _ _ => False) e s2 → False) :
    codeAny (model P w) callerA (.call (.ref fa) ⟨[.ref a], []⟩) (fun r s2 => r = .ok (.ret (.bool true)) ∧ OldK s1.heap s2.heap ∧ s2.os = s1.os ∧ AllBare s2.gens) s1 := by
  have vals := vals_ints hin
  have len := hin.length
  have main : ∀ G : Hp, (∀ b, G b = none ∨ ∃ o xs, G b = some (.frz o (.lst xs))) → SqL K G a (ms.map V.int) → HOk P w G s1.heap → (∀ b, b ≠ a → G b = none) → (G a = none ∨ K.lookup a = none) →
      codeAny (model P w) callerA (.call (.ref fa) ⟨[.ref a], []⟩) (fun r s2 => r = .ok (.ret (.bool true)) ∧ OldK s1.heap s2.heap ∧ s2.os = s1.os ∧ AllBare s2.gens) s1 := by
    intro G hG hS ok none_but orK
    have off : ∀ {b : Addr} {o : Obj}, s1.heap.get? b = some o → o.cls ≠ .type "list" → (hidT s1.heap G).get? b = some o := fun {b o} e n => by
      refine hidT_get e (none_but b fun z => n ?_)
      rw [z, at_a] at e
      cases e
      rfl
    have ns : ∀ {b : Addr} {m : Str → Option Value}, s1.heap.Ns b m → (hidT s1.heap G).Ns b m := fun {b m} ⟨o, es, ep, e, d, r⟩ => by
      refine ⟨o, es, ep, hidT_get e (none_but b fun z => ?_), d, r⟩
      rw [z, at_a] at e
      cases e
      cases d
    have inK : K.In (hidT s1.heap G) := fun b o e => by
      refine hidT_get (KX b o e) ?_
      by_cases z : b = a
      · rcases orK with h | h
        · rw [z]; exact h
        · rw [z, h] at e; cases e
      · exact none_but b z
    have sb : (hidT s1.heap G).NoSeer := by
      refine ⟨?_, ?_, ?_, ?_⟩
      · obtain ⟨m, h1, h2⟩ := seer.statics; exact ⟨m, ns h1, h2⟩
      · obtain ⟨m, h1, h2⟩ := seer.mods; exact ⟨m, ns h1, h2⟩
      · obtain ⟨m, h1, h2⟩ := seer.imp; exact ⟨m, ns h1, h2⟩
      · obtain ⟨m, bm, ob, h1, h2, h3, h4, h5⟩ := seer.main
        exact ⟨m, bm, ob, ns h1, h2, off h3 (by rw [h4]; simp), h4, h5⟩
    have md : Mod K mg (hidT s1.heap G) := ⟨inK, ns gl, ⟨mb, ns bl, boot⟩, by obtain ⟨m, h1, h2⟩ := lim; exact ⟨m, ns h1, h2⟩⟩
    have env : Env0 P w K mg (hidT s1.heap G) callerA [] s1 G := ⟨rfl, md, fun _ _ e => of_hidT e, Nat.le_of_eq (hidT_size _ _), trivial, (fun b hb => absurd (show b ∈ ([] : List Addr) from hb) List.not_mem_nil), ok, .of_eq gens⟩
    have run := (F _ inK (ns gl) sb).run callerA [] s1 G ⟨[.ref a], []⟩ [.ref a] [.ref a] _ _ room env (binds s1 (.ref a)) (.cons rfl .nil) (want G hS)
    refine codeAny_mono run fun r s2 h => ?_
    match r, h with
    | .error e, h => exact (noX G e s2 h).elim
    | .ok .next, h => exact False.elim h
    | .ok .brk, h => exact False.elim h
    | .ok .cont, h => exact False.elim h
    | .ok (.ret u), h =>
      obtain ⟨v, G2, os, bare, un, ok2, rv, qv⟩ := h
      have ev : v = .bl true := qv
      rw [ev] at rv
      have eu : u = Value.bool true := rv
      refine ⟨by rw [eu], OldK.of_keep fun b o e => ?_, os, bare⟩
      rcases hG b with z | ⟨ob, xs, z⟩
      · exact un.keep b o e z (fun hb => by cases hb) (fun hb => by cases hb)
      · have z2 := un.frzs b ob _ z
        have k1 := (ok b _ z).1
        have k2 := (ok2 b _ z2).1
        rw [e] at k1
        rw [k2, ← k1]
  cases lk : K.lookup a with
  | some o =>
    have e := KX a o lk
    rw [at_a] at e
    cases e
    have sq : SqL K (fun _ => none) a (ms.map V.int) := .inr ⟨_, us.toArray, _, lk, rfl, rfl, rfl, by rw [List.size_toArray, len]; exact few, by simpa using vals⟩
    exact main (fun _ => none) (fun _ => .inl rfl) sq (fun b u z => nomatch z) (fun _ _ => rfl) (.inl rfl)
  | none =>
    have put : ∀ b, b ≠ a → (fun b => if b = a then some (HO.frz { cls := .type "list", data := .seq us.toArray } (.lst (ms.map V.int))) else none : Hp) b = none := fun b z => if_neg z
    refine main (fun b => if b = a then some (.frz { cls := .type "list", data := .seq us.toArray } (.lst (ms.map V.int))) else none) (fun b => ?_) (.inl (.inr ⟨{ cls := .type "list", data := .seq us.toArray }, if_pos rfl⟩)) (fun b u z => ?_) put (.inr lk)
    · by_cases c : b = a
      · exact .inr ⟨_, _, if_pos c⟩
      · exact .inl (if_neg c)
    · by_cases c : b = a
      · have z2 := (if_pos c).symm.trans z
        cases z2
        rw [c]
        exact ⟨at_a, by rw [List.length_map]; exact few, us, _, vals, at_a⟩
      · have z2 := (if_neg c).symm.trans z
        cases z2
end Pm
namespace Pm
open PySem PySem.Spec PyProof.Rows L2
/-- item by item -/
def All2 {α β : Type} (R : α → β → Prop) : List α → List β → Prop
  | [], [] => True
  | x :: xs, y :: ys => R x y ∧ All2 R xs ys
  | _, _ => False
section
variable {α β : Type} {R S : α → β → Prop}
theorem All2.nil : All2 R [] [] := trivial
theorem All2.cons {x : α} {y : β} {xs : List α} {ys : List β} (h : R x y) (t : All2 R xs ys) : All2 R (x :: xs) (y :: ys) := ⟨h, t⟩
theorem All2.length : ∀ {xs : List α} {ys : List β}, All2 R xs ys → xs.length = ys.length
  | [], [], _ => rfl
  | _ :: _, _ :: _, h => by rw [List.length_cons, List.length_cons, h.2.length]
theorem All2.mono (f : ∀ x y, R x y → S x y) : ∀ {xs : List α} {ys : List β}, All2 R xs ys → All2 S xs ys
  | [], [], _ => trivial
  | _ :: _, _ :: _, h => ⟨f _ _ h.1, h.2.mono f⟩
theorem All2.get : ∀ {xs : List α} {ys : List β} {i : Nat} {x : α}, All2 R xs ys → xs[i]? = some x → ∃ y, ys[i]? = some y ∧ R x y
  | [], [], _, _, _, e => by simp at e
  | _ :: _, _ :: _, 0, _, h, e => by simp at e; subst e; exact ⟨_, rfl, h.1⟩
  | _ :: _, _ :: _, i + 1, x, h, e => by
    obtain ⟨y, e1, r⟩ := All2.get (i := i) (x := x) h.2 (by simpa using e)
    exact ⟨y, by simpa using e1, r⟩
theorem All2.get' : ∀ {xs : List α} {ys : List β} {i : Nat} {y : β}, All2 R xs ys → ys[i]? = some y → ∃ x, xs[i]? = some x ∧ R x y
  | [], [], _, _, _, e => by simp at e
  | _ :: _, _ :: _, 0, _, h, e => by simp at e; subst e; exact ⟨_, rfl, h.1⟩
  | _ :: _, _ :: _, i + 1, y, h, e => by
    obtain ⟨x, e1, r⟩ := All2.get' (i := i) (y := y) h.2 (by simpa using e)
    exact ⟨x, by simpa using e1, r⟩
theorem All2.append : ∀ {xs : List α} {ys : List β} {xs' : List α} {ys' : List β}, All2 R xs ys → All2 R xs' ys' → All2 R (xs ++ xs') (ys ++ ys')
  | [], [], _, _, _, h => h
  | _ :: _, _ :: _, _, _, h, h' => ⟨h.1, h.2.append h'⟩
theorem All2.snoc {xs : List α} {ys : List β} {x : α} {y : β} (h : All2 R xs ys) (r : R x y) : All2 R (xs ++ [x]) (ys ++ [y]) := h.append ⟨r, trivial⟩
theorem All2.take : ∀ {xs : List α} {ys : List β} (n : Nat), All2 R xs ys → All2 R (xs.take n) (ys.take n)
  | [], [], n, _ => by rw [List.take_nil, List.take_nil]; trivial
  | _ :: _, _ :: _, 0, _ => trivial
  | _ :: _, _ :: _, n + 1, h => ⟨h.1, h.2.take n⟩
theorem All2.drop : ∀ {xs : List α} {ys : List β} (n : Nat), All2 R xs ys → All2 R (xs.drop n) (ys.drop n)
  | [], [], n, _ => by rw [List.drop_nil, List.drop_nil]; trivial
  | _ :: _, _ :: _, 0, h => h
  | _ :: _, _ :: _, n + 1, h => h.2.drop n
theorem All2.set : ∀ {xs : List α} {ys : List β} (i : Nat) {x : α} {y : β}, All2 R xs ys → R x y → All2 R (xs.set i x) (ys.set i y)
  | [], [], _, _, _, _, _ => trivial
  | _ :: _, _ :: _, 0, _, _, h, r => ⟨r, h.2⟩
  | _ :: _, _ :: _, i + 1, _, _, h, r => ⟨h.1, h.2.set i r⟩
theorem All2.mem : ∀ {xs : List α} {ys : List β} {x : α}, All2 R xs ys → x ∈ xs → ∃ y, y ∈ ys ∧ R x y
  | [], [], _, _, e => by simp at e
  | a :: _, b :: _, x, h, e => by
    rcases List.mem_cons.mp e with e | e
    · subst e; exact ⟨b, List.mem_cons_self, h.1⟩
    · obtain ⟨y, e1, r⟩ := h.2.mem e
      exact ⟨y, List.mem_cons_of_mem _ e1, r⟩
theorem All2.map_eq {f : α → β} : ∀ {xs : List α} {ys : List β}, All2 R xs ys → (∀ x y, R x y → f x = y) → xs.map f = ys
  | [], [], _, _ => rfl
  | _ :: _, _ :: _, h, q => by rw [List.map_cons, q _ _ h.1, h.2.map_eq q]
theorem All2.of_map {f : α → β} : ∀ {xs : List α}, (∀ x ∈ xs, R x (f x)) → All2 R xs (xs.map f)
  | [], _ => trivial
  | _ :: _, h => ⟨h _ List.mem_cons_self, All2.of_map fun x hx => h x (List.mem_cons_of_mem _ hx)⟩
end
/-- tuples stay -/
def Keeps (H H' : Hp) : Prop := ∀ t xs, H t = some (.tup xs) → H' t = some (.tup xs)
theorem Keeps.refl (H : Hp) : Keeps H H := fun _ _ h => h
theorem Keeps.trans {H H1 H2 : Hp} (a : Keeps H H1) (b : Keeps H1 H2) : Keeps H H2 := fun t xs h => b t xs (a t xs h)
theorem keeps {H H' : Hp} (s : Same H H') : Keeps H H' := fun _ _ h => s _ _ h
theorem keeps_lst {H : Hp} {a : Addr} {xs ys : List V} (h : H a = some (.lst xs)) : Keeps H (upd H a (.lst ys)) := fun t zs e => by
  rw [upd_ne (fun z => by subst z; rw [e] at h; cases h)]
  exact e
theorem keeps_dT {H : Hp} {a : Addr} {xs ys : List (List L2.Key × V)} (h : H a = some (.dT xs)) : Keeps H (upd H a (.dT ys)) := fun t zs e => by
  rw [upd_ne (fun z => by subst z; rw [e] at h; cases h)]
  exact e
/-- all but the object at a stays -/
theorem same_but {H H' : Hp} {a : Addr} {o : HO} (h0 : H a = none) (s : Same H H') : Same H (upd H' a o) := fun b u e => by
  rw [upd_ne (fun z => by subst z; rw [h0] at e; cases e)]
  exact s b u e
abbrev IP := Int × Int
def Pr (H : Hp) (v : V) (p : IP) : Prop := ∃ t, v = .ref t ∧ H t = some (.tup [.int p.1, .int p.2])
abbrev Prs (H : Hp) : List V → List IP → Prop := All2 (Pr H)
theorem Pr.keep {H H' : Hp} (k : Keeps H H') {v : V} {p : IP} (h : Pr H v p) : Pr H' v p := by
  obtain ⟨t, e, ht⟩ := h
  exact ⟨t, e, k _ _ ht⟩
theorem prs_keep {H H' : Hp} (k : Keeps H H') {vs : List V} {ps : List IP} (h : Prs H vs ps) : Prs H' vs ps := h.mono fun _ _ r => r.keep k
theorem Pr.inj {H : Hp} {v : V} {p q : IP} (h : Pr H v p) (k : Pr H v q) : p = q := by
  obtain ⟨t, rfl, ht⟩ := h
  obtain ⟨u, e, hu⟩ := k
  cases e
  rw [ht] at hu
  have e := HO.tup.inj (Option.some.inj hu)
  injection e with e1 e2
  injection e2 with e2 _
  obtain ⟨a, b⟩ := p
  obtain ⟨c, d⟩ := q
  rw [show a = c from V.int.inj e1, show b = d from V.int.inj e2]
/-- the pair at a value -/
def kOf (H : Hp) : V → IP
  | .ref t => match H t with
    | some (.tup [.int a, .int b]) => (a, b)
    | _ => (0, 0)
  | _ => (0, 0)
theorem Pr.k {H : Hp} {v : V} {p : IP} (h : Pr H v p) : kOf H v = p := by
  obtain ⟨t, rfl, ht⟩ := h
  show (match H t with | some (.tup [.int a, .int b]) => (a, b) | _ => (0, 0)) = p
  rw [ht]
theorem Pr.tup {K : PySem.W.Frag} {H : Hp} {t : Addr} {p : IP} (h : Pr H (.ref t) p) : SqT K H t [.int p.1, .int p.2] := by
  obtain ⟨u, e, hu⟩ := h
  cases e
  exact SqT.of hu
theorem pr_new {H : Hp} {t : Addr} {a b : Int} (h : H t = some (.tup [.int a, .int b])) : Pr H (.ref t) (a, b) := ⟨t, rfl, h⟩
def pD (p : IP) : PyData := .tuple [.int p.1, .int p.2]
theorem dp_pr {K : PySem.W.Frag} {H : Hp} {v : V} {p : IP} (h : Pr H v p) : Dp K H v (pD p) := by
  obtain ⟨t, rfl, ht⟩ := h
  exact dp_ints2 (SqT.of ht)
theorem dp_prs {K : PySem.W.Frag} {H : Hp} : ∀ {vs : List V} {ps : List IP}, Prs H vs ps → DpAll K H vs (ps.map pD)
  | [], [], _ => .nil
  | _ :: _, _ :: _, h => .cons (dp_pr h.1) (dp_prs h.2)
theorem eqv_pD (p q : IP) : PyData.eqv (pD p) (pD q) = decide (p = q) := by
  obtain ⟨a, b⟩ := p
  obtain ⟨c, d⟩ := q
  rw [show PyData.eqv (pD (a, b)) (pD (c, d)) = decide (a = c ∧ b = d) from eqv_ints2 a b c d]
  exact decide_eq_decide.mpr ⟨fun h => by rw [h.1, h.2], fun h => ⟨congrArg Prod.fst h, congrArg Prod.snd h⟩⟩
theorem eqvAll_pD : ∀ ps qs : List IP, PyData.eqvAll (ps.map pD) (qs.map pD) = decide (ps = qs)
  | [], [] => by simp [PyData.eqvAll]
  | [], q :: qs => by simp [PyData.eqvAll]
  | p :: ps, [] => by simp [PyData.eqvAll]
  | p :: ps, q :: qs => by
    rw [List.map_cons, List.map_cons, PyData.eqvAll, eqv_pD, eqvAll_pD ps qs]
    by_cases h : p = q <;> by_cases h2 : ps = qs <;> simp [h, h2]
theorem eqv_list (ps qs : List IP) : PyData.eqv (.list (ps.map pD)) (.list (qs.map pD)) = decide (ps = qs) := by
  rw [PyData.eqv, eqvAll_pD]
theorem any_pD (q : IP) : ∀ ps : List IP, ((ps.map pD).any fun z => PyData.eqv z (pD q)) = decide (q ∈ ps)
  | [] => by simp
  | p :: ps => by
    rw [List.map_cons, List.any_cons, eqv_pD, any_pD q ps]
    by_cases h : p = q
    · subst h; simp
    · have h2 : ¬ q = p := fun e => h e.symm
      simp [h, h2]
theorem lay_pD (p : IP) : (pD p).canLay0 = true := by simp [pD, PyData.canLay0, PyData.canLayAll0]
theorem lays_pD : ∀ ps : List IP, PyData.canLayAll0 (ps.map pD) = true
  | [] => by simp [PyData.canLayAll0]
  | p :: ps => by simp [PyData.canLayAll0, lay_pD p, lays_pD ps]
theorem depth_pD (p : IP) : (pD p).depth = 1 := by simp [pD, PyData.depth, PyData.depthAll]
theorem depths_pD : ∀ ps : List IP, PyData.depthAll (ps.map pD) ≤ 1
  | [] => by simp [PyData.depthAll]
  | p :: ps => by
    have h1 := depths_pD ps
    have h2 := depth_pD p
    simp only [List.map_cons, PyData.depthAll]
    omega
theorem shaped_pD (p : IP) : SeqAt.shaped (pD p) = true := by
  show ((pD p).canLay0 && decide ((pD p).depth ≤ 64)) = true
  rw [lay_pD, depth_pD]
  rfl
theorem shaped_pDs (ps : List IP) : SeqAt.shaped (.list (ps.map pD)) = true := by
  have h1 := depths_pD ps
  have h2 : PyData.depth (.list (ps.map pD)) ≤ 64 := by
    simp only [PyData.depth]
    omega
  show (PyData.canLay0 (.list (ps.map pD)) && decide (PyData.depth (.list (ps.map pD)) ≤ 64)) = true
  rw [Bool.and_eq_true]
  exact ⟨by simp only [PyData.canLay0]; exact lays_pD ps, decide_eq_true h2⟩
section
variable {K : PySem.W.Frag} {H : Hp} {Q : VK} {a b t u : Addr} {v : V} {vs ws : List V} {p q : IP} {ps qs : List IP}
theorem w_nePL (h1 : SqL K H a vs) (p1 : Prs H vs ps) (h2 : SqL K H b ws) (p2 : Prs H ws qs) (h : Q (.bl (!decide (ps = qs))) H) : rNeD K (.ref a) (.ref b) H Q :=
  ⟨_, _, .lst h1 (dp_prs p1), .lst h2 (dp_prs p2), shaped_pDs _, shaped_pDs _, by rw [eqv_list]; exact h⟩
theorem w_eqP (h1 : Pr H (.ref t) p) (h2 : Pr H (.ref u) q) (h : Q (.bl (decide (p = q))) H) : rEqD K (.ref t) (.ref u) H Q :=
  ⟨_, _, dp_pr h1, dp_pr h2, shaped_pD _, shaped_pD _, by rw [eqv_pD]; exact h⟩
theorem w_ninPL (h1 : Pr H v p) (h2 : SqL K H a vs) (p2 : Prs H vs ps) (h : Q (.bl (!decide (p ∈ ps))) H) : rNotInD K v (.ref a) H Q :=
  ⟨_, _, dp_pr h1, .lst h2 (dp_prs p2), shaped_pD _, shaped_pDs _, by rw [any_pD]; exact h⟩
end
def lexLe (p q : IP) : Bool := decide (p.1 < q.1 ∨ (p.1 = q.1 ∧ p.2 ≤ q.2))
theorem lexLe_iff {p q : IP} : lexLe p q = true ↔ (p.1 < q.1 ∨ (p.1 = q.1 ∧ p.2 ≤ q.2)) := decide_eq_true_iff
theorem lexLe_trans (p q r : IP) (h : lexLe p q = true) (k : lexLe q r = true) : lexLe p r = true := by
  have h := lexLe_iff.mp h
  have k := lexLe_iff.mp k
  exact lexLe_iff.mpr (by omega)
theorem lexLe_total (p q : IP) : (lexLe p q || lexLe q p) = true := by
  rw [Bool.or_eq_true, lexLe_iff, lexLe_iff]
  omega
theorem lexLe_anti {p q : IP} (h : lexLe p q = true) (k : lexLe q p = true) : p = q := by
  have h := lexLe_iff.mp h
  have k := lexLe_iff.mp k
  obtain ⟨a, b⟩ := p
  obtain ⟨c, d⟩ := q
  simp only at h k
  have e1 : a = c := by omega
  have e2 : b = d := by omega
  rw [e1, e2]
abbrev Rising (ps : List IP) : Prop := ps.Pairwise fun p q => lexLe p q = true
def sortP (ps : List IP) : List IP := ps.mergeSort lexLe
theorem sortP_perm (ps : List IP) : (sortP ps).Perm ps := List.mergeSort_perm ps lexLe
theorem sortP_rising (ps : List IP) : Rising (sortP ps) := List.pairwise_mergeSort lexLe_trans lexLe_total ps
theorem rising_eq {ps qs : List IP} (h : Rising ps) (k : Rising qs) (e : ps.Perm qs) : ps = qs := List.Perm.eq_of_pairwise (fun _ _ _ _ a b => lexLe_anti a b) h k e
theorem sortP_eq {ps qs : List IP} (h : Rising ps) (e : ps.Perm qs) : sortP qs = ps := rising_eq (sortP_rising qs) h ((sortP_perm qs).trans e.symm)
theorem sortP_congr {ps qs : List IP} (e : ps.Perm qs) : sortP ps = sortP qs := sortP_eq (sortP_rising qs) ((sortP_perm qs).trans e.symm)
theorem sortP_len (ps : List IP) : (sortP ps).length = ps.length := (sortP_perm ps).length_eq
theorem mem_sortP {p : IP} {ps : List IP} : p ∈ sortP ps ↔ p ∈ ps := (sortP_perm ps).mem_iff
theorem lexB_le {p q : IP} (h : SrtO.lexB q p = false) : lexLe p q = true := by
  have h := SrtO.lexB_no.mp h
  exact lexLe_iff.mpr (by omega)
theorem w_sortP {K : PySem.W.Frag} {H : Hp} {Q : VK} {a : Addr} {vs : List V} {ps : List IP} (h1 : SqL K H a vs) (p1 : Prs H vs ps) (h : ∀ ys p, H p = none → Prs H ys (sortP ps) → Q (.ref p) (upd H p (.lst ys))) : rSortedPO K [.ref a] H Q := by
  refine ⟨a, vs, kOf H, rfl, h1, fun x hx => ?_, fun ys p hs hb hp => h ys p hp ?_⟩
  · obtain ⟨q, _, r⟩ := p1.mem hx
    rw [r.k]
    obtain ⟨t, rfl, ht⟩ := r
    exact ⟨t, rfl, ht⟩
  · have e1 : vs.map (kOf H) = ps := p1.map_eq fun _ _ r => r.k
    have pm : (ys.map (kOf H)).Perm ps := by rw [← e1]; exact hb.perm.map _
    have rs : Rising (ys.map (kOf H)) := List.pairwise_map.mpr (hs.imp fun {x y} q => lexB_le q)
    rw [sortP_eq rs pm]
    refine All2.of_map fun y hy => ?_
    obtain ⟨q, _, r⟩ := p1.mem (hb.perm.mem_iff.mp hy)
    rw [r.k]
    exact r
/-- a new list of pairs -/
def PLNew (H : Hp) (ps : List IP) (Q : VK) : Prop := ∀ (p : Addr) (H' : Hp) (ws : List V), Same H H' → H p = none → H' p = some (.lst ws) → Prs H' ws ps → Q (.ref p) H'
/-- a list of pairs that is handed in -/
def PL (K : PySem.W.Frag) (H : Hp) (a : Addr) (ps : List IP) : Prop := ∃ vs, SqL K H a vs ∧ Prs H vs ps
theorem PL.same {K : PySem.W.Frag} {H H' : Hp} {a : Addr} {ps : List IP} (h : PL K H a ps) (s : Same H H') : PL K H' a ps := by
  obtain ⟨vs, h1, h2⟩ := h
  exact ⟨vs, s.seq h1, prs_keep (keeps s) h2⟩
section
variable {H : Hp} {Q : VK} {σ : L2.St} {g : TG} {tt : TT} {te : TE} {vs : List Nat} {β : Type} {R : Hp → V → β → Prop}
theorem put_next (mono : ∀ H H' v b, Keeps H H' → R H v b → R H' v b) {H0 H1 H4 : Hp} {D : Addr} {acc : List V} {bs : List β} {y : V} {b : β} {Pv : Hp → Prop} (hD : H0 D = none) (s1 : Same H0 H1) (hd : H1 D = some (.lst acc)) (ha : All2 (R H1) acc bs) (hz : bs.length < 1000000)
    (s4 : Same H1 H4) (hy : R H4 y b) (hp : ∀ H5 acc', Same H0 H5 → H5 D = some (.lst acc') → All2 (R H5) acc' (bs ++ [b]) → Pv H5) : LcPut D Pv y H4 := by
  refine w_put (s4 _ _ hd) (size_lt (by rw [ha.length]; omega)) (hp _ _ (same_but hD (s1.trans s4)) upd_same ?_)
  have k := keeps_lst (ys := acc ++ [y]) (s4 _ _ hd)
  exact (ha.mono fun _ _ r => mono _ _ _ _ k (mono _ _ _ _ (keeps s4) r)).snoc (mono _ _ _ _ k hy)
/-- [f(k) for k in range(n)] -/
theorem w_lcRm (mono : ∀ H H' v b, Keeps H H' → R H v b → R H' v b) {lo : Int} {n : Nat} (f : Nat → β) (hn : n < 1000000)
    (body : ∀ D i H1 (Nx : Hp → Prop), H D = none → i < n → Same H H1 → (∀ y H4, Same H1 H4 → R H4 y (f i) → LcPut D Nx y H4) → g (.int (lo + i)) (wipe σ vs) H1 (LcTurn tt te vs σ D Nx))
    (done : ∀ D H1 ws, H D = none → Same H H1 → H1 D = some (.lst ws) → All2 (R H1) ws ((List.range n).map f) → Q (.ref D) H1) : LcB g tt te vs σ Q (Itr lo n) H := by
  refine w_lcR fun D hD => ⟨fun i H1 => Same H H1 ∧ ∃ acc, H1 D = some (.lst acc) ∧ All2 (R H1) acc ((List.range i).map f), ⟨same_new hD _, [], upd_same, trivial⟩, ?_, ?_⟩
  · rintro i H1 hi ⟨s1, acc, hd, ha⟩
    refine body D i H1 _ hD hi s1 fun y H4 s4 hy => ?_
    refine put_next mono hD s1 hd ha (by rw [List.length_map, List.length_range]; omega) s4 hy fun H5 acc' s5 h5 a5 => ⟨s5, acc', h5, ?_⟩
    rw [List.range_succ, List.map_append]
    exact a5
  · rintro H1 ⟨s1, acc, hd, ha⟩
    exact done D H1 acc hD s1 hd ha
/-- [f(x) for x in xs if p(x)]: the items taken by a relation of their own -/
theorem w_lcLf (mono : ∀ H H' v b, Keeps H H' → R H v b → R H' v b) {K : PySem.W.Frag} {a : Addr} {xs : List V} {γ : Type} {S : Hp → V → γ → Prop} (monoS : ∀ H H' v b, Keeps H H' → S H v b → S H' v b) {cs : List γ} (hl : SqL K H a xs) (hx : All2 (S H) xs cs) (f : γ → β) (pr : γ → Bool) (hn : cs.length < 1000000)
    (body : ∀ D (x : V) (c : γ) H1 (Nx : Hp → Prop), H D = none → c ∈ cs → S H1 x c → Same H H1 → (∀ y H4, pr c = true → Same H1 H4 → R H4 y (f c) → LcPut D Nx y H4) → (∀ H4, pr c = false → Same H1 H4 → Nx H4) → g x (wipe σ vs) H1 (LcTurn tt te vs σ D Nx))
    (done : ∀ D H1 ws, H D = none → Same H H1 → H1 D = some (.lst ws) → All2 (R H1) ws ((cs.filter pr).map f) → Q (.ref D) H1) : LcB g tt te vs σ Q (Itl K a) H := by
  have hlen := hx.length
  refine w_lcL (xs := xs) fun D hD => ⟨fun i H1 => Same H H1 ∧ ∃ acc, H1 D = some (.lst acc) ∧ All2 (R H1) acc (((cs.take i).filter pr).map f), ⟨same_new hD _, [], upd_same, trivial⟩, ?_, ?_, ?_⟩
  · rintro i H1 _ ⟨s1, _⟩
    exact s1.seq hl
  · rintro i x H1 hi ⟨s1, acc, hd, ha⟩
    obtain ⟨c, hc, hs⟩ := hx.get hi
    have hlt : i < cs.length := (List.getElem?_eq_some_iff.mp hc).1
    have hle : (((cs.take i).filter pr).map f).length < 1000000 := by
      rw [List.length_map]
      have := List.length_filter_le pr (cs.take i)
      rw [List.length_take] at this
      omega
    have et : cs.take (i + 1) = cs.take i ++ [c] := by rw [List.take_add_one, hc] <;> rfl
    refine body D x c H1 _ hD (List.mem_of_getElem? hc) (monoS _ _ _ _ (keeps s1) hs) s1 (fun y H4 hp s4 hy => ?_) (fun H4 hp s4 => ?_)
    · refine put_next mono hD s1 hd ha hle s4 hy fun H5 acc' s5 h5 a5 => ⟨s5, acc', h5, ?_⟩
      rw [et, List.filter_append, List.map_append]
      have e1 : List.filter pr [c] = [c] := by simp [hp]
      rw [e1]
      exact a5
    · refine ⟨s1.trans s4, acc, s4 _ _ hd, ?_⟩
      have e1 : List.filter pr [c] = [] := by simp [hp]
      rw [et, List.filter_append, e1, List.append_nil]
      exact ha.mono fun _ _ r => mono _ _ _ _ (keeps s4) r
  · rintro H1 ⟨s1, acc, hd, ha⟩
    rw [hlen, List.take_length] at ha
    exact done D H1 acc hD s1 hd ha
end
theorem pr_mono (H H' : Hp) (v : V) (b : IP) (k : Keeps H H') (h : Pr H v b) : Pr H' v b := h.keep k
/-- an int as an item -/
def In (_ : Hp) (v : V) (i : Int) : Prop := v = .int i
theorem in_mono (H H' : Hp) (v : V) (b : Int) (_ : Keeps H H') (h : In H v b) : In H' v b := h
theorem ins_map {H : Hp} : ∀ {vs : List V} {ns : List Int}, All2 (In H) vs ns → vs = ns.map V.int
  | [], [], _ => rfl
  | _ :: _, _ :: _, h => by rw [List.map_cons, ← ins_map h.2, h.1]
theorem take_snoc {α : Type} {l : List α} {i : Nat} {x : α} (h : l[i]? = some x) : l.take (i + 1) = l.take i ++ [x] := by rw [List.take_add_one, h] <;> rfl
end Pm
namespace Pm
inductive Tr where
  | leaf
  | node (l r : Tr)
namespace Tr
def w : Tr → Nat
  | leaf => 1
  | node l r => l.w + r.w
theorem w_pos : ∀ t : Tr, 1 ≤ t.w
  | leaf => Nat.le_refl _
  | node l r => by have := l.w_pos; show 1 ≤ l.w + r.w; omega
/-- all ties -/
def all : Nat → Tr → List (Nat × Nat)
  | lo, leaf => [(lo, lo + 1)]
  | lo, node l r => (lo, lo + (l.w + r.w)) :: (l.all lo ++ r.all (lo + l.w))
/-- the ties of nodes -/
def inn : Nat → Tr → List (Nat × Nat)
  | _, leaf => []
  | lo, node l r => (lo, lo + (l.w + r.w)) :: (l.inn lo ++ r.inn (lo + l.w))
/-- the ropes of the whole -/
def ropes : Nat → Tr → List (Nat × Nat)
  | _, leaf => []
  | lo, node l r => l.inn lo ++ r.inn (lo + l.w)
theorem inn_node {lo : Nat} {t : Tr} (h : 2 ≤ t.w) : t.inn lo = (lo, lo + t.w) :: t.ropes lo := by
  cases t with
  | leaf => exact absurd h (by show ¬ 2 ≤ 1; omega)
  | node l r => rfl
theorem bd : ∀ {t : Tr} {lo : Nat} {p : Nat × Nat}, p ∈ t.all lo → lo ≤ p.1 ∧ p.1 < p.2 ∧ p.2 ≤ lo + t.w
  | leaf, lo, p, h => by
    rw [List.mem_singleton.mp h]
    exact ⟨Nat.le_refl _, Nat.lt_succ_self _, Nat.le_refl _⟩
  | node l r, lo, p, h => by
    have wl := l.w_pos
    have wr := r.w_pos
    show lo ≤ p.1 ∧ p.1 < p.2 ∧ p.2 ≤ lo + (l.w + r.w)
    rcases List.mem_cons.mp h with h | h
    · rw [h]; simp only; omega
    · rcases List.mem_append.mp h with h | h
      · have := bd h; omega
      · have := bd h; omega
theorem mem_node {l r : Tr} {lo : Nat} {p : Nat × Nat} : p ∈ (node l r).all lo ↔ p = (lo, lo + (l.w + r.w)) ∨ p ∈ l.all lo ∨ p ∈ r.all (lo + l.w) := by
  show p ∈ _ :: (_ ++ _) ↔ _
  rw [List.mem_cons, List.mem_append]
theorem root_mem {t : Tr} {lo : Nat} : (lo, lo + t.w) ∈ t.all lo := by
  cases t with
  | leaf => exact List.mem_singleton.mpr rfl
  | node l r => exact List.mem_cons_self
theorem inn_all : ∀ {t : Tr} {lo : Nat} {p : Nat × Nat}, p ∈ t.inn lo → p ∈ t.all lo
  | leaf, _, _, h => by cases h
  | node l r, lo, p, h => by
    rw [mem_node]
    rcases List.mem_cons.mp h with h | h
    · exact .inl h
    · rcases List.mem_append.mp h with h | h
      · exact .inr (.inl (inn_all h))
      · exact .inr (.inr (inn_all h))
theorem inn_wide : ∀ {t : Tr} {lo : Nat} {p : Nat × Nat}, p ∈ t.inn lo → p.1 + 2 ≤ p.2
  | leaf, _, _, h => by cases h
  | node l r, lo, p, h => by
    have wl := l.w_pos
    have wr := r.w_pos
    rcases List.mem_cons.mp h with h | h
    · rw [h]; simp only; omega
    · rcases List.mem_append.mp h with h | h
      · exact inn_wide h
      · exact inn_wide h
/-- a tie is one of a node, or of two neighbours -/
theorem all_iff : ∀ {t : Tr} {lo : Nat} {p : Nat × Nat}, p ∈ t.all lo ↔ p ∈ t.inn lo ∨ (lo ≤ p.1 ∧ p.2 = p.1 + 1 ∧ p.2 ≤ lo + t.w)
  | leaf, lo, p => by
    show p ∈ [(lo, lo + 1)] ↔ p ∈ [] ∨ (lo ≤ p.1 ∧ p.2 = p.1 + 1 ∧ p.2 ≤ lo + 1)
    obtain ⟨a, b⟩ := p
    simp only [List.mem_singleton, Prod.mk.injEq, List.not_mem_nil, false_or]
    omega
  | node l r, lo, p => by
    have wl := l.w_pos
    have wr := r.w_pos
    rw [mem_node, all_iff (t := l), all_iff (t := r)]
    show _ ↔ p ∈ _ :: (_ ++ _) ∨ (lo ≤ p.1 ∧ p.2 = p.1 + 1 ∧ p.2 ≤ lo + (l.w + r.w))
    rw [List.mem_cons, List.mem_append]
    constructor
    · rintro (h | (h | h) | (h | h))
      · exact .inl (.inl h)
      · exact .inl (.inr (.inl h))
      · exact .inr (by omega)
      · exact .inl (.inr (.inr h))
      · exact .inr (by omega)
    · rintro ((h | h | h) | h)
      · exact .inl h
      · exact .inr (.inl (.inl h))
      · exact .inr (.inr (.inl h))
      · by_cases c : p.2 ≤ lo + l.w
        · exact .inr (.inl (.inr (by omega)))
        · exact .inr (.inr (.inr (by omega)))
/-- the one post between the ends of a node's tie -/
theorem apex_in : ∀ {t : Tr} {lo a b : Nat}, (a, b) ∈ t.inn lo → ∃ m, (a < m ∧ m < b) ∧ (a, m) ∈ t.all lo ∧ (m, b) ∈ t.all lo ∧ ∀ m', a < m' → m' < b → (a, m') ∈ t.all lo → (m', b) ∈ t.all lo → m' = m
  | leaf, _, _, _, h => by cases h
  | node l r, lo, a, b, h => by
    have wl := l.w_pos
    have wr := r.w_pos
    rcases List.mem_cons.mp h with h | h
    · obtain ⟨rfl, rfl⟩ := Prod.mk.inj h
      refine ⟨a + l.w, ⟨by omega, by omega⟩, mem_node.mpr (.inr (.inl root_mem)), mem_node.mpr (.inr (.inr (by rw [← Nat.add_assoc]; exact root_mem))), fun m' h1 h2 h3 h4 => ?_⟩
      rcases mem_node.mp h3 with e | e | e
      · have := (Prod.mk.inj e).2; omega
      · have q := (bd e).2.2
        simp only at q
        rcases mem_node.mp h4 with e | e | e
        · have := (Prod.mk.inj e).1; omega
        · have := (bd e).2.2; simp only at this; omega
        · have := (bd e).1; simp only at this; omega
      · have := (bd e).1; simp only at this; omega
    · rcases List.mem_append.mp h with h | h
      · have q := bd (inn_all h)
        simp only at q
        obtain ⟨m, hm, h1, h2, u⟩ := apex_in h
        refine ⟨m, hm, mem_node.mpr (.inr (.inl h1)), mem_node.mpr (.inr (.inl h2)), fun m' g1 g2 g3 g4 => u m' g1 g2 ?_ ?_⟩
        · rcases mem_node.mp g3 with e | e | e
          · have := (Prod.mk.inj e).2; omega
          · exact e
          · have := (bd e).1; simp only at this; omega
        · rcases mem_node.mp g4 with e | e | e
          · have := (Prod.mk.inj e).1; omega
          · exact e
          · have := (bd e).1; simp only at this; omega
      · have q := bd (inn_all h)
        simp only at q
        obtain ⟨m, hm, h1, h2, u⟩ := apex_in h
        refine ⟨m, hm, mem_node.mpr (.inr (.inr h1)), mem_node.mpr (.inr (.inr h2)), fun m' g1 g2 g3 g4 => u m' g1 g2 ?_ ?_⟩
        · rcases mem_node.mp g3 with e | e | e
          · have := (Prod.mk.inj e).1; omega
          · have := (bd e).2.2; simp only at this; omega
          · exact e
        · rcases mem_node.mp g4 with e | e | e
          · have := (Prod.mk.inj e).1; omega
          · have := (bd e).2.2; simp only at this; omega
          · exact e
/-- m makes a plot with (a, b) from outside -/
def Out (t : Tr) (lo a b m : Nat) : Prop := (m < a ∧ (m, a) ∈ t.all lo ∧ (m, b) ∈ t.all lo) ∨ (b < m ∧ (a, m) ∈ t.all lo ∧ (b, m) ∈ t.all lo)
theorem Out.up_l {l r : Tr} {lo a b m : Nat} (h : Out l lo a b m) : Out (node l r) lo a b m := by
  rcases h with ⟨h, h1, h2⟩ | ⟨h, h1, h2⟩
  · exact .inl ⟨h, mem_node.mpr (.inr (.inl h1)), mem_node.mpr (.inr (.inl h2))⟩
  · exact .inr ⟨h, mem_node.mpr (.inr (.inl h1)), mem_node.mpr (.inr (.inl h2))⟩
theorem Out.up_r {l r : Tr} {lo a b m : Nat} (h : Out r (lo + l.w) a b m) : Out (node l r) lo a b m := by
  rcases h with ⟨h, h1, h2⟩ | ⟨h, h1, h2⟩
  · exact .inl ⟨h, mem_node.mpr (.inr (.inr h1)), mem_node.mpr (.inr (.inr h2))⟩
  · exact .inr ⟨h, mem_node.mpr (.inr (.inr h1)), mem_node.mpr (.inr (.inr h2))⟩
theorem Out.down_l {l r : Tr} {lo a b m : Nat} (q : lo ≤ a ∧ a < b ∧ b ≤ lo + l.w) (n : ¬ (a = lo ∧ b = lo + l.w)) (h : Out (node l r) lo a b m) : Out l lo a b m := by
  have wr := r.w_pos
  rcases h with ⟨h, h1, h2⟩ | ⟨h, h1, h2⟩
  · refine .inl ⟨h, ?_, ?_⟩
    · rcases mem_node.mp h1 with e | e | e
      · have := (Prod.mk.inj e).2; omega
      · exact e
      · have := (bd e).1; simp only at this; omega
    · rcases mem_node.mp h2 with e | e | e
      · have := (Prod.mk.inj e).2; omega
      · exact e
      · have := (bd e).1; simp only at this; omega
  · have hb : (b, m) ∈ l.all lo ∨ b = lo + l.w := by
      rcases mem_node.mp h2 with e | e | e
      · have := (Prod.mk.inj e).1; omega
      · exact .inl e
      · have := (bd e).1; simp only at this; exact .inr (by omega)
    rcases hb with hb | hb
    · have z := (bd hb).2.2
      simp only at z
      refine .inr ⟨h, ?_, hb⟩
      rcases mem_node.mp h1 with e | e | e
      · have := (Prod.mk.inj e).2; omega
      · exact e
      · have := (bd e).1; simp only at this; omega
    · exfalso
      rcases mem_node.mp h1 with e | e | e
      · have := (Prod.mk.inj e).1; omega
      · have := (bd e).2.2; simp only at this; omega
      · have := (bd e).1; simp only at this; omega
theorem Out.down_r {l r : Tr} {lo a b m : Nat} (q : lo + l.w ≤ a ∧ a < b ∧ b ≤ lo + l.w + r.w) (n : ¬ (a = lo + l.w ∧ b = lo + l.w + r.w)) (h : Out (node l r) lo a b m) : Out r (lo + l.w) a b m := by
  have wl := l.w_pos
  rcases h with ⟨h, h1, h2⟩ | ⟨h, h1, h2⟩
  · have ha : (m, a) ∈ r.all (lo + l.w) ∨ a = lo + l.w := by
      rcases mem_node.mp h1 with e | e | e
      · have := (Prod.mk.inj e).2; omega
      · have := (bd e).2.2; simp only at this; exact .inr (by omega)
      · exact .inl e
    rcases ha with ha | ha
    · have z := (bd ha).1
      simp only at z
      refine .inl ⟨h, ha, ?_⟩
      rcases mem_node.mp h2 with e | e | e
      · have := (Prod.mk.inj e).1; omega
      · have := (bd e).2.2; simp only at this; omega
      · exact e
    · exfalso
      rcases mem_node.mp h2 with e | e | e
      · have := (Prod.mk.inj e).2; omega
      · have := (bd e).2.2; simp only at this; omega
      · have := (bd e).1; simp only at this; omega
  · refine .inr ⟨h, ?_, ?_⟩
    · rcases mem_node.mp h1 with e | e | e
      · have := (Prod.mk.inj e).1; omega
      · have := (bd e).2.2; simp only at this; omega
      · exact e
    · rcases mem_node.mp h2 with e | e | e
      · have := (Prod.mk.inj e).1; omega
      · have := (bd e).2.2; simp only at this; omega
      · exact e
theorem Out.bd {t : Tr} {lo a b m : Nat} (h : Out t lo a b m) : lo ≤ m ∧ m ≤ lo + t.w := by
  rcases h with ⟨h, h1, h2⟩ | ⟨h, h1, h2⟩
  · have := Tr.bd h1; simp only at this; omega
  · have := Tr.bd h1; simp only at this; omega
/-- the one post outside a tie that is not the whole's -/
theorem apex_out : ∀ {t : Tr} {lo a b : Nat}, (a, b) ∈ t.all lo → ¬ (a = lo ∧ b = lo + t.w) → ∃ m, Out t lo a b m ∧ ∀ m', Out t lo a b m' → m' = m
  | leaf, lo, a, b, h, n => by
    exfalso
    obtain ⟨e1, e2⟩ := Prod.mk.inj (List.mem_singleton.mp h)
    exact n ⟨e1, e2⟩
  | node l r, lo, a, b, h, n => by
    have wl := l.w_pos
    have wr := r.w_pos
    rcases mem_node.mp h with h | h | h
    · exact absurd (Prod.mk.inj h) n
    · have q := Tr.bd h
      simp only at q
      by_cases c : a = lo ∧ b = lo + l.w
      · obtain ⟨rfl, rfl⟩ := c
        refine ⟨a + (l.w + r.w), .inr ⟨by omega, mem_node.mpr (.inl rfl), mem_node.mpr (.inr (.inr (by rw [← Nat.add_assoc]; exact root_mem)))⟩, fun m' o => ?_⟩
        rcases o with ⟨h, h1, h2⟩ | ⟨h, h1, h2⟩
        · have := (Tr.bd h1).1; simp only at this; omega
        · rcases mem_node.mp h1 with e | e | e
          · exact (Prod.mk.inj e).2
          · have := (Tr.bd e).2.2; simp only at this; omega
          · have := (Tr.bd e).1; simp only at this; omega
      · obtain ⟨m, o, u⟩ := apex_out h c
        exact ⟨m, o.up_l, fun m' o' => u m' (o'.down_l q c)⟩
    · have q := Tr.bd h
      simp only at q
      by_cases c : a = lo + l.w ∧ b = lo + l.w + r.w
      · obtain ⟨rfl, rfl⟩ := c
        refine ⟨lo, .inl ⟨by omega, mem_node.mpr (.inr (.inl root_mem)), mem_node.mpr (.inl (by rw [Nat.add_assoc]))⟩, fun m' o => ?_⟩
        rcases o with ⟨h, h1, h2⟩ | ⟨h, h1, h2⟩
        · rcases mem_node.mp h2 with e | e | e
          · exact (Prod.mk.inj e).1
          · have := (Tr.bd e).2.2; simp only at this; omega
          · have := (Tr.bd e).1; simp only at this; omega
        · have := (Tr.bd h1).2.2; simp only at this; change m' ≤ lo + (l.w + r.w) at this; omega
      · obtain ⟨m, o, u⟩ := apex_out h c
        exact ⟨m, o.up_r, fun m' o' => u m' (o'.down_r q c)⟩
end Tr
end Pm
namespace Pm
namespace Tr
def graft : Tr → Nat → Tr
  | leaf, _ => node leaf leaf
  | node l r, j => if j < l.w then node (l.graft j) r else node l (r.graft (j - l.w))
theorem w_graft : ∀ {t : Tr} {j : Nat}, j < t.w → (t.graft j).w = t.w + 1
  | leaf, _, _ => rfl
  | node l r, j, h => by
    unfold graft
    split
    · rename_i c
      show (l.graft j).w + r.w = l.w + r.w + 1
      rw [w_graft c]; omega
    · rename_i c
      show l.w + (r.graft (j - l.w)).w = l.w + r.w + 1
      have : j < l.w + r.w := h
      rw [w_graft (by omega)]; omega
def sk (c i : Nat) : Nat := if i < c then i else i + 1
def skp (c : Nat) (p : Nat × Nat) : Nat × Nat := (sk c p.1, sk c p.2)
theorem inn_shift : ∀ (t : Tr) (lo : Nat), t.inn (lo + 1) = (t.inn lo).map fun p => (p.1 + 1, p.2 + 1)
  | leaf, _ => rfl
  | node l r, lo => by
    show (lo + 1, lo + 1 + (l.w + r.w)) :: (l.inn (lo + 1) ++ r.inn (lo + 1 + l.w)) = ((lo, lo + (l.w + r.w)) :: (l.inn lo ++ r.inn (lo + l.w))).map _
    rw [List.map_cons, List.map_append, inn_shift l lo, show lo + 1 + l.w = lo + l.w + 1 by omega, inn_shift r (lo + l.w)]
    congr 2
    omega
theorem ropes_shift (t : Tr) (lo : Nat) : t.ropes (lo + 1) = (t.ropes lo).map fun p => (p.1 + 1, p.2 + 1) := by
  cases t with
  | leaf => rfl
  | node l r =>
    show l.inn (lo + 1) ++ r.inn (lo + 1 + l.w) = (l.inn lo ++ r.inn (lo + l.w)).map _
    rw [List.map_append, inn_shift l lo, show lo + 1 + l.w = lo + l.w + 1 by omega, inn_shift r (lo + l.w)]
theorem skp_up {t : Tr} {lo c : Nat} (h : c ≤ lo) : (t.inn lo).map (skp c) = t.inn (lo + 1) := by
  rw [inn_shift]
  refine List.map_congr_left fun p hp => ?_
  have q := bd (inn_all hp)
  unfold skp sk
  rw [if_neg (by omega), if_neg (by omega)]
theorem skp_down {t : Tr} {lo c : Nat} (h : lo + t.w < c) : (t.inn lo).map (skp c) = t.inn lo := by
  conv => rhs; rw [← List.map_id (t.inn lo)]
  refine List.map_congr_left fun p hp => ?_
  have q := bd (inn_all hp)
  unfold skp sk
  rw [if_pos (by omega), if_pos (by omega)]
  rfl
theorem inn_graft : ∀ {t : Tr} {lo j : Nat}, j < t.w → ((t.graft j).inn lo).Perm ((lo + j, lo + j + 2) :: (t.inn lo).map (skp (lo + j + 1)))
  | leaf, lo, j, h => by
    have : j = 0 := by have h : j < 1 := h; omega
    subst this
    exact List.Perm.refl _
  | node l r, lo, j, h => by
    have h : j < l.w + r.w := h
    have wr := r.w_pos
    have wl := l.w_pos
    show ((graft (node l r) j).inn lo).Perm ((lo + j, lo + j + 2) :: ((lo, lo + (l.w + r.w)) :: (l.inn lo ++ r.inn (lo + l.w))).map _)
    rw [List.map_cons, List.map_append]
    have e0 : skp (lo + j + 1) (lo, lo + (l.w + r.w)) = (lo, lo + (l.w + r.w) + 1) := by
      unfold skp sk
      rw [if_pos (by omega), if_neg (by omega)]
    rw [e0]
    unfold graft
    split
    · rename_i c
      show ((lo, lo + ((l.graft j).w + r.w)) :: ((l.graft j).inn lo ++ r.inn (lo + (l.graft j).w))).Perm _
      rw [w_graft c, skp_up (t := r) (show lo + j + 1 ≤ lo + l.w by omega), show lo + (l.w + 1 + r.w) = lo + (l.w + r.w) + 1 by omega, show lo + (l.w + 1) = lo + l.w + 1 by omega]
      exact ((inn_graft c).append_right _).cons _ |>.trans (List.Perm.swap _ _ _)
    · rename_i c
      have c' : j - l.w < r.w := by omega
      show ((lo, lo + (l.w + (r.graft (j - l.w)).w)) :: (l.inn lo ++ (r.graft (j - l.w)).inn (lo + l.w))).Perm _
      have ih := inn_graft (t := r) (lo := lo + l.w) c'
      rw [show lo + l.w + (j - l.w) = lo + j by omega] at ih
      rw [w_graft c', skp_down (t := l) (show lo + l.w < lo + j + 1 by omega), show lo + (l.w + (r.w + 1)) = lo + (l.w + r.w) + 1 by omega]
      refine ((ih.append_left _).cons _).trans ?_
      refine (List.Perm.cons _ List.perm_middle).trans (List.Perm.swap _ _ _)
theorem ropes_graft {t : Tr} {j : Nat} (h : j < t.w) (h2 : 2 ≤ t.w) : ((t.graft j).ropes 0).Perm ((j, j + 2) :: (t.ropes 0).map (skp (j + 1))) := by
  have q := inn_graft (lo := 0) h
  rw [inn_node (t := t) h2, inn_node (t := t.graft j) (by rw [w_graft h]; omega), w_graft h, List.map_cons] at q
  have e0 : skp (0 + j + 1) (0, 0 + t.w) = (0, 0 + (t.w + 1)) := by
    unfold skp sk
    rw [if_pos (by omega), if_neg (by omega)]
    congr 1
  rw [e0] at q
  have q2 := q.trans (List.Perm.swap _ _ _)
  have q3 := q2.cons_inv
  rw [Nat.zero_add] at q3
  exact q3
end Tr
abbrev Ear := Int × Int × Int
/-- all ears of a ring, cut off one by one -/
inductive Ears : List Int → List Ear → Prop
  | done {L : List Int} (h : L.length ≤ 3) : Ears L []
  | step {L : List Int} {es : List Ear} (k : Nat) (h3 : 3 < L.length) (hk : k < L.length) (t : Ears (L.eraseIdx k) es) :
      Ears L ((L.getD k 0, L.getD ((k + L.length - 1) % L.length) 0, L.getD ((k + 1) % L.length) 0) :: es)
def tieOf (a b : Int) : IP := (min a b, max a b)
def ropeOf (e : Ear) : IP := tieOf e.2.1 e.2.2
theorem getD_erase (L : List Int) (k i : Nat) : (L.eraseIdx k).getD i 0 = L.getD (Tr.sk k i) 0 := by
  rw [List.getD_eq_getElem?_getD, List.getD_eq_getElem?_getD, List.getElem?_eraseIdx]
  unfold Tr.sk
  split <;> rfl
theorem rise_get {L : List Int} (h : L.Pairwise (· < ·)) {i j : Nat} (hij : i < j) (hj : j < L.length) : L.getD i 0 < L.getD j 0 := by
  have q := List.pairwise_iff_getElem.mp h i j (by omega) hj hij
  rw [List.getD_eq_getElem?_getD, List.getD_eq_getElem?_getD, List.getElem?_eq_getElem (by omega), List.getElem?_eq_getElem hj]
  exact q
def atP (L : List Int) (p : Nat × Nat) : IP := (L.getD p.1 0, L.getD p.2 0)
theorem atP_erase (L : List Int) (k : Nat) (p : Nat × Nat) : atP (L.eraseIdx k) p = atP L (Tr.skp k p) := by
  unfold atP Tr.skp
  rw [getD_erase, getD_erase]
theorem tie_lt {a b : Int} (h : a < b) : tieOf a b = (a, b) := by unfold tieOf; rw [Int.min_eq_left (by omega), Int.max_eq_right (by omega)]
theorem tie_gt {a b : Int} (h : a < b) : tieOf b a = (a, b) := by unfold tieOf; rw [Int.min_eq_right (by omega), Int.max_eq_left (by omega)]
theorem drawn_tree {L : List Int} {es : List Ear} (h : Ears L es) : L.Pairwise (· < ·) → 3 ≤ L.length → ∃ t : Tr, t.w + 1 = L.length ∧ (es.map ropeOf).Perm ((t.ropes 0).map (atP L)) := by
  induction h with
  | done h =>
    intro _ h3
    exact ⟨.node .leaf .leaf, by show 2 + 1 = _; omega, List.Perm.refl _⟩
  | @step L es k h3 hk _ ih =>
    intro rise _
    have le : (L.eraseIdx k).length = L.length - 1 := List.length_eraseIdx_of_lt hk
    obtain ⟨t, hw, hp⟩ := ih (rise.sublist (List.eraseIdx_sublist L k)) (by omega)
    have w2 : 2 ≤ t.w := by omega
    have hp : (es.map ropeOf).Perm ((t.ropes 0).map fun p => atP L (Tr.skp k p)) := by
      rw [show (fun p => atP L (Tr.skp k p)) = atP (L.eraseIdx k) from funext fun p => (atP_erase L k p).symm]
      exact hp
    by_cases k0 : k = 0
    · subst k0
      refine ⟨.node .leaf t, by show 1 + t.w + 1 = _; omega, ?_⟩
      have e1 : (Tr.node .leaf t).ropes 0 = (1, 1 + t.w) :: (t.ropes 0).map (Tr.skp 0) := by
        show [] ++ t.inn (0 + 1) = _
        rw [List.nil_append, Tr.inn_node w2, Tr.ropes_shift]
        rfl
      have e2 : (0 + L.length - 1) % L.length = L.length - 1 := by rw [Nat.zero_add]; exact Nat.mod_eq_of_lt (by omega)
      have e3 : (0 + 1) % L.length = 1 := Nat.mod_eq_of_lt (by omega)
      rw [List.map_cons, e1, List.map_cons, List.map_map]
      have e4 : ropeOf (L.getD 0 0, L.getD ((0 + L.length - 1) % L.length) 0, L.getD ((0 + 1) % L.length) 0) = atP L (1, 1 + t.w) := by
        unfold ropeOf atP
        rw [e2, e3]
        simp only
        rw [show 1 + t.w = L.length - 1 by omega]
        exact tie_gt (rise_get rise (by omega) (by omega))
      rw [e4]
      exact hp.cons _
    · by_cases km : k = L.length - 1
      · refine ⟨.node t .leaf, by show t.w + 1 + 1 = _; omega, ?_⟩
        have e1 : (Tr.node t .leaf).ropes 0 = (0, t.w) :: t.ropes 0 := by
          show t.inn 0 ++ [] = _
          rw [List.append_nil, Tr.inn_node w2, Nat.zero_add]
        have e2 : (k + L.length - 1) % L.length = k - 1 := by
          rw [show k + L.length - 1 = (k - 1) + L.length by omega, Nat.add_mod_right]
          exact Nat.mod_eq_of_lt (by omega)
        have e3 : (k + 1) % L.length = 0 := by
          rw [show k + 1 = L.length by omega]
          exact Nat.mod_self _
        have e5 : (t.ropes 0).map (fun p => atP L (Tr.skp k p)) = (t.ropes 0).map (atP L) := by
          refine List.map_congr_left fun p hp => ?_
          have hin : p ∈ t.inn 0 := by rw [Tr.inn_node w2]; exact List.mem_cons_of_mem _ hp
          have q := Tr.bd (Tr.inn_all hin)
          unfold Tr.skp Tr.sk
          rw [if_pos (by omega), if_pos (by omega)]
        rw [e5] at hp
        rw [List.map_cons, e1, List.map_cons]
        have e4 : ropeOf (L.getD k 0, L.getD ((k + L.length - 1) % L.length) 0, L.getD ((k + 1) % L.length) 0) = atP L (0, t.w) := by
          unfold ropeOf atP
          rw [e2, e3]
          simp only
          rw [show t.w = k - 1 by omega]
          exact tie_gt (rise_get rise (by omega) (by omega))
        rw [e4]
        exact hp.cons _
      · refine ⟨t.graft (k - 1), by rw [Tr.w_graft (by omega)]; omega, ?_⟩
        have e1 := Tr.ropes_graft (t := t) (j := k - 1) (by omega) w2
        rw [show k - 1 + 1 = k by omega, show k - 1 + 2 = k + 1 by omega] at e1
        have e2 : (k + L.length - 1) % L.length = k - 1 := by
          rw [show k + L.length - 1 = (k - 1) + L.length by omega, Nat.add_mod_right]
          exact Nat.mod_eq_of_lt (by omega)
        have e3 : (k + 1) % L.length = k + 1 := Nat.mod_eq_of_lt (by omega)
        have e4 : ropeOf (L.getD k 0, L.getD ((k + L.length - 1) % L.length) 0, L.getD ((k + 1) % L.length) 0) = atP L (k - 1, k + 1) := by
          unfold ropeOf atP
          rw [e2, e3]
          exact tie_lt (rise_get rise (by omega) (by omega))
        rw [List.map_cons, e4]
        refine (hp.cons _).trans ?_
        have q := (e1.map (atP L)).symm
        rw [List.map_cons, List.map_map] at q
        exact q
def castP (p : Nat × Nat) : IP := ((p.1 : Int), (p.2 : Int))
/-- the posts of a ring -/
def posts (n : Nat) : List Int := (List.range n).map fun i : Nat => (i : Int)
theorem posts_len (n : Nat) : (posts n).length = n := by rw [posts, List.length_map, List.length_range]
theorem posts_rise (n : Nat) : (posts n).Pairwise (· < ·) := by
  rw [posts, List.pairwise_map]
  exact List.pairwise_lt_range.imp fun h => by omega
theorem posts_get {n i : Nat} (h : i < n) : (posts n).getD i 0 = (i : Int) := by
  rw [posts, List.getD_eq_getElem?_getD, List.getElem?_map, List.getElem?_range h] <;> rfl
theorem ropes_bd {t : Tr} {p : Nat × Nat} (hp : p ∈ t.ropes 0) : p ∈ t.inn 0 ∧ ¬ (p.1 = 0 ∧ p.2 = t.w) := by
  cases t with
  | leaf => cases hp
  | node l r =>
    have wl := l.w_pos
    have wr := r.w_pos
    refine ⟨List.mem_cons_of_mem _ hp, ?_⟩
    show ¬ (p.1 = 0 ∧ p.2 = l.w + r.w)
    rcases List.mem_append.mp hp with h | h
    · have := Tr.bd (Tr.inn_all h); omega
    · have := Tr.bd (Tr.inn_all h); omega
theorem drawn_posts {n : Nat} {es : List Ear} (h : Ears (posts n) es) (hn : 3 ≤ n) : ∃ t : Tr, t.w + 1 = n ∧ (es.map ropeOf).Perm ((t.ropes 0).map castP) := by
  obtain ⟨t, hw, hp⟩ := drawn_tree h (posts_rise n) (by rw [posts_len]; exact hn)
  rw [posts_len] at hw
  refine ⟨t, hw, ?_⟩
  have e : (t.ropes 0).map (atP (posts n)) = (t.ropes 0).map castP := by
    refine List.map_congr_left fun p hp => ?_
    have q := Tr.bd (Tr.inn_all (ropes_bd hp).1)
    unfold atP castP
    rw [posts_get (by omega), posts_get (by omega)]
  rw [e] at hp
  exact hp
end Pm
namespace Pm
open PySem PySem.Spec PyProof.Rows L2
def sides0 (n : Nat) : List IP := ((List.range (n - 1)).map fun k : Nat => ((k : Int), (k : Int) + 1)) ++ [(0, (n : Int) - 1)]
def sidesL (n : Nat) : List IP := sortP (sides0 n)
def tiesL (n : Nat) (cut : List IP) : List IP := sortP (sides0 n ++ cut)
theorem sides0_len {n : Nat} (h : 1 ≤ n) : (sides0 n).length = n := by
  rw [sides0, List.length_append, List.length_map, List.length_range, List.length_singleton]; omega
theorem tiesL_eq (n : Nat) (cut : List IP) : sortP (sidesL n ++ cut) = tiesL n cut := sortP_congr ((sortP_perm _).append_right _)
theorem mem_ties {n : Nat} {cut : List IP} {p : IP} : p ∈ tiesL n cut ↔ p ∈ sides0 n ∨ p ∈ cut := by rw [tiesL, mem_sortP, List.mem_append]
def isBeside (T : List IP) (a b : Int) (c : Nat) : Bool := decide (tieOf a c ∈ T) && decide (tieOf b c ∈ T)
def besideL (n : Nat) (T : List IP) (a b : Int) : List Int := ((List.range n).filter (isBeside T a b)).map fun c : Nat => (c : Int)
/-- a tracked list of pairs -/
def PLt (H : Hp) (a : Addr) (ps : List IP) : Prop := ∃ vs, H a = some (.lst vs) ∧ Prs H vs ps
theorem PLt.same {H H' : Hp} {a : Addr} {ps : List IP} (h : PLt H a ps) (s : Same H H') : PLt H' a ps := by
  obtain ⟨vs, h1, h2⟩ := h
  exact ⟨vs, s _ _ h1, prs_keep (keeps s) h2⟩
/-- an ear as a tuple -/
def Er (H : Hp) (v : V) (e : Ear) : Prop := ∃ t, v = .ref t ∧ H t = some (.tup [.int e.1, .int e.2.1, .int e.2.2])
theorem er_mono (H H' : Hp) (v : V) (e : Ear) (k : Keeps H H') (h : Er H v e) : Er H' v e := by
  obtain ⟨t, rfl, ht⟩ := h
  exact ⟨t, rfl, k _ _ ht⟩
end Pm
namespace Pm
open PySem PySem.Spec PyProof.Rows L2
/-- cut is the cutting of the tree t -/
structure Cutting (n : Nat) (cut : List IP) (t : Tr) : Prop where
  w : t.w + 1 = n
  n3 : 3 ≤ n
  perm : cut.Perm ((t.ropes 0).map castP)
  rise : Rising cut
theorem drawn_cutting {n : Nat} {es : List Ear} (h : Ears (posts n) es) (hn : 3 ≤ n) : ∃ t, Cutting n (sortP (es.map ropeOf)) t := by
  obtain ⟨t, hw, hp⟩ := drawn_posts h hn
  exact ⟨t, hw, hn, (sortP_perm _).trans hp, sortP_rising _⟩
theorem castP_inj {p q : Nat × Nat} (h : castP p = castP q) : p = q := by
  obtain ⟨a, b⟩ := p
  obtain ⟨c, d⟩ := q
  have e1 := congrArg Prod.fst h
  have e2 := congrArg Prod.snd h
  simp only [castP] at e1 e2
  rw [show a = c by omega, show b = d by omega]
theorem mem_sides0 {n : Nat} {p : IP} (hn : 2 ≤ n) : p ∈ sides0 n ↔ (∃ k : Nat, k + 1 < n ∧ p = castP (k, k + 1)) ∨ p = castP (0, n - 1) := by
  unfold sides0
  rw [List.mem_append, List.mem_map, List.mem_singleton]
  constructor
  · rintro (⟨k, hk, rfl⟩ | rfl)
    · exact .inl ⟨k, by have := List.mem_range.mp hk; omega, by simp [castP]⟩
    · exact .inr (by simp only [castP]; congr 1; omega)
  · rintro (⟨k, hk, rfl⟩ | rfl)
    · exact .inl ⟨k, List.mem_range.mpr (by omega), by simp [castP]⟩
    · exact .inr (by simp only [castP]; congr 1; omega)
section
variable {n : Nat} {cut : List IP} {t : Tr}
theorem Cutting.mem (C : Cutting n cut t) {p : IP} : p ∈ cut ↔ ∃ q, q ∈ t.ropes 0 ∧ p = castP q := by
  rw [C.perm.mem_iff, List.mem_map]
  exact ⟨fun ⟨q, h, e⟩ => ⟨q, h, e.symm⟩, fun ⟨q, h, e⟩ => ⟨q, h, e.symm⟩⟩
theorem Cutting.w2 (C : Cutting n cut t) : 2 ≤ t.w := by have := C.w; have := C.n3; omega
theorem inn_iff {q : Nat × Nat} (h : 2 ≤ t.w) : q ∈ t.inn 0 ↔ q = (0, t.w) ∨ q ∈ t.ropes 0 := by
  rw [Tr.inn_node h, List.mem_cons, Nat.zero_add]
theorem ropes_iff {q : Nat × Nat} (h : 2 ≤ t.w) : q ∈ t.ropes 0 ↔ q ∈ t.inn 0 ∧ q ≠ (0, t.w) := by
  constructor
  · intro hq
    have z := ropes_bd hq
    exact ⟨z.1, fun e => z.2 (by rw [e]; exact ⟨rfl, rfl⟩)⟩
  · rintro ⟨h1, h2⟩
    exact ((inn_iff h).mp h1).resolve_left h2
theorem Cutting.ties (C : Cutting n cut t) {p : IP} : p ∈ tiesL n cut ↔ ∃ q, q ∈ t.all 0 ∧ p = castP q := by
  have h2 := C.w2
  have hw := C.w
  rw [mem_ties, mem_sides0 (by omega), C.mem]
  constructor
  · rintro ((⟨k, hk, rfl⟩ | rfl) | ⟨q, hq, rfl⟩)
    · exact ⟨_, Tr.all_iff.mpr (.inr ⟨Nat.zero_le _, rfl, by simp only; omega⟩), rfl⟩
    · refine ⟨_, Tr.inn_all ((inn_iff h2).mpr (.inl rfl)), ?_⟩
      rw [← hw] <;> rfl
    · exact ⟨q, Tr.inn_all ((inn_iff h2).mpr (.inr hq)), rfl⟩
  · rintro ⟨q, hq, rfl⟩
    rcases Tr.all_iff.mp hq with h | ⟨_, h, h'⟩
    · rcases (inn_iff h2).mp h with rfl | h
      · refine .inl (.inr ?_)
        rw [← hw] <;> rfl
      · exact .inr ⟨q, h, rfl⟩
    · refine .inl (.inl ⟨q.1, by omega, ?_⟩)
      obtain ⟨a, b⟩ := q
      simp only at h
      rw [h]
theorem Cutting.tied (C : Cutting n cut t) {a b : Nat} : castP (a, b) ∈ tiesL n cut ↔ (a, b) ∈ t.all 0 := by
  rw [C.ties]
  exact ⟨fun ⟨q, h, e⟩ => by rw [castP_inj e]; exact h, fun h => ⟨_, h, rfl⟩⟩
theorem tie_cast (a c : Nat) : tieOf (a : Int) (c : Int) = castP (min a c, max a c) := by
  unfold tieOf castP
  simp only
  congr 1 <;> omega
theorem tie_comm (a b : Int) : tieOf a b = tieOf b a := by unfold tieOf; rw [Int.min_comm, Int.max_comm]
theorem beside_comm (T : List IP) (a b : Int) : besideL n T a b = besideL n T b a := by
  unfold besideL
  congr 2
  funext c
  unfold isBeside
  rw [Bool.and_comm]
/-- beside: between, or outside -/
theorem Cutting.beside_iff (C : Cutting n cut t) {a b c : Nat} (hab : a < b) : isBeside (tiesL n cut) a b c = true ↔ ((a < c ∧ c < b) ∧ (a, c) ∈ t.all 0 ∧ (c, b) ∈ t.all 0) ∨ Tr.Out t 0 a b c := by
  unfold isBeside
  rw [Bool.and_eq_true, decide_eq_true_iff, decide_eq_true_iff, tie_cast, tie_cast, C.tied, C.tied]
  rcases Nat.lt_trichotomy c a with h | h | h
  · rw [Nat.min_eq_right (by omega), Nat.max_eq_left (by omega), Nat.min_eq_right (by omega), Nat.max_eq_left (by omega)]
    unfold Tr.Out
    constructor
    · exact fun q => .inr (.inl ⟨h, q⟩)
    · rintro (⟨q, _⟩ | ⟨_, q⟩ | ⟨q, _⟩)
      · omega
      · exact q
      · omega
  · subst h
    rw [Nat.min_self, Nat.max_self]
    constructor
    · rintro ⟨q, _⟩
      have := (Tr.bd q).2.1
      simp only at this
      omega
    · unfold Tr.Out
      rintro (⟨q, _⟩ | ⟨q, _⟩ | ⟨q, _⟩) <;> omega
  · rw [Nat.min_eq_left (by omega), Nat.max_eq_right (by omega)]
    rcases Nat.lt_trichotomy c b with h' | h' | h'
    · rw [Nat.min_eq_right (by omega), Nat.max_eq_left (by omega)]
      unfold Tr.Out
      constructor
      · exact fun q => .inl ⟨⟨h, h'⟩, q⟩
      · rintro (⟨_, q⟩ | ⟨q, _⟩ | ⟨q, _⟩)
        · exact q
        · omega
        · omega
    · subst h'
      rw [Nat.min_self, Nat.max_self]
      constructor
      · rintro ⟨_, q⟩
        have := (Tr.bd q).2.1
        simp only at this
        omega
      · unfold Tr.Out
        rintro (⟨q, _⟩ | ⟨q, _⟩ | ⟨q, _⟩) <;> omega
    · rw [Nat.min_eq_left (by omega), Nat.max_eq_right (by omega)]
      unfold Tr.Out
      constructor
      · exact fun q => .inr (.inr ⟨h', q⟩)
      · rintro (⟨q, _⟩ | ⟨q, _⟩ | ⟨_, q⟩)
        · omega
        · omega
        · exact q
end
theorem filter_range_eq {n : Nat} {p : Nat → Bool} {l : List Nat} (hl : l.Pairwise (· < ·)) (h : ∀ c, c ∈ l ↔ c < n ∧ p c = true) : (List.range n).filter p = l := by
  have h1 : ((List.range n).filter p).Pairwise (· < ·) := List.pairwise_lt_range.sublist List.filter_sublist
  have nd : ∀ {l : List Nat}, l.Pairwise (· < ·) → l.Nodup := fun q => q.imp fun z => by omega
  refine List.Perm.eq_of_pairwise (le := (· < ·)) (fun a b _ _ h1 h2 => absurd h1 (by omega)) h1 hl ((List.perm_ext_iff_of_nodup (nd h1) (nd hl)).mpr fun c => ?_)
  rw [List.mem_filter, List.mem_range, h]
section
variable {n : Nat} {cut : List IP} {t : Tr}
/-- the posts beside a rope: the one between, the one outside -/
theorem Cutting.beside_rope (C : Cutting n cut t) {a b : Nat} (h : (a, b) ∈ t.ropes 0) : ∃ m o : Nat, (a < m ∧ m < b) ∧ (a, m) ∈ t.all 0 ∧ (m, b) ∈ t.all 0 ∧ Tr.Out t 0 a b o ∧ (o < a ∨ b < o) ∧ o < n ∧
    besideL n (tiesL n cut) a b = [((min m o : Nat) : Int), ((max m o : Nat) : Int)] := by
  have hw := C.w
  have hi := (ropes_bd h)
  have hb := Tr.bd (Tr.inn_all hi.1)
  simp only at hb
  obtain ⟨m, hm, h1, h2, u⟩ := Tr.apex_in hi.1
  obtain ⟨o, ho, uo⟩ := Tr.apex_out (Tr.inn_all hi.1) (by rw [Nat.zero_add]; exact hi.2)
  have bo := ho.bd
  have oo : o < a ∨ b < o := by
    rcases ho with ⟨q, _⟩ | ⟨q, _⟩
    · exact .inl q
    · exact .inr q
  refine ⟨m, o, hm, h1, h2, ho, oo, by omega, ?_⟩
  have e : (List.range n).filter (isBeside (tiesL n cut) a b) = [min m o, max m o] := by
    refine filter_range_eq ?_ fun c => ?_
    · refine List.pairwise_cons.mpr ⟨fun c hc => ?_, List.pairwise_singleton _ _⟩
      rw [List.mem_singleton.mp hc]
      omega
    · rw [C.beside_iff hb.2.1, List.mem_cons, List.mem_singleton]
      constructor
      · intro hc
        have : c = m ∨ c = o := by omega
        rcases this with rfl | rfl
        · exact ⟨by omega, .inl ⟨hm, h1, h2⟩⟩
        · exact ⟨by omega, .inr ho⟩
      · rintro ⟨_, ⟨hc, q1, q2⟩ | hc⟩
        · have := u c hc.1 hc.2 q1 q2; omega
        · have := uo c hc; omega
  unfold besideL
  rw [e]
  rfl
end
end Pm
namespace Pm
namespace Tr
theorem noncross : ∀ {t : Tr} {lo : Nat} {p q : Nat × Nat}, p ∈ t.all lo → q ∈ t.all lo → ¬ (p.1 < q.1 ∧ q.1 < p.2 ∧ p.2 < q.2)
  | leaf, lo, p, q, hp, hq => by
    rw [List.mem_singleton.mp hp, List.mem_singleton.mp hq]
    simp only
    omega
  | node l r, lo, p, q, hp, hq => by
    have bp := bd hp
    have bq := bd hq
    have e : (node l r).w = l.w + r.w := rfl
    rw [e] at bp bq
    rcases mem_node.mp hp with h | h | h <;> rcases mem_node.mp hq with k | k | k
    · rw [h, k]; simp only; omega
    · rw [h]; simp only; omega
    · rw [h]; simp only; omega
    · rw [k]; simp only; omega
    · exact noncross h k
    · have := bd h; have := bd k; omega
    · rw [k]; simp only; omega
    · have := bd h; have := bd k; omega
    · exact noncross h k
theorem inn_nodup : ∀ (t : Tr) (lo : Nat), (t.inn lo).Nodup
  | leaf, _ => List.nodup_nil
  | node l r, lo => by
    have wl := l.w_pos
    have wr := r.w_pos
    show ((lo, lo + (l.w + r.w)) :: (l.inn lo ++ r.inn (lo + l.w))).Nodup
    refine List.nodup_cons.mpr ⟨fun h => ?_, List.nodup_append.mpr ⟨inn_nodup l lo, inn_nodup r _, fun a ha b hb e => ?_⟩⟩
    · rcases List.mem_append.mp h with h | h
      · have := bd (inn_all h); simp only at this; omega
      · have := bd (inn_all h); simp only at this; omega
    · subst e
      have := bd (inn_all ha)
      have := bd (inn_all hb)
      omega
theorem ropes_nodup (t : Tr) (lo : Nat) : (t.ropes lo).Nodup := by
  cases t with
  | leaf => exact List.nodup_nil
  | node l r => exact (List.nodup_cons.mp (inn_nodup (node l r) lo)).2
/-- the tree turned at the rope (x, y), its ropes by a common rest R; m between, o outside -/
structure Flip (t t' : Tr) (lo x y m o : Nat) (R : List (Nat × Nat)) : Prop where
  w : t'.w = t.w
  old : (t.ropes lo).Perm ((x, y) :: R)
  new : (t'.ropes lo).Perm ((min m o, max m o) :: R)
  btw : x < m ∧ m < y
  out : Out t lo x y o
  am : (x, m) ∈ t.all lo
  mb : (m, y) ∈ t.all lo
theorem flip_up_l {l l' r : Tr} {lo x y m o : Nat} {R : List (Nat × Nat)} (hl : 2 ≤ l.w) (F : Flip l l' lo x y m o R) : Flip (node l r) (node l' r) lo x y m o ((lo, lo + l.w) :: (R ++ r.inn (lo + l.w))) := by
  refine ⟨?_, ?_, ?_, F.btw, F.out.up_l, mem_node.mpr (.inr (.inl F.am)), mem_node.mpr (.inr (.inl F.mb))⟩
  · show l'.w + r.w = l.w + r.w
    rw [F.w]
  · show (l.inn lo ++ r.inn (lo + l.w)).Perm _
    rw [inn_node hl]
    exact ((F.old.append_right _).cons _).trans (List.Perm.swap _ _ _)
  · show (l'.inn lo ++ r.inn (lo + l'.w)).Perm _
    rw [inn_node (show 2 ≤ l'.w by rw [F.w]; exact hl), F.w]
    exact ((F.new.append_right _).cons _).trans (List.Perm.swap _ _ _)
theorem flip_up_r {l r r' : Tr} {lo x y m o : Nat} {R : List (Nat × Nat)} (hr : 2 ≤ r.w) (F : Flip r r' (lo + l.w) x y m o R) : Flip (node l r) (node l r') lo x y m o ((lo + l.w, lo + l.w + r.w) :: (R ++ l.inn lo)) := by
  refine ⟨?_, ?_, ?_, F.btw, F.out.up_r, mem_node.mpr (.inr (.inr F.am)), mem_node.mpr (.inr (.inr F.mb))⟩
  · show l.w + r'.w = l.w + r.w
    rw [F.w]
  · show (l.inn lo ++ r.inn (lo + l.w)).Perm _
    rw [inn_node hr]
    refine List.perm_append_comm.trans ?_
    exact ((F.old.append_right _).cons _).trans (List.Perm.swap _ _ _)
  · show (l.inn lo ++ r'.inn (lo + l.w)).Perm _
    rw [inn_node (show 2 ≤ r'.w by rw [F.w]; exact hr), F.w]
    refine List.perm_append_comm.trans ?_
    exact ((F.new.append_right _).cons _).trans (List.Perm.swap _ _ _)
theorem flip : ∀ {t : Tr} {lo x y : Nat}, (x, y) ∈ t.ropes lo → ∃ t' m o R, Flip t t' lo x y m o R
  | leaf, _, _, _, h => by cases h
  | node l r, lo, x, y, h => by
    have wl := l.w_pos
    have wr := r.w_pos
    rcases List.mem_append.mp h with h | h
    · have wl2 : 2 ≤ l.w := by
        cases l with
        | leaf => cases h
        | node a b => have := a.w_pos; have := b.w_pos; show 2 ≤ a.w + b.w; omega
      rw [inn_node wl2] at h
      rcases List.mem_cons.mp h with h | h
      · obtain ⟨rfl, rfl⟩ := Prod.mk.inj h
        cases l with
        | leaf => exact absurd wl2 (by show ¬ 2 ≤ 1; omega)
        | node a b =>
          have wa := a.w_pos
          have wb := b.w_pos
          refine ⟨node a (node b r), x + a.w, x + (a.w + b.w + r.w), a.inn x ++ (b.inn (x + a.w) ++ r.inn (x + (a.w + b.w))), ?_, ?_, ?_, ?_, ?_, ?_, ?_⟩
          · show a.w + (b.w + r.w) = a.w + b.w + r.w; omega
          · show (((x, x + (a.w + b.w)) :: (a.inn x ++ b.inn (x + a.w))) ++ r.inn (x + (a.w + b.w))).Perm _
            rw [List.cons_append, List.append_assoc]
            exact List.Perm.refl _
          · show (a.inn x ++ ((x + a.w, x + a.w + (b.w + r.w)) :: (b.inn (x + a.w) ++ r.inn (x + a.w + b.w)))).Perm _
            rw [Nat.min_eq_left (by omega), Nat.max_eq_right (by omega), show x + a.w + (b.w + r.w) = x + (a.w + b.w + r.w) by omega, show x + a.w + b.w = x + (a.w + b.w) by omega]
            exact List.perm_middle
          · show x < x + a.w ∧ x + a.w < x + (a.w + b.w); omega
          · refine .inr ⟨?_, mem_node.mpr (.inl rfl), mem_node.mpr (.inr (.inr ?_))⟩
            · show x + (a.w + b.w) < x + (a.w + b.w + r.w); omega
            · show (x + (a.w + b.w), x + (a.w + b.w + r.w)) ∈ r.all (x + (a.w + b.w))
              rw [show x + (a.w + b.w + r.w) = x + (a.w + b.w) + r.w by omega]; exact root_mem
          · exact mem_node.mpr (.inr (.inl (mem_node.mpr (.inr (.inl root_mem)))))
          · refine mem_node.mpr (.inr (.inl (mem_node.mpr (.inr (.inr ?_)))))
            show (x + a.w, x + (a.w + b.w)) ∈ b.all (x + a.w)
            rw [show x + (a.w + b.w) = x + a.w + b.w by omega]; exact root_mem
      · obtain ⟨l', m, o, R, F⟩ := flip h
        exact ⟨node l' r, m, o, _, flip_up_l wl2 F⟩
    · have wr2 : 2 ≤ r.w := by
        cases r with
        | leaf => cases h
        | node a b => have := a.w_pos; have := b.w_pos; show 2 ≤ a.w + b.w; omega
      rw [inn_node wr2] at h
      rcases List.mem_cons.mp h with h | h
      · obtain ⟨rfl, rfl⟩ := Prod.mk.inj h
        cases r with
        | leaf => exact absurd wr2 (by show ¬ 2 ≤ 1; omega)
        | node a b =>
          have wa := a.w_pos
          have wb := b.w_pos
          refine ⟨node (node l a) b, lo + l.w + a.w, lo, l.inn lo ++ (a.inn (lo + l.w) ++ b.inn (lo + l.w + a.w)), ?_, ?_, ?_, ?_, ?_, ?_, ?_⟩
          · show l.w + a.w + b.w = l.w + (a.w + b.w); omega
          · show (l.inn lo ++ ((lo + l.w, lo + l.w + (a.w + b.w)) :: (a.inn (lo + l.w) ++ b.inn (lo + l.w + a.w)))).Perm _
            exact List.perm_middle
          · show (((lo, lo + (l.w + a.w)) :: (l.inn lo ++ a.inn (lo + l.w))) ++ b.inn (lo + (l.w + a.w))).Perm _
            rw [Nat.min_eq_right (by omega), Nat.max_eq_left (by omega), List.cons_append, List.append_assoc, show lo + (l.w + a.w) = lo + l.w + a.w by omega]
          · show lo + l.w < lo + l.w + a.w ∧ lo + l.w + a.w < lo + l.w + (a.w + b.w); omega
          · refine .inl ⟨by omega, mem_node.mpr (.inr (.inl root_mem)), mem_node.mpr (.inl ?_)⟩
            show (lo, lo + l.w + (a.w + b.w)) = (lo, lo + (l.w + (a.w + b.w)))
            congr 1
            omega
          · exact mem_node.mpr (.inr (.inr (mem_node.mpr (.inr (.inl root_mem)))))
          · refine mem_node.mpr (.inr (.inr (mem_node.mpr (.inr (.inr ?_)))))
            show (lo + l.w + a.w, lo + l.w + (a.w + b.w)) ∈ b.all (lo + l.w + a.w)
            rw [show lo + l.w + (a.w + b.w) = lo + l.w + a.w + b.w by omega]; exact root_mem
      · obtain ⟨r', m, o, R, F⟩ := flip h
        exact ⟨node l r', m, o, _, flip_up_r wr2 F⟩
end Tr
open PySem PySem.Spec PyProof.Rows L2
/-- the cutting behind a turning -/
def turnedL (n : Nat) (cut : List IP) (a b : Int) : List IP :=
  let e := besideL n (tiesL n cut) a b
  sortP (cut.filter (fun p => !decide (p = tieOf a b)) ++ [(e.getD 0 0, e.getD 1 0)])
structure Turning (n : Nat) (cut : List IP) (t t' : Tr) (x y m o : Nat) (R : List (Nat × Nat)) : Prop where
  F : Tr.Flip t t' 0 x y m o R
  bes : besideL n (tiesL n cut) x y = [((min m o : Nat) : Int), ((max m o : Nat) : Int)]
  out : o < x ∨ y < o
  on : o < n
  rest : (cut.filter (fun p => !decide (p = castP (x, y)))).Perm (R.map castP)
  cut' : Cutting n (turnedL n cut x y) t'
theorem Cutting.turn {n : Nat} {cut : List IP} {t : Tr} (C : Cutting n cut t) {x y : Nat} (h : (x, y) ∈ t.ropes 0) : ∃ t' m o R, Turning n cut t t' x y m o R := by
  obtain ⟨t', m, o, R, F⟩ := Tr.flip h
  obtain ⟨m2, o2, hm2, h1, h2, ho2, oo, on, eb⟩ := C.beside_rope h
  have hi := (ropes_bd h).1
  obtain ⟨m3, _, _, _, u⟩ := Tr.apex_in hi
  have em : m = m2 := (u m F.btw.1 F.btw.2 F.am F.mb).trans (u m2 hm2.1 hm2.2 h1 h2).symm
  obtain ⟨o3, _, uo⟩ := Tr.apex_out (Tr.inn_all hi) (by rw [Nat.zero_add]; exact (ropes_bd h).2)
  have eo : o = o2 := (uo o F.out).trans (uo o2 ho2).symm
  subst em; subst eo
  have pc : cut.Perm (castP (x, y) :: R.map castP) := C.perm.trans (F.old.map castP)
  have hb := Tr.bd (Tr.inn_all hi)
  simp only at hb
  have nR : castP (x, y) ∉ R.map castP := fun q => by
    obtain ⟨z, hz, e⟩ := List.mem_map.mp q
    rw [castP_inj e] at hz
    have nd := (F.old.nodup_iff).mp (Tr.ropes_nodup t 0)
    exact (List.nodup_cons.mp nd).1 hz
  have rest : (cut.filter (fun p => !decide (p = castP (x, y)))).Perm (R.map castP) := by
    refine (pc.filter _).trans ?_
    rw [List.filter_cons_of_neg (by simp)]
    rw [List.filter_eq_self.mpr]
    intro p hp
    have : p ≠ castP (x, y) := fun e => nR (by rw [← e]; exact hp)
    simp [this]
  have tx : tieOf (x : Int) (y : Int) = castP (x, y) := by rw [tie_cast, Nat.min_eq_left (by omega), Nat.max_eq_right (by omega)]
  refine ⟨t', m, o, R, F, eb, oo, on, rest, ?_, C.n3, ?_, sortP_rising _⟩
  · rw [F.w]; exact C.w
  · unfold turnedL
    simp only
    rw [eb, tx]
    refine (sortP_perm _).trans ?_
    refine (rest.append_right _).trans ?_
    refine (List.perm_append_singleton _ _).trans ?_
    exact (F.new.map castP).symm
/-- the new rope of a turning -/
theorem turned_comm (n : Nat) (cut : List IP) (a b : Int) : turnedL n cut a b = turnedL n cut b a := by
  unfold turnedL
  rw [beside_comm, tie_comm]
section
variable {n : Nat} {cut : List IP} {t t' : Tr} {x y m o : Nat} {R : List (Nat × Nat)}
theorem Turning.all_iff (C : Cutting n cut t) (U : Turning n cut t t' x y m o R) {q : Nat × Nat} : q ∈ t'.all 0 ↔ (q ∈ t.all 0 ∧ q ≠ (x, y)) ∨ q = (min m o, max m o) := by
  have h : (x, y) ∈ t.ropes 0 := U.F.old.mem_iff.mpr List.mem_cons_self
  have w2 := C.w2
  have w2' : 2 ≤ t'.w := by rw [U.F.w]; exact w2
  have nd := (U.F.old.nodup_iff).mp (Tr.ropes_nodup t 0)
  have wide := Tr.inn_wide (ropes_bd h).1
  simp only at wide
  have hr := (ropes_iff w2).mp h
  rw [Tr.all_iff, Tr.all_iff, inn_iff w2, inn_iff w2', U.F.old.mem_iff, U.F.new.mem_iff, List.mem_cons, List.mem_cons, U.F.w]
  constructor
  · rintro ((e | e | e) | e)
    · refine .inl ⟨.inl (.inl e), fun z => hr.2 (by rw [← z]; exact e)⟩
    · exact .inr e
    · refine .inl ⟨.inl (.inr (.inr e)), fun z => (List.nodup_cons.mp nd).1 (by rw [← z]; exact e)⟩
    · refine .inl ⟨.inr e, fun z => ?_⟩
      rw [z] at e
      simp only at e
      omega
  · rintro (⟨(e | e | e) | e, ne⟩ | e)
    · exact .inl (.inl e)
    · exact absurd e ne
    · exact .inl (.inr (.inr e))
    · exact .inr e
    · exact .inl (.inr (.inl e))
/-- the new rope crosses the old one -/
theorem Turning.cross (C : Cutting n cut t) (U : Turning n cut t t' x y m o R) : (x < m ∧ m < y ∧ y < o ∧ min m o = m ∧ max m o = o) ∨ (o < x ∧ x < m ∧ m < y ∧ min m o = o ∧ max m o = m) := by
  have b := U.F.btw
  rcases U.out with h | h <;> omega
end
end Pm
namespace Pm
open PySem PySem.Spec PyProof.Rows L2
def crossP (a b c d : Int) : Prop := (c ≠ min a b ∧ c ≠ max a b ∧ d ≠ min a b ∧ d ≠ max a b) ∧ ¬ ((min a b < c ∧ c < max a b) ↔ (min a b < d ∧ d < max a b))
instance (a b c d : Int) : Decidable (crossP a b c d) := by unfold crossP; exact inferInstance
theorem cross_no {a b c d : Int} (h : c = min a b ∨ c = max a b ∨ d = min a b ∨ d = max a b) : decide (crossP a b c d) = false := by
  refine decide_eq_false fun q => ?_
  obtain ⟨⟨h1, h2, h3, h4⟩, _⟩ := q
  rcases h with h | h | h | h
  · exact h1 h
  · exact h2 h
  · exact h3 h
  · exact h4 h
theorem cross_is {a b c d : Int} {x y : Bool} (h : c ≠ min a b ∧ c ≠ max a b ∧ d ≠ min a b ∧ d ≠ max a b) (hx : x = decide (min a b < c ∧ c < max a b)) (hy : y = decide (min a b < d ∧ d < max a b)) : (!(x == y)) = decide (crossP a b c d) := by
  subst hx; subst hy
  by_cases h1 : (min a b < c ∧ c < max a b) <;> by_cases h2 : (min a b < d ∧ d < max a b)
  · rw [decide_eq_true h1, decide_eq_true h2, decide_eq_false (show ¬ crossP a b c d from fun q => q.2 ⟨fun _ => h2, fun _ => h1⟩)]; rfl
  · rw [decide_eq_true h1, decide_eq_false h2, decide_eq_true (show crossP a b c d from ⟨h, fun q => h2 (q.mp h1)⟩)]; rfl
  · rw [decide_eq_false h1, decide_eq_true h2, decide_eq_true (show crossP a b c d from ⟨h, fun q => h1 (q.mpr h2)⟩)]; rfl
  · rw [decide_eq_false h1, decide_eq_false h2, decide_eq_false (show ¬ crossP a b c d from fun q => q.2 ⟨fun z => absurd z h1, fun z => absurd z h2⟩)]; rfl
def spCross (K : PySem.W.Frag) : Sp := fun vs H Q _ => ∃ (t u : Addr) (a b c d : Int), vs = [.ref t, .ref u] ∧ SqT K H t [.int a, .int b] ∧ SqT K H u [.int c, .int d] ∧ Q (.bl (decide (crossP a b c d))) H
theorem mem2 {a b c : Int} : c ∈ [a, b] ↔ c = min a b ∨ c = max a b := by
  rw [List.mem_cons, List.mem_singleton]
  omega
theorem cross_iff {a b c d : Int} (h1 : a < b) (h2 : c < d) : crossP a b c d ↔ (a < c ∧ c < b ∧ b < d) ∨ (c < a ∧ a < d ∧ d < b) := by
  unfold crossP
  rw [Int.min_eq_left (by omega), Int.max_eq_right (by omega)]
  omega
/-- ties of a cutting do not cross -/
theorem Cutting.nocross {n : Nat} {cut : List IP} {t : Tr} (C : Cutting n cut t) {p q : IP} (hp : p ∈ tiesL n cut) (hq : q ∈ tiesL n cut) : ¬ crossP p.1 p.2 q.1 q.2 := by
  obtain ⟨⟨a, b⟩, ha, rfl⟩ := C.ties.mp hp
  obtain ⟨⟨c, d⟩, hc, rfl⟩ := C.ties.mp hq
  have h1 := Tr.bd ha
  have h2 := Tr.bd hc
  simp only at h1 h2
  have n1 := Tr.noncross ha hc
  have n2 := Tr.noncross hc ha
  simp only at n1 n2
  simp only [castP]
  rw [cross_iff (by omega) (by omega)]
  omega
section
variable {n : Nat} {cut : List IP} {t t' : Tr} {x y m o : Nat} {R : List (Nat × Nat)}
theorem Turning.rope_mem (U : Turning n cut t t' x y m o R) : (x, y) ∈ t.ropes 0 := U.F.old.mem_iff.mpr List.mem_cons_self
theorem Turning.new_mem (U : Turning n cut t t' x y m o R) : (min m o, max m o) ∈ t'.ropes 0 := U.F.new.mem_iff.mpr List.mem_cons_self
theorem Turning.cutP (C : Cutting n cut t) (U : Turning n cut t t' x y m o R) : cut.Perm (castP (x, y) :: R.map castP) := C.perm.trans (U.F.old.map castP)
theorem Turning.newP (U : Turning n cut t t' x y m o R) : (turnedL n cut x y).Perm (castP (min m o, max m o) :: R.map castP) := U.cut'.perm.trans (U.F.new.map castP)
theorem Turning.len (C : Cutting n cut t) (U : Turning n cut t t' x y m o R) : (turnedL n cut x y).length = cut.length := by
  rw [U.newP.length_eq, (U.cutP C).length_eq] <;> rfl
theorem Turning.new_cross (C : Cutting n cut t) (U : Turning n cut t t' x y m o R) : crossP (castP (min m o, max m o)).1 (castP (min m o, max m o)).2 (castP (x, y)).1 (castP (x, y)).2 := by
  have c := U.cross C
  have b := U.F.btw
  simp only [castP]
  rw [cross_iff (by omega) (by omega)]
  omega
theorem Turning.new_notin (C : Cutting n cut t) (U : Turning n cut t t' x y m o R) : castP (min m o, max m o) ∉ tiesL n cut := fun h => by
  exact C.nocross h (mem_ties.mpr (.inr (C.mem.mpr ⟨_, U.rope_mem, rfl⟩))) (U.new_cross C)
theorem Turning.fresh (C : Cutting n cut t) (U : Turning n cut t t' x y m o R) : (turnedL n cut x y).filter (fun p => !decide (p ∈ cut)) = [castP (min m o, max m o)] := by
  have pp := U.newP.filter (fun p => !decide (p ∈ cut))
  rw [List.filter_cons_of_pos (by
    have : castP (min m o, max m o) ∉ cut := fun h => U.new_notin C (mem_ties.mpr (.inr h))
    simp [this])] at pp
  have e2 : (R.map castP).filter (fun p => !decide (p ∈ cut)) = [] := List.filter_eq_nil_iff.mpr (fun p hp => by
    have : p ∈ cut := (U.cutP C).mem_iff.mpr (List.mem_cons_of_mem _ hp)
    simp [this])
  rw [e2] at pp
  exact List.perm_singleton.mp pp
theorem Turning.keeps (C : Cutting n cut t) (U : Turning n cut t t' x y m o R) {p : IP} (hp : p ∈ cut) (hne : p ≠ castP (x, y)) : p ∈ turnedL n cut x y ∧ ¬ crossP p.1 p.2 (castP (min m o, max m o)).1 (castP (min m o, max m o)).2 := by
  have h1 : p ∈ turnedL n cut x y := by
    rcases List.mem_cons.mp ((U.cutP C).mem_iff.mp hp) with e | e
    · exact absurd e hne
    · exact U.newP.mem_iff.mpr (List.mem_cons_of_mem _ e)
  exact ⟨h1, U.cut'.nocross (mem_ties.mpr (.inr h1)) (mem_ties.mpr (.inr (U.cut'.mem.mpr ⟨_, U.new_mem, rfl⟩)))⟩
end
end Pm
namespace Pm
inductive ND where
  | i (n : Int)
  | t (xs : List ND)
namespace ND
mutual
def cmp : ND → ND → Ordering
  | .i a, .i b => compare a b
  | .i _, .t _ => .lt
  | .t _, .i _ => .gt
  | .t xs, .t ys => cmpL xs ys
def cmpL : List ND → List ND → Ordering
  | [], [] => .eq
  | [], _ :: _ => .lt
  | _ :: _, [] => .gt
  | x :: xs, y :: ys => (cmp x y).then (cmpL xs ys)
end
mutual
theorem cmp_swap : ∀ x y : ND, cmp y x = (cmp x y).swap
  | .i a, .i b => by simp only [cmp]; exact Std.OrientedCmp.eq_swap
  | .i _, .t _ => rfl
  | .t _, .i _ => rfl
  | .t xs, .t ys => by simp only [cmp]; exact cmpL_swap xs ys
theorem cmpL_swap : ∀ xs ys : List ND, cmpL ys xs = (cmpL xs ys).swap
  | [], [] => rfl
  | [], _ :: _ => rfl
  | _ :: _, [] => rfl
  | x :: xs, y :: ys => by
    simp only [cmpL]
    rw [cmp_swap x y, cmpL_swap xs ys]
    cases cmp x y <;> cases cmpL xs ys <;> rfl
end
theorem int_lt {a b : Int} : compare a b = .lt ↔ a < b := Int.compare_eq_lt
def ltB (x y : ND) : Bool := cmp x y == .lt
def leB (x y : ND) : Bool := !ltB y x
mutual
def py : ND → PySem.PyData
  | .i n => .int n
  | .t xs => .tuple (pyL xs)
def pyL : List ND → List PySem.PyData
  | [] => []
  | x :: xs => py x :: pyL xs
end
theorem pyL_map : ∀ xs : List ND, pyL xs = xs.map py
  | [] => rfl
  | x :: xs => by rw [pyL, pyL_map xs]; rfl
mutual
def of : PySem.PyData → ND
  | .int n => .i n
  | .tuple xs => .t (ofL xs)
  | .list _ => .i 0
  | .dict _ => .i 0
  | .none => .i 0
  | .bool _ => .i 0
  | .str _ => .i 0
def ofL : List PySem.PyData → List ND
  | [] => []
  | x :: xs => of x :: ofL xs
end
mutual
theorem lay : ∀ d : ND, (py d).canLay0 = true
  | .i n => by simp only [py, PySem.PyData.canLay0]
  | .t xs => by simp only [py, PySem.PyData.canLay0]; exact layL xs
theorem layL : ∀ ds : List ND, PySem.PyData.canLayAll0 (pyL ds) = true
  | [] => by simp only [pyL, PySem.PyData.canLayAll0]
  | x :: xs => by simp only [pyL, PySem.PyData.canLayAll0]; rw [lay x, layL xs]; rfl
end
mutual
theorem eqv_py : ∀ x y : ND, PySem.PyData.eqv (py x) (py y) = (cmp x y == .eq)
  | .i a, .i b => by
    simp only [py, PySem.PyData.eqv, cmp]
    by_cases h : a = b
    · subst h; simp
    · have : compare a b ≠ .eq := fun e => h (Std.LawfulEqCmp.eq_of_compare e)
      cases e : compare a b <;> simp_all
  | .i _, .t _ => by simp only [py, PySem.PyData.eqv, cmp]; rfl
  | .t _, .i _ => by simp only [py, PySem.PyData.eqv, cmp]; rfl
  | .t xs, .t ys => by simp only [py, PySem.PyData.eqv, cmp]; exact eqvAll_py xs ys
theorem eqvAll_py : ∀ xs ys : List ND, PySem.PyData.eqvAll (pyL xs) (pyL ys) = (cmpL xs ys == .eq)
  | [], [] => by simp [pyL, PySem.PyData.eqvAll, cmpL]
  | [], _ :: _ => by simp [pyL, PySem.PyData.eqvAll, cmpL]
  | _ :: _, [] => by simp [pyL, PySem.PyData.eqvAll, cmpL]
  | x :: xs, y :: ys => by
    simp only [pyL, PySem.PyData.eqvAll, cmpL]
    rw [eqv_py x y, eqvAll_py xs ys]
    cases cmp x y <;> cases cmpL xs ys <;> rfl
end
mutual
def hom : ND → ND → Bool
  | .i _, .i _ => true
  | .t xs, .t ys => homL xs ys
  | .i _, .t _ => false
  | .t _, .i _ => false
def homL : List ND → List ND → Bool
  | [], _ => true
  | _ :: _, [] => true
  | x :: xs, y :: ys => hom x y && homL xs ys
end
def dep (d : ND) : Nat := (py d).depth
end ND
open PySem PySem.Spec PyProof.Rows L2
theorem readsAll_at {h : Heap} : ∀ {vs : List Value} {ds : List PyData} {as : List Addr} {j : Nat} (_ : ReadsAll h vs ds as) (h1 : j < vs.length) (h2 : j < ds.length), ∃ bs, Reads h vs[j] ds[j] bs
  | _ :: _, _ :: _, _, 0, .cons r _, _, _ => ⟨_, r⟩
  | _ :: _, _ :: _, _, j + 1, .cons _ t, h1, h2 => readsAll_at t (Nat.lt_of_succ_lt_succ h1) (Nat.lt_of_succ_lt_succ h2)
theorem lexAt_shift (e r : Nat → Bool) (z : Bool) : ∀ (k i : Nat), Ob.lexAt (fun j => e (j + 1)) (fun j => r (j + 1)) z i k = Ob.lexAt e r z (i + 1) k
  | 0, _ => rfl
  | k + 1, i => by
    show (if e (i + 1) = true then Ob.lexAt _ _ z (i + 1) k else r (i + 1)) = (if e (i + 1) = true then Ob.lexAt e r z (i + 1 + 1) k else r (i + 1))
    rw [lexAt_shift e r z k (i + 1)]
theorem lexAt_cmp : ∀ (xs ys : List ND), Ob.lexAt (fun j => ND.cmp (xs.getD j (.i 0)) (ys.getD j (.i 0)) == .eq) (fun j => ND.ltB (xs.getD j (.i 0)) (ys.getD j (.i 0))) (decide (xs.length < ys.length)) 0 (min xs.length ys.length) = (ND.cmpL xs ys == .lt)
  | [], [] => rfl
  | [], y :: ys => by simp [Ob.lexAt, ND.cmpL]
  | x :: xs, [] => by simp [Ob.lexAt, ND.cmpL]
  | x :: xs, y :: ys => by
    have ih := lexAt_cmp xs ys
    rw [List.length_cons, List.length_cons, show min (xs.length + 1) (ys.length + 1) = min xs.length ys.length + 1 by omega, Ob.lexAt_succ]
    rw [← lexAt_shift]
    show (if (ND.cmp x y == .eq) = true then Ob.lexAt (fun j => ND.cmp (xs.getD j (.i 0)) (ys.getD j (.i 0)) == .eq) (fun j => ND.ltB (xs.getD j (.i 0)) (ys.getD j (.i 0))) (decide (xs.length + 1 < ys.length + 1)) 0 _ else ND.ltB x y) = ((ND.cmp x y).then (ND.cmpL xs ys) == .lt)
    rw [show decide (xs.length + 1 < ys.length + 1) = decide (xs.length < ys.length) from decide_eq_decide.mpr (by omega), ih]
    unfold ND.ltB
    cases ND.cmp x y <;> rfl
theorem py_getD (xs : List ND) {j : Nat} (h : j < (ND.pyL xs).length) : (ND.pyL xs)[j] = ND.py (xs.getD j (.i 0)) := by
  have h' : j < xs.length := by rw [ND.pyL_map, List.length_map] at h; exact h
  rw [List.getD_eq_getElem?_getD, List.getElem?_eq_getElem h']
  simp only [ND.pyL_map, List.getElem_map, Option.getD_some]
theorem depL (xs : List ND) (j : Nat) : (ND.py (xs.getD j (.i 0))).depth ≤ PyData.depthAll (ND.pyL xs) := by
  induction xs generalizing j with
  | nil => show PyData.depth (.int 0) ≤ _; simp [PyData.depth]
  | cons x xs ih =>
    cases j with
    | zero =>
      show (ND.py x).depth ≤ PyData.depthAll (ND.py x :: ND.pyL xs)
      simp only [PyData.depthAll]
      omega
    | succ j =>
      have := ih j
      show (ND.py (xs.getD j (.i 0))).depth ≤ PyData.depthAll (ND.py x :: ND.pyL xs)
      simp only [PyData.depthAll]
      omega
theorem hom_at : ∀ {xs ys : List ND} {j : Nat}, ND.homL xs ys = true → j < xs.length → j < ys.length → ND.hom (xs.getD j (.i 0)) (ys.getD j (.i 0)) = true
  | x :: xs, y :: ys, 0, h, _, _ => by
    simp only [ND.homL, Bool.and_eq_true] at h
    exact h.1
  | x :: xs, y :: ys, j + 1, h, h1, h2 => by
    simp only [ND.homL, Bool.and_eq_true] at h
    exact hom_at (xs := xs) (ys := ys) h.2 (Nat.lt_of_succ_lt_succ h1) (Nat.lt_of_succ_lt_succ h2)
theorem nd_size : ∀ (xs : List ND) (j : Nat), j < xs.length → sizeOf (xs.getD j (.i 0)) < sizeOf xs
  | x :: xs, 0, _ => by show sizeOf x < sizeOf (x :: xs); simp; omega
  | x :: xs, j + 1, h => by
    have := nd_size xs j (Nat.lt_of_succ_lt_succ h)
    show sizeOf (xs.getD j (.i 0)) < sizeOf (x :: xs)
    simp only [List.cons.sizeOf_spec]
    omega
theorem lexAt_not (e r : Nat → Bool) (z : Bool) : ∀ (k i : Nat), Ob.lexAt e (fun j => !r j) (!z) i k = !Ob.lexAt e r z i k
  | 0, _ => rfl
  | k + 1, i => by
    rw [Ob.lexAt_succ, Ob.lexAt_succ, lexAt_not e r z k (i + 1)]
    split <;> rfl
/-- x >= y of nested tuples of numbers of one form -/
theorem rc_ge : ∀ (x y : ND) (A : Around) (s : Shared) (a b : Value) (as bs : List Addr), Reads s.heap a x.py as → Reads s.heap b y.py bs → ND.hom x y = true → A.units + min x.dep y.dep < cLine → Ob.RcOp .GtE A s a b (!ND.ltB x y)
  | .i p, .i q, A, s, a, b, as, bs, ra, rb, _, hu => by
    simp only [ND.py] at ra rb
    cases ra
    cases rb
    have e : ND.ltB (.i p) (.i q) = decide (p < q) := by
      unfold ND.ltB
      simp only [ND.cmp]
      by_cases h : p < q
      · rw [decide_eq_true h, ND.int_lt.mpr h]; rfl
      · rw [decide_eq_false h]
        have : compare p q ≠ .lt := fun e => h (ND.int_lt.mp e)
        cases e : compare p q <;> simp_all
    rw [e, show (!decide (p < q)) = decide (q ≤ p) by by_cases h : p < q <;> simp [h] <;> omega]
    exact Ob.RcOp.ge_int _ _ _ _
  | .t xs, .t ys, A, s, a, b, as, bs, ra, rb, hh, hu => by
    simp only [ND.py] at ra rb
    cases ra with
    | tuple k1 k2 k3 k4 =>
      cases rb with
      | tuple l1 l2 l3 l4 =>
        rename_i a oa vs na b ob ws nb
        have n1 := SeqAt.ReadsAll.length _ _ _ k4
        have n2 := SeqAt.ReadsAll.length _ _ _ l4
        simp only [ND.hom] at hh
        have dx : (ND.t xs).dep = PyData.depthAll (ND.pyL xs) + 1 := by simp only [ND.dep, ND.py, PyData.depth]
        have dy : (ND.t ys).dep = PyData.depthAll (ND.pyL ys) + 1 := by simp only [ND.dep, ND.py, PyData.depth]
        rw [dx, dy] at hu
        have px : (ND.pyL xs).length = xs.length := by rw [ND.pyL_map, List.length_map]
        have py' : (ND.pyL ys).length = ys.length := by rw [ND.pyL_map, List.length_map]
        have e1 : vs.size = xs.length := by rw [← px, ← n1, Array.length_toList]
        have e2 : ws.size = ys.length := by rw [← py', ← n2, Array.length_toList]
        have in1 : A.in1.units = A.units + 1 := rfl
        have R := Ob.RcOp.tuples_ge (A := A) (s := s) (e := fun j => ND.cmp (xs.getD j (.i 0)) (ys.getD j (.i 0)) == .eq) (r := fun j => !ND.ltB (xs.getD j (.i 0)) (ys.getD j (.i 0))) ⟨_, k1, k2, _, k3⟩ ⟨_, l1, l2, _, l3⟩ (by omega)
          (fun j h1 h2 => by
            obtain ⟨cs, r1⟩ := readsAll_at (j := j) k4 (by simpa using h1) (by omega)
            obtain ⟨ds, r2⟩ := readsAll_at (j := j) l4 (by simpa using h2) (by omega)
            rw [py_getD] at r1 r2
            have z := SeqAt.eqAt_reads _ _ A.in1 s _ _ _ _ r1 r2 (ND.lay _) (ND.lay _) (by have := depL xs j; have := depL ys j; rw [in1]; omega)
            rw [ND.eqv_py] at z
            simpa using z)
          (fun j h1 h2 _ => by
            obtain ⟨cs, r1⟩ := readsAll_at (j := j) k4 (by simpa using h1) (by omega)
            obtain ⟨ds, r2⟩ := readsAll_at (j := j) l4 (by simpa using h2) (by omega)
            rw [py_getD] at r1 r2
            have sz := nd_size xs j (by omega)
            have z := rc_ge (xs.getD j (.i 0)) (ys.getD j (.i 0)) A.in1 s _ _ _ _ r1 r2 (hom_at hh (by omega) (by omega)) (by have := depL xs j; have := depL ys j; rw [in1]; simp only [ND.dep]; omega)
            simpa using z)
        rw [e1, e2, show decide (xs.length ≥ ys.length) = !decide (xs.length < ys.length) by by_cases h : xs.length < ys.length <;> simp [h] <;> omega, lexAt_not, lexAt_cmp] at R
        exact R
  | .i _, .t _, _, _, _, _, _, _, _, _, h, _ => by simp [ND.hom] at h
  | .t _, .i _, _, _, _, _, _, _, _, _, h, _ => by simp [ND.hom] at h
termination_by x => sizeOf x
decreasing_by simp only [ND.t.sizeOf_spec]; omega
section
variable {X : Cx} {K : PySem.W.Frag}
def rGeN (K : PySem.W.Frag) : R2 := fun x y H Q => ∃ d e : ND, Dp K H x d.py ∧ Dp K H y e.py ∧ ND.hom d e = true ∧ d.dep ≤ 8 ∧ Q (.bl (!ND.ltB d e)) H
theorem op_geN (hu : X.A.units + 40 < cLine) (e : X.K = K := by rfl) : OpR X (compareOp .GtE) (rGeN K) := by
  subst e
  intro pins s σ H x y v u Q I rx ry h
  obtain ⟨d, e, hd, he, hh, dd, q⟩ := h
  obtain ⟨as, r1⟩ := Dp.reads I _ x v hd rx
  obtain ⟨bs, r2⟩ := Dp.reads I _ y u he ry
  have R := rc_ge d e X.A s v u as bs r1 r2 hh (by omega)
  exact R X.prog X.w X.xe (EP X pins σ Q) ⟨.bl _, H, I, rfl, q⟩
end
theorem _root_.L2.Room.u40 {A : Around} {k : Nat} (hr : Room k A) : A.units + 40 < cLine := by have := hr.un; omega
theorem leB_i (a b : Int) : ND.leB (.i a) (.i b) = decide (a ≤ b) := by
  unfold ND.leB ND.ltB
  simp only [ND.cmp]
  by_cases h : b < a
  · rw [ND.int_lt.mpr h, decide_eq_false (by omega)]; rfl
  · rw [decide_eq_true (by omega)]
    have : compare b a ≠ .lt := fun e => h (ND.int_lt.mp e)
    cases e : compare b a <;> simp_all
theorem leB_tcons (x y : ND) (xs ys : List ND) : ND.leB (.t (x :: xs)) (.t (y :: ys)) = (if ND.cmp x y = .eq then ND.leB (.t xs) (.t ys) else ND.leB x y) := by
  unfold ND.leB ND.ltB
  simp only [ND.cmp, ND.cmpL]
  rw [ND.cmp_swap x y]
  cases e : ND.cmp x y with
  | eq => rfl
  | lt => rfl
  | gt => rfl
theorem leB_tnil (ys : List ND) : ND.leB (.t []) (.t ys) = true := by
  unfold ND.leB ND.ltB
  cases ys <;> simp [ND.cmp, ND.cmpL]
theorem cmp_i_eq (a b : Int) : (ND.cmp (.i a) (.i b) = .eq) ↔ a = b := by
  simp only [ND.cmp]
  exact ⟨fun h => Std.LawfulEqCmp.eq_of_compare h, fun h => by subst h; exact Std.ReflCmp.compare_self⟩
end Pm
namespace Pm
abbrev I3 := Int × Int × Int
/-- the third posts above a tie -/
def above (n : Nat) (T : List IP) (p : IP) : List Nat := (List.range (((n : Int) - (p.2 + 1)).toNat)).filter fun i => decide ((p.1, p.2 + 1 + (i : Int)) ∈ T) && decide ((p.2, p.2 + 1 + (i : Int)) ∈ T)
section
variable {n : Nat} {cut : List IP} {t : Tr}
theorem Cutting.ties_nodup (C : Cutting n cut t) : (tiesL n cut).Nodup := by
  have w2 := C.w2
  have hw := C.w
  refine ((sortP_perm _).nodup_iff).mpr (List.nodup_append.mpr ⟨?_, ?_, fun a ha b hb e => ?_⟩)
  · unfold sides0
    refine List.nodup_append.mpr ⟨?_, by simp, fun a ha b hb e => ?_⟩
    · refine List.Pairwise.map _ ?_ (List.nodup_range (n := n - 1))
      intro i j hij e
      have := congrArg Prod.fst e
      simp only at this
      exact hij (by omega)
    · subst e
      obtain ⟨k, hk, rfl⟩ := List.mem_map.mp ha
      have := List.mem_singleton.mp hb
      have e1 := congrArg Prod.fst this
      have e2 := congrArg Prod.snd this
      simp only at e1 e2
      omega
  · refine (C.perm.nodup_iff).mpr (List.Pairwise.map _ ?_ (Tr.ropes_nodup t 0))
    intro p q hpq e
    exact hpq (castP_inj e)
  · subst e
    obtain ⟨q, hq, rfl⟩ := C.mem.mp hb
    have hr := (ropes_iff w2).mp hq
    have hwid := Tr.inn_wide hr.1
    rcases (mem_sides0 (by omega)).mp ha with ⟨k, hk, e⟩ | e
    · rw [castP_inj e] at hwid
      simp only at hwid
      omega
    · refine hr.2 ?_
      rw [castP_inj e, ← hw] <;> rfl
end
end Pm
namespace Pm
open PySem PySem.Spec PyProof.Rows L2
theorem gcd_turn (x y : Nat) (hy : 0 < y) : Nat.gcd y (x % y) = Nat.gcd x y := by
  rw [Nat.gcd_comm x y, Nat.gcd_rec y x, Nat.gcd_comm]
theorem gcd_abs (a b : Int) : Nat.gcd (if a < 0 then -a else a).natAbs (if b < 0 then -b else b).natAbs = Int.gcd a b := by
  unfold Int.gcd
  have e : ∀ c : Int, (if c < 0 then -c else c).natAbs = c.natAbs := fun c => by split <;> omega
  rw [e, e]
theorem div_pos_num {a b : Int} (h : 0 < b) : a / ((Int.gcd a b : Nat) : Int) = (Rat.divInt a b).num ∧ b / ((Int.gcd a b : Nat) : Int) = ((Rat.divInt a b).den : Int) := by
  rw [Rat.num_divInt, Rat.den_divInt, if_neg (by omega), Int.sign_eq_one_of_pos h, Int.one_mul, Int.gcd_comm b a]
  refine ⟨rfl, ?_⟩
  rw [Int.natCast_ediv]
  congr 1
  omega
theorem gcd_le_right {a b : Int} (h : 0 < b) : ((Int.gcd a b : Nat) : Int) ≤ b := Int.gcd_le_right a h
theorem gcd_pos {a b : Int} (h : b ≠ 0) : 0 < ((Int.gcd a b : Nat) : Int) := by
  have := Int.gcd_pos_of_ne_zero_right a h
  omega
/-- the size of a fraction -/
def rb (r : Rat) (n : Nat) : Prop := r.num.natAbs < 2 ^ n ∧ r.den < 2 ^ n
theorem rb.mono {r : Rat} {n m : Nat} (h : rb r n) (k : n ≤ m) : rb r m :=
  ⟨Nat.lt_of_lt_of_le h.1 (Nat.pow_le_pow_right (by decide) k), Nat.lt_of_lt_of_le h.2 (Nat.pow_le_pow_right (by decide) k)⟩
theorem rb_div {a b : Int} {n : Nat} (hb : b ≠ 0) (h1 : a.natAbs < 2 ^ n) (h2 : b.natAbs < 2 ^ n) : rb (Rat.divInt a b) n := by
  have hg : 0 < Int.gcd b a := Int.gcd_pos_of_ne_zero_left a hb
  constructor
  · rw [Rat.num_divInt]
    refine Nat.lt_of_le_of_lt ?_ h1
    have e : (b.sign * a).natAbs ≤ a.natAbs := by
      rw [Int.natAbs_mul]
      have := Int.natAbs_sign_of_ne_zero hb
      rw [this, Nat.one_mul]
      exact Nat.le_refl _
    refine Nat.le_trans ?_ e
    exact Int.natAbs_ediv_le_natAbs _ _
  · rw [Rat.den_divInt, if_neg hb]
    exact Nat.lt_of_le_of_lt (Nat.div_le_self _ _) h2
theorem den_ne (r : Rat) : (r.den : Int) ≠ 0 := by have := r.den_nz; omega
theorem divInt_self' (r : Rat) : Rat.divInt r.num r.den = r := Rat.num_divInt_den r
theorem rb_pos {r : Rat} {n : Nat} (h : rb r n) : 0 < n := by
  rcases Nat.eq_zero_or_pos n with z | z
  · subst z
    have := h.2
    have := r.den_nz
    omega
  · exact z
theorem rb_den {r : Rat} {n : Nat} (h : rb r n) : (r.den : Int).natAbs < 2 ^ n := by have := h.2; omega
/-- a new tuple that is the fraction r -/
def FrNew (H : Hp) (r : Rat) (Q : VK) : Prop := ∀ (t : Addr) (H' : Hp), Same H H' → H t = none → H' t = some (.tup [.int r.num, .int r.den]) → Q (.ref t) H'
end Pm
namespace Pm
structure V2 where
  p : Rat
  q : Rat
def det (a b : V2) : Rat := a.p * b.q - b.p * a.q
theorem det_pl (a b c d : V2) : det a c * det b d = det a b * det c d + det b c * det a d := by unfold det; grind
theorem det_anti (a b : V2) : det b a = - det a b := by unfold det; grind
theorem det_self (a : V2) : det a a = 0 := by unfold det; grind
def mix (a : V2) (x : Rat) (b : V2) (y : Rat) : V2 := ⟨a.p * x + b.p * y, a.q * x + b.q * y⟩
theorem det_mix_l (a b : V2) (x y : Rat) : det a (mix a x b y) = y * det a b := by unfold det mix; grind
theorem det_mix_r (a b : V2) (x y : Rat) : det (mix a x b y) b = x * det a b := by unfold det mix; grind
theorem rat_mul_pos {a b : Rat} (h : 0 < a) (k : 0 < b) : 0 < a * b := Rat.mul_pos h k
theorem rat_pos_of_mul {a b : Rat} (hb : 0 < b) (h : 0 < a * b) : 0 < a := by
  by_cases z : 0 < a
  · exact z
  · have z1 : a ≤ 0 := by grind
    have z2 : 0 ≤ -a := by grind
    have := Rat.mul_nonneg z2 (show (0 : Rat) ≤ b by grind)
    grind
theorem rat_div_pos {a b : Rat} (h : 0 < a) (k : 0 < b) : 0 < a / b := by
  refine rat_pos_of_mul k ?_
  have : a / b * b = a := by grind
  rw [this]; exact h
abbrev Len := Nat × Nat → Rat
namespace Tr
def Stood (t : Tr) (lo : Nat) (L : Len) (S : Nat → V2) : Prop := ∀ p ∈ t.all lo, det (S p.1) (S p.2) = L p
def Pos (t : Tr) (lo : Nat) (L : Len) : Prop := ∀ p ∈ t.all lo, 0 < L p
theorem mem_l {l r : Tr} {lo : Nat} {p : Nat × Nat} (h : p ∈ l.all lo) : p ∈ (node l r).all lo := mem_node.mpr (.inr (.inl h))
theorem mem_r {l r : Tr} {lo : Nat} {p : Nat × Nat} (h : p ∈ r.all (lo + l.w)) : p ∈ (node l r).all lo := mem_node.mpr (.inr (.inr h))
theorem mem_root {l r : Tr} {lo : Nat} : (lo, lo + (l.w + r.w)) ∈ (node l r).all lo := mem_node.mpr (.inl rfl)
def std : Tr → Nat → Len → V2 → V2 → Nat → V2
  | leaf, lo, _, a, b, i => if i ≤ lo then a else b
  | node l r, lo, L, a, b, i =>
    if i ≤ lo + l.w then std l lo L a (mix a (L (lo + l.w, lo + (l.w + r.w)) / L (lo, lo + (l.w + r.w))) b (L (lo, lo + l.w) / L (lo, lo + (l.w + r.w)))) i
    else std r (lo + l.w) L (mix a (L (lo + l.w, lo + (l.w + r.w)) / L (lo, lo + (l.w + r.w))) b (L (lo, lo + l.w) / L (lo, lo + (l.w + r.w)))) b i
theorem std_lo : ∀ (t : Tr) (lo : Nat) (L : Len) (a b : V2), t.std lo L a b lo = a
  | leaf, lo, L, a, b => by unfold std; rw [if_pos (Nat.le_refl _)]
  | node l r, lo, L, a, b => by unfold std; rw [if_pos (by omega), std_lo l]
theorem std_hi : ∀ (t : Tr) (lo : Nat) (L : Len) (a b : V2), t.std lo L a b (lo + t.w) = b
  | leaf, lo, L, a, b => by unfold std w; rw [if_neg (by omega)]
  | node l r, lo, L, a, b => by
    have := w_pos r
    unfold std
    rw [if_neg (by simp only [w]; omega), show lo + (node l r).w = lo + l.w + r.w by simp only [w]; omega, std_hi r]
theorem std_stood : ∀ {t : Tr} {lo : Nat} {L : Len} {a b : V2}, t.Pos lo L → det a b = L (lo, lo + t.w) → t.Stood lo L (t.std lo L a b)
  | leaf, lo, L, a, b, _, h, p, hp => by
    have e : p = (lo, lo + 1) := by simpa [all] using hp
    subst e
    have e2 : lo + 1 = lo + leaf.w := rfl
    simp only
    rw [std_lo, e2, std_hi]
    exact h
  | node l r, lo, L, a, b, hP, h, p, hp => by
    have hL0 : 0 < L (lo, lo + (l.w + r.w)) := hP _ mem_root
    have hw : (node l r).w = l.w + r.w := rfl
    rw [hw] at h
    generalize hc : mix a (L (lo + l.w, lo + (l.w + r.w)) / L (lo, lo + (l.w + r.w))) b (L (lo, lo + l.w) / L (lo, lo + (l.w + r.w))) = c
    have h1 : det a c = L (lo, lo + l.w) := by
      rw [← hc, det_mix_l, h]; grind
    have h2 : det c b = L (lo + l.w, lo + l.w + r.w) := by
      rw [← hc, det_mix_r, h, Nat.add_assoc]; grind
    have ihl := std_stood (t := l) (lo := lo) (L := L) (a := a) (b := c) (fun p hp => hP p (mem_l hp)) h1
    have ihr := std_stood (t := r) (lo := lo + l.w) (L := L) (a := c) (b := b) (fun p hp => hP p (mem_r hp)) h2
    have eL : ∀ i, i ≤ lo + l.w → (node l r).std lo L a b i = l.std lo L a c i := fun i hi => by
      show (if i ≤ lo + l.w then _ else _) = _
      rw [if_pos hi, hc]
    have eR : ∀ i, lo + l.w ≤ i → (node l r).std lo L a b i = r.std (lo + l.w) L c b i := fun i hi => by
      rcases Nat.eq_or_lt_of_le hi with e | e
      · subst e
        rw [eL _ (Nat.le_refl _), std_hi, std_lo]
      · show (if i ≤ lo + l.w then _ else _) = _
        rw [if_neg (by omega), hc]
    rcases mem_node.mp hp with rfl | q | q
    · simp only
      have := std_hi (node l r) lo L a b
      rw [hw] at this
      rw [std_lo, this]; exact h
    · have b1 := bd q
      rw [eL _ (by omega), eL _ (by omega)]
      exact ihl p q
    · have b1 := bd q
      rw [eR _ (by omega), eR _ (by omega)]
      exact ihr p q
theorem ends_pos : ∀ {t : Tr} {lo : Nat} {L : Len} {S : Nat → V2}, t.Pos lo L → t.Stood lo L S → ∀ i, (lo < i → i ≤ lo + t.w → 0 < det (S lo) (S i)) ∧ (lo ≤ i → i < lo + t.w → 0 < det (S i) (S (lo + t.w)))
  | leaf, lo, L, S, hP, h, i => by
    have e := h (lo, lo + 1) (by simp [all])
    have p := hP (lo, lo + 1) (by simp [all])
    simp only [w] at *
    refine ⟨fun h1 h2 => ?_, fun h1 h2 => ?_⟩
    · have z : i = lo + 1 := by omega
      subst z
      rw [e]; exact p
    · have z : i = lo := by omega
      subst z
      rw [e]; exact p
  | node l r, lo, L, S, hP, h, i => by
    have hw : (node l r).w = l.w + r.w := rfl
    rw [hw]
    have r0 := h _ (mem_root (l := l) (r := r) (lo := lo))
    have l0 := h _ (mem_l (r := r) (root_mem (t := l) (lo := lo)))
    have k0 := h _ (mem_r (l := l) (root_mem (t := r) (lo := lo + l.w)))
    have pp := hP _ (mem_root (l := l) (r := r) (lo := lo))
    have pl := hP _ (mem_l (r := r) (root_mem (t := l) (lo := lo)))
    have pr := hP _ (mem_r (l := l) (root_mem (t := r) (lo := lo + l.w)))
    simp only at r0 l0 k0 pl pr
    rw [Nat.add_assoc] at k0 pr
    have il := ends_pos (t := l) (fun p hp => hP p (mem_l hp)) (fun p hp => h p (mem_l hp)) i
    have ir := ends_pos (t := r) (lo := lo + l.w) (fun p hp => hP p (mem_r hp)) (fun p hp => h p (mem_r hp)) i
    rw [Nat.add_assoc] at ir
    refine ⟨fun h1 h2 => ?_, fun h1 h2 => ?_⟩
    · by_cases z : i ≤ lo + l.w
      · exact il.1 h1 z
      · have a1 := ir.1 (by omega) (by omega)
        have p1 := det_pl (S lo) (S (lo + l.w)) (S i) (S (lo + (l.w + r.w)))
        rw [l0, r0, k0] at p1
        refine rat_pos_of_mul pr ?_
        rw [p1]
        have := rat_mul_pos a1 pp
        rcases Nat.eq_or_lt_of_le h2 with z2 | z2
        · subst z2
          rw [det_self]
          grind
        · have a2 := ir.2 (by omega) (by omega)
          have := rat_mul_pos pl a2
          grind
    · by_cases z : lo + l.w ≤ i
      · exact ir.2 z (by omega)
      · have a1 := il.2 (by omega) (by omega)
        have p1 := det_pl (S lo) (S i) (S (lo + l.w)) (S (lo + (l.w + r.w)))
        rw [l0, r0, k0] at p1
        refine rat_pos_of_mul pl ?_
        rw [Rat.mul_comm, p1]
        have := rat_mul_pos a1 pp
        rcases Nat.eq_or_lt_of_le h1 with z2 | z2
        · subst z2
          rw [det_self]
          grind
        · have a2 := il.1 (by omega) (by omega)
          have := rat_mul_pos a2 pr
          grind
theorem det_pos : ∀ {t : Tr} {lo : Nat} {L : Len} {S : Nat → V2}, t.Pos lo L → t.Stood lo L S → ∀ i k, lo ≤ i → i < k → k ≤ lo + t.w → 0 < det (S i) (S k)
  | leaf, lo, L, S, hP, h, i, k, h1, h2, h3 => by
    have e := h (lo, lo + 1) (by simp [all])
    have p := hP (lo, lo + 1) (by simp [all])
    simp only [w] at *
    have z : i = lo := by omega
    have z2 : k = lo + 1 := by omega
    subst z z2
    rw [e]; exact p
  | node l r, lo, L, S, hP, h, i, k, h1, h2, h3 => by
    have hw : (node l r).w = l.w + r.w := rfl
    have il := det_pos (t := l) (fun p hp => hP p (mem_l hp)) (fun p hp => h p (mem_l hp)) i
    have ir := det_pos (t := r) (lo := lo + l.w) (fun p hp => hP p (mem_r hp)) (fun p hp => h p (mem_r hp))
    have ie := (ends_pos hP h i).2
    rw [hw] at h3 ie
    by_cases z : k ≤ lo + l.w
    · exact il k h1 h2 z
    · by_cases z2 : lo + l.w ≤ i
      · exact ir i k z2 h2 (by omega)
      · have a1 := il (lo + l.w) h1 (by omega) (Nat.le_refl _)
        have a2 := ir (lo + l.w) k (by omega) (by omega) (by omega)
        have a3 := ie (by omega) (by omega)
        have a4 := ir (lo + l.w) (lo + (l.w + r.w)) (by omega) (by have := w_pos r; omega) (by omega)
        have p1 := det_pl (S i) (S (lo + l.w)) (S k) (S (lo + (l.w + r.w)))
        refine rat_pos_of_mul a4 ?_
        rw [p1]
        have := rat_mul_pos a2 a3
        rcases Nat.eq_or_lt_of_le h3 with z2 | z2
        · subst z2
          rw [det_self]
          grind
        · have a5 := ir k (lo + (l.w + r.w)) (by omega) z2 (by omega)
          have := rat_mul_pos a1 a5
          grind
end Tr
structure Meas (n : Nat) (t : Tr) (L : Len) (D : Nat → Nat → Rat) : Prop where
  w : t.w + 1 = n
  pos : t.Pos 0 L
  ex : ∃ S, t.Stood 0 L S ∧ ∀ i k, i < n → k < n → D i k = det (S i) (S k)
section
variable {n : Nat} {t : Tr} {L : Len} {D : Nat → Nat → Rat}
theorem Meas.tie (M : Meas n t L D) {i k : Nat} (h : (i, k) ∈ t.all 0) : D i k = L (i, k) := by
  obtain ⟨S, h1, h2⟩ := M.ex
  have b := Tr.bd h
  have := M.w
  rw [h2 i k (by omega) (by omega)]
  exact h1 _ h
theorem Meas.anti (M : Meas n t L D) {i k : Nat} (hi : i < n) (hk : k < n) : D k i = - D i k := by
  obtain ⟨S, h1, h2⟩ := M.ex
  rw [h2 i k hi hk, h2 k i hk hi, det_anti]
theorem Meas.self (M : Meas n t L D) {i : Nat} (hi : i < n) : D i i = 0 := by
  obtain ⟨S, h1, h2⟩ := M.ex
  rw [h2 i i hi hi, det_self]
theorem Meas.above (M : Meas n t L D) {i k : Nat} (h : i < k) (hk : k < n) : 0 < D i k := by
  obtain ⟨S, h1, h2⟩ := M.ex
  have := M.w
  rw [h2 i k (by omega) hk]
  exact Tr.det_pos M.pos h1 i k (by omega) h (by omega)
theorem Meas.ne (M : Meas n t L D) {i k : Nat} (h : i ≠ k) (hi : i < n) (hk : k < n) : D i k ≠ 0 := by
  rcases Nat.lt_or_gt_of_ne h with z | z
  · have := M.above z hk; grind
  · have := M.above z hi
    have := M.anti hk hi
    grind
end
def Mt (t : Tr) (L : Len) (i k : Nat) : Rat := det (t.std 0 L ⟨1, 0⟩ ⟨0, L (0, t.w)⟩ i) (t.std 0 L ⟨1, 0⟩ ⟨0, L (0, t.w)⟩ k)
theorem meas_mt {n : Nat} {t : Tr} {L : Len} (hw : t.w + 1 = n) (hP : t.Pos 0 L) : Meas n t L (Mt t L) :=
  ⟨hw, hP, _, Tr.std_stood (t := t) (lo := 0) (a := ⟨1, 0⟩) (b := ⟨0, L (0, t.w)⟩) hP (by unfold det; rw [Nat.zero_add]; grind), fun _ _ _ _ => rfl⟩
/-- a rope turned: the same lengths are measured -/
theorem Meas.turn {n : Nat} {cut : List IP} {t t' : Tr} {x y m o : Nat} {R : List (Nat × Nat)} {L L' : Len} {D : Nat → Nat → Rat} (M : Meas n t L D) (C : Cutting n cut t) (U : Turning n cut t t' x y m o R)
    (h1 : ∀ p ∈ t.all 0, p ≠ (x, y) → L' p = L p) (h2 : L' (min m o, max m o) = D (min m o) (max m o)) : Meas n t' L' D := by
  have hw := U.cut'.w
  have bd : min m o < max m o ∧ max m o < n := by
    have z := U.cross C
    have z2 := Tr.bd (U.all_iff C |>.mpr (.inr rfl))
    omega
  refine ⟨U.cut'.w, fun p hp => ?_, ?_⟩
  · rcases (U.all_iff C).mp hp with ⟨q, ne⟩ | rfl
    · rw [h1 p q ne]; exact M.pos p q
    · rw [h2]; exact M.above bd.1 bd.2
  · obtain ⟨S, s1, s2⟩ := M.ex
    refine ⟨S, fun p hp => ?_, s2⟩
    rcases (U.all_iff C).mp hp with ⟨q, ne⟩ | rfl
    · rw [h1 p q ne]; exact s1 p q
    · rw [h2, s2 _ _ (by omega) (by omega)]
structure Bd (n : Nat) (D : Nat → Nat → Rat) (F : Nat) (B : Nat) : Prop where
  f0 : 0 < F
  fb : F < 2 ^ B
  all : ∀ i k, i < n → k < n → ∃ z : Int, D i k * F = z ∧ z.natAbs < 2 ^ B
theorem rat_of_mul {x : Rat} {F : Nat} {z : Int} (f0 : 0 < F) (h : x * F = z) : x = Rat.divInt z F := by
  rw [Rat.divInt_eq_div]
  have : (F : Rat) ≠ 0 := by
    intro e
    have : (F : Rat) = ((0 : Nat) : Rat) := by rw [e]; rfl
    have := Rat.natCast_inj.mp this
    omega
  have e2 : ((F : Int) : Rat) = (F : Rat) := rfl
  rw [e2, ← h]
  grind
theorem Bd.rb {n : Nat} {D : Nat → Nat → Rat} {F B : Nat} (h : Bd n D F B) {i k : Nat} (hi : i < n) (hk : k < n) : rb (D i k) B := by
  obtain ⟨z, h1, h2⟩ := h.all i k hi hk
  rw [rat_of_mul h.f0 h1]
  have := h.fb
  exact rb_div (by have := h.f0; omega) h2 (by omega)
end Pm
namespace Pm
open PySem PySem.Spec PyProof.Rows L2
/-- the pairs of the locked dict at d, each a new tuple of the key's own tuple and the value -/
def Itit (d : Addr) (o : Obj) (kvs : List (List L2.Key × V)) : It :=
  ⟨fun i H => H d = some (.frz o (.dT kvs)) ∧ i < kvs.length, fun i H x H' => ∃ (T : Addr) (k : List L2.Key) (v : V) (q : Addr), kvs[i]? = some (k, v) ∧ x = .ref T ∧ H T = none ∧ H q = some (.tup (k.map kV)) ∧ H' = upd H T (.tup [.ref q, v]), fun i H => H d = some (.frz o (.dT kvs)) ∧ kvs.length ≤ i⟩
section
variable {X : Cx} {pins : List (Addr × Obj)} {σ : L2.St} {H : Hp} {s : Shared} {d : Addr} {o : Obj}
theorem frzT2 {kvs : List (List L2.Key × V)} (I : Inv X pins σ H s) (h : H d = some (.frz o (.dT kvs))) :
    (d == sysModules) = false ∧ s.heap.get? d = some o ∧ o.ExactDict ∧ ∃ (es : Array DictEntry) (ep : Nat), o.data = .dict es ep ∧ es.size = kvs.length ∧
      ∀ (i : Nat) (k : List L2.Key) (v : V), kvs[i]? = some (k, v) → ∃ (en : DictEntry) (q : Addr), es[i]? = some en ∧ en.key = .ref q ∧ H q = some (.tup (k.map kV)) ∧ RelV v en.val := by
  obtain ⟨hd, z, hs, xs, pr, o', es, ep, ho, hx, hdt, he, _⟩ := I.hok d _ h
  rw [hd] at ho
  cases ho
  refine ⟨hs, hd, hx, es, ep, hdt, ?_, fun i k v e => ?_⟩
  · have l1 : es.size = xs.length := size_of_entries he
    have l2 : kvs.length = xs.length := Paired.length pr
    omega
  · obtain ⟨b, hb, e1, e2, e3⟩ := paired_get pr e
    have q := entry_at he i
    rw [hb] at q
    exact ⟨_, b.2.1, q, rfl, e2, e3⟩
end
section
variable {P : Program} {w : World} {K : PySem.W.Frag} {d : Addr} {o : Obj} {es : Array DictEntry} {ep : Nat}
theorem turn_itemsT {kvs : List (List L2.Key × V)} {elts : List Expr} {kk : Nat} {tpos : Pos} (it : Addr) (hod : o.data = .dict es ep) :
    Turn P w K (.Tuple elts kk tpos) (Itit d o kvs) [it] it (fun i h => ∃ ok ov, IsItemIter h it d i kvs.length ep ok ov) where
  mem := by simp
  obj := fun i h st b hb => by
    have e : b = it := by simpa using hb
    subst e
    obtain ⟨ok, ov, e⟩ := st
    exact ⟨_, e, fun v z => nomatch z⟩
  keep := fun i h h' st k => let ⟨ok, ov, e⟩ := st; ⟨ok, ov, k it (by simp) _ e⟩
  item := by
    intro X hP hw hK hc i pins s σ H E I hf st hg
    subst hP hw hK
    obtain ⟨hd, hi⟩ := hg
    obtain ⟨hs, hgd, hx, es', ep', hdt, hsz, ent⟩ := frzT2 I hd
    obtain ⟨rfl, rfl⟩ := dict_ep hod hdt
    obtain ⟨⟨k, v⟩, hkv⟩ : ∃ p, kvs[i]? = some p := ⟨kvs[i], List.getElem?_eq_getElem hi⟩
    obtain ⟨en, q, hen, hkey, hq, rv⟩ := ent i k v hkv
    obtain ⟨ok, ov, he⟩ := st
    have hlt : it < s.heap.objs.size := Heap.lt_size he
    have hie : i < es'.size := by omega
    have een : es'[i] = en := by rw [Array.getElem?_eq_getElem hie] at hen; exact Option.some.inj hen
    rw [← hsz] at he
    refine DT.nextI he ⟨o, hgd, hx, hdt⟩ hie fun h' ho hT hz hk => ?_
    rw [een] at ho hT
    refine ⟨_, rfl, wpAny_letOwnedTupleGo_items (s := { s with heap := h' }) ho fun h'' he' sb => ?_⟩
    have hT2 : h''.get? s.heap.objs.size = some { cls := .type "tuple", data := .seq #[en.key, en.val] } := (sb.2 _ (Nat.ne_of_gt hlt)).trans hT
    have new : ObjOk X.prog X.w (upd H s.heap.objs.size (.tup [.ref q, v])) h'' s.heap.objs.size (.tup [.ref q, v]) :=
      ⟨by show 2 ≤ sizeLine; decide, [en.key, en.val], .cons hkey (.cons rv .nil), ⟨_, hT2, rfl, _, rfl⟩⟩
    have I1 : Inv X pins σ (upd H s.heap.objs.size (.tup [.ref q, v])) { s with heap := h'' } :=
      I.turnedNew (t' := s.toks) (ch := [it]) (fun b ob hb e => (sb.2 b (by simpa using hb)).trans (hk b ob (by simpa using hb) e)) hf (Nat.le_refl _) new
    refine ⟨.ref s.heap.objs.size, _, I1, rfl, ⟨_, k, v, q, hkv, rfl, I.hok.fresh (Nat.le_refl _), hq, rfl⟩, ⟨en.key, en.val, ?_⟩, fun b hb => ?_⟩
    · rw [← hsz]; exact he'
    · have e : b = it := by simpa using hb
      rw [e, upd_ne (Nat.ne_of_lt hlt)]
      exact (hf it (by simp)).1
  done := by
    intro X hP hw hK hc i pins s σ H E I hf st hg
    subst hP hw hK
    obtain ⟨hd, hi⟩ := hg
    obtain ⟨f0, f1, f2, f3, f4, f5⟩ := hf it (by simp)
    obtain ⟨hs, hgd, hx, es', ep', hdt, hsz, ent⟩ := frzT2 I hd
    obtain ⟨rfl, rfl⟩ := dict_ep hod hdt
    obtain ⟨ok, ov, he⟩ := st
    rw [← hsz] at he
    exact DT.endI (I.ok.hd hc) he ⟨o, hgd, hx, hdt⟩ (by omega) fun h' eb => ⟨rfl, I.turned (t' := s.toks) (fun b ob hb e => eb b ob hb e) f0 f1 f3 f4 f5⟩
  self := fun A i s Q E st h => let ⟨_, _, e⟩ := st; PySem.W.kcp_self e h
end
def iItemsT (td : TE) : TI := fun σ H R => td σ H fun x H1 => ∃ d o kvs, x = .ref d ∧ H1 d = some (.frz o (.dT kvs)) ∧ R (Itit d o kvs) H1
section
variable {X : Cx} {e : Expr} {td : TE} {apos cpos : Pos}
theorem pi_itemsT {elts : List Expr} {kk : Nat} {tpos : Pos} (he : PE X e td) (hbase : attributeBase e "items" X.env (eval e X.env) = eval e X.env := by rfl) (hline : (apos.endLine == cpos.line) = true := by rfl) :
    PI X (.Tuple elts kk tpos) (.Call (.Attribute e "items" apos) [] [] cpos) (iItemsT td) := by
  refine ⟨fun pins s σ H R I h => ?_⟩
  refine wpAny_Call_method (T := "dict") (id := "dict.items") hbase rfl hline F.plainAttrs_dict F.slot_dict_items F.type_dict_items (thn (he.run pins s σ H _ I h) fun u s1 ⟨x, H1, I1, rx, d, o, kvs, ex, hd, q⟩ => ?_)
  subst ex
  obtain rfl : u = Value.ref d := rx
  obtain ⟨hs, hgd, hx, es, ep, hdt, hsz, ent⟩ := frzT2 I1 hd
  have hraw : DT.Raw s1.heap d es ep := ⟨o, hgd, hx, hdt⟩
  refine ⟨hraw.typeIs, fun o' ho' => ?_, ?_⟩
  · cases ho'
    exact ⟨o, hgd, hx.2.1⟩
  have I2 : Inv X pins σ H1 { s1 with heap := s1.heap.push { cls := .type "dict_items", data := .fields #[.ref d] } } := I1.kept (t' := s1.toks) fun b ob q => Heap.get?_push_of_some _ q
  have fin : wpAny (model X.prog X.w) X.A (pyIter (.ref s1.heap.objs.size)) (PIE X pins σ (.Tuple elts kk tpos) R) X.xe { s1 with heap := s1.heap.push { cls := .type "dict_items", data := .fields #[.ref d] } } := by
    refine DT.iterI (d := d) ⟨_, Heap.get?_push_size _ rfl, rfl, rfl⟩ (hraw.push _) (pi_one (tk := s1.toks) I2 _ (turn_itemsT _ hdt) ⟨.none, .none, ?_⟩ q)
    rw [← hsz]
    exact Heap.get?_push_size _ rfl
  show wpAny _ _ (callWith cpos (.builtin "dict.items") [.ref d] [] []) _ X.xe s1
  exact method_meetsIn F.slot_dict_items F.entry_dict_items rfl (PySem.evalArgs_none ⟨rfl, hraw.typeIs, F.args_dict_items_1 _, _, DT.meetsItems (es := es) (ep := ep) hs, hraw, fin⟩)
end
def iKeysT (td : TE) : TI := fun σ H R => td σ H fun x H1 => ∃ d o kvs, x = .ref d ∧ H1 d = some (.frz o (.dT kvs)) ∧ R (Itkt d o kvs) H1
section
variable {X : Cx} {tg e : Expr} {td : TE} {apos cpos : Pos}
theorem pi_keysT (he : PE X e td) (hbase : attributeBase e "keys" X.env (eval e X.env) = eval e X.env := by rfl) (hline : (apos.endLine == cpos.line) = true := by rfl) : PI X tg (.Call (.Attribute e "keys" apos) [] [] cpos) (iKeysT td) := by
  refine ⟨fun pins s σ H R I h => ?_⟩
  refine wpAny_Call_method (T := "dict") (id := "dict.keys") hbase rfl hline F.plainAttrs_dict F.slot_dict_keys F.type_dict_keys (thn (he.run pins s σ H _ I h) fun u s1 ⟨x, H1, I1, rx, d, o, kvs, ex, hd, q⟩ => ?_)
  subst ex
  obtain rfl : u = Value.ref d := rx
  obtain ⟨hs, hgd, hx, es, ep, hdt, hsz, ent⟩ := I1.frzT hd
  have hraw : s1.heap.DictRaw d es ep := ⟨o, hgd, hx, hdt⟩
  refine ⟨hraw.typeIs, fun o' ho' => ?_, ?_⟩
  · cases ho'
    exact ⟨o, hgd, hx.2.1⟩
  have I2 : Inv X pins σ H1 { s1 with heap := s1.heap.push { cls := .type "dict_keys", data := .fields #[.ref d] } } := I1.kept (t' := s1.toks) fun b ob q => Heap.get?_push_of_some _ q
  have fin : wpAny (model X.prog X.w) X.A (pyIter (.ref s1.heap.objs.size)) (PIE X pins σ tg R) X.xe { s1 with heap := s1.heap.push { cls := .type "dict_keys", data := .fields #[.ref d] } } := by
    refine wpAny_pyIter_keys_raw (d := d) ⟨_, Heap.get?_push_size _ rfl, rfl, rfl⟩ (hraw.push _) (pi_one (tk := s1.toks) I2 _ (turn_keysT _ hdt) ⟨_, Heap.get?_push_size _ rfl, rfl, ?_⟩ q)
    rw [hsz] <;> rfl
  show wpAny _ _ (callWith cpos (.builtin "dict.keys") [.ref d] [] []) _ X.xe s1
  exact method_meetsIn F.slot_dict_keys F.entry_dict_keys rfl (PySem.evalArgs_none ⟨rfl, hraw.typeIs, F.args_dict_keys_1 _, _, meets_dict_keys_raw d hs, ⟨⟨es, ep, hraw⟩, fin⟩⟩)
end
section
variable {prog : Program} {w : World} {κ : Type} [DecidableEq κ] {knd : HeapKind prog w κ} {A : Around} {E : Value → Shared → Prop} {s : Shared}
theorem call_dictH {o : Addr} {more : List (κ × Addr × Value)} {Q : Value → Shared → Prop} (hu : ∀ A' : Around, A'.units ≤ A.units + 2 → knd.room A') (hoS : (o == sysModules) = false) (ho : s.heap.DictOfH knd o more) (hsz : more.length ≤ sizeLine)
    (hty : ∀ x ∈ more, s.TypeIs (.ref x.2.1) "tuple") (hap : (more.map fun x => knd.hash x.1).Nodup) (hst : ∀ x ∈ more, knd.is (s.heap.push { cls := .type "dict", data := .dict #[] }) x.1 x.2.1)
    (h : ∀ h', h'.DictOfH knd s.heap.objs.size more → Heap.SameBut s.heap.objs.size (s.heap.push { cls := .type "dict", data := .dict #[] }) h' → Q (.ref s.heap.objs.size) { s with heap := h' }) :
    wpAny (model prog w) A (call (.type "dict") [.ref o]) Q E s := by
  refine callType_codes (Q₁ := fun obj s₁ => obj = .ref s.heap.objs.size ∧ s₁ = { s with heap := s.heap.push { cls := .type "dict", data := .dict #[] } }) F.kt_called_dict (F.kt_typeCall_dict_1 _) F.entry_dict_init (kt_code_dict_new _ ⟨rfl, rfl⟩) ?_
  rintro obj s₁ ⟨rfl, rfl⟩
  have hnew : (s.heap.push { cls := .type "dict", data := .dict #[] }).DictOfH knd s.heap.objs.size [] := Heap.DictOfH.new s.heap
  have hdo : s.heap.objs.size ≠ o := by
    obtain ⟨_, _, _, hg, _⟩ := ho
    exact fun e => absurd (Heap.lt_size hg) (by rw [e]; exact Nat.lt_irrefl _)
  have ho' : (s.heap.push { cls := .type "dict", data := .dict #[] }).DictOfH knd o more := by
    obtain ⟨ob, es, ep, h1, h2, h3, h4, h5, h6⟩ := ho
    exact ⟨ob, es, ep, Heap.get?_push_of_some _ h1, h2, h3, h4, hst, h6⟩
  have hn := ho.nodup
  refine ⟨hnew.typeIs, F.args_dict_init_2 _ _, ?_⟩
  unfold Builtin.«dict.__init__»
  refine wpAny_bind ?_
  unfold Builtin.Dict.selfAndRest
  refine wpAny_bind (wpAny_notOrdered_dict hnew.typeIs ?_)
  show wpAny _ _ (pure (s.heap.objs.size, [Value.ref o])) _ _ _
  refine wpAny_pure ?_
  show wpAny _ _ (Builtin.Dict.updateFrom "dict.__init__" s.heap.objs.size (.ref o) [] .none) _ _ _
  unfold Builtin.Dict.updateFrom
  refine wpAny_bind (wpAny_typeOf ho'.typeIs ?_)
  rw [if_neg (by decide)]
  refine wpAny_bind ?_
  unfold Builtin.Dict.merge
  refine wpAny_bind ?_
  unfold Builtin.Dict.readDirectly
  refine wpAny_bind (wpAny_isInstance ho'.typeIs isSubtype_dict_dict ?_)
  simp only [Bool.not_true, Bool.false_eq_true, if_false]
  refine wpAny_bind (wpAny_specialOf ho'.typeIs F.slot_dict_iter.lookup (wpAny_pure ?_))
  simp only [beq_self_eq_true, if_true]
  refine wpAny_bind (wpAny_pure ?_)
  refine wpAny_mergeDict_heap (hsz := by simpa using hsz) (hu _ ?_) hdo hoS hnew ho' (.inr ⟨fun x hx => ?_, hap⟩) fun h' hd' _ hs' => ?_
  · exact Nat.le_refl _
  · obtain ⟨ob, h1, h2⟩ := hty x hx
    exact ⟨ob, Heap.get?_push_of_some _ h1, h2⟩
  show wpAny _ _ (Builtin.Dict.addKeywords s.heap.objs.size [] >>= _) _ _ _
  rw [storedAllH_nil_of_nodup more hn] at hd'
  exact wpAny_bind (wpAny_pure (wpAny_pure ⟨rfl, h h' hd' hs'⟩))
end
/-- the hash of a pair of small numbers -/
def ph (p : Int × Int) : Int := reduceHash (Builtin.Tuple.tupleHashOf [hashInt p.1, hashInt p.2])
def smalls : List (Int × Int) := (List.range 16).flatMap fun a : Nat => (List.range 16).map fun b : Nat => ((a : Int) - 1, (b : Int) - 1)
theorem ph_nodup : (smalls.map ph).Nodup := by decide +kernel
def smallP (p : Int × Int) : Prop := (-1 ≤ p.1 ∧ p.1 ≤ 14) ∧ (-1 ≤ p.2 ∧ p.2 ≤ 14)
theorem mem_smalls {p : Int × Int} (h : smallP p) : p ∈ smalls := by
  unfold smalls
  rw [List.mem_flatMap]
  obtain ⟨a, b⟩ := p
  obtain ⟨⟨h1, h2⟩, h3, h4⟩ := h
  simp only at h1 h2 h3 h4
  refine ⟨(a + 1).toNat, List.mem_range.mpr (by omega), List.mem_map.mpr ⟨(b + 1).toNat, List.mem_range.mpr (by omega), ?_⟩⟩
  congr 1 <;> omega
theorem inj_of_nodup_map {α β : Type} {f : α → β} : ∀ {l : List α}, (l.map f).Nodup → ∀ {x y}, x ∈ l → y ∈ l → f x = f y → x = y
  | [], _, x, y, h, _, _ => nomatch h
  | z :: l, h, x, y, hx, hy, e => by
    rw [List.map_cons, List.nodup_cons] at h
    rcases List.mem_cons.mp hx with ex | mx
    · rcases List.mem_cons.mp hy with ey | my
      · rw [ex, ey]
      · rw [ex] at e
        exact absurd (List.mem_map.mpr ⟨y, my, e.symm⟩) h.1
    · rcases List.mem_cons.mp hy with ey | my
      · rw [ey] at e
        exact absurd (List.mem_map.mpr ⟨x, mx, e⟩) h.1
      · exact inj_of_nodup_map h.2 mx my e
/-- a pair as a key -/
def kk (p : IP) : List L2.Key := [.inl p.1, .inl p.2]
theorem kk_inj {p q : IP} (h : kk p = kk q) : p = q := by
  unfold kk at h
  injection h with h1 h2
  injection h2 with h2 _
  injection h1 with h1
  injection h2 with h2
  exact Prod.ext h1 h2
theorem ph_is {prog : Program} {w : World} (p : IP) : (tupleKind (mixKind prog w)).hash (kk p) = ph p := rfl
/-- dict(d) of a dict with keys that are pairs of small numbers -/
def rDictT : List V → Hp → VK → Prop := fun xs H Q => ∃ (a : Addr) (kvs : List (List L2.Key × V)), xs = [.ref a] ∧ Rd H a (.dT kvs) ∧ (∀ e ∈ kvs, ∃ p, e.1 = kk p ∧ smallP p) ∧ ∀ p, H p = none → Q (.ref p) (upd H p (.dT kvs))
theorem KT_mem {H : Hp} : ∀ {kvs : List (List L2.Key × V)} {xs : List (List L2.Key × Addr × Value)}, KT H kvs xs → ∀ x ∈ xs, ∃ v, (x.1, v) ∈ kvs ∧ H x.2.1 = some (.tup (x.1.map kV))
  | [], _, h, x, hx => by cases h; exact nomatch hx
  | e :: kvs, _, h, x, hx => by
    cases h with
    | cons h1 h2 =>
      rcases List.mem_cons.mp hx with rfl | hx
      · exact ⟨e.2, List.mem_cons.mpr (.inl (by rw [← h1.1])), by rw [← h1.1]; exact h1.2.1⟩
      · obtain ⟨v, m, q⟩ := KT_mem h2 x hx
        exact ⟨v, List.mem_cons_of_mem _ m, q⟩
theorem KT_stay {H H' : Hp} (k : ∀ t ys, H t = some (.tup ys) → H' t = some (.tup ys)) : ∀ {kvs : List (List L2.Key × V)} {xs : List (List L2.Key × Addr × Value)}, KT H kvs xs → KT H' kvs xs
  | [], _, h => by cases h; exact .nil
  | e :: kvs, _, h => by
    cases h with
    | cons h1 h2 => exact .cons ⟨h1.1, k _ _ h1.2.1, h1.2.2⟩ (KT_stay k h2)
theorem nodup_map_inj {α β : Type} {f : α → β} : ∀ {l : List α}, (∀ x ∈ l, ∀ y ∈ l, f x = f y → x = y) → l.Nodup → (l.map f).Nodup
  | [], _, _ => List.nodup_nil
  | x :: l, h, n => by
    rw [List.nodup_cons] at n
    rw [List.map_cons, List.nodup_cons]
    refine ⟨fun m => ?_, nodup_map_inj (fun a ha b hb => h a (List.mem_cons_of_mem _ ha) b (List.mem_cons_of_mem _ hb)) n.2⟩
    obtain ⟨y, hy, e⟩ := List.mem_map.mp m
    have := h y (List.mem_cons_of_mem _ hy) x List.mem_cons_self e
    subst this
    exact n.1 hy
section
variable {X : Cx}
theorem call_dictT (hu : X.A.units + 2 < cLine) : CallR X (.type "dict") rDictT := by
  intro pins s σ H xs us Q I r q
  obtain ⟨a, kvs, ex, hd, hk, q⟩ := q
  subst ex
  obtain ⟨u, eu, rx⟩ := vals1 r
  subst eu
  cases rx
  obtain ⟨z, lo, vs, rel, dd⟩ := dt_rd I.hok hd
  have keyOk : ∀ x ∈ vs, ∃ p, x.1 = kk p ∧ smallP p := fun x hx => by
    obtain ⟨v, m, _⟩ := KT_mem rel x hx
    exact hk _ m
  have hap : (vs.map fun x => (tupleKind (mixKind X.prog X.w)).hash x.1).Nodup := by
    have e : (vs.map fun x => (tupleKind (mixKind X.prog X.w)).hash x.1) = (vs.map (·.1)).map (tupleKind (mixKind X.prog X.w)).hash := by rw [List.map_map] <;> rfl
    rw [e]
    refine nodup_map_inj (fun x hx y hy exy => ?_) dd.nodup
    obtain ⟨x', hx', rfl⟩ := List.mem_map.mp hx
    obtain ⟨y', hy', rfl⟩ := List.mem_map.mp hy
    obtain ⟨p, ep, sp⟩ := keyOk x' hx'
    obtain ⟨p', ep', sp'⟩ := keyOk y' hy'
    rw [ep, ep'] at exy ⊢
    rw [ph_is, ph_is] at exy
    rw [inj_of_nodup_map ph_nodup (mem_smalls sp) (mem_smalls sp') exy]
  have tupOf : ∀ x ∈ vs, ∃ its : List Value, IsTup s.heap x.2.1 its.toArray := fun x hx => by
    obtain ⟨v, m, e⟩ := KT_mem rel x hx
    obtain ⟨_, its, _, it⟩ := (show ObjOk X.prog X.w H s.heap x.2.1 (.tup (x.1.map kV)) from I.hok _ _ e)
    exact ⟨its, it⟩
  refine call_dictH (knd := tupleKind (mixKind X.prog X.w)) (fun A' hA => show A'.units < cLine by omega) lo dd (by rw [← Paired.length rel]; exact z) (fun x hx => ?_) hap (fun x hx => ?_) fun h' d' hs => ?_
  · obtain ⟨its, o, h1, h2, _⟩ := tupOf x hx
    exact ⟨o, h1, h2⟩
  · obtain ⟨_, _, _, _, _, _, _, his, _⟩ := dd
    obtain ⟨o, items, n, h1, h2, h3, h4⟩ := his x hx
    exact ⟨o, items, n, Heap.get?_push_of_some _ h1, h2, h3, h4⟩
  have hm : (s.heap.objs.size == sysModules) = false := beq_eq_false_iff_ne.mpr (Nat.ne_of_gt I.big)
  have hfree := I.hok.fresh (Nat.le_refl _)
  obtain ⟨o, es, ep, g1, g2, g3, g4, _, g6⟩ := d'
  refine ⟨.ref s.heap.objs.size, upd H s.heap.objs.size (.dT kvs), I.laid (t' := s.toks) (fun b u e => (hs.2 b (Nat.ne_of_lt (Heap.lt_size e))).trans (Heap.get?_push_of_some _ e)) (Nat.le_refl _)
    (show ObjOk X.prog X.w _ _ _ (.dT kvs) from ⟨z, hm, vs, KT_stay (fun t ys e => by rw [upd_ne (ne_of_none e hfree)]; exact e) rel, o, es, ep, g1, g2, g3, g4, g6⟩), rfl, q _ hfree⟩
end
theorem _root_.L2.Room.u2 {A : Around} {k : Nat} (hr : Room k A) : A.units + 2 < cLine := by have := hr.un; omega
end Pm
namespace Pm
open PySem PySem.Spec PyProof.Rows L2
/-- a pair of numbers: tracked, or written in the top -/
def FrV (K : PySem.W.Frag) (H : Hp) (v : V) (p : IP) : Prop := ∃ t, v = .ref t ∧ (H t = some (.tup [.int p.1, .int p.2]) ∨ ∀ H', SqT K H' t [.int p.1, .int p.2])
section
variable {K : PySem.W.Frag} {H H' : Hp} {v : V} {p q : IP}
theorem FrV.keep (k : Keeps H H') (h : FrV K H v p) : FrV K H' v p := by
  obtain ⟨t, e, h | h⟩ := h
  · exact ⟨t, e, .inl (k _ _ h)⟩
  · exact ⟨t, e, .inr h⟩
theorem FrV.tup {t : Addr} (h : FrV K H (.ref t) p) : SqT K H t [.int p.1, .int p.2] := by
  obtain ⟨t, e, h | h⟩ := h
  · cases e; exact SqT.of h
  · cases e; exact h H
theorem FrV.of (h : Pr H v p) : FrV K H v p := by
  obtain ⟨t, e, h⟩ := h
  exact ⟨t, e, .inl h⟩
theorem FrV.dp (h : FrV K H v p) : Dp K H v (pD p) := by
  obtain ⟨t, rfl, h⟩ := h
  exact .tup (FrV.tup ⟨t, rfl, h⟩) (.cons (.int _) (.cons (.int _) .nil))
end
theorem w_neFr {K : PySem.W.Frag} {H : Hp} {Q : VK} {v u : V} {p q : IP} (h1 : FrV K H v p) (h2 : FrV K H u q) (h : Q (.bl (!decide (p = q))) H) : rNeD K v u H Q :=
  ⟨_, _, h1.dp, h2.dp, shaped_pD _, shaped_pD _, by rw [eqv_pD]; exact h⟩
/-- the fraction as a pair -/
def rp (r : Rat) : IP := (r.num, (r.den : Int))
def En (K : PySem.W.Frag) (H : Hp) (L : IP → IP) (e : List L2.Key × V) (k : IP) : Prop := e.1 = kk k ∧ FrV K H e.2 (L k)
/-- the dict at d: its keys in order, and what each holds -/
structure LD (K : PySem.W.Frag) (H : Hp) (d : Addr) (ks : List IP) (L : IP → IP) : Prop where
  nd : ks.Nodup
  ex : ∃ es, H d = some (.dT es) ∧ All2 (En K H L) es ks
def updF (L : IP → IP) (k : IP) (p : IP) : IP → IP := fun j => if j = k then p else L j
theorem updF_same {L : IP → IP} {k p : IP} : updF L k p k = p := if_pos rfl
theorem updF_ne {L : IP → IP} {k p j : IP} (h : j ≠ k) : updF L k p j = L j := if_neg h
def putk (ks : List IP) (k : IP) : List IP := if k ∈ ks then ks else ks ++ [k]
theorem mem_putk {ks : List IP} {k j : IP} : j ∈ putk ks k ↔ j ∈ ks ∨ j = k := by
  unfold putk
  split
  · rename_i h
    constructor
    · exact .inl
    · rintro (z | rfl)
      · exact z
      · exact h
  · rw [List.mem_append, List.mem_singleton]
theorem putk_new {ks : List IP} {k : IP} (h : k ∉ ks) : putk ks k = ks ++ [k] := if_neg h
theorem putk_old {ks : List IP} {k : IP} (h : k ∈ ks) : putk ks k = ks := if_pos h
theorem putk_nodup {ks : List IP} {k : IP} (h : ks.Nodup) : (putk ks k).Nodup := by
  unfold putk
  split
  · exact h
  · rename_i n
    rw [List.nodup_append]
    exact ⟨h, by simp, fun a ha b hb => by rw [List.mem_singleton.mp hb]; rintro rfl; exact n ha⟩
theorem putk_len (ks : List IP) (k : IP) : (putk ks k).length ≤ ks.length + 1 := by
  unfold putk
  split
  · omega
  · rw [List.length_append, List.length_singleton]; exact Nat.le_refl _
section
variable {K : PySem.W.Frag} {H H' : Hp} {L : IP → IP}
theorem ens_keep (k : Keeps H H') {es : List (List L2.Key × V)} {ks : List IP} (h : All2 (En K H L) es ks) : All2 (En K H' L) es ks := h.mono fun _ _ q => ⟨q.1, q.2.keep k⟩
theorem ens_congr {L' : IP → IP} : ∀ {es : List (List L2.Key × V)} {ks : List IP}, (∀ k ∈ ks, L' k = L k) → All2 (En K H L) es ks → All2 (En K H L') es ks
  | [], [], _, _ => trivial
  | _ :: _, _ :: _, e, h => ⟨⟨h.1.1, by rw [e _ List.mem_cons_self]; exact h.1.2⟩, ens_congr (fun k hk => e k (List.mem_cons_of_mem _ hk)) h.2⟩
theorem ens_val : ∀ {es : List (List L2.Key × V)} {ks : List IP}, All2 (En K H L) es ks → ∀ k, (k ∉ ks → valV es (kk k) = none) ∧ (k ∈ ks → ∃ v, valV es (kk k) = some v ∧ FrV K H v (L k))
  | [], [], _, k => ⟨fun _ => rfl, fun h => nomatch h⟩
  | e :: es, j :: ks, h, k => by
    have ih := ens_val h.2 k
    by_cases z : j = k
    · subst z
      refine ⟨fun n => absurd List.mem_cons_self n, fun _ => ⟨e.2, valV_pos h.1.1, h.1.2⟩⟩
    · have ne : ¬ e.1 = kk k := fun q => z (kk_inj (h.1.1.symm.trans q))
      rw [valV_neg ne]
      refine ⟨fun n => ih.1 fun m => n (List.mem_cons_of_mem _ m), fun m => ih.2 ?_⟩
      rcases List.mem_cons.mp m with q | q
      · exact absurd q.symm z
      · exact q
theorem ens_some {es : List (List L2.Key × V)} {ks : List IP} (h : All2 (En K H L) es ks) (k : IP) : (valV es (kk k)).isSome = decide (k ∈ ks) := by
  obtain ⟨h1, h2⟩ := ens_val h k
  by_cases m : k ∈ ks
  · obtain ⟨v, e, _⟩ := h2 m
    rw [e, decide_eq_true m] <;> rfl
  · rw [h1 m, decide_eq_false m] <;> rfl
theorem ens_map {v : V} {k p : IP} (hv : FrV K H v p) : ∀ {es : List (List L2.Key × V)} {ks : List IP}, All2 (En K H L) es ks → All2 (En K H (updF L k p)) (es.map fun kv => if kv.1 = kk k then (kv.1, v) else kv) ks
  | [], [], _ => trivial
  | e :: es, j :: ks, h => by
    refine ⟨?_, ens_map hv h.2⟩
    by_cases z : j = k
    · subst z
      show En K H _ (if e.1 = kk j then (e.1, v) else e) j
      rw [if_pos h.1.1]
      exact ⟨h.1.1, by rw [updF_same]; exact hv⟩
    · have ne : ¬ e.1 = kk k := fun q => z (kk_inj (h.1.1.symm.trans q))
      show En K H _ (if e.1 = kk k then (e.1, v) else e) j
      rw [if_neg ne]
      exact ⟨h.1.1, by rw [updF_ne z]; exact h.1.2⟩
theorem ens_put {v : V} {k p : IP} (hv : FrV K H v p) {es : List (List L2.Key × V)} {ks : List IP} (h : All2 (En K H L) es ks) : All2 (En K H (updF L k p)) (putK es (kk k) v) (putk ks k) := by
  unfold putK putk
  rw [valV_any, ens_some h]
  by_cases m : k ∈ ks
  · rw [decide_eq_true m, if_pos rfl, if_pos m]
    exact ens_map hv h
  · rw [decide_eq_false m, if_neg Bool.false_ne_true, if_neg m]
    refine All2.snoc (ens_congr (fun j hj => updF_ne (fun z => m (z ▸ hj))) h) ⟨rfl, by rw [updF_same]; exact hv⟩
end
section
variable {K : PySem.W.Frag} {H H' : Hp} {d b : Addr} {ks : List IP} {L : IP → IP} {k : IP} {Q : VK} {nx : L2.St → Hp → Prop} {σ : L2.St}
theorem LD.same (h : LD K H d ks L) (s : Same H H') : LD K H' d ks L := by
  obtain ⟨n, es, h1, h2⟩ := h
  exact ⟨n, es, s _ _ h1, ens_keep (keeps s) h2⟩
theorem LD.keep {o : HO} (h : LD K H d ks L) (k : Keeps H H') (e : H' d = H d) : LD K H' d ks L := by
  obtain ⟨n, es, h1, h2⟩ := h
  exact ⟨n, es, by rw [e]; exact h1, ens_keep k h2⟩
theorem LD.congr {L' : IP → IP} (h : LD K H d ks L) (e : ∀ k ∈ ks, L' k = L k) : LD K H d ks L' := by
  obtain ⟨n, es, h1, h2⟩ := h
  exact ⟨n, es, h1, ens_congr e h2⟩
theorem ld_nil (h : H d = some (.dT [])) (L : IP → IP) : LD K H d [] L := ⟨List.nodup_nil, [], h, trivial⟩
theorem kk_map (p : IP) : (kk p).map kV = [.int p.1, .int p.2] := rfl
theorem Pr.kkey (h : Pr H (.ref b) k) : H b = some (.tup ((kk k).map kV)) := by
  obtain ⟨t, e, h⟩ := h
  cases e
  exact h
theorem w_ldIn (h : LD K H d ks L) (hb : Pr H (.ref b) k) (q : Q (.bl (decide (k ∈ ks))) H) : DInK (.ref b) Q (.ref d) H := by
  obtain ⟨n, es, h1, h2⟩ := h
  exact w_diT h1 hb.kkey (by rw [ens_some h2]; exact q)
theorem w_ldNotIn (h : LD K H d ks L) (hb : Pr H (.ref b) k) (q : Q (.bl (!decide (k ∈ ks))) H) : DNotInK (.ref b) Q (.ref d) H := by
  obtain ⟨n, es, h1, h2⟩ := h
  exact w_dniT h1 hb.kkey (by rw [ens_some h2]; exact q)
theorem w_ldGet (h : LD K H d ks L) (hb : Pr H (.ref b) k) (m : k ∈ ks) (q : ∀ t, FrV K H (.ref t) (L k) → Q (.ref t) H) : DGK (.ref d) Q (.ref b) H := by
  obtain ⟨n, es, h1, h2⟩ := h
  obtain ⟨v, e, hv⟩ := (ens_val h2 k).2 m
  obtain ⟨t, rfl, ht⟩ := id hv
  exact w_dgT h1 hb.kkey e (q t hv)
theorem w_ldPut {v : V} {p : IP} (h : LD K H d ks L) (hb : Pr H (.ref b) k) (hv : FrV K H v p) (hl : ks.length < 1000000) (q : ∀ es, LD K (upd H d (.dT es)) d (putk ks k) (updF L k p) → Keeps H (upd H d (.dT es)) → nx σ (upd H d (.dT es))) : DPK nx σ v (.ref d) (.ref b) H := by
  obtain ⟨n, es, h1, h2⟩ := h
  have k0 : Keeps H (upd H d (.dT (putK es (kk k) v))) := keeps_dT h1
  exact w_dpT h1 hb.kkey (size_lt (by rw [h2.length]; omega)) (q _ ⟨putk_nodup n, _, upd_same, ens_keep k0 (ens_put hv h2)⟩ k0)
theorem w_ldLen (h : LD K H d ks L) (q : Q (.int ks.length) H) : rLenT [.ref d] H Q := by
  obtain ⟨n, es, h1, h2⟩ := h
  exact ⟨d, es, rfl, h1, by rw [h2.length]; exact q⟩
theorem w_ldDict (h : LD K H d ks L) (sm : ∀ k ∈ ks, smallP k) (q : ∀ p es, H p = none → LD K (upd H p (.dT es)) p ks L → Q (.ref p) (upd H p (.dT es))) : rDictT [.ref d] H Q := by
  obtain ⟨n, es, h1, h2⟩ := h
  refine ⟨d, es, rfl, .inl h1, fun e he => ?_, fun p hp => q p es hp ⟨n, es, upd_same, ens_keep (keeps (same_new hp _)) h2⟩⟩
  obtain ⟨k, hk, r⟩ := h2.mem he
  exact ⟨k, r.1, sm k hk⟩
theorem w_isiLd {nm : String} {bb : Bool} (h : LD K H d ks L) (e : kitB "dict" nm = some bb) (q : Q (.bl bb) H) : rIsi K [.ref d, .ty nm] H Q := by
  obtain ⟨n, es, h1, h2⟩ := h
  exact ⟨_, _, _, _, bb, rfl, .ty nm, .base (.dT h1), kit_ty e, q⟩
/-- heaps alike but for the object at d, which is locked -/
theorem same_lock {H0 H H1 : Hp} {d : Addr} {od : Obj} {u : HO} (hd : H0 d = some u) (s : Same (upd H0 d (.frz od u)) H1) : Same H0 (upd H1 d u) := fun b o e => by
  by_cases z : b = d
  · subst z
    rw [upd_same, ← hd]; exact e
  · rw [upd_ne z]
    exact s _ _ (by rw [upd_ne z]; exact e)
theorem lock_keeps {H0 H1 : Hp} {d : Addr} {od : Obj} {es : List (List L2.Key × V)} (hd : H0 d = some (.dT es)) (s : Same (upd H0 d (.frz od (.dT es))) H1) : Keeps H0 H1 := fun t xs e => by
  refine s _ _ ?_
  rw [upd_ne (ne_of e hd (fun z => nomatch z))]
  exact e
theorem lock_get {H0 H1 : Hp} {d b : Addr} {od : Obj} {u o : HO} (s : Same (upd H0 d (.frz od u)) H1) (e : H0 b = some o) (n : b ≠ d) : H1 b = some o := s _ _ (by rw [upd_ne n]; exact e)
theorem lock_mono {H0 H : Hp} {d : Addr} {od : Obj} {u : HO} (s : Same H0 H) : Same (upd H0 d (.frz od u)) (upd H d (.frz od u)) := fun b o e => by
  by_cases z : b = d
  · subst z
    rw [upd_same] at e ⊢; exact e
  · rw [upd_ne z] at e ⊢
    exact s _ _ e
/-- an end behind a locked walk -/
def LkE {α : Type} (d : Addr) (od : Obj) (u : HO) (R : α → Hp → Prop) : α → Hp → Prop := fun x H' => H' d = some (.frz od u) ∧ R x (upd H' d u)
end
section
variable {K : PySem.W.Frag} {bk ct nx : L2.St → Hp → Prop} {rt : VK} {σ : L2.St} {g : TG} {t : TS} {L : IP → IP} {ks : List IP} {d : Addr} {td : TE} {H0 H : Hp}
/-- for .. in d.items() -/
theorem w_forItems (hd0 : LD K H0 d ks L) (s0 : Same H0 H) (Iv : Obj → HO → Nat → L2.St → Hp → Prop) (htd : ∀ od u Q, u = u → H d = some u → Q (V.ref d) (upd H d (.frz od u)) → td σ (upd H d (.frz od u)) Q)
    (h0 : ∀ od u, H0 d = some u → Iv od u 0 σ (upd H d (.frz od u)))
    (hs : ∀ od es i k σ H1, H0 d = some (.dT es) → ks[i]? = some k → Same (upd H0 d (.frz od (.dT es))) H1 → Keeps H0 H1 → Iv od (.dT es) i σ H1 → ∀ (T q : Addr) (v : V), H1 T = none → Pr H1 (.ref q) k → FrV K H1 v (L k) →
      g (.ref T) σ (upd H1 T (.tup [.ref q, v])) fun σ2 H2 => t ⟨fun σ' H' => Same (upd H0 d (.frz od (.dT es))) H' ∧ Iv od (.dT es) (i + 1) σ' H', LkE d od (.dT es) rt, LkE d od (.dT es) nx, fun σ' H' => Same (upd H0 d (.frz od (.dT es))) H' ∧ Iv od (.dT es) (i + 1) σ' H'⟩ σ2 H2)
    (he : ∀ od es σ H1, H0 d = some (.dT es) → Same (upd H0 d (.frz od (.dT es))) H1 → Iv od (.dT es) ks.length σ H1 → Same H0 (upd H1 d (.dT es)) → nx σ (upd H1 d (.dT es))) :
    tLock (tFor (iItemsT td) g t) ⟨nx, rt, bk, ct⟩ σ H := by
  obtain ⟨n, es, h1, h2⟩ := hd0
  have hd : H d = some (.dT es) := s0 _ _ h1
  refine ⟨d, .dT es, hd, True.intro, fun od => ?_⟩
  show iItemsT td σ _ _
  refine htd od _ _ rfl hd ⟨d, od, es, rfl, upd_same, ?_⟩
  refine ⟨fun i m σ' H' => i + m = es.length ∧ Same (upd H0 d (.frz od (.dT es))) H' ∧ Iv od (.dT es) i σ' H', ⟨es.length, by omega, lock_mono s0, h0 _ _ h1⟩, ?_⟩
  rintro i m σ' H' ⟨hm, s1, iv⟩
  have lk : H' d = some (.frz od (.dT es)) := s1 _ _ upd_same
  rcases Nat.eq_zero_or_pos m with z | z
  · subst z
    refine .inl ⟨⟨lk, by omega⟩, lk, ?_⟩
    have e : i = ks.length := by rw [← h2.length]; omega
    subst e
    exact he od es σ' H' h1 s1 iv (same_lock (H := H) h1 s1)
  · refine .inr ⟨⟨lk, by omega⟩, _, fun σ2 H2 q => ⟨m - 1, by omega, by omega, q⟩, ?_⟩
    rintro x H2 ⟨T, k, v, q, ek, rfl, hT, hq, rfl⟩
    have kp := lock_keeps h1 s1
    obtain ⟨j, hj, r1, r2⟩ := h2.get ek
    have hq' : Pr H' (.ref q) j := by
      simp only at r1
      rw [r1, kk_map] at hq
      exact ⟨q, rfl, hq⟩
    exact hs od es i j σ' H' h1 hj s1 kp iv T q v hT hq' (r2.keep kp)
/-- for .. in d.keys() -/
theorem w_forKeysT (hd0 : LD K H0 d ks L) (s0 : Same H0 H) (Iv : Obj → HO → Nat → L2.St → Hp → Prop) (htd : ∀ od u Q, u = u → H d = some u → Q (V.ref d) (upd H d (.frz od u)) → td σ (upd H d (.frz od u)) Q)
    (h0 : ∀ od u, H0 d = some u → Iv od u 0 σ (upd H d (.frz od u)))
    (hs : ∀ od es i k σ H1, H0 d = some (.dT es) → ks[i]? = some k → Same (upd H0 d (.frz od (.dT es))) H1 → Keeps H0 H1 → Iv od (.dT es) i σ H1 → ∀ (q : Addr), Pr H1 (.ref q) k →
      g (.ref q) σ H1 fun σ2 H2 => t ⟨fun σ' H' => Same (upd H0 d (.frz od (.dT es))) H' ∧ Iv od (.dT es) (i + 1) σ' H', LkE d od (.dT es) rt, LkE d od (.dT es) nx, fun σ' H' => Same (upd H0 d (.frz od (.dT es))) H' ∧ Iv od (.dT es) (i + 1) σ' H'⟩ σ2 H2)
    (he : ∀ od es σ H1, H0 d = some (.dT es) → Same (upd H0 d (.frz od (.dT es))) H1 → Iv od (.dT es) ks.length σ H1 → Same H0 (upd H1 d (.dT es)) → nx σ (upd H1 d (.dT es))) :
    tLock (tFor (iKeysT td) g t) ⟨nx, rt, bk, ct⟩ σ H := by
  obtain ⟨n, es, h1, h2⟩ := hd0
  have hd : H d = some (.dT es) := s0 _ _ h1
  refine ⟨d, .dT es, hd, True.intro, fun od => ?_⟩
  show iKeysT td σ _ _
  refine htd od _ _ rfl hd ⟨d, od, es, rfl, upd_same, ?_⟩
  refine ⟨fun i m σ' H' => i + m = es.length ∧ Same (upd H0 d (.frz od (.dT es))) H' ∧ Iv od (.dT es) i σ' H', ⟨es.length, by omega, lock_mono s0, h0 _ _ h1⟩, ?_⟩
  rintro i m σ' H' ⟨hm, s1, iv⟩
  have lk : H' d = some (.frz od (.dT es)) := s1 _ _ upd_same
  rcases Nat.eq_zero_or_pos m with z | z
  · subst z
    refine .inl ⟨⟨lk, by omega⟩, lk, ?_⟩
    have e : i = ks.length := by rw [← h2.length]; omega
    subst e
    exact he od es σ' H' h1 s1 iv (same_lock (H := H) h1 s1)
  · refine .inr ⟨⟨lk, by omega⟩, _, fun σ2 H2 q => ⟨m - 1, by omega, by omega, q⟩, ?_⟩
    rintro x H2 ⟨rfl, k, v, q, ek, rfl, hq⟩
    have kp := lock_keeps h1 s1
    obtain ⟨j, hj, r1, r2⟩ := h2.get ek
    have hq' : Pr H2 (.ref q) j := by
      simp only at r1
      rw [r1, kk_map] at hq
      exact ⟨q, rfl, hq⟩
    exact hs od es i j σ' H2 h1 hj s1 kp iv q hq'
end
theorem LD.lock {K : PySem.W.Frag} {H H1 : Hp} {f d : Addr} {od : Obj} {es : List (List L2.Key × V)} {ks : List IP} {L : IP → IP} (h : LD K H f ks L) (hd : H d = some (.dT es)) (ne : f ≠ d) (s : Same (upd H d (.frz od (.dT es))) H1) : LD K H1 f ks L := by
  obtain ⟨n, es', h1, h2⟩ := h
  exact ⟨n, es', lock_get s h1 ne, ens_keep (lock_keeps hd s) h2⟩
theorem perm_len {α : Type} {l l' : List α} (h : l.Nodup) (h' : l'.Nodup) (e : ∀ x, x ∈ l ↔ x ∈ l') : l.length = l'.length := ((List.perm_ext_iff_of_nodup h h').mpr e).length_eq
end Pm
namespace Pm
open PySem PySem.Spec PyProof.Rows L2
theorem FrV.rat {K : PySem.W.Frag} {H : Hp} {t : Addr} {r : Rat} (h : FrV K H (.ref t) (rp r)) : SqT K H t [.int r.num, .int r.den] := h.tup
theorem frv_new {K : PySem.W.Frag} {H : Hp} {t : Addr} {r : Rat} (h : H t = some (.tup [.int r.num, .int r.den])) : FrV K H (.ref t) (rp r) := ⟨t, rfl, .inl h⟩
/-- a pair of fractions -/
def PrV (K : PySem.W.Frag) (H : Hp) (v : V) (s : V2) : Prop := ∃ t u w, v = .ref t ∧ H t = some (.tup [.ref u, .ref w]) ∧ FrV K H (.ref u) (rp s.p) ∧ FrV K H (.ref w) (rp s.q)
section
variable {K : PySem.W.Frag} {H H' : Hp}
theorem PrV.keep (k : Keeps H H') {v : V} {s : V2} (h : PrV K H v s) : PrV K H' v s := by
  obtain ⟨t, u, w, e, h1, h2, h3⟩ := h
  exact ⟨t, u, w, e, k _ _ h1, h2.keep k, h3.keep k⟩
end
def SEn (K : PySem.W.Frag) (H : Hp) (S : Nat → V2) (e : L2.Key × V) (i : Nat) : Prop := e.1 = .inl (i : Int) ∧ PrV K H e.2 (S i)
structure SD (K : PySem.W.Frag) (H : Hp) (d : Addr) (ks : List Nat) (S : Nat → V2) : Prop where
  nd : ks.Nodup
  ex : ∃ es, H d = some (.dK es) ∧ All2 (SEn K H S) es ks
section
variable {K : PySem.W.Frag} {H H' : Hp} {S : Nat → V2}
theorem sens_keep (k : Keeps H H') {es : List (L2.Key × V)} {ks : List Nat} (h : All2 (SEn K H S) es ks) : All2 (SEn K H' S) es ks := h.mono fun _ _ q => ⟨q.1, q.2.keep k⟩
end
section
variable {K : PySem.W.Frag} {H H' : Hp} {d : Addr} {ks : List Nat} {S : Nat → V2} {k : Nat} {Q : VK} {nx : L2.St → Hp → Prop} {σ : L2.St}
theorem SD.same (h : SD K H d ks S) (s : Same H H') : SD K H' d ks S := by
  obtain ⟨n, es, h1, h2⟩ := h
  exact ⟨n, es, s _ _ h1, sens_keep (keeps s) h2⟩
end
theorem w_pairs {tk tv : TE} {r : List (TE × TE)} {σ : L2.St} {H : Hp} {R : List (V × V) → Hp → Prop} (h : tk σ H fun x H1 => tv σ H1 fun y H2 => tPairs r σ H2 fun ps H3 => R ((x, y) :: ps) H3) : tPairs ((tk, tv) :: r) σ H R := h
theorem w_pairs0 {σ : L2.St} {H : Hp} {R : List (V × V) → Hp → Prop} (h : R [] H) : tPairs [] σ H R := h
structure LenD (K : PySem.W.Frag) (H : Hp) (d : Addr) (t : Tr) (D : Nat → Nat → Rat) : Prop where
  ex : ∃ ks L, LD K H d ks L ∧ (∀ p, p ∈ ks ↔ ∃ q, q ∈ t.all 0 ∧ p = castP q) ∧ ∀ q ∈ t.all 0, L (castP q) = rp (D q.1 q.2)
theorem LenD.same {K : PySem.W.Frag} {H H' : Hp} {d : Addr} {t : Tr} {D : Nat → Nat → Rat} (h : LenD K H d t D) (s : Same H H') : LenD K H' d t D := by
  obtain ⟨ks, L, h1, h2⟩ := h
  exact ⟨ks, L, h1.same s, h2⟩
end Pm
namespace Pm
def vb (v : V2) (E B : Nat) : Prop := ∃ x y : Int, v.p * E = x ∧ v.q * E = y ∧ x.natAbs ≤ B ∧ y.natAbs ≤ B
theorem cast_mul_nat (a b : Nat) : ((a * b : Nat) : Rat) = (a : Rat) * (b : Rat) := Rat.natCast_mul a b
theorem vb.scale {v : V2} {E B : Nat} (h : vb v E B) (k C : Nat) (hk : k ≤ C) : vb v (E * k) (B * C) := by
  obtain ⟨x, y, h1, h2, h3, h4⟩ := h
  refine ⟨x * k, y * k, ?_, ?_, ?_, ?_⟩
  · rw [cast_mul_nat, ← Rat.mul_assoc, h1, Rat.intCast_mul]; rfl
  · rw [cast_mul_nat, ← Rat.mul_assoc, h2, Rat.intCast_mul]; rfl
  · rw [Int.natAbs_mul, Int.natAbs_natCast]; exact Nat.mul_le_mul h3 hk
  · rw [Int.natAbs_mul, Int.natAbs_natCast]; exact Nat.mul_le_mul h4 hk
theorem vb.mono {v : V2} {E B C : Nat} (h : vb v E B) (k : B ≤ C) : vb v E C := by
  obtain ⟨x, y, h1, h2, h3, h4⟩ := h
  exact ⟨x, y, h1, h2, by omega, by omega⟩
/-- a length above nought with a small top and bottom -/
def szd (r : Rat) (N M : Nat) : Prop := 0 < r ∧ r.num.natAbs ≤ N ∧ r.den ≤ M
theorem rat_num_den (r : Rat) : r * (r.den : Rat) = (r.num : Rat) := by
  have e : r = (r.num : Rat) / ((r.den : Int) : Rat) := by
    conv => lhs; rw [← Rat.num_divInt_den r]
    exact Rat.divInt_eq_div _ _
  have i0 : ((r.den : Int) : Rat) = (r.den : Rat) := rfl
  have d0 : (r.den : Rat) ≠ 0 := fun z => by
    have : (r.den : Rat) = ((0 : Nat) : Rat) := by rw [z]; rfl
    exact r.den_nz (Rat.natCast_inj.mp this)
  rw [i0] at e
  generalize (r.den : Rat) = A at *
  generalize (r.num : Rat) = C at *
  grind
theorem pos_num {r : Rat} (h : 0 < r) : 0 < r.num := by
  have h1 := Rat.num_nonneg.mpr (show 0 ≤ r by grind)
  have h2 : r.num ≠ 0 := fun z => by rw [Rat.num_eq_zero.mp z] at h; exact absurd h (by grind)
  omega
theorem vb_mix {a b : V2} {E B N M : Nat} {l0 l1 l2 : Rat} (ha : vb a E B) (hb : vb b E B) (h0 : szd l0 N M) (h1 : szd l1 N M) (h2 : szd l2 N M) :
    ∃ k : Nat, 0 < k ∧ k ≤ N * M * M ∧ vb (mix a (l1 / l0) b (l2 / l0)) (E * k) (B * (2 * (N * M * M))) ∧ ∀ v, vb v E B → vb v (E * k) (B * (2 * (N * M * M))) := by
  have p0 := pos_num h0.1
  have e0 : l0.num = (l0.num.natAbs : Int) := by omega
  refine ⟨l1.den * l2.den * l0.num.natAbs, ?_, ?_, ?_, ?_⟩
  · exact Nat.mul_pos (Nat.mul_pos (Nat.pos_of_ne_zero l1.den_nz) (Nat.pos_of_ne_zero l2.den_nz)) (by omega)
  · have q := Nat.mul_le_mul (Nat.mul_le_mul h1.2.2 h2.2.2) h0.2.1
    rw [show N * M * M = M * M * N by rw [Nat.mul_assoc, Nat.mul_comm]]
    exact q
  · obtain ⟨x, y, a1, a2, a3, a4⟩ := ha
    obtain ⟨z, u, b1, b2, b3, b4⟩ := hb
    have d0 : l0 ≠ 0 := by have := h0.1; grind
    have q0 := rat_num_den l0
    have q1 := rat_num_den l1
    have q2 := rat_num_den l2
    have c0 : ((l0.num.natAbs : Nat) : Rat) = (l0.num : Rat) := by
      conv => rhs; rw [e0]
      rfl
    have key : ∀ (s r : Rat) (m n : Int), s * E = m → r * E = n → (s * (l1 / l0) + r * (l2 / l0)) * ((E * (l1.den * l2.den * l0.num.natAbs) : Nat) : Rat) = ((m * (l1.num * l0.den * l2.den) + n * (l2.num * l0.den * l1.den) : Int) : Rat) := by
      intro s r m n hm hn
      rw [cast_mul_nat, cast_mul_nat, cast_mul_nat, c0, Rat.intCast_add, Rat.intCast_mul, Rat.intCast_mul, Rat.intCast_mul, Rat.intCast_mul, Rat.intCast_mul, Rat.intCast_mul, ← q0, ← q1, ← q2, ← hm, ← hn]
      have i0 : ((l0.den : Int) : Rat) = (l0.den : Rat) := rfl
      have i1 : ((l1.den : Int) : Rat) = (l1.den : Rat) := rfl
      have i2 : ((l2.den : Int) : Rat) = (l2.den : Rat) := rfl
      rw [i0, i1, i2]
      generalize (l0.den : Rat) = A
      generalize (l1.den : Rat) = C
      generalize (l2.den : Rat) = G
      generalize (E : Rat) = W
      clear q0 q1 q2 c0 hm hn
      grind
    have bnd : ∀ m n : Int, m.natAbs ≤ B → n.natAbs ≤ B → (m * (l1.num * l0.den * l2.den) + n * (l2.num * l0.den * l1.den) : Int).natAbs ≤ B * (2 * (N * M * M)) := by
      intro m n hm hn
      refine Nat.le_trans (Int.natAbs_add_le _ _) ?_
      rw [Int.natAbs_mul, Int.natAbs_mul, Int.natAbs_mul, Int.natAbs_mul, Int.natAbs_mul, Int.natAbs_mul, Int.natAbs_natCast, Int.natAbs_natCast, Int.natAbs_natCast]
      have r1 := Nat.mul_le_mul hm (Nat.mul_le_mul (Nat.mul_le_mul h1.2.1 h0.2.2) h2.2.2)
      have r2 := Nat.mul_le_mul hn (Nat.mul_le_mul (Nat.mul_le_mul h2.2.1 h0.2.2) h1.2.2)
      have e : B * (2 * (N * M * M)) = B * (N * M * M) + B * (N * M * M) := by rw [Nat.two_mul, Nat.mul_add]
      rw [e]
      exact Nat.add_le_add r1 r2
    exact ⟨_, _, key _ _ _ _ a1 b1, key _ _ _ _ a2 b2, bnd _ _ a3 b3, bnd _ _ a4 b4⟩
  · intro v hv
    refine (hv.scale _ (N * M * M) ?_).mono (Nat.mul_le_mul (Nat.le_refl _) (by omega))
    have q := Nat.mul_le_mul (Nat.mul_le_mul h1.2.2 h2.2.2) h0.2.1
    rw [show N * M * M = M * M * N by rw [Nat.mul_assoc, Nat.mul_comm]]
    exact q
theorem Tr.std_bd {N M : Nat} : ∀ {t : Tr} {lo : Nat} {L : Len} {a b : V2} {E B : Nat}, (∀ p ∈ t.all lo, szd (L p) N M) → vb a E B → vb b E B → ∃ k : Nat, 0 < k ∧ k ≤ (N * M * M) ^ (t.w - 1) ∧ ∀ i, vb (t.std lo L a b i) (E * k) (B * (2 * (N * M * M)) ^ (t.w - 1))
  | leaf, lo, L, a, b, E, B, _, ha, hb => ⟨1, by decide, by simp [w], fun i => by
      have e : (2 * (N * M * M)) ^ (leaf.w - 1) = 1 := by simp [w]
      rw [Nat.mul_one, e, Nat.mul_one]
      unfold std
      split
      · exact ha
      · exact hb⟩
  | node l r, lo, L, a, b, E, B, hL, ha, hb => by
    have wl := w_pos l
    have wr := w_pos r
    obtain ⟨k0, k0p, k0b, hc, hsc⟩ := vb_mix ha hb (hL _ (mem_root (l := l) (r := r))) (hL (lo + l.w, lo + (l.w + r.w)) (mem_r (by have := root_mem (t := r) (lo := lo + l.w); rw [Nat.add_assoc] at this; exact this))) (hL (lo, lo + l.w) (mem_l root_mem))
    obtain ⟨k1, k1p, k1b, h1⟩ := Tr.std_bd (t := l) (lo := lo) (L := L) (fun p hp => hL p (mem_l hp)) (hsc _ ha) hc
    obtain ⟨k2, k2p, k2b, h2⟩ := Tr.std_bd (t := r) (lo := lo + l.w) (L := L) (fun p hp => hL p (mem_r hp)) hc (hsc _ hb)
    have hw : (node l r).w - 1 = 1 + (l.w - 1) + (r.w - 1) := by show l.w + r.w - 1 = _; omega
    have one : ∀ m : Nat, (N * M * M) ^ m ≤ (2 * (N * M * M)) ^ m := fun m => Nat.pow_le_pow_left (by omega) m
    refine ⟨k0 * k1 * k2, Nat.mul_pos (Nat.mul_pos k0p k1p) k2p, ?_, fun i => ?_⟩
    · rw [hw, Nat.pow_add, Nat.pow_add, Nat.pow_one]
      exact Nat.mul_le_mul (Nat.mul_le_mul k0b k1b) k2b
    · rw [hw, Nat.pow_add, Nat.pow_add, Nat.pow_one]
      unfold std
      split
      · have q := (h1 i).scale k2 _ (Nat.le_trans k2b (one _))
        rw [show E * (k0 * k1 * k2) = E * k0 * k1 * k2 by rw [← Nat.mul_assoc, ← Nat.mul_assoc], show B * (2 * (N * M * M) * (2 * (N * M * M)) ^ (l.w - 1) * (2 * (N * M * M)) ^ (r.w - 1)) = B * (2 * (N * M * M)) * (2 * (N * M * M)) ^ (l.w - 1) * (2 * (N * M * M)) ^ (r.w - 1) by rw [← Nat.mul_assoc, ← Nat.mul_assoc]]
        exact q
      · have q := (h2 i).scale k1 _ (Nat.le_trans k1b (one _))
        rw [show E * (k0 * k1 * k2) = E * k0 * k2 * k1 by rw [← Nat.mul_assoc, ← Nat.mul_assoc, Nat.mul_right_comm], show B * (2 * (N * M * M) * (2 * (N * M * M)) ^ (l.w - 1) * (2 * (N * M * M)) ^ (r.w - 1)) = B * (2 * (N * M * M)) * (2 * (N * M * M)) ^ (r.w - 1) * (2 * (N * M * M)) ^ (l.w - 1) by rw [← Nat.mul_assoc, ← Nat.mul_assoc, Nat.mul_right_comm]]
        exact q
/-- lengths with tops below 2 ^ 10 and bottoms below 2 ^ 7 of up to 12 posts -/
theorem meas_bd {n : Nat} {t : Tr} {L : Len} (hw : t.w + 1 = n) (hn : n ≤ 12) (hL : ∀ p ∈ t.all 0, szd (L p) 1024 128) : ∃ F, Bd n (Mt t L) F 550 := by
  have r0 := hL _ (Tr.root_mem (t := t) (lo := 0))
  rw [Nat.zero_add] at r0
  have q0 := rat_num_den (L (0, t.w))
  have dp := Nat.pos_of_ne_zero (L (0, t.w)).den_nz
  have d1 : ((L (0, t.w)).den : Rat) * 1 = (((L (0, t.w)).den : Int) : Rat) := by rw [Rat.mul_one]; rfl
  obtain ⟨k, kp, kb, h⟩ := Tr.std_bd (t := t) (lo := 0) (L := L) (a := ⟨1, 0⟩) (b := ⟨0, L (0, t.w)⟩) (E := (L (0, t.w)).den) (B := 1024) hL
    ⟨(L (0, t.w)).den, 0, by simp only; rw [Rat.one_mul]; rfl, by simp only; rw [Rat.zero_mul]; rfl, by have := r0.2.2; omega, by omega⟩
    ⟨0, (L (0, t.w)).num, by simp only; rw [Rat.zero_mul]; rfl, q0, by omega, r0.2.1⟩
  generalize hE : (L (0, t.w)).den * k = E at h
  have Eb : E ≤ 2 ^ 260 := by
    rw [← hE]
    have : (1024 * 128 * 128) ^ (t.w - 1) ≤ (1024 * 128 * 128) ^ 10 := Nat.pow_le_pow_right (by decide) (by omega)
    refine Nat.le_trans (Nat.mul_le_mul r0.2.2 (Nat.le_trans kb this)) (by decide)
  have E0 : 0 < E := by rw [← hE]; exact Nat.mul_pos dp kp
  have Bb : 1024 * (2 * (1024 * 128 * 128)) ^ (t.w - 1) ≤ 2 ^ 260 := by
    have : (2 * (1024 * 128 * 128)) ^ (t.w - 1) ≤ (2 * (1024 * 128 * 128)) ^ 10 := Nat.pow_le_pow_right (by decide) (by omega)
    refine Nat.le_trans (Nat.mul_le_mul (Nat.le_refl _) this) (by decide)
  refine ⟨E * E, Nat.mul_pos E0 E0, Nat.lt_of_le_of_lt (Nat.mul_le_mul Eb Eb) (by decide), fun i k _ _ => ?_⟩
  obtain ⟨x, y, h1, h2, h3, h4⟩ := h i
  obtain ⟨z, u, g1, g2, g3, g4⟩ := h k
  refine ⟨x * u - z * y, ?_, ?_⟩
  · unfold Mt det
    rw [cast_mul_nat, Rat.intCast_sub, Rat.intCast_mul, Rat.intCast_mul, ← h1, ← h2, ← g1, ← g2]
    generalize (E : Rat) = W
    grind
  · have a1 : (x * u).natAbs ≤ 2 ^ 260 * 2 ^ 260 := by rw [Int.natAbs_mul]; exact Nat.mul_le_mul (Nat.le_trans h3 Bb) (Nat.le_trans g4 Bb)
    have a2 : (z * y).natAbs ≤ 2 ^ 260 * 2 ^ 260 := by rw [Int.natAbs_mul]; exact Nat.mul_le_mul (Nat.le_trans g3 Bb) (Nat.le_trans h4 Bb)
    have a3 := Int.natAbs_sub_le (x * u) (z * y)
    have a4 : 2 ^ 260 * 2 ^ 260 + 2 ^ 260 * 2 ^ 260 < 2 ^ 550 := by decide
    omega
end Pm
namespace Pm
open PySem PySem.Spec PyProof.Rows L2
/-- a row: a list of pairs -/
def Row (K : PySem.W.Frag) (H : Hp) (a : Addr) (row : List IP) : Prop := ∃ vs, H a = some (.lst vs) ∧ All2 (FrV K H) vs row
structure Tb (K : PySem.W.Frag) (H : Hp) (l : Addr) (as : List Addr) (R : List (List IP)) : Prop where
  top : H l = some (.lst (as.map V.ref))
  nd : as.Nodup
  out : l ∉ as
  rows : All2 (Row K H) as R
section
variable {K : PySem.W.Frag} {H H' : Hp} {l : Addr} {as : List Addr} {R : List (List IP)}
theorem frvs_keep (k : Keeps H H') {vs : List V} {row : List IP} (h : All2 (FrV K H) vs row) : All2 (FrV K H') vs row := h.mono fun _ _ q => q.keep k
theorem Row.same {a : Addr} {row : List IP} (h : Row K H a row) (s : Same H H') : Row K H' a row := by
  obtain ⟨vs, h1, h2⟩ := h
  exact ⟨vs, s _ _ h1, frvs_keep (keeps s) h2⟩
theorem Row.keep {a : Addr} {row : List IP} (h : Row K H a row) (k : Keeps H H') (e : H' a = H a) : Row K H' a row := by
  obtain ⟨vs, h1, h2⟩ := h
  exact ⟨vs, by rw [e]; exact h1, frvs_keep k h2⟩
theorem Tb.same (h : Tb K H l as R) (s : Same H H') : Tb K H' l as R := ⟨s _ _ h.top, h.nd, h.out, h.rows.mono fun _ _ q => q.same s⟩
theorem Tb.len (h : Tb K H l as R) : as.length = R.length := h.rows.length
theorem nodup_get {α : Type} : ∀ {l : List α} {i j : Nat} {x : α}, l.Nodup → l[i]? = some x → l[j]? = some x → i = j
  | [], i, j, x, _, h, _ => by simp at h
  | y :: l, 0, 0, x, _, _, _ => rfl
  | y :: l, 0, j + 1, x, n, h, k => by
    simp only [List.getElem?_cons_zero, Option.some.injEq, List.getElem?_cons_succ] at h k
    subst h
    exact absurd (List.mem_of_getElem? k) (List.nodup_cons.mp n).1
  | y :: l, i + 1, 0, x, n, h, k => by
    simp only [List.getElem?_cons_zero, Option.some.injEq, List.getElem?_cons_succ] at h k
    subst k
    exact absurd (List.mem_of_getElem? h) (List.nodup_cons.mp n).1
  | y :: l, i + 1, j + 1, x, n, h, k => by
    simp only [List.getElem?_cons_succ] at h k
    rw [nodup_get (List.nodup_cons.mp n).2 h k]
theorem all2_of_get {α β : Type} {P : α → β → Prop} : ∀ {xs : List α} {ys : List β}, xs.length = ys.length → (∀ (i : Nat) (x : α) (y : β), xs[i]? = some x → ys[i]? = some y → P x y) → All2 P xs ys
  | [], [], _, _ => trivial
  | x :: xs, [], h, _ => by simp at h
  | [], y :: ys, h, _ => by simp at h
  | x :: xs, y :: ys, h, f => ⟨f 0 x y rfl rfl, all2_of_get (by simpa using h) fun i a b ha hb => f (i + 1) a b (by simpa using ha) (by simpa using hb)⟩
theorem Tb.row (h : Tb K H l as R) {i : Nat} {row : List IP} (e : R[i]? = some row) : ∃ a vs, as[i]? = some a ∧ H a = some (.lst vs) ∧ All2 (FrV K H) vs row := by
  obtain ⟨a, ha, vs, h1, h2⟩ := h.rows.get' e
  exact ⟨a, vs, ha, h1, h2⟩
/-- a place of a table set -/
theorem Tb.put (h : Tb K H l as R) {i k : Nat} {a : Addr} {vs : List V} {row : List IP} {v : V} {p : IP} (e : R[i]? = some row) (ha : as[i]? = some a) (hv : H a = some (.lst vs)) (hr : All2 (FrV K H) vs row) (fv : FrV K H v p) :
    Tb K (upd H a (.lst (vs.set k v))) l as (R.set i (row.set k p)) := by
  have kp : Keeps H (upd H a (.lst (vs.set k v))) := keeps_lst hv
  have ma : a ∈ as := List.mem_of_getElem? ha
  have nl : l ≠ a := fun z => h.out (by rw [z]; exact ma)
  refine ⟨by rw [upd_ne nl]; exact h.top, h.nd, h.out, all2_of_get (by rw [List.length_set]; exact h.len) fun j b r hb hrj => ?_⟩
  by_cases z : j = i
  · subst z
    rw [ha] at hb
    cases hb
    have el : j < R.length := (List.getElem?_eq_some_iff.mp e).1
    rw [List.getElem?_set_self el] at hrj
    cases hrj
    exact ⟨_, upd_same, frvs_keep kp (hr.set k fv)⟩
  · rw [List.getElem?_set_ne (fun q => z q.symm)] at hrj
    obtain ⟨r', hr', q⟩ := h.rows.get hb
    rw [hrj] at hr'
    cases hr'
    exact q.keep kp (upd_ne fun q : b = a => z (nodup_get h.nd hb (by rw [q]; exact ha)))
end
theorem Tr.inn_len' : ∀ (t : Tr) (lo : Nat), (t.inn lo).length + 1 = t.w
  | .leaf, lo => by simp [Tr.inn, Tr.w]
  | .node l r, lo => by
    have h1 := Tr.inn_len' l lo
    have h2 := Tr.inn_len' r (lo + l.w)
    simp only [Tr.inn, Tr.w, List.length_cons, List.length_append]
    omega
theorem Cutting.cut_len {n : Nat} {cut : List IP} {t : Tr} (C : Cutting n cut t) : cut.length + 3 = n := by
  have h := C.perm.length_eq
  have w := C.w
  rw [List.length_map] at h
  have q := t.inn_len' 0
  rw [Tr.inn_node C.w2, List.length_cons] at q
  have := C.w2
  omega
structure RowsAt (K : PySem.W.Frag) (H0 H : Hp) (D : Addr) (f : Nat → List IP) (i : Nat) (as : List Addr) : Prop where
  same : Same H0 H
  top : H D = some (.lst (as.map V.ref))
  nd : as.Nodup
  out : D ∉ as
  fresh : ∀ a ∈ as, H0 a = none
  rows : All2 (Row K H) as ((List.range i).map f)
theorem RowsAt.put {K : PySem.W.Frag} {H0 H1 H2 : Hp} {D r : Addr} {f : Nat → List IP} {i : Nat} {as : List Addr} (h : RowsAt K H0 H1 D f i as) (hD : H0 D = none) (s : Same H1 H2) (nr : H1 r = none) (hr : Row K H2 r (f i)) : RowsAt K H0 (upd H2 D (.lst (as.map V.ref ++ [.ref r]))) D f (i + 1) (as ++ [r]) := by
  have top2 := s _ _ h.top
  have kp : Keeps H2 (upd H2 D (.lst (as.map V.ref ++ [.ref r]))) := keeps_lst top2
  have nD : r ≠ D := (ne_of_none h.top nr).symm
  have na : r ∉ as := fun z => by
    obtain ⟨row, _, vs, e, _⟩ := h.rows.mem z
    rw [nr] at e
    cases e
  refine ⟨same_but hD (h.same.trans s), by rw [upd_same, List.map_append]; rfl, ?_, ?_, ?_, ?_⟩
  · rw [List.nodup_append]
    exact ⟨h.nd, by simp, fun a ha b hb => by rw [List.mem_singleton.mp hb]; rintro rfl; exact na ha⟩
  · intro z
    rcases List.mem_append.mp z with z | z
    · exact h.out z
    · exact nD (List.mem_singleton.mp z).symm
  · intro a ha
    rcases List.mem_append.mp ha with z | z
    · exact h.fresh a z
    · rw [List.mem_singleton.mp z]; exact h.same.free nr
  · rw [List.range_succ, List.map_append]
    refine All2.append ?_ ⟨hr.keep kp (upd_ne nD), trivial⟩
    refine all2_of_get (by have := h.rows.length; exact this) fun j b row hb hrow => ?_
    obtain ⟨row', e', q⟩ := h.rows.get hb
    rw [hrow] at e'
    cases e'
    have nb : b ≠ D := fun z => h.out (by rw [← z]; exact List.mem_of_getElem? hb)
    exact (q.same s).keep kp (upd_ne nb)
end Pm
namespace Pm
open PySem PySem.Spec PyProof.Rows L2
def rNotN : R2 := fun x y H Q => y = .non ∧ Q (.bl (!decide (x = .non))) H
def rIsN : R2 := fun x y H Q => y = .non ∧ Q (.bl (decide (x = .non))) H
theorem op_notNK {X : Cx} : OpR X (compareOp .IsNot) rNotN := op_notN
theorem op_isNK {X : Cx} : OpR X (compareOp .Is) rIsN := op_isN
section
variable {H : Hp} {Q : VK} {a : Addr}
theorem w_notN_ref (h : Q (.bl true) H) : rNotN (.ref a) .non H Q := ⟨rfl, h⟩
theorem w_isN_non (h : Q (.bl true) H) : rIsN .non .non H Q := ⟨rfl, h⟩
end
end Pm
namespace Pm
def strD (D : Nat → Nat → Rat) (p : Nat) (f : Rat) (i k : Nat) : Rat := if i = p ∨ k = p then f * D i k else D i k
theorem Meas.stretch {n : Nat} {t : Tr} {L : Len} {D : Nat → Nat → Rat} (M : Meas n t L D) {p : Nat} {f : Rat} (hf : 0 < f) : Meas n t (fun q => strD D p f q.1 q.2) (strD D p f) := by
  obtain ⟨S, s1, s2⟩ := M.ex
  have w := M.w
  refine ⟨M.w, fun q hq => ?_, fun i => if i = p then ⟨f * (S i).p, f * (S i).q⟩ else S i, fun q hq => ?_, fun i k hi hk => ?_⟩
  · have b := Tr.bd hq
    have pos := M.above (show q.1 < q.2 by omega) (by omega)
    unfold strD
    split
    · exact rat_mul_pos hf pos
    · exact pos
  · have b := Tr.bd hq
    simp only [strD]
    rw [s2 q.1 q.2 (by omega) (by omega)]
    by_cases e1 : q.1 = p
    · rw [if_pos e1, if_neg (by omega), if_pos (.inl e1)]
      unfold det; grind
    · rw [if_neg e1]
      by_cases e2 : q.2 = p
      · rw [if_pos e2, if_pos (.inr e2)]
        unfold det; grind
      · rw [if_neg e2, if_neg (by omega)]
  · unfold strD
    simp only
    rw [s2 i k hi hk]
    by_cases e1 : i = p
    · rw [if_pos (.inl e1), if_pos e1]
      by_cases e2 : k = p
      · rw [if_pos e2, e1, e2, det_self]
        unfold det; grind
      · rw [if_neg e2]
        unfold det; grind
    · rw [if_neg e1]
      by_cases e2 : k = p
      · rw [if_pos (.inr e2), if_pos e2]
        unfold det; grind
      · rw [if_neg (by omega), if_neg e2]
theorem Bd.stretch {n : Nat} {D : Nat → Nat → Rat} {F B m : Nat} (Z : Bd n D F B) {p : Nat} {f : Rat} (hf : Pm.rb f m) : Bd n (strD D p f) (F * f.den) (B + m) := by
  have m0 := rb_pos hf
  refine ⟨Nat.mul_pos Z.f0 (Nat.pos_of_ne_zero f.den_nz), ?_, fun i k hi hk => ?_⟩
  · rw [Nat.pow_add]
    exact Nat.mul_lt_mul'' Z.fb hf.2
  · obtain ⟨z, h1, h2⟩ := Z.all i k hi hk
    have q := rat_num_den f
    unfold strD
    split
    · refine ⟨z * f.num, ?_, ?_⟩
      · rw [cast_mul_nat, Rat.intCast_mul, ← h1, ← q]
        generalize (F : Rat) = W
        generalize (f.den : Rat) = V
        clear q
        grind
      · rw [Int.natAbs_mul, Nat.pow_add]
        exact Nat.mul_lt_mul'' h2 hf.1
    · refine ⟨z * (f.den : Int), ?_, ?_⟩
      · rw [cast_mul_nat, Rat.intCast_mul, ← h1, ← Rat.mul_assoc]
        rfl
      · rw [Int.natAbs_mul, Nat.pow_add, Int.natAbs_natCast]
        exact Nat.mul_lt_mul'' h2 hf.2
end Pm
namespace Pm
open PySem PySem.Spec PyProof.Rows L2
def ropeOk (n : Int) (p : IP) : Prop := 0 ≤ p.1 ∧ p.2 < n ∧ 2 ≤ p.2 - p.1 ∧ p.2 - p.1 < n - 1
instance (n : Int) (p : IP) : Decidable (ropeOk n p) := by unfold ropeOk; exact inferInstance
def okPair (p q : IP) : Prop := p ≠ q ∧ ¬ crossP p.1 p.2 q.1 q.2
instance (p q : IP) : Decidable (okPair p q) := by unfold okPair; exact inferInstance
structure GoodP (n : Int) (l : List IP) : Prop where
  ok : ∀ p ∈ l, ropeOk n p
  pw : l.Pairwise okPair
theorem good_nil (n : Int) : GoodP n [] := ⟨fun _ h => absurd h List.not_mem_nil, List.Pairwise.nil⟩
theorem good_snoc {n : Int} {l : List IP} {x : IP} : GoodP n (l ++ [x]) ↔ GoodP n l ∧ ropeOk n x ∧ ∀ p ∈ l, okPair p x := by
  constructor
  · rintro ⟨h1, h2⟩
    have h2 := List.pairwise_append.mp h2
    exact ⟨⟨fun p hp => h1 p (List.mem_append_left _ hp), h2.1⟩, h1 x (List.mem_append_right _ (List.mem_singleton.mpr rfl)), fun p hp => h2.2.2 p hp x (List.mem_singleton.mpr rfl)⟩
  · rintro ⟨⟨h1, h2⟩, h3, h4⟩
    refine ⟨fun p hp => ?_, List.pairwise_append.mpr ⟨h2, List.pairwise_singleton _ _, fun a ha b hb => ?_⟩⟩
    · rcases List.mem_append.mp hp with h | h
      · exact h1 p h
      · rw [List.mem_singleton.mp h]; exact h3
    · rw [List.mem_singleton.mp hb]; exact h4 a ha
theorem good_take {n : Int} {l : List IP} {k : Nat} (h : GoodP n l) : GoodP n (l.take k) := ⟨fun p hp => h.ok p (List.mem_of_mem_take hp), h.pw.sublist (List.take_sublist k l)⟩
theorem okPair_symm {n : Int} {p q : IP} (hp : ropeOk n p) (hq : ropeOk n q) (h : okPair p q) : okPair q p := by
  unfold ropeOk at hp hq
  refine ⟨fun e => h.1 e.symm, fun c => h.2 ?_⟩
  rw [cross_iff (by omega) (by omega)] at c ⊢
  omega
theorem good_perm {n : Int} {l m : List IP} (e : l.Perm m) (h : GoodP n l) : GoodP n m := by
  have hok : ∀ p ∈ m, ropeOk n p := fun p hp => h.ok p (e.mem_iff.mpr hp)
  refine ⟨hok, ?_⟩
  have h1 : l.Pairwise (fun p q => (ropeOk n p ∧ ropeOk n q) ∧ okPair p q) := by
    have := h.pw
    refine List.pairwise_iff_getElem.mpr fun i j hi hj hij => ⟨⟨h.ok _ (List.getElem_mem hi), h.ok _ (List.getElem_mem hj)⟩, List.pairwise_iff_getElem.mp this i j hi hj hij⟩
  have sy : ∀ {p q : IP}, (ropeOk n p ∧ ropeOk n q) ∧ okPair p q → (ropeOk n q ∧ ropeOk n p) ∧ okPair q p := fun ⟨⟨a, b⟩, c⟩ => ⟨⟨b, a⟩, okPair_symm a b c⟩
  exact ((List.Perm.pairwise_iff sy e).mp h1).imp fun z => z.2
def tied (p : IP) : IP := tieOf p.1 p.2
/-- what kept lets by -/
def KeptOk (n : Int) (ps : List IP) : Prop := (3 ≤ n ∧ n ≤ 12) ∧ (ps.length : Int) = n - 3 ∧ GoodP n (sortP (ps.map tied))
theorem kept_iff (n : Int) (ps : List IP) : KeptOk n ps ↔ (3 ≤ n ∧ n ≤ 12) ∧ (ps.length : Int) = n - 3 ∧ GoodP n (ps.map tied) := by
  unfold KeptOk
  exact ⟨fun ⟨h1, h2, h3⟩ => ⟨h1, h2, good_perm (sortP_perm _) h3⟩, fun ⟨h1, h2, h3⟩ => ⟨h1, h2, good_perm (sortP_perm _).symm h3⟩⟩
end Pm
namespace Pm
open PySem PySem.Spec PySem.Calls PyProof.Rows L2 PySem.W L2H
section
variable {P : Program} {w : World} {K : PySem.W.Frag} {mg : Str → Option Value} {base : Heap}
/-- as Fun.okX, for a def whose exceptions have the context None -/
theorem _root_.L2.Fun.okXN {x qual : Str} {st : Stmt} {f : Addr} {fd : FuncData} {N ps : List Str} {k : Nat} {sp : Sp} (F : L2.Fun K x qual st f fd) (S : FnScope N ps (defScope st)) (len : ∀ vs H Q E, sp vs H Q E → vs.length = ps.length)
    (hbody : ∀ (cdv : Value) (A : Around) (outer : List Env) (s : Shared) (H : Hp) (vs : List V) (Q : VK) (E : XK), Room k (A.deeper (envOfC qual (defScope st) s.heap.objs.size f cdv)) → sp vs H Q E →
      ∃ t, PSs (cxOf (L2N.CX P w) P w K mg base N qual (defScope st) f cdv A outer s H E) (defBody st) t ∧ t { nx := fun _ H' => Q .non H', rt := Q } (L2.start N vs) H) : FnOk P w K mg base (L2N.CX P w) (k + 1) f fd ps sp := by
  obtain ⟨oc, od, kV, doc, pm, an, cdv, ct, osl, rfl, lk, hcd⟩ := F.ex
  exact fn_of lk hcd S len fun A outer s H vs Q E hr hsp => hbody cdv A outer s H vs Q E hr hsp
end
theorem fly_kept {B h h' : Heap} {l : List Env} {a : Addr} {Z : Obj → Prop} (k : ∀ b o, h.get? b = some o → h'.get? b = some o) (x : HandSPX.FlyingZ B l a Z h) : HandSPX.FlyingZ B l a Z h' := by
  obtain ⟨x1, x2, x3, oe, vs, T, oT, ts, y1, y2, y3, y4, y5, y6, y7, y8, y9⟩ := x
  exact ⟨fun b o e => k b o (x1 b o e), x2, Heap.FunFrames.of_keeps (fun b o e _ => ⟨o, k b o e, rfl⟩) x3, oe, vs, T, oT, ts, k _ _ y1, y2, y3, y4, y5, y6, k _ _ y7, y8, y9⟩
/-- what the clause 'except (x, y)' wishes: it names what flies -/
def wTup (K : PySem.W.Frag) (c1 c2 : Value) (ts : Addr → Value → Option Addr → TS) (D : Ends) : WX := fun cls d σ H => PySem.W.exmAny K cls [c1, c2] = some true ∧ ∀ a, H a = none → ts a cls d D σ H
section
variable {X : Cx} {x y : Str} {c1 c2 : Value} {body suite : List Stmt} {b₀ : Stmt} {np np2 pos pos' tpos : Pos} {kk : Nat} {tb : WX → TS} {ts : Addr → Value → Option Addr → TS} {Wout : WX}
theorem ps_try_tupX (hs : X.stack = X.env :: X.outer) (hf : X.env.frame = some X.env.locals) (hc : Names X x c1) (hc2 : Names X y c2) (hpa : ∀ hd : Option Value, PassesOwnAt (model X.prog X.w) (X.A.mark hd) X.A X.env X.xe) (tk : L2.Takes X Wout)
    (hb : ∀ (W : WX) (pn : List (Addr × Obj)) (xe : Value → Shared → Prop), L2N.Takes (X.tr pn xe) W → PassesOwn (model X.prog X.w) X.A X.env xe → PSs (X.tr pn xe) body (tb W))
    (hsu : ∀ (a : Addr) (oe : Obj) (cls : Value) (d : Option Addr) (pn : List (Addr × Obj)), L2N.Zn cls d oe → (∃ vs, oe.data = .fields vs) → L2.Takes (L2H.suiteX X a ((a, oe) :: pn)) Wout → HotC (L2H.suiteX X a ((a, oe) :: pn)) →
      PSs (L2H.suiteX X a ((a, oe) :: pn)) (b₀ :: suite) (ts a cls d)) :
    PS X (.Try body [.ExceptHandler (some (.Tuple [.Name x np, .Name y np2] kk tpos)) none (b₀ :: suite) pos'] [] [] pos) (fun D σ H => tb (wTup X.K c1 c2 ts D) D σ H) := by
  refine ⟨fun pins s σ H D I h => ?_⟩
  have ok := I.ok
  have hfr : X.A.frames = some (X.env :: X.outer) := by rw [ok.frames, hs]
  have notFr : ∀ {B h : Heap} {a : Addr} {o : Obj} {vs : Array Value}, h.FunFrames B (X.env :: X.outer) → h.get? a = some o → o.data = .fields vs → a ∉ frs (X.env :: X.outer) := fun {B h a o vs} ff e dd hm => by
    obtain ⟨_, o', e', hnf⟩ := ff.mem hm
    rw [e] at e'; cases e'
    exact hnf _ dd
  refine wpAny_Try_except ?_
  refine wpAny_mono ((hb (wTup X.K c1 c2 ts D) (X.pn ++ pins) (fun e s₁ => wpAny (model X.prog X.w) X.A (noteFrame e X.env) (fun _ s₂ => wpAny (model X.prog X.w) X.A (setFlight e none) (fun _ s₃ =>
    wpAny (model X.prog X.w) X.A (handleBy e X.env [.ExceptHandler (some (.Tuple [.Name x np, .Name y np2] kk tpos)) none (b₀ :: suite) pos']) (SP X pins D) X.xe s₃) X.xe s₂) X.xe s₁) (fun u s' xx => ?_) PassesOwn.looking).run [] s σ H D (I.toTry _) h) (fun f s1 hsp => ?_) (fun e s1 he => he)
  · obtain ⟨a, B, sI, pins', σ', H', cls, d, rfl, J', nb, up, sky, na, os, ag, hb1, hyes⟩ := xx
    have J : Inv X pins σ' H' sI := J'.ofTry ok
    have sky' : Sky B (X.env :: X.outer) a (L2N.Zn cls d) X.env.locals s'.heap := by rw [← hs]; exact sky
    show wpAny (model X.prog X.w) X.A (noteFrame (.ref a) X.env) _ _ _
    refine L2N.Sky.land L2N.Zn.steady hfr hf sky' fun h3 fl3 up3 => ?_
    have J3 : Inv X pins σ' H' { s' with heap := h3 } := J.landed nb fl3.1 (up.trans up3) os ag
    obtain ⟨oe3, vs3, he3, hz3, hd3⟩ := fl3.there
    have nfr : a ∉ frs (X.env :: X.outer) := notFr fl3.2.2.1 he3 hd3
    have nL : a ≠ X.env.locals := fun z => nfr (List.mem_filterMap.mpr ⟨X.env, List.mem_cons_self, by rw [hf, z]⟩)
    have nF : a ∉ X.fs := fun hm => by
      obtain ⟨e, he, q⟩ := List.mem_filterMap.mp hm
      exact nfr (List.mem_filterMap.mpr ⟨e, List.mem_cons_of_mem _ he, q⟩)
    have S3 := J3.suite he3 hd3 na nL nF
    refine wpAny_handleBy_cons (codeAny_handlers_test ?_) (by intro q; cases q)
    have LT : PySem.W.Looks (model X.prog X.w) h3 (typeOf (.ref a)) cls := fun A Q E s k q => wpAny_typeOf_ref (k _ _ he3) (by rw [hz3.1]; exact q)
    have kp : ∀ q o, h3.get? q = some o → (h3.push { cls := .type "tuple", data := .seq [c1, c2].toArray }).get? q = some o := fun _ _ z => Heap.get?_push_of_some _ z
    have LM := PySem.W.exm_tup2 (M := model X.prog X.w) ((J3.kIn).keeps kp) (LT.keeps kp) (Heap.get?_push_size h3 rfl) hb1
    have nm : ∀ {z : Str} {c : Value} {p : Pos} (hc : Names X z c) {Q : Value → Shared → Prop} {E : Value → Shared → Prop}, Q c { s' with heap := h3 } → wpAny (model X.prog X.w) (X.A.mark (some (.ref a))) (eval (.Name z p) X.env) Q E { s' with heap := h3 } := fun {z c p} hc {Q E} q => by
      obtain ⟨hg, hdbg, hm | ⟨hm, hv, hnn⟩⟩ := hc
      · exact ld_glob (X := X.suite a ((a, oe3) :: (X.pn ++ pins))) S3 hg hm q hdbg
      · exact ld_blt (X := X.suite a ((a, oe3) :: (X.pn ++ pins))) S3 hg hm hv q hnn hdbg
    have test : ∀ {Q : Value → Shared → Prop} {E : Value → Shared → Prop}, Q (.ref h3.objs.size) { s' with heap := h3.push { cls := .type "tuple", data := .seq [c1, c2].toArray } } → wpAny (model X.prog X.w) (X.A.mark (some (.ref a))) (eval (.Tuple [.Name x np, .Name y np2] kk tpos) X.env) Q E { s' with heap := h3 } := fun {Q E} q => by
      refine wpAny_Tuple ?_
      refine wpAny_items_cons (nm hc ?_)
      refine wpAny_items_cons (nm hc2 ?_)
      exact wpAny_items_nil ⟨by size_fits, q⟩
    refine test (LM.here ?_)
    have fl3' := fly_kept kp fl3
    have upk : h3.UpToSlots (h3.push { cls := .type "tuple", data := .seq [c1, c2].toArray }) := fun b o e _ => ⟨o.slots, kp b o e⟩
    generalize h3.push { cls := .type "tuple", data := .seq [c1, c2].toArray } = h9 at fl3' upk ⊢
    refine codeAny_handlers_suite ?_
    refine HandSPX.lands_againZ fl3' fun h4 fl4 up4 => ?_
    have J4 : Inv X pins σ' H' { s' with heap := h4 } := J.landed nb fl4.1 (((up.trans up3).trans upk).trans up4) os ag
    obtain ⟨oe4, vs4, he4, hz4, hd4⟩ := fl4.there
    have S4 := J4.suite he4 hd4 na nL nF
    have tkS : L2.Takes (suiteX X a ((a, oe4) :: (X.pn ++ pins))) Wout := fun u2 s2 x2 => by
      obtain ⟨a2, B2, sI2, pn2, σ2, H2, cls2, d2, e2, I2, nb2, up2, sky2, na2, os2, ag2, w2⟩ := x2
      exact tk u2 s2 ⟨a2, B2, sI2, pins, σ2, H2, cls2, d2, e2, unsuiteX I2 ok, nb2, up2, sky2, na2, os2, ag2, w2⟩
    have hot : HotC (suiteX X a ((a, oe4) :: (X.pn ++ pins))) := ⟨(a, oe4), ⟨rfl, vs4, hd4, hz4.2.2 vs4 hd4⟩, List.mem_cons_self⟩
    refine wpAny_mono ((hsu a oe4 cls d (X.pn ++ pins) hz4 ⟨_, hd4⟩ tkS hot).run [] _ _ H' _ (suiteX_of S4) (hyes a na)) (fun f s6 hsp => ?_) (fun e6 s6 z => hpa (some (.ref a)) e6 s6 z)
    cases f with
    | next =>
      obtain ⟨σ6, H6, S6, q6⟩ := hsp
      exact ⟨_, _, unsuiteX S6 ok, q6⟩
    | brk =>
      obtain ⟨σ6, H6, S6, q6⟩ := hsp
      exact ⟨_, _, unsuiteX S6 ok, q6⟩
    | cont =>
      obtain ⟨σ6, H6, S6, q6⟩ := hsp
      exact ⟨_, _, unsuiteX S6 ok, q6⟩
    | ret u =>
      obtain ⟨v6, σ6, H6, S6, r6, q6⟩ := hsp
      exact ⟨_, _, _, unsuiteX S6 ok, r6, q6⟩
  · cases f with
    | next =>
      obtain ⟨σ', H', J', q⟩ := hsp
      exact wpAny_execs_nil ⟨σ', H', J'.ofTry ok, q⟩
    | brk =>
      obtain ⟨σ', H', J', q⟩ := hsp
      exact ⟨σ', H', J'.ofTry ok, q⟩
    | cont =>
      obtain ⟨σ', H', J', q⟩ := hsp
      exact ⟨σ', H', J'.ofTry ok, q⟩
    | ret u =>
      obtain ⟨v, σ', H', J', r, q⟩ := hsp
      exact ⟨v, σ', H', J'.ofTry ok, r, q⟩
end
section
variable {X : Cx} {C : Addr} {bmB : List Value} {B newId initId : String}
/-- X('m'), to be raised in an except suite -/
theorem pmk_own5 {x m : Str} {j : Nat} {p p2 pos : Pos} (F : ExcBaseFacts B newId initId bmB) (q : PySem.W.excIn X.K C bmB newId = true) (gC : X.mg x = some (.ref C)) (kC : PySem.W.keepIn X.K (.ref C) = true) (r : Raises X (.ref C)) (hg : Gl X x)
    (hdb : (x == ("__debug__" : Str)) = false := by decide) : L2H.PMk5 X (.Call (.Name x p) [.Constant (.str m) j p2] [] pos) (fun _ H Q => Q (.ref C) none H) := by
  intro pins s σ H Q I h
  refine wpAny_Call_Name_kw (ld_glob I hg gC ?_ hdb)
  have ha : PA X [.Constant (.str m) j p2] (tCons (tC (.str m)) tNil) := pa_cons pe_str pa_nil
  refine PySem.W.callWith_K (h₀ := X.base) I.ok.mod.kin kC (thn (ha.run pos pins s σ H (fun vs H1 => vs = [V.str m] ∧ H = H1) I ⟨rfl, rfl⟩) fun us s1 hh => ?_)
  obtain ⟨vs, H1, I1, r1, ev, eH⟩ := hh
  subst ev
  rw [← eH] at I1
  refine ⟨I1.kIn, ?_⟩
  cases r1 with
  | cons ru rn =>
    rename_i u us'
    cases rn
    show wpAny _ _ (call (.ref C) [u]) _ _ _
    obtain ⟨bm, N, nm, qn, bs, hdct, sn, sub, ab, col, dd, k0, k1, k2, k3, k5, mN, hC, hN, hni, T⟩ := exc_obj I1.kIn q
    refine wpAny_call_exc_subT F T hC hN hni (fun h' e hm => ?_) (by show 1 ≤ sizeLine; rw [sizeLine_eq]; omega)
    exact L2H.mk_of5 I1 hm r h (I1.hok.gone hm.new)
end
end Pm
namespace Pm
open PySem PySem.Spec PyProof.Rows L2
section
variable {X : Cx} {K : PySem.W.Frag}
theorem k_fld {ex : Expr} {ta : TE} {f : Str} (h : PE X ex (tFld X.K ta f)) (e : X.K = K := by rfl) : PE X ex (tFld K ta f) := e ▸ h
theorem k_sfld {st : Stmt} {ta tv : TE} {f : Str} (h : PS X st (sFld X.K ta tv f)) (e : X.K = K := by rfl) : PS X st (sFld K ta tv f) := e ▸ h
end
/-- o.m(..) whose exceptions are wished for at the caller's slots -/
def tMethX (C : Addr) (m : Str) (sp : Sp) (E : L2.St → XK) (ta : TE) (t : TA) : TE := fun σ H Q => ta σ H fun x H1 => ∃ a dx fs, x = .ref a ∧ H1 a = some (.ins C dx fs) ∧ fs.lookup m = none ∧ t σ H1 fun vs H2 => sp (x :: vs) H2 Q (E σ)
/-- C(..) likewise -/
def tMakeX (C : Addr) (sp : Sp) (E : L2.St → XK) (t : TA) : TE := fun σ H Q => t σ H fun vs H1 => ∀ x dx, H1 x = none → H1 dx = none → dx ≠ x → sp (.ref x :: vs) (upd (upd H1 dx (.own x)) x (.ins C dx [])) (fun v H2 => v = .non ∧ Q (.ref x) H2) (E σ)
section
variable {X : Cx} {cx : CXT} {k : Nat} {g C : Addr} {fd : FuncData} {ps : List Str} {sp : Sp} {E : L2.St → XK} {x m : Str} {p pos ap : Pos} {a o : Expr} {as : List Expr} {ta : TE} {t : TA}
theorem pe_makeS (M : Mk X.K C g) (F : FnOk X.prog X.w X.K X.mg X.base cx k g fd ps sp) (hr : Room (k + 1) X.A) (hg : Gl X x) (hm : X.mg x = some (.ref C)) (hb : Binds X.K fd ps []) (hx : ∀ σ, PassesAt cx X σ (E σ)) (ha : PA X (a :: as) t)
    (hdb : (x == ("__debug__" : Str)) = false := by decide) (he : starEach (a :: as) X.env = (false, eval a X.env) :: starEach as X.env := by rfl) (hpl : (backTo pos (starEach as X.env)).any (·.1) = false := by rfl) :
    PE X (.Call (.Name x p) (a :: as) [] pos) (tMakeX C sp E t) := by
  constructor
  intro pins s σ H Q I h
  refine wpAny_Call_Name_kw (ld_glob I hg hm ?_ hdb)
  refine PySem.W.callWith_K (h₀ := X.base) I.ok.mod.kin M.kp (thn (ha.run pos pins s σ H _ I h) fun us s1 hh => ?_) he hpl
  obtain ⟨vs, H1, I1, r, h1⟩ := hh
  refine ⟨I1.kIn, ?_⟩
  have hq := h1 (s1.heap.objs.size + 1) s1.heap.objs.size (I1.hok.fresh (Nat.le_succ _)) (I1.hok.fresh (Nat.le_refl _)) (Nat.ne_of_lt (Nat.lt_succ_self _))
  have I2 := Inv.made (C := C) I1
  have r2 : Vals (V.ref (s1.heap.objs.size + 1) :: vs) (Value.ref (s1.heap.objs.size + 1) :: us) := .cons rfl r
  have hl : (Value.ref (s1.heap.objs.size + 1) :: us).length = ps.length := by
    have e := r2.length
    rw [F.len _ _ _ _ hq] at e
    exact e.symm
  have b := hb _ (Value.ref (s1.heap.objs.size + 1) :: us) I2.kIn (by rw [List.append_nil]; exact hl)
  rw [List.append_nil] at b
  refine wpAny_call (make_map (f := g) I1.kIn M.makes M.init (beq_iff_eq.mp M.fn) (codeAny_mono (F.run _ X.stack _ _ ⟨Value.ref (s1.heap.objs.size + 1) :: us, []⟩ (Value.ref (s1.heap.objs.size + 1) :: us) _ _ (E σ) (hr.make C us []) (I2.env0.make C us []) b r2 hq) fun r s' hq' => ?_))
  rcases r with e | fl
  · exact hx σ pins _ _ e s' I2 hq'
  · cases fl with
    | ret u =>
      obtain ⟨v, H', I3, rv, ev, q3⟩ := I2.after hq'
      subst ev
      exact ⟨rv, ⟨V.ref (s1.heap.objs.size + 1), H', I3, rfl, q3⟩⟩
    | next => exact False.elim hq'
    | brk => exact False.elim hq'
    | cont => exact False.elim hq'
end
def FldK (K : PySem.W.Frag) (f : Str) (Q : VK) : VK := fun x H1 => ∃ a C dx fs v, x = .ref a ∧ H1 a = some (.ins C dx fs) ∧ Cls K C ∧ NoAttr K C f ∧ fs.lookup f = some v ∧ Q v H1
def SFldK (K : PySem.W.Frag) (f : Str) (y : V) (nx : L2.St → Hp → Prop) (σ : L2.St) : VK := fun x H2 => ∃ a C dx fs, x = .ref a ∧ H2 a = some (.ins C dx fs) ∧ Cls K C ∧ NoAttr K C f ∧ fs.length < 1000 ∧ nx σ (upd H2 a (.ins C dx (putF f y fs)))
def MethK (C : Addr) (m : Str) (R : V → Hp → Prop) : VK := fun x H1 => ∃ a dx fs, x = .ref a ∧ H1 a = some (.ins C dx fs) ∧ fs.lookup m = none ∧ R x H1
def MakeK (C : Addr) (sp : Sp) (dvs : List V) (E : XK) (Q : VK) : List V → Hp → Prop := fun vs H1 => ∀ x dx, H1 x = none → H1 dx = none → dx ≠ x → sp (.ref x :: (vs ++ dvs)) (upd (upd H1 dx (.own x)) x (.ins C dx [])) (fun v H2 => v = .non ∧ Q (.ref x) H2) E
def MakeXK (C : Addr) (sp : Sp) (E : XK) (Q : VK) : List V → Hp → Prop := fun vs H1 => ∀ x dx, H1 x = none → H1 dx = none → dx ≠ x → sp (.ref x :: vs) (upd (upd H1 dx (.own x)) x (.ins C dx [])) (fun v H2 => v = .non ∧ Q (.ref x) H2) E
section
variable {nx bk ct : L2.St → Hp → Prop} {rt : VK} {σ : L2.St} {H : Hp} {ta tv : TE} {Q : VK} {K : PySem.W.Frag} {f m : Str} {a C dx : Addr} {fs : List (Str × V)} {v y : V} {sp : Sp} {dvs : List V} {t : TA}
theorem w_fld (h : ta σ H (FldK K f Q)) : tFld K ta f σ H Q := h
theorem w_fldAt (h1 : H a = some (.ins C dx fs)) (c : Cls K C) (n : NoAttr K C f) (l : fs.lookup f = some v) (h : Q v H) : FldK K f Q (.ref a) H := ⟨a, C, dx, fs, v, rfl, h1, c, n, l, h⟩
theorem w_sfld (h : tv σ H fun y H1 => ta σ H1 (SFldK K f y nx σ)) : sFld K ta tv f ⟨nx, rt, bk, ct⟩ σ H := h
theorem w_sfldAt (h1 : H a = some (.ins C dx fs)) (c : Cls K C) (n : NoAttr K C f) (l : fs.length < 1000) (h : nx σ (upd H a (.ins C dx (putF f y fs)))) : SFldK K f y nx σ (.ref a) H := ⟨a, C, dx, fs, rfl, h1, c, n, l, h⟩
theorem w_meth {E : XK} (h : ta σ H (MethK C m fun x H1 => t σ H1 fun vs H2 => sp (x :: (vs ++ dvs)) H2 Q E)) : tMeth C m sp dvs E ta t σ H Q := h
theorem w_methX {E : L2.St → XK} (h : ta σ H (MethK C m fun x H1 => t σ H1 fun vs H2 => sp (x :: vs) H2 Q (E σ))) : tMethX C m sp E ta t σ H Q := h
theorem w_methAt {R : V → Hp → Prop} (h1 : H a = some (.ins C dx fs)) (l : fs.lookup m = none) (h : R (.ref a) H) : MethK C m R (.ref a) H := ⟨a, dx, fs, rfl, h1, l, h⟩
theorem w_make {E : XK} (h : t σ H (MakeK C sp dvs E Q)) : tMake C sp dvs E t σ H Q := h
theorem w_makeX {E : L2.St → XK} (h : t σ H (MakeXK C sp (E σ) Q)) : tMakeX C sp E t σ H Q := h
end
theorem w_nes {Q : VK} {H : Hp} {i j : Str} (h : Q (.bl (!decide (i = j))) H) : rNe (.str i) (.str j) H Q := by
  refine ⟨rfl, ?_⟩
  have e : decide (V.str i = V.str j) = decide (i = j) := decide_eq_decide.mpr ⟨fun h => by injection h, fun h => by rw [h]⟩
  rw [e]
  exact h
end Pm
namespace Pm
open PySem PySem.Spec PyProof.Rows L2
/-- the fields of a mead -/
def mf (c n d lp la : V) : List (Str × V) := [("cut", c), ("many", n), ("sized", d), ("past", lp), ("ahead", la)]
theorem sb {a b : Str} (h : (a == b) = false) : ¬ a = b := fun e => by rw [e, beq_self_eq_true] at h; cases h
section
variable (c n d lp la y : V)
theorem lk_cons {k j : Str} {v : V} {r : List (Str × V)} (h : (k == j) = false) : List.lookup k ((j, v) :: r) = List.lookup k r := by rw [List.lookup_cons, h]
theorem lk_here {k : Str} {v : V} {r : List (Str × V)} : List.lookup k ((k, v) :: r) = some v := by rw [List.lookup_cons, beq_self_eq_true]
theorem mf_cut : (mf c n d lp la).lookup ("cut" : Str) = some c := lk_here
theorem mf_many : (mf c n d lp la).lookup ("many" : Str) = some n := by
  unfold mf
  rw [lk_cons (by decide +kernel)]
  exact lk_here
theorem mf_sized : (mf c n d lp la).lookup ("sized" : Str) = some d := by
  unfold mf
  rw [lk_cons (by decide +kernel), lk_cons (by decide +kernel)]
  exact lk_here
theorem mf_past : (mf c n d lp la).lookup ("past" : Str) = some lp := by
  unfold mf
  rw [lk_cons (by decide +kernel), lk_cons (by decide +kernel), lk_cons (by decide +kernel)]
  exact lk_here
theorem mf_no {k : Str} (h1 : (k == "cut") = false) (h2 : (k == "many") = false) (h3 : (k == "sized") = false) (h4 : (k == "past") = false) (h5 : (k == "ahead") = false) : (mf c n d lp la).lookup k = none := by
  unfold mf
  rw [lk_cons h1, lk_cons h2, lk_cons h3, lk_cons h4, lk_cons h5]
  rfl
theorem pf_cons {k j : Str} {v w : V} {r : List (Str × V)} (h : (j == k) = false) : putF k v ((j, w) :: r) = (j, w) :: putF k v r := by
  show (if j = k then _ else _) = _
  rw [if_neg (sb h)]
theorem mf_new : putF "ahead" la (putF "past" lp (putF "sized" d (putF "many" n (putF "cut" c [])))) = mf c n d lp la := by
  have e1 : putF "cut" c [] = [(("cut" : Str), c)] := rfl
  have e2 : putF "many" n [(("cut" : Str), c)] = ([("cut", c), ("many", n)] : List (Str × V)) := by rw [pf_cons (by decide +kernel)]; rfl
  have e3 : putF "sized" d ([("cut", c), ("many", n)] : List (Str × V)) = ([("cut", c), ("many", n), ("sized", d)] : List (Str × V)) := by rw [pf_cons (by decide +kernel), pf_cons (by decide +kernel)]; rfl
  have e4 : putF "past" lp ([("cut", c), ("many", n), ("sized", d)] : List (Str × V)) = ([("cut", c), ("many", n), ("sized", d), ("past", lp)] : List (Str × V)) := by rw [pf_cons (by decide +kernel), pf_cons (by decide +kernel), pf_cons (by decide +kernel)]; rfl
  rw [e1, e2, e3, e4, pf_cons (by decide +kernel), pf_cons (by decide +kernel), pf_cons (by decide +kernel), pf_cons (by decide +kernel)]
  rfl
end
/-- what a deed changes: posts, ropes, what is measured -/
structure Ms where
  n : Nat
  cut : List IP
  D : Nat → Nat → Rat
/-- the dict of the lengths of a state -/
def DLs (K : PySem.W.Frag) (H : Hp) (d : Addr) (S : Ms) : Prop := ∃ ks, LD K H d ks (fun k => rp (S.D k.1.toNat k.2.toNat)) ∧ (∀ p, p ∈ ks ↔ p ∈ tiesL S.n S.cut) ∧ (∀ p ∈ ks, smallP p) ∧ ks.length ≤ 1000
/-- deeds -/
inductive Deed where
  | turn (a b : Int)
  | stretch (p : Int) (f : Rat)
  | set (k : Int) (x y : Rat)
  | draw (p : Int)
def DeedAt (K : PySem.W.Frag) (H : Hp) (v : V) : Deed → Prop
  | .turn a b => ∃ t, v = .ref t ∧ H t = some (.tup [.str "turn", .int a, .int b])
  | .stretch p f => ∃ t u, v = .ref t ∧ H t = some (.tup [.str "stretch", .int p, .ref u]) ∧ FrV K H (.ref u) (rp f)
  | .set k x y => ∃ t u w, v = .ref t ∧ H t = some (.tup [.str "set", .int k, .ref u, .ref w]) ∧ FrV K H (.ref u) (rp x) ∧ FrV K H (.ref w) (rp y)
  | .draw p => ∃ t, v = .ref t ∧ H t = some (.tup [.str "draw", .int p])
def Deed.data : Deed → PyData
  | .turn a b => .tuple [.str "turn", .int a, .int b]
  | .stretch p f => .tuple [.str "stretch", .int p, pD (rp f)]
  | .set k x y => .tuple [.str "set", .int k, pD (rp x), pD (rp y)]
  | .draw p => .tuple [.str "draw", .int p]
/-- an entry of a list of deeds: the deed, the state -/
def EnAt (K : PySem.W.Frag) (H : Hp) (v : V) (e : Deed × Ms) : Prop := ∃ (t s c d : Addr) (u : V), v = .ref t ∧ H t = some (.tup [u, .ref s]) ∧ DeedAt K H u e.1 ∧ H s = some (.tup [.int e.2.n, .ref c, .ref d]) ∧ PLt H c e.2.cut ∧ DLs K H d e.2
section
variable {K : PySem.W.Frag} {H H' : Hp} {v : V}
theorem DeedAt.keep {d : Deed} (k : Keeps H H') (h : DeedAt K H v d) : DeedAt K H' v d := by
  cases d with
  | turn a b => obtain ⟨t, e, h⟩ := h; exact ⟨t, e, k _ _ h⟩
  | stretch p f => obtain ⟨t, u, e, h, h2⟩ := h; exact ⟨t, u, e, k _ _ h, h2.keep k⟩
  | set p x y => obtain ⟨t, u, w, e, h, h2, h3⟩ := h; exact ⟨t, u, w, e, k _ _ h, h2.keep k, h3.keep k⟩
  | draw p => obtain ⟨t, e, h⟩ := h; exact ⟨t, e, k _ _ h⟩
theorem DeedAt.dp {d : Deed} (h : DeedAt K H v d) : Dp K H v d.data := by
  cases d with
  | turn a b => obtain ⟨t, rfl, h⟩ := h; exact .tup (SqT.of h) (.cons (.str _) (.cons (.int _) (.cons (.int _) .nil)))
  | stretch p f => obtain ⟨t, u, rfl, h, h2⟩ := h; exact .tup (SqT.of h) (.cons (.str _) (.cons (.int _) (.cons h2.dp .nil)))
  | set p x y => obtain ⟨t, u, w, rfl, h, h2, h3⟩ := h; exact .tup (SqT.of h) (.cons (.str _) (.cons (.int _) (.cons h2.dp (.cons h3.dp .nil))))
  | draw p => obtain ⟨t, rfl, h⟩ := h; exact .tup (SqT.of h) (.cons (.str _) (.cons (.int _) .nil))
theorem Deed.lay (d : Deed) : d.data.canLay0 = true := by
  cases d <;> simp only [Deed.data, PyData.canLay0, PyData.canLayAll0, lay_pD, Bool.and_true] <;> decide +kernel
theorem Deed.shaped (d : Deed) : SeqAt.shaped d.data = true := by
  show (d.data.canLay0 && decide (d.data.depth ≤ 64)) = true
  rw [d.lay, Bool.true_and]
  cases d <;> simp only [Deed.data, PyData.depth, PyData.depthAll, depth_pD] <;> rfl
theorem Deed.eqv (d : Deed) : PyData.eqv d.data d.data = true := SeqAt.eqv_refl _ d.lay
theorem DeedAt.tup {d : Deed} (h : DeedAt K H v d) : ∃ t xs, v = .ref t ∧ H t = some (.tup xs) := by
  cases d with
  | turn a b => obtain ⟨t, rfl, h⟩ := h; exact ⟨t, _, rfl, h⟩
  | stretch p f => obtain ⟨t, u, rfl, h, h2⟩ := h; exact ⟨t, _, rfl, h⟩
  | set p x y => obtain ⟨t, u, w, rfl, h, h2, h3⟩ := h; exact ⟨t, _, rfl, h⟩
  | draw p => obtain ⟨t, rfl, h⟩ := h; exact ⟨t, _, rfl, h⟩
theorem DLs.same {d : Addr} {S : Ms} (h : DLs K H d S) (s : Same H H') : DLs K H' d S := by
  obtain ⟨ks, h1, h2⟩ := h
  exact ⟨ks, h1.same s, h2⟩
theorem DLs.keep {d : Addr} {S : Ms} (h : DLs K H d S) (k : Keeps H H') (e : H' d = H d) : DLs K H' d S := by
  obtain ⟨ks, h1, h2⟩ := h
  exact ⟨ks, h1.keep (o := .tup []) k e, h2⟩
theorem PLt.keep {a : Addr} {ps : List IP} (h : PLt H a ps) (k : Keeps H H') (e : H' a = H a) : PLt H' a ps := by
  obtain ⟨vs, h1, h2⟩ := h
  exact ⟨vs, by rw [e, h1], prs_keep k h2⟩
theorem EnAt.same {e : Deed × Ms} (s : Same H H') (h : EnAt K H v e) : EnAt K H' v e := by
  obtain ⟨t, z, c, d, u, e1, h1, h2, h3, h4, h5⟩ := h
  exact ⟨t, z, c, d, u, e1, s _ _ h1, h2.keep (keeps s), s _ _ h3, h4.same s, h5.same s⟩
end
/-- a heap, and the tuples of another -/
def addT (Hx H : Hp) : Hp := fun b => match H b with
  | some (.tup xs) => some (.tup xs)
  | _ => Hx b
section
variable {Hx H : Hp}
theorem addT_tup {b : Addr} {xs : List V} (h : H b = some (.tup xs)) : addT Hx H b = some (.tup xs) := by unfold addT; rw [h]
theorem addT_oth {b : Addr} (h : ∀ xs, H b ≠ some (.tup xs)) : addT Hx H b = Hx b := by
  unfold addT
  split
  · rename_i xs e; exact absurd e (h xs)
  · rfl
theorem addT_same (s : Same Hx H) : Same Hx (addT Hx H) := fun b o e => by
  by_cases h : ∃ xs, H b = some (.tup xs)
  · obtain ⟨xs, h⟩ := h
    rw [addT_tup h, ← h]
    exact s _ _ e
  · rw [addT_oth fun xs q => h ⟨xs, q⟩]
    exact e
theorem addT_sub (s : Same Hx H) : Same (addT Hx H) H := fun b o e => by
  by_cases h : ∃ xs, H b = some (.tup xs)
  · obtain ⟨xs, h⟩ := h
    rw [addT_tup h] at e
    rw [h, e]
  · rw [addT_oth fun xs q => h ⟨xs, q⟩] at e
    exact s _ _ e
theorem addT_keeps : Keeps H (addT Hx H) := fun t xs h => addT_tup h
theorem addT_some {b : Addr} {o : HO} (s : Same Hx H) (e : addT Hx H b = some o) (n : ∀ xs, o ≠ .tup xs) : Hx b = some o := by
  rw [addT_oth] at e
  · exact e
  · intro xs q
    rw [addT_tup q] at e
    cases e
    exact n _ rfl
theorem addT_none {b : Addr} {o : HO} (h : H b = some o) (n : ∀ xs, o ≠ .tup xs) (e : Hx b = none) : addT Hx H b = none := by
  rw [addT_oth]
  · exact e
  · intro xs q
    rw [h] at q
    cases q
    exact n _ rfl
end
/-- a mead stands at p: H0 what is not the mead's, Hs what it holds and never changes -/
structure MeadAt (K : PySem.W.Frag) (C : Addr) (H0 Hs H : Hp) (p : Addr) (S : Ms) (P A : List (Deed × Ms)) : Prop where
  s0 : Same H0 H
  ss : Same Hs H
  k0 : Keeps H H0
  ks : Keeps H Hs
  dj : ∀ b o, Hs b = some o → (∀ xs, o ≠ .tup xs) → H0 b = none
  ex : ∃ (dx lp la c d : Addr) (vs us : List V), H0 p = none ∧ H0 lp = none ∧ H0 la = none ∧ Hs p = none ∧ Hs lp = none ∧ Hs la = none ∧ lp ≠ la ∧ H p = some (.ins C dx (mf (.ref c) (.int S.n) (.ref d) (.ref lp) (.ref la))) ∧ H lp = some (.lst vs) ∧ H la = some (.lst us) ∧ PLt Hs c S.cut ∧ DLs K Hs d S ∧ All2 (EnAt K Hs) vs P ∧ All2 (EnAt K Hs) us A
section
variable {K : PySem.W.Frag} {C : Addr} {H0 Hs H : Hp} {p : Addr} {S : Ms} {P A : List (Deed × Ms)}
/-- plain work is done: what is new is not the mead's -/
theorem MeadAt.grow {H' : Hp} (M : MeadAt K C H0 Hs H p S P A) (s : Same H H') : ∃ H0' Hs', Same H0 H0' ∧ Same Hs Hs' ∧ MeadAt K C H0' Hs' H' p S P A ∧ ∀ b, H b = none → H0' b = H' b := by
  classical
  obtain ⟨dx, lp, la, c, d, vs, us, p0, l0, a0, ps, ls, as, nla, hp, hlp, hla, hc, hd, hP, hA⟩ := M.ex
  have ss' := M.ss.trans s
  refine ⟨fun b => if b = p ∨ b = lp ∨ b = la ∨ ∃ o, Hs b = some o ∧ ∀ xs, o ≠ .tup xs then none else H' b, addT Hs H', fun b o e => ?_, addT_same ss', ⟨fun b o e => ?_, addT_sub ss', fun b xs e => ?_, addT_keeps, fun b o e n => ?_, ?_⟩, fun b e => ?_⟩
  · show (if _ then none else H' b) = some o
    rw [if_neg]
    · exact s _ _ (M.s0 _ _ e)
    · rintro (rfl | rfl | rfl | ⟨u, h1, h2⟩)
      · rw [p0] at e; cases e
      · rw [l0] at e; cases e
      · rw [a0] at e; cases e
      · rw [M.dj _ _ h1 h2] at e; cases e
  · have e : (if _ then none else H' b) = some o := e
    split at e
    · cases e
    · exact e
  · show (if _ then none else H' b) = _
    rw [if_neg]
    · exact e
    · rintro (rfl | rfl | rfl | ⟨u, h1, h2⟩)
      · rw [s _ _ hp] at e; cases e
      · rw [s _ _ hlp] at e; cases e
      · rw [s _ _ hla] at e; cases e
      · rw [ss' _ _ h1] at e
        cases e
        exact h2 _ rfl
  · show (if _ then none else H' b) = none
    rw [if_pos (.inr (.inr (.inr ⟨o, addT_some ss' e n, n⟩)))]
  · have sg := addT_same ss'
    refine ⟨dx, lp, la, c, d, vs, us, if_pos (.inl rfl), if_pos (.inr (.inl rfl)), if_pos (.inr (.inr (.inl rfl))), ?_, ?_, ?_, nla, s _ _ hp, s _ _ hlp, s _ _ hla, hc.same sg, hd.same sg, hP.mono fun _ _ r => r.same sg, hA.mono fun _ _ r => r.same sg⟩
    · exact addT_none (s _ _ hp) (fun xs q => nomatch q) ps
    · exact addT_none (s _ _ hlp) (fun xs q => nomatch q) ls
    · exact addT_none (s _ _ hla) (fun xs q => nomatch q) as
  · show (if _ then none else H' b) = H' b
    rw [if_neg]
    rintro (rfl | rfl | rfl | ⟨u, h1, h2⟩)
    · rw [hp] at e; cases e
    · rw [hlp] at e; cases e
    · rw [hla] at e; cases e
    · rw [M.ss _ _ h1] at e; cases e
/-- something that is not the mead's is changed -/
theorem MeadAt.put {b : Addr} {o o' : HO} (M : MeadAt K C H0 Hs H p S P A) (hb : H0 b = some o) (n : ∀ xs, o ≠ .tup xs) (n' : ∀ xs, o' ≠ .tup xs) : MeadAt K C (upd H0 b o') Hs (upd H b o') p S P A := by
  obtain ⟨dx, lp, la, c, d, vs, us, p0, l0, a0, ps, ls, as, nla, hp, hlp, hla, hc, hd, hP, hA⟩ := M.ex
  have bs : Hs b = none := by
    cases e : Hs b with
    | none => rfl
    | some u =>
      have h1 := M.ss _ _ e
      rw [M.s0 _ _ hb] at h1
      cases h1
      rw [M.dj _ _ e n] at hb
      cases hb
  have nb : ∀ {q : Addr}, H0 q = none → q ≠ b := fun h z => by rw [z, hb] at h; cases h
  refine ⟨fun q u e => ?_, same_but bs M.ss, fun q xs e => ?_, fun q xs e => ?_, fun q u e z => ?_, dx, lp, la, c, d, vs, us, ?_, ?_, ?_, ps, ls, as, nla, ?_, ?_, ?_, hc, hd, hP, hA⟩
  · by_cases z : q = b
    · rw [z, upd_same] at e ⊢; exact e
    · rw [upd_ne z] at e ⊢; exact M.s0 _ _ e
  · by_cases z : q = b
    · rw [z, upd_same] at e; cases e; exact absurd rfl (n' _)
    · rw [upd_ne z] at e ⊢; exact M.k0 _ _ e
  · by_cases z : q = b
    · rw [z, upd_same] at e; cases e; exact absurd rfl (n' _)
    · rw [upd_ne z] at e; exact M.ks _ _ e
  · have : q ≠ b := fun y => by rw [y, bs] at e; cases e
    rw [upd_ne this]
    exact M.dj _ _ e z
  · rw [upd_ne (nb p0)]; exact p0
  · rw [upd_ne (nb l0)]; exact l0
  · rw [upd_ne (nb a0)]; exact a0
  · rw [upd_ne (nb p0)]; exact hp
  · rw [upd_ne (nb l0)]; exact hlp
  · rw [upd_ne (nb a0)]; exact hla
/-- a mead put together anew -/
theorem mead_mk {H' : Hp} {dx lp la c d : Addr} {vs us : List V} (s0 : Same H0 H') (ss : Same Hs H') (dj : ∀ b o, Hs b = some o → (∀ xs, o ≠ .tup xs) → H0 b = none) (p0 : H0 p = none) (l0 : H0 lp = none) (a0 : H0 la = none) (ps : Hs p = none) (ls : Hs lp = none) (as : Hs la = none) (nla : lp ≠ la)
    (hp : H' p = some (.ins C dx (mf (.ref c) (.int S.n) (.ref d) (.ref lp) (.ref la)))) (hlp : H' lp = some (.lst vs)) (hla : H' la = some (.lst us)) (hc : PLt H' c S.cut) (c0 : H0 c = none) (cl : c ≠ lp) (ca : c ≠ la) (hd : DLs K H' d S) (d0 : H0 d = none)
    (hP : ∀ Hx, Same Hs Hx → Keeps H' Hx → (∀ b, H0 b = none → b ≠ p → b ≠ lp → b ≠ la → Hx b = H' b) → All2 (EnAt K Hx) vs P ∧ All2 (EnAt K Hx) us A) : ∃ H0' Hs', Same H0 H0' ∧ Same Hs Hs' ∧ MeadAt K C H0' Hs' H' p S P A := by
  classical
  have cp : c ≠ p := by
    obtain ⟨xs, h1, _⟩ := hc
    exact ne_of h1 hp (fun z => nomatch z)
  have dd : d ≠ p ∧ d ≠ lp ∧ d ≠ la := by
    obtain ⟨ks, ⟨_, es, h1, _⟩, _⟩ := hd
    exact ⟨ne_of h1 hp (fun z => nomatch z), ne_of h1 hlp (fun z => nomatch z), ne_of h1 hla (fun z => nomatch z)⟩
  generalize hX : (fun b => if b = p ∨ b = lp ∨ b = la ∨ ∃ o, H0 b = some o ∧ ∀ xs, o ≠ .tup xs then none else H' b : Hp) = Hx
  have eX : ∀ b, H0 b = none → b ≠ p → b ≠ lp → b ≠ la → Hx b = H' b := fun b h1 h2 h3 h4 => by
    rw [← hX]
    refine if_neg ?_
    rintro (z | z | z | ⟨o, z, _⟩)
    · exact h2 z
    · exact h3 z
    · exact h4 z
    · rw [h1] at z; cases z
  have kX : Keeps H' Hx := fun b xs e => by
    rw [← hX]
    show (if _ then none else H' b) = _
    rw [if_neg]
    · exact e
    · rintro (rfl | rfl | rfl | ⟨o, z, n⟩)
      · rw [hp] at e; cases e
      · rw [hlp] at e; cases e
      · rw [hla] at e; cases e
      · rw [s0 _ _ z] at e; cases e; exact n _ rfl
  have sX : Same Hx H' := fun b o e => by
    rw [← hX] at e
    have e : (if _ then none else H' b) = some o := e
    split at e
    · cases e
    · exact e
  have sg : Same Hs Hx := fun b o e => by
    rw [← hX]
    show (if _ then none else H' b) = _
    rw [if_neg]
    · exact ss _ _ e
    · rintro (rfl | rfl | rfl | ⟨u, z, n⟩)
      · rw [ps] at e; cases e
      · rw [ls] at e; cases e
      · rw [as] at e; cases e
      · have h1 := s0 _ _ z
        rw [ss _ _ e] at h1
        cases h1
        rw [dj _ _ e n] at z
        cases z
  obtain ⟨hP, hA⟩ := hP Hx sg kX eX
  refine ⟨addT H0 H', Hx, addT_same s0, sg, addT_sub s0, sX, addT_keeps, kX, fun b o e n => ?_, dx, lp, la, c, d, vs, us, addT_none hp (fun xs q => nomatch q) p0, addT_none hlp (fun xs q => nomatch q) l0, addT_none hla (fun xs q => nomatch q) a0, ?_, ?_, ?_, nla, hp, hlp, hla, hc.keep kX (eX c c0 cp cl ca), hd.keep kX (eX d d0 dd.1 dd.2.1 dd.2.2), hP, hA⟩
  · have h1 := sX _ _ e
    refine addT_none h1 n ?_
    cases z : H0 b with
    | none => rfl
    | some u =>
      have h2 := s0 _ _ z
      rw [h1] at h2
      cases h2
      rw [← hX] at e
      have e : (if _ then none else H' b) = some o := e
      rw [if_pos (.inr (.inr (.inr ⟨o, z, n⟩)))] at e
      cases e
  · rw [← hX]; exact if_pos (.inl rfl)
  · rw [← hX]; exact if_pos (.inr (.inl rfl))
  · rw [← hX]; exact if_pos (.inr (.inr (.inl rfl)))
end
end Pm
namespace Pm
open PySem PySem.Spec PyProof.Rows L2
/-- a state of a mead: a cutting, lengths; numbers below 2 ^ B -/
def Ok (S : Ms) (B : Nat) : Prop := S.n ≤ 12 ∧ ∃ (t : Tr) (L : Len) (F : Nat), Cutting S.n S.cut t ∧ Meas S.n t L S.D ∧ Bd S.n S.D F B
section
variable {K : PySem.W.Frag} {H : Hp} {d : Addr} {S : Ms} {t : Tr}
theorem DLs.len (h : DLs K H d S) (C : Cutting S.n S.cut t) : LenD K H d t S.D := by
  obtain ⟨ks, h1, h2, _⟩ := h
  exact ⟨ks, _, h1, fun p => by rw [h2]; exact C.ties, fun q hq => rfl⟩
theorem small_tie' {n : Nat} {cut : List IP} (C : Cutting n cut t) (n12 : n ≤ 12) {p : IP} (h : p ∈ tiesL n cut) : smallP p := by
  obtain ⟨q, hq, rfl⟩ := C.ties.mp h
  have := Tr.bd hq
  have := C.w
  unfold smallP castP
  simp only
  omega
theorem Cutting.ties_len' {n : Nat} {cut : List IP} (C : Cutting n cut t) : (tiesL n cut).length = 2 * n - 3 := by
  have := C.cut_len
  have := C.n3
  rw [tiesL, sortP_len, List.length_append, sides0_len (by omega)]
  omega
theorem LenD.dls (h : LenD K H d t S.D) (C : Cutting S.n S.cut t) (n12 : S.n ≤ 12) : DLs K H d S := by
  obtain ⟨ks, L, h1, h2, h3⟩ := h
  have e : ∀ p, p ∈ ks ↔ p ∈ tiesL S.n S.cut := fun p => by rw [h2]; exact C.ties.symm
  refine ⟨ks, h1.congr fun k hk => ?_, e, fun p hp => small_tie' C n12 ((e p).mp hp), ?_⟩
  · obtain ⟨q, hq, rfl⟩ := (h2 k).mp hk
    rw [h3 q hq]
    rfl
  · rw [perm_len h1.nd C.ties_nodup e, C.ties_len']
    omega
end
/-- t is t' with the post p put in between b and a -/
structure EarIn (n : Nat) (t t' : Tr) (p b a : Nat) : Prop where
  w' : t'.w + 1 = n
  w : t.w = n
  all : ∀ q, q ∈ t.all 0 ↔ (∃ q0, q0 ∈ t'.all 0 ∧ q = Tr.skp p q0) ∨ q = (min b p, max b p) ∨ q = (min p a, max p a)
  ropes : (t.ropes 0).Perm ((min b a, max b a) :: (t'.ropes 0).map (Tr.skp p))
namespace Tr
theorem all_graft {t : Tr} {j : Nat} (h : j < t.w) (q : Nat × Nat) : q ∈ (t.graft j).all 0 ↔ (∃ q0, q0 ∈ t.all 0 ∧ q = skp (j + 1) q0) ∨ q = (j, j + 1) ∨ q = (j + 1, j + 2) := by
  have hw := w_graft h
  have hp := inn_graft (lo := 0) h
  obtain ⟨x, y⟩ := q
  rw [all_iff, hp.mem_iff, List.mem_cons, List.mem_map, hw]
  simp only [Nat.zero_add]
  constructor
  · rintro ((e | ⟨q0, h0, e⟩) | ⟨_, e1, e2⟩)
    · refine .inl ⟨(j, j + 1), all_iff.mpr (.inr ⟨Nat.zero_le _, rfl, by show j + 1 ≤ 0 + t.w; omega⟩), ?_⟩
      rw [e]
      unfold skp sk
      simp only
      rw [if_pos (by omega), if_neg (by omega)]
    · exact .inl ⟨q0, inn_all h0, e.symm⟩
    · subst e1
      rcases Nat.lt_trichotomy x j with z | z | z
      · refine .inl ⟨(x, x + 1), all_iff.mpr (.inr ⟨Nat.zero_le _, rfl, by show x + 1 ≤ 0 + t.w; omega⟩), ?_⟩
        unfold skp sk
        simp only
        rw [if_pos (by omega), if_pos (by omega)]
      · rw [z]; exact .inr (.inl rfl)
      · by_cases z2 : x = j + 1
        · rw [z2]; exact .inr (.inr rfl)
        · refine .inl ⟨(x - 1, x), all_iff.mpr (.inr ⟨Nat.zero_le _, by show x = x - 1 + 1; omega, by show x ≤ 0 + t.w; omega⟩), ?_⟩
          unfold skp sk
          simp only
          rw [if_neg (by omega), if_neg (by omega)]
          congr 1
          omega
  · rintro (⟨q0, h0, e⟩ | e | e)
    · rcases all_iff.mp h0 with h1 | ⟨_, h1, h2⟩
      · exact .inl (.inr ⟨q0, h1, e.symm⟩)
      · obtain ⟨u, v⟩ := q0
        simp only at h1 h2
        subst h1
        unfold skp sk at e
        simp only at e
        by_cases z : u = j
        · rw [if_pos (by omega), if_neg (by omega)] at e
          refine .inl (.inl ?_)
          rw [e, z]
        · refine .inr ⟨Nat.zero_le _, ?_, ?_⟩
          · have e1 := congrArg Prod.fst e
            have e2 := congrArg Prod.snd e
            simp only at e1 e2
            show y = x + 1
            split at e1 <;> split at e2 <;> omega
          · have e2 := congrArg Prod.snd e
            simp only at e2
            show y ≤ t.w + 1
            split at e2 <;> omega
    · injection e with e1 e2
      exact .inr ⟨Nat.zero_le _, by omega, by omega⟩
    · injection e with e1 e2
      exact .inr ⟨Nat.zero_le _, by omega, by omega⟩
theorem ungraft : ∀ {t : Tr} {lo p : Nat}, lo < p → p < lo + t.w → (∀ q ∈ t.inn lo, q.1 ≠ p ∧ q.2 ≠ p) → ∃ t' : Tr, t = t'.graft (p - lo - 1) ∧ t'.w + 1 = t.w ∧ p - lo - 1 < t'.w
  | leaf, lo, p, h1, h2, _ => absurd h2 (by show ¬ p < lo + 1; omega)
  | node l r, lo, p, h1, h2, h3 => by
    have h2 : p < lo + (l.w + r.w) := h2
    have lp := l.w_pos
    have rp := r.w_pos
    rcases Nat.lt_trichotomy p (lo + l.w) with z | z | z
    · obtain ⟨l', e, hw, hj⟩ := ungraft (t := l) h1 z (fun q hq => h3 q (List.mem_cons_of_mem _ (List.mem_append_left _ hq)))
      refine ⟨node l' r, ?_, ?_, ?_⟩
      · show _ = (if _ then node (l'.graft _) r else _)
        rw [if_pos hj, ← e]
      · show l'.w + r.w + 1 = l.w + r.w
        omega
      · show _ < l'.w + r.w
        omega
    · have el : l = leaf := by
        cases l with
        | leaf => rfl
        | node a b => exact absurd z.symm (h3 _ (List.mem_cons_of_mem _ (List.mem_append_left _ List.mem_cons_self))).2
      have er : r = leaf := by
        cases r with
        | leaf => rfl
        | node a b => exact absurd z.symm (h3 _ (List.mem_cons_of_mem _ (List.mem_append_right _ List.mem_cons_self))).1
      subst el er
      have e1 : (leaf : Tr).w = 1 := rfl
      rw [e1] at z
      refine ⟨leaf, ?_, rfl, ?_⟩
      · rfl
      · show p - lo - 1 < 1
        omega
    · obtain ⟨r', e, hw, hj⟩ := ungraft (t := r) (lo := lo + l.w) z (by omega) (fun q hq => h3 q (List.mem_cons_of_mem _ (List.mem_append_right _ hq)))
      refine ⟨node l r', ?_, ?_, ?_⟩
      · show _ = (if _ then _ else node l (r'.graft _))
        rw [if_neg (by omega), e]
        congr 2
        omega
      · show l.w + r'.w + 1 = l.w + r.w
        omega
      · show _ < l.w + r'.w
        omega
theorem all_shift : ∀ (t : Tr) (lo : Nat), t.all (lo + 1) = (t.all lo).map fun p => (p.1 + 1, p.2 + 1)
  | leaf, lo => rfl
  | node l r, lo => by
    show (lo + 1, lo + 1 + (l.w + r.w)) :: (l.all (lo + 1) ++ r.all (lo + 1 + l.w)) = ((lo, lo + (l.w + r.w)) :: (l.all lo ++ r.all (lo + l.w))).map _
    rw [List.map_cons, List.map_append, all_shift l lo, show lo + 1 + l.w = lo + l.w + 1 by omega, all_shift r (lo + l.w)]
    congr 2
    omega
end Tr
/-- a post put in behind k -/
theorem ear_put {n k : Nat} {t : Tr} (hw : t.w + 1 = n) (n3 : 3 ≤ n) (hk : k < n) : ∃ t2, EarIn n t2 t (k + 1) k (if k + 1 < n then k + 2 else 0) := by
  by_cases c : k + 1 < n
  · rw [if_pos c]
    refine ⟨t.graft k, hw, by rw [Tr.w_graft (by omega)]; exact hw, fun q => ?_, ?_⟩
    · rw [Tr.all_graft (by omega), Nat.min_eq_left (by omega), Nat.max_eq_right (by omega), Nat.min_eq_left (by omega), Nat.max_eq_right (by omega)]
    · rw [Nat.min_eq_left (by omega), Nat.max_eq_right (by omega)]
      exact Tr.ropes_graft (by omega) (by omega)
  · rw [if_neg c]
    have ek : k = t.w := by omega
    have id1 : ∀ q ∈ t.all 0, Tr.skp (k + 1) q = q := fun q hq => by
      have := Tr.bd hq
      unfold Tr.skp Tr.sk
      rw [if_pos (by omega), if_pos (by omega)]
    refine ⟨.node t .leaf, hw, by show t.w + 1 = n; exact hw, fun q => ?_, ?_⟩
    · rw [Tr.mem_node, Nat.min_eq_left (by omega), Nat.max_eq_right (by omega), Nat.min_eq_right (by omega), Nat.max_eq_left (by omega)]
      show q = (0, 0 + (t.w + 1)) ∨ q ∈ t.all 0 ∨ q ∈ [(0 + t.w, 0 + t.w + 1)] ↔ _
      rw [List.mem_singleton, Nat.zero_add, Nat.zero_add, ← ek]
      constructor
      · rintro (h | h | h)
        · exact .inr (.inr h)
        · exact .inl ⟨q, h, (id1 q h).symm⟩
        · exact .inr (.inl h)
      · rintro (⟨q0, h, e⟩ | h | h)
        · rw [e, id1 q0 h]; exact .inr (.inl h)
        · exact .inr (.inr h)
        · exact .inl h
    · show (t.inn 0 ++ []).Perm _
      rw [List.append_nil, Tr.inn_node (by omega), Nat.min_eq_right (by omega), Nat.max_eq_left (by omega), Nat.zero_add, ← ek]
      refine List.Perm.cons _ (List.Perm.of_eq ?_)
      conv => lhs; rw [← List.map_id (t.ropes 0)]
      exact List.map_congr_left fun q hq => (id1 q (Tr.inn_all (ropes_bd hq).1)).symm
/-- a post without ropes taken out -/
theorem ear_take {n p : Nat} {t : Tr} (hw : t.w = n) (n3 : 3 ≤ n) (hp : p ≤ n) (no : ∀ q ∈ t.ropes 0, q.1 ≠ p ∧ q.2 ≠ p) : ∃ t', EarIn n t t' p (if p = 0 then n else p - 1) (if p = n then 0 else p + 1) := by
  by_cases c0 : p = 0
  · subst c0
    rw [if_pos rfl, if_neg (by omega)]
    match t, hw, no with
    | .leaf, hw, _ => exact absurd hw (by show ¬ 1 = n; omega)
    | .node (.node a b) r, hw, no => exact absurd rfl (no (0, 0 + (a.w + b.w)) (List.mem_append_left _ List.mem_cons_self)).1
    | .node .leaf r, hw, no =>
      have hw : 1 + r.w = n := hw
      refine ⟨r, by omega, by show 1 + r.w = n; exact hw, fun q => ?_, ?_⟩
      · rw [Tr.mem_node, Nat.min_eq_right (by omega), Nat.max_eq_left (by omega), Nat.min_eq_left (by omega), Nat.max_eq_right (by omega)]
        show q = (0, 0 + (1 + r.w)) ∨ q ∈ [(0, 0 + 1)] ∨ q ∈ r.all (0 + 1) ↔ _
        rw [Tr.all_shift, List.mem_map, List.mem_singleton, Nat.zero_add, hw]
        have sk0 : ∀ q0 : Nat × Nat, Tr.skp 0 q0 = (q0.1 + 1, q0.2 + 1) := fun q0 => by
          unfold Tr.skp Tr.sk
          rw [if_neg (by omega), if_neg (by omega)]
        constructor
        · rintro (h | h | ⟨q0, h, e⟩)
          · exact .inr (.inl h)
          · exact .inr (.inr h)
          · exact .inl ⟨q0, h, by rw [sk0]; exact e.symm⟩
        · rintro (⟨q0, h, e⟩ | h | h)
          · exact .inr (.inr ⟨q0, h, by rw [e, sk0]⟩)
          · exact .inl h
          · exact .inr (.inl h)
      · show ([] ++ r.inn (0 + 1)).Perm _
        rw [List.nil_append, Tr.inn_node (by omega), Tr.ropes_shift, Nat.min_eq_right (by omega), Nat.max_eq_left (by omega), show 0 + 1 + r.w = n by omega]
        refine List.Perm.cons _ (List.Perm.of_eq (List.map_congr_left fun q0 _ => ?_))
        unfold Tr.skp Tr.sk
        rw [if_neg (by omega), if_neg (by omega)]
  · rw [if_neg c0]
    by_cases c1 : p = n
    · subst c1
      rw [if_pos rfl]
      match t, hw, no with
      | .leaf, hw, _ => exact absurd hw (by show ¬ 1 = p; omega)
      | .node l (.node a b), hw, no =>
        refine absurd ?_ (no (0 + l.w, 0 + l.w + (a.w + b.w)) (List.mem_append_right _ List.mem_cons_self)).2
        have hw : l.w + (a.w + b.w) = p := hw
        simp only
        omega
      | .node l .leaf, hw, no =>
        have hw : l.w + 1 = p := hw
        have id1 : ∀ q ∈ l.all 0, Tr.skp p q = q := fun q hq => by
          have := Tr.bd hq
          unfold Tr.skp Tr.sk
          rw [if_pos (by omega), if_pos (by omega)]
        refine ⟨l, hw, by show l.w + 1 = p; exact hw, fun q => ?_, ?_⟩
        · rw [Tr.mem_node, Nat.min_eq_left (by omega), Nat.max_eq_right (by omega), Nat.min_eq_right (by omega), Nat.max_eq_left (by omega)]
          show q = (0, 0 + (l.w + 1)) ∨ q ∈ l.all 0 ∨ q ∈ [(0 + l.w, 0 + l.w + 1)] ↔ _
          rw [List.mem_singleton, Nat.zero_add, Nat.zero_add, hw, show l.w = p - 1 by omega]
          constructor
          · rintro (h | h | h)
            · exact .inr (.inr h)
            · exact .inl ⟨q, h, (id1 q h).symm⟩
            · exact .inr (.inl h)
          · rintro (⟨q0, h, e⟩ | h | h)
            · rw [e, id1 q0 h]; exact .inr (.inl h)
            · exact .inr (.inr h)
            · exact .inl h
        · show (l.inn 0 ++ []).Perm _
          rw [List.append_nil, Tr.inn_node (by omega), Nat.min_eq_right (by omega), Nat.max_eq_left (by omega), Nat.zero_add, show l.w = p - 1 by omega]
          refine List.Perm.cons _ (List.Perm.of_eq ?_)
          conv => lhs; rw [← List.map_id (l.ropes 0)]
          exact List.map_congr_left fun q hq => (id1 q (Tr.inn_all (ropes_bd hq).1)).symm
    · rw [if_neg c1]
      have no2 : ∀ q ∈ t.inn 0, q.1 ≠ p ∧ q.2 ≠ p := fun q hq => by
        rcases (inn_iff (by omega)).mp hq with rfl | h
        · exact ⟨by simp only; omega, by simp only; omega⟩
        · exact no q h
      obtain ⟨t', e, hw', hj⟩ := Tr.ungraft (lo := 0) (p := p) (by omega) (by omega) no2
      rw [Nat.sub_zero] at e hj
      refine ⟨t', by omega, hw, fun q => ?_, ?_⟩
      · rw [e, Tr.all_graft hj, Nat.min_eq_left (by omega), Nat.max_eq_right (by omega), Nat.min_eq_left (by omega), Nat.max_eq_right (by omega), show p - 1 + 1 = p by omega, show p - 1 + 2 = p + 1 by omega]
      · have := Tr.ropes_graft hj (by omega)
        rw [← e, show p - 1 + 1 = p by omega, show p - 1 + 2 = p + 1 by omega] at this
        rw [Nat.min_eq_left (by omega), Nat.max_eq_right (by omega)]
        exact this
def dn (k i : Nat) : Nat := if i > k then i - 1 else i
def sg (n k : Nat) : Rat := if k + 1 < n then 1 else -1
/-- from the old post i to the new one behind k -/
def newD (n k : Nat) (x y : Rat) (D : Nat → Nat → Rat) (i : Nat) : Rat := (x * sg n k * D i ((k + 1) % n) + y * D i k) / (sg n k * D k ((k + 1) % n))
def setD (n k : Nat) (x y : Rat) (D : Nat → Nat → Rat) (i j : Nat) : Rat := if i = k + 1 then (if j = k + 1 then 0 else - newD n k x y D (dn k j)) else if j = k + 1 then newD n k x y D (dn k i) else D (dn k i) (dn k j)
section
variable {n : Nat} {t : Tr} {L : Len} {D : Nat → Nat → Rat} {k : Nat} {x y : Rat}
theorem Meas.side (M : Meas n t L D) (n3 : 3 ≤ n) (hk : k < n) : 0 < sg n k * D k ((k + 1) % n) := by
  unfold sg
  by_cases c : k + 1 < n
  · rw [if_pos c, Nat.mod_eq_of_lt c]
    have := M.above (Nat.lt_succ_self k) c
    grind
  · rw [if_neg c, show k + 1 = n by omega, Nat.mod_self]
    have := M.above (i := 0) (k := k) (by omega) hk
    have := M.anti (i := 0) (k := k) (by omega) hk
    grind
theorem dn_lt {i : Nat} (hk : k < n) (hi : i < n + 1) : dn k i < n := by
  unfold dn
  split <;> omega
theorem setD_det (M : Meas n t L D) (n3 : 3 ≤ n) (hk : k < n) : ∃ S : Nat → V2, ∀ i j, i < n + 1 → j < n + 1 → setD n k x y D i j = det (S i) (S j) := by
  obtain ⟨S, _, hS⟩ := M.ex
  have W := M.side n3 hk
  have hw := M.w
  have ha : (k + 1) % n < n := Nat.mod_lt _ (by omega)
  have key : ∀ i, i < n → newD n k x y D i = det (S i) (mix (S ((k + 1) % n)) (x * sg n k / (sg n k * D k ((k + 1) % n))) (S k) (y / (sg n k * D k ((k + 1) % n)))) := by
    intro i hi
    have e1 := hS i ((k + 1) % n) hi ha
    have e2 := hS i k hi hk
    unfold newD
    rw [e1, e2]
    generalize sg n k * D k ((k + 1) % n) = z at *
    unfold det mix
    simp only
    have : z ≠ 0 := by grind
    grind
  refine ⟨fun i => if i = k + 1 then mix (S ((k + 1) % n)) (x * sg n k / (sg n k * D k ((k + 1) % n))) (S k) (y / (sg n k * D k ((k + 1) % n))) else S (dn k i), fun i j hi hj => ?_⟩
  unfold setD
  simp only
  by_cases ci : i = k + 1
  · rw [if_pos ci, if_pos ci]
    by_cases cj : j = k + 1
    · rw [if_pos cj, if_pos cj, det_self]
    · rw [if_neg cj, if_neg cj, key _ (dn_lt hk hj), ← det_anti]
  · rw [if_neg ci, if_neg ci]
    by_cases cj : j = k + 1
    · rw [if_pos cj, if_pos cj, key _ (dn_lt hk hi)]
    · rw [if_neg cj, if_neg cj]
      exact hS _ _ (dn_lt hk hi) (dn_lt hk hj)
theorem dn_sk (i : Nat) : dn k (Tr.sk (k + 1) i) = i ∧ Tr.sk (k + 1) i ≠ k + 1 := by
  unfold dn Tr.sk
  by_cases c : i < k + 1
  · rw [if_pos c, if_neg (by omega)]
    exact ⟨rfl, by omega⟩
  · rw [if_neg c, if_pos (by omega)]
    exact ⟨by omega, by omega⟩
theorem setD_old (q : Nat × Nat) : setD n k x y D (Tr.skp (k + 1) q).1 (Tr.skp (k + 1) q).2 = D q.1 q.2 := by
  have h1 := dn_sk (k := k) q.1
  have h2 := dn_sk (k := k) q.2
  unfold setD Tr.skp
  simp only
  rw [if_neg h1.2, if_neg h2.2, h1.1, h2.1]
theorem setD_one (M : Meas n t L D) (n3 : 3 ≤ n) (hk : k < n) : setD n k x y D (min k (k + 1)) (max k (k + 1)) = x := by
  rw [Nat.min_eq_left (by omega), Nat.max_eq_right (by omega)]
  unfold setD newD
  rw [if_neg (by omega), if_pos rfl, show dn k k = k by unfold dn; rw [if_neg (by omega)], M.self hk]
  have W := M.side n3 hk
  have : sg n k * D k ((k + 1) % n) ≠ 0 := by grind
  grind
theorem setD_two (M : Meas n t L D) (n3 : 3 ≤ n) (hk : k < n) : setD n k x y D (min (k + 1) (if k + 1 < n then k + 2 else 0)) (max (k + 1) (if k + 1 < n then k + 2 else 0)) = y := by
  have W := M.side n3 hk
  by_cases c : k + 1 < n
  · have s1 := M.self (i := k + 1) c
    have s2 := M.anti (i := k) (k := k + 1) hk c
    unfold sg at W
    rw [if_pos c, Nat.mod_eq_of_lt c] at W
    rw [if_pos c, Nat.min_eq_left (by omega), Nat.max_eq_right (by omega)]
    unfold setD newD sg
    rw [if_pos rfl, if_neg (by omega), show dn k (k + 2) = k + 1 by unfold dn; rw [if_pos (by omega)]; omega, if_pos c, Nat.mod_eq_of_lt c, s1, s2]
    have : (1 : Rat) * D k (k + 1) ≠ 0 := by grind
    grind
  · have e : k + 1 = n := by omega
    have s1 := M.self (i := 0) (by omega)
    have s2 := M.anti (i := 0) (k := k) (by omega) hk
    unfold sg at W
    rw [if_neg c, e, Nat.mod_self] at W
    rw [if_neg c, Nat.min_eq_right (by omega), Nat.max_eq_left (by omega)]
    unfold setD newD sg
    rw [if_neg (by omega), if_pos rfl, show dn k 0 = 0 by unfold dn; rw [if_neg (by omega)], if_neg c, show (k + 1) % n = 0 by rw [e, Nat.mod_self], s1, s2]
    have : (-1 : Rat) * - D 0 k ≠ 0 := by grind
    grind
theorem Meas.set {t2 : Tr} (M : Meas n t L D) (n3 : 3 ≤ n) (hk : k < n) (hx : 0 < x) (hy : 0 < y) (E : EarIn n t2 t (k + 1) k (if k + 1 < n then k + 2 else 0)) : Meas (n + 1) t2 (fun q => setD n k x y D q.1 q.2) (setD n k x y D) := by
  obtain ⟨S, hS⟩ := setD_det (x := x) (y := y) M n3 hk
  have hw := M.w
  refine ⟨by rw [E.w], fun q hq => ?_, S, fun q hq => ?_, hS⟩
  · rcases (E.all q).mp hq with ⟨q0, h0, rfl⟩ | rfl | rfl
    · show 0 < setD n k x y D _ _
      have b := Tr.bd h0
      rw [setD_old]
      exact M.above b.2.1 (by omega)
    · show 0 < setD n k x y D _ _
      rw [setD_one M n3 hk]
      exact hx
    · show 0 < setD n k x y D _ _
      rw [setD_two M n3 hk]
      exact hy
  · have b := Tr.bd hq
    have := E.w
    exact (hS q.1 q.2 (by omega) (by omega)).symm
theorem Bd.set {F B m b : Nat} (M : Meas n t L D) (Z : Bd n D F B) (n3 : 3 ≤ n) (hk : k < n) (hx : Pm.rb x m) (hy : Pm.rb y m) (hs : Pm.rb (sg n k * D k ((k + 1) % n)) b) : ∃ F', Bd (n + 1) (setD n k x y D) F' (B + 2 * m + b + 1) := by
  have W := M.side n3 hk
  have ha : (k + 1) % n < n := Nat.mod_lt _ (by omega)
  generalize hWW : sg n k * D k ((k + 1) % n) = ww at W hs
  have wn : 0 < ww.num := pos_num W
  obtain ⟨wN, hwN⟩ : ∃ wN : Nat, ww.num = (wN : Int) := ⟨ww.num.toNat, by omega⟩
  have f0 := Z.f0
  have fb := Z.fb
  obtain ⟨hx1, hx2⟩ := hx
  obtain ⟨hy1, hy2⟩ := hy
  obtain ⟨hs1, hs2⟩ := hs
  rw [hwN] at hs1
  have xd := x.den_pos
  have yd := y.den_pos
  have ex := rat_num_den x
  have ey := rat_num_den y
  have ew := rat_num_den ww
  rw [hwN] at ew
  have w0 : (wN : Rat) ≠ 0 := by
    have : 0 < wN := by omega
    exact_mod_cast Nat.pos_iff_ne_zero.mp this
  have ww0 : ww ≠ 0 := by grind
  have pw : ∀ {a b c d p q r s : Nat}, a < 2 ^ p → b < 2 ^ q → c < 2 ^ r → d < 2 ^ s → a * b * c * d < 2 ^ (p + q + r + s) := by
    intro a b c d p q r s h1 h2 h3 h4
    rw [Nat.pow_add, Nat.pow_add, Nat.pow_add]
    exact Nat.mul_lt_mul'' (Nat.mul_lt_mul'' (Nat.mul_lt_mul'' h1 h2) h3) h4
  have up : ∀ {a : Nat}, a < 2 ^ (B + 2 * m + b) → a < 2 ^ (B + 2 * m + b + 1) := fun h => Nat.lt_of_lt_of_le h (Nat.pow_le_pow_right (by decide) (by omega))
  have e4 : B + m + m + b = B + 2 * m + b := by omega
  have wNb : wN < 2 ^ b := by omega
  have oldz : ∀ i j, i < n → j < n → ∃ z : Int, D i j * ((F * x.den * y.den * wN : Nat) : Rat) = z ∧ z.natAbs < 2 ^ (B + 2 * m + b) := by
    intro i j hi hj
    obtain ⟨z, e, hz⟩ := Z.all i j hi hj
    refine ⟨z * x.den * y.den * wN, ?_, ?_⟩
    · push_cast
      rw [← e]
      grind
    · have e1 : (z * (x.den : Int) * (y.den : Int) * (wN : Int)).natAbs = z.natAbs * x.den * y.den * wN := by rw [Int.natAbs_mul, Int.natAbs_mul, Int.natAbs_mul]; rfl
      rw [e1, ← e4]
      exact pw hz hx2 hy2 wNb
  have newz : ∀ i, i < n → ∃ z : Int, newD n k x y D i * ((F * x.den * y.den * wN : Nat) : Rat) = z ∧ z.natAbs < 2 ^ (B + 2 * m + b + 1) := by
    intro i hi
    obtain ⟨z1, e1, hz1⟩ := Z.all i ((k + 1) % n) hi ha
    obtain ⟨z2, e2, hz2⟩ := Z.all i k hi hk
    obtain ⟨s, es, hs⟩ : ∃ s : Int, sg n k = (s : Rat) ∧ s.natAbs = 1 := by
      unfold sg
      split
      · exact ⟨1, rfl, rfl⟩
      · exact ⟨-1, rfl, rfl⟩
    refine ⟨(x.num * y.den * z1 * ww.den) * s + y.num * x.den * z2 * ww.den, ?_, ?_⟩
    · unfold newD
      rw [hWW, es]
      push_cast
      rw [← ex, ← ey, ← e1, ← e2]
      have : (wN : Rat) = ww * (ww.den : Rat) := ew.symm
      rw [this]
      grind
    · have h1 : (x.num * (y.den : Int) * z1 * (ww.den : Int)).natAbs < 2 ^ (B + 2 * m + b) := by
        rw [Int.natAbs_mul, Int.natAbs_mul, Int.natAbs_mul, show B + 2 * m + b = m + m + B + b by omega]
        exact pw hx1 hy2 hz1 hs2
      have h2 : (y.num * (x.den : Int) * z2 * (ww.den : Int)).natAbs < 2 ^ (B + 2 * m + b) := by
        rw [Int.natAbs_mul, Int.natAbs_mul, Int.natAbs_mul, show B + 2 * m + b = m + m + B + b by omega]
        exact pw hy1 hx2 hz2 hs2
      have h3 : ((x.num * (y.den : Int) * z1 * (ww.den : Int)) * s).natAbs < 2 ^ (B + 2 * m + b) := by
        rw [Int.natAbs_mul, hs, Nat.mul_one]
        exact h1
      have h4 := Int.natAbs_add_le ((x.num * (y.den : Int) * z1 * (ww.den : Int)) * s) (y.num * (x.den : Int) * z2 * (ww.den : Int))
      rw [Nat.pow_succ]
      omega
  refine ⟨F * x.den * y.den * wN, ?_, ?_, fun i j hi hj => ?_⟩
  · have : 0 < wN := by omega
    exact Nat.mul_pos (Nat.mul_pos (Nat.mul_pos f0 xd) yd) this
  · refine up ?_
    rw [← e4]
    exact pw fb hx2 hy2 wNb
  · unfold setD
    split
    · split
      · exact ⟨0, by grind, by show 0 < _; exact Nat.pow_pos (by decide)⟩
      · obtain ⟨z, e, hz⟩ := newz _ (dn_lt hk hj)
        refine ⟨-z, ?_, by rw [Int.natAbs_neg]; exact hz⟩
        push_cast
        rw [← e]
        push_cast
        grind
    · split
      · exact newz _ (dn_lt hk hi)
      · obtain ⟨z, e, hz⟩ := oldz _ _ (dn_lt hk hi) (dn_lt hk hj)
        exact ⟨z, e, up hz⟩
/-- behind the drawing of a post -/
def drawD (p : Nat) (D : Nat → Nat → Rat) (i j : Nat) : Rat := D (Tr.sk p i) (Tr.sk p j)
theorem sk_lt {p i m : Nat} (h : i < m) : Tr.sk p i < m + 1 := by
  unfold Tr.sk
  split <;> omega
theorem Meas.draw {p b a : Nat} {t' : Tr} {D : Nat → Nat → Rat} {L : Len} {t : Tr} (M : Meas (n + 1) t L D) (E : EarIn n t t' p b a) : Meas n t' (fun q => drawD p D q.1 q.2) (drawD p D) := by
  obtain ⟨S, _, hS⟩ := M.ex
  have hw := E.w'
  have hD : ∀ i j, i < n → j < n → drawD p D i j = det (S (Tr.sk p i)) (S (Tr.sk p j)) := fun i j hi hj => hS _ _ (sk_lt hi) (sk_lt hj)
  refine ⟨hw, fun q hq => ?_, fun i => S (Tr.sk p i), fun q hq => ?_, hD⟩
  · have b := Tr.bd hq
    refine M.above ?_ (sk_lt (by omega))
    unfold Tr.sk
    split <;> split <;> omega
  · have b := Tr.bd hq
    exact (hD q.1 q.2 (by omega) (by omega)).symm
theorem Bd.draw {F B p : Nat} {D : Nat → Nat → Rat} (Z : Bd (n + 1) D F B) : Bd n (drawD p D) F B := ⟨Z.f0, Z.fb, fun i j hi hj => Z.all _ _ (sk_lt hi) (sk_lt hj)⟩
end
def mu (k i : Int) : Int := if i > k then i + 1 else i
def md (k i : Int) : Int := if i > k then i - 1 else i
def muP (k : Int) (p : IP) : IP := (mu k p.1, mu k p.2)
def mdP (k : Int) (p : IP) : IP := (md k p.1, md k p.2)
def setCut (n k : Nat) (cut : List IP) : List IP := sortP (cut.map (muP k) ++ [tieOf k (mu k (((k : Int) + 1) % n))])
def endsT (n p : Nat) : IP := tieOf (((p : Int) - 1) % n) (((p : Int) + 1) % n)
def drawCut (n p : Nat) (cut : List IP) : List IP := sortP ((cut.filter fun q => !decide (q = endsT n p)).map (mdP p))
def aft (n k : Nat) : Nat := if k + 1 < n then k + 2 else 0
def bef (n p : Nat) : Nat := if p = 0 then n - 1 else p - 1
def nxt (n p : Nat) : Nat := if p + 1 = n then 0 else p + 1
theorem mu_sk (k i : Nat) : mu k i = ((Tr.sk (k + 1) i : Nat) : Int) := by
  unfold mu Tr.sk
  by_cases c : i < k + 1
  · rw [if_pos c, if_neg (by omega)]
  · rw [if_neg c, if_pos (by omega)]; omega
theorem muP_skp (k : Nat) (q : Nat × Nat) : muP k (castP q) = castP (Tr.skp (k + 1) q) := by
  unfold muP castP Tr.skp
  simp only [mu_sk]
theorem mdP_skp (p : Nat) (q : Nat × Nat) : mdP p (castP (Tr.skp p q)) = castP q := by
  have h : ∀ i : Nat, md p ((Tr.sk p i : Nat) : Int) = (i : Int) := fun i => by
    unfold md Tr.sk
    by_cases c : i < p
    · rw [if_pos c, if_neg (by omega)]
    · rw [if_neg c, if_pos (by omega)]; omega
  unfold mdP castP Tr.skp
  simp only [h]
theorem mu_aft {n k : Nat} (hk : k < n) : mu k (((k : Int) + 1) % n) = ((aft n k : Nat) : Int) := by
  unfold aft
  by_cases c : k + 1 < n
  · rw [if_pos c, Int.emod_eq_of_lt (by omega) (by omega)]
    unfold mu
    rw [if_pos (by omega)]; omega
  · rw [if_neg c, show (k : Int) + 1 = n by omega, Int.emod_self]
    unfold mu
    rw [if_neg (by omega)]; rfl
theorem ends_eq' {n p : Nat} (hp : p < n) : ((p : Int) - 1) % n = ((bef n p : Nat) : Int) ∧ ((p : Int) + 1) % n = ((nxt n p : Nat) : Int) := by
  unfold bef nxt
  constructor
  · by_cases c : p = 0
    · rw [if_pos c, c, show ((0 : Nat) : Int) - 1 = ((n - 1 : Nat) : Int) + (-1) * n by omega, Int.add_mul_emod_self_right, Int.emod_eq_of_lt (by omega) (by omega)]
    · rw [if_neg c, Int.emod_eq_of_lt (by omega) (by omega)]
      omega
  · by_cases c : p + 1 = n
    · rw [if_pos c, show (p : Int) + 1 = n by omega, Int.emod_self]; rfl
    · rw [if_neg c, Int.emod_eq_of_lt (by omega) (by omega)]
      omega
theorem endsT_eq {n p : Nat} (hp : p < n) : endsT n p = castP (min (bef n p) (nxt n p), max (bef n p) (nxt n p)) := by
  unfold endsT
  rw [(ends_eq' hp).1, (ends_eq' hp).2, tie_cast]
theorem Cutting.set {n k : Nat} {cut : List IP} {t t2 : Tr} (C : Cutting n cut t) (hk : k < n) (E : EarIn n t2 t (k + 1) k (aft n k)) : Cutting (n + 1) (setCut n k cut) t2 := by
  have n3 := C.n3
  refine ⟨by rw [E.w], by omega, ?_, sortP_rising _⟩
  refine (sortP_perm _).trans ?_
  rw [mu_aft hk, tie_cast]
  refine List.perm_append_comm.trans ?_
  refine (List.Perm.cons _ ?_).trans (E.ropes.map castP).symm
  refine (C.perm.map (muP k)).trans (List.Perm.of_eq ?_)
  rw [List.map_map, List.map_map]
  exact List.map_congr_left fun q _ => muP_skp k q
theorem Cutting.draw {n p : Nat} {cut : List IP} {t t' : Tr} (C : Cutting (n + 1) cut t) (n3 : 3 ≤ n) (hp : p < n + 1) (E : EarIn n t t' p (bef (n + 1) p) (nxt (n + 1) p)) : Cutting n (drawCut (n + 1) p cut) t' := by
  refine ⟨E.w', n3, ?_, sortP_rising _⟩
  refine (sortP_perm _).trans ?_
  have h1 : cut.Perm (endsT (n + 1) p :: (t'.ropes 0).map fun q => castP (Tr.skp p q)) := by
    refine C.perm.trans ((E.ropes.map castP).trans (List.Perm.of_eq ?_))
    rw [List.map_cons, List.map_map, endsT_eq hp]
    rfl
  have nd : (endsT (n + 1) p :: (t'.ropes 0).map fun q => castP (Tr.skp p q)).Nodup := h1.nodup_iff.mp (C.perm.nodup_iff.mpr (List.pairwise_map.mpr ((Tr.ropes_nodup t 0).imp fun h z => h (castP_inj z))))
  have h2 := h1.filter (fun q => !decide (q = endsT (n + 1) p))
  have h3 : (endsT (n + 1) p :: (t'.ropes 0).map fun q => castP (Tr.skp p q)).filter (fun q => !decide (q = endsT (n + 1) p)) = (t'.ropes 0).map fun q => castP (Tr.skp p q) := by
    rw [List.filter_cons_of_neg (by simp)]
    refine List.filter_eq_self.mpr fun q hq => ?_
    have := (List.nodup_cons.mp nd).1
    simp only [Bool.not_eq_true', decide_eq_false_iff_not]
    exact fun z => this (by rw [← z]; exact hq)
  rw [h3] at h2
  refine (h2.map (mdP p)).trans (List.Perm.of_eq ?_)
  rw [List.map_map]
  exact List.map_congr_left fun q _ => mdP_skp p q
def turnS (S : Ms) (a b : Int) : Ms := ⟨S.n, turnedL S.n S.cut a b, S.D⟩
def strS (S : Ms) (p : Nat) (f : Rat) : Ms := ⟨S.n, S.cut, strD S.D p f⟩
def setS (S : Ms) (k : Nat) (x y : Rat) : Ms := ⟨S.n + 1, setCut S.n k S.cut, setD S.n k x y S.D⟩
def drawS (S : Ms) (p : Nat) : Ms := ⟨S.n - 1, drawCut S.n p S.cut, drawD p S.D⟩
def freshP (S : Ms) (a b : Int) : IP := ((besideL S.n (tiesL S.n S.cut) a b).getD 0 0, (besideL S.n (tiesL S.n S.cut) a b).getD 1 0)
inductive Ans where
  | pair (p : IP)
  | non
  | num (k : Int)
  | two (x y : Rat)
inductive Outc where
  | yes (S : Ms) (a : Ans)
  | no (k : Nat)
def ropeAt (S : Ms) (p : Int) : Prop := ∃ q ∈ S.cut, p = q.1 ∨ p = q.2
open Classical in
noncomputable def step (S : Ms) : Deed → Outc
  | .turn a b => if tieOf a b ∈ S.cut then .yes (turnS S a b) (.pair (freshP S a b)) else .no 2
  | .stretch p f => if ¬ (0 ≤ p ∧ p < S.n) then .no 1 else if ¬ 0 < f then .no 3 else .yes (strS S p.toNat f) .non
  | .set k x y => if ¬ (0 ≤ k ∧ k < S.n) then .no 1 else if ¬ (0 < x ∧ 0 < y) then .no 3 else if S.n = 12 then .no 4 else .yes (setS S k.toNat x y) (.num (k + 1))
  | .draw p => if ¬ (0 ≤ p ∧ p < S.n) then .no 1 else if S.n = 3 then .no 5 else if ropeAt S p then .no 6 else
      .yes (drawS S p.toNat) (.two (S.D (min (bef S.n p.toNat) p.toNat) (max (bef S.n p.toNat) p.toNat)) (S.D (min p.toNat (nxt S.n p.toNat)) (max p.toNat (nxt S.n p.toNat))))
section
variable {S : Ms} {B : Nat}
theorem Ok.n3 (h : Ok S B) : 3 ≤ S.n := by
  obtain ⟨_, t, L, F, C, _⟩ := h
  exact C.n3
theorem Ok.turn {a b : Int} (h : Ok S B) (e : tieOf a b ∈ S.cut) : Ok (turnS S a b) B := by
  obtain ⟨n12, t, L, F, C, M, Z⟩ := h
  obtain ⟨⟨x, y⟩, hq, ex⟩ := C.mem.mp e
  obtain ⟨t', m, o, R, U⟩ := C.turn hq
  have e1 := congrArg Prod.fst ex
  have e2 := congrArg Prod.snd ex
  simp only [tieOf, castP] at e1 e2
  have eT : turnedL S.n S.cut a b = turnedL S.n S.cut x y := by
    rcases Int.le_total a b with z | z
    · rw [show a = (x : Int) by omega, show b = (y : Int) by omega]
    · rw [turned_comm, show a = (y : Int) by omega, show b = (x : Int) by omega]
  exact ⟨n12, t', _, F, by show Cutting S.n (turnedL S.n S.cut a b) t'; rw [eT]; exact U.cut', M.turn C U (fun p hp _ => M.tie hp) rfl, Z⟩
theorem Ok.stretch {p m : Nat} {f : Rat} (h : Ok S B) (hf : 0 < f) (hm : rb f m) : Ok (strS S p f) (B + m) := by
  obtain ⟨n12, t, L, F, C, M, Z⟩ := h
  exact ⟨n12, t, _, _, C, M.stretch hf, Z.stretch hm⟩
theorem Ok.set {k m b : Nat} {x y : Rat} (h : Ok S B) (hk : k < S.n) (n12 : S.n < 12) (hx : 0 < x) (hy : 0 < y) (bx : rb x m) (byy : rb y m) (bs : rb (sg S.n k * S.D k ((k + 1) % S.n)) b) : Ok (setS S k x y) (B + 2 * m + b + 1) := by
  obtain ⟨_, t, L, F, C, M, Z⟩ := h
  obtain ⟨t2, E⟩ := ear_put C.w C.n3 hk
  obtain ⟨F', Z'⟩ := Z.set M C.n3 hk bx byy bs
  exact ⟨by show S.n + 1 ≤ 12; omega, t2, _, F', C.set hk E, M.set C.n3 hk hx hy E, Z'⟩
theorem rope_none {t : Tr} {p : Nat} (C : Cutting S.n S.cut t) (no : ¬ ropeAt S p) : ∀ q ∈ t.ropes 0, q.1 ≠ p ∧ q.2 ≠ p := fun q hq => by
  have mm : castP q ∈ S.cut := C.mem.mpr ⟨q, hq, rfl⟩
  constructor
  · exact fun z => no ⟨_, mm, .inl (by rw [← z]; rfl)⟩
  · exact fun z => no ⟨_, mm, .inr (by rw [← z]; rfl)⟩
theorem draw_ear {t : Tr} {p : Nat} (C : Cutting S.n S.cut t) (n4 : 4 ≤ S.n) (hp : p < S.n) (no : ¬ ropeAt S p) : ∃ t', EarIn (S.n - 1) t t' p (bef S.n p) (nxt S.n p) := by
  obtain ⟨t', E⟩ := ear_take (n := S.n - 1) (p := p) (t := t) (by have := C.w; omega) (by omega) (by omega) (rope_none C no)
  refine ⟨t', ?_⟩
  have e1 : (if p = 0 then S.n - 1 else p - 1) = bef S.n p := rfl
  have e2 : (if p = S.n - 1 then 0 else p + 1) = nxt S.n p := by
    unfold nxt
    by_cases c : p + 1 = S.n
    · rw [if_pos c, if_pos (by omega)]
    · rw [if_neg c, if_neg (by omega)]
  rw [e1, e2] at E
  exact E
theorem Ok.draw {p : Nat} (h : Ok S B) (n4 : S.n ≠ 3) (hp : p < S.n) (no : ¬ ropeAt S p) : Ok (drawS S p) B := by
  obtain ⟨n12, t, L, F, C, M, Z⟩ := h
  have n3 := C.n3
  obtain ⟨t', E⟩ := draw_ear C (by omega) hp no
  obtain ⟨n, cut, D⟩ := S
  obtain ⟨n, rfl⟩ : ∃ m, n = m + 1 := ⟨n - 1, by simp only at *; omega⟩
  exact ⟨by show n ≤ 12; simp only at n12; omega, t', _, F, C.draw (by simp only at *; omega) hp E, M.draw E, Z.draw⟩
end
def sh (st k i : Int) : Int := i + st * (if i > k then 1 else 0)
/-- the state, as the law holds it -/
def StT (K : PySem.W.Frag) (H : Hp) (v : V) (S : Ms) : Prop := ∃ s c d, v = .ref s ∧ H s = some (.tup [.int S.n, .ref c, .ref d]) ∧ PLt H c S.cut ∧ DLs K H d S
def AnsV (K : PySem.W.Frag) (H : Hp) (v : V) : Ans → Prop
  | .pair p => Pr H v p
  | .non => v = .non
  | .num k => v = .int k
  | .two x y => ∃ u u1 u2, v = .ref u ∧ H u = some (.tup [.ref u1, .ref u2]) ∧ FrV K H (.ref u1) (rp x) ∧ FrV K H (.ref u2) (rp y)
def RepAt (K : PySem.W.Frag) (H : Hp) (v : V) : Outc → Prop
  | .yes _ a => ∃ t x, v = .ref t ∧ H t = some (.tup [.str "yes", x]) ∧ AnsV K H x a
  | .no k => ∃ t, v = .ref t ∧ H t = some (.tup [.str "no", .int k])
def Outc.st (S : Ms) : Outc → Ms
  | .yes S' _ => S'
  | .no _ => S
section
variable {K : PySem.W.Frag} {H H' : Hp} {v : V}
theorem StT.same {S : Ms} (h : StT K H v S) (s : Same H H') : StT K H' v S := by
  obtain ⟨z, c, d, e, h1, h2, h3⟩ := h
  exact ⟨z, c, d, e, s _ _ h1, h2.same s, h3.same s⟩
theorem AnsV.keep {a : Ans} (k : Keeps H H') (h : AnsV K H v a) : AnsV K H' v a := by
  cases a with
  | pair p => exact Pr.keep k h
  | non => exact h
  | num n => exact h
  | two x y =>
    obtain ⟨u, u1, u2, e, h1, h2, h3⟩ := h
    exact ⟨u, u1, u2, e, k _ _ h1, h2.keep k, h3.keep k⟩
theorem RepAt.keep {o : Outc} (k : Keeps H H') (h : RepAt K H v o) : RepAt K H' v o := by
  cases o with
  | yes S a => obtain ⟨t, x, e, h1, h2⟩ := h; exact ⟨t, x, e, k _ _ h1, h2.keep k⟩
  | no n => obtain ⟨t, e, h1⟩ := h; exact ⟨t, e, k _ _ h1⟩
end
/-- the fractions of a deed -/
def Deed.rbs (d : Deed) (m : Nat) : Prop := match d with
  | .stretch _ f => rb f m
  | .set _ x y => rb x m ∧ rb y m
  | _ => True
section
variable {S : Ms} {a b p k : Int} {f x y : Rat}
theorem step_turn_yes (h : tieOf a b ∈ S.cut) : step S (.turn a b) = .yes (turnS S a b) (.pair (freshP S a b)) := by unfold step; dsimp only; rw [if_pos h]
theorem step_turn_no (h : tieOf a b ∉ S.cut) : step S (.turn a b) = .no 2 := by unfold step; dsimp only; rw [if_neg h]
theorem step_str_1 (h : ¬ (0 ≤ p ∧ p < S.n)) : step S (.stretch p f) = .no 1 := by unfold step; dsimp only; rw [if_pos h]
theorem step_str_3 (h : 0 ≤ p ∧ p < S.n) (h2 : ¬ 0 < f) : step S (.stretch p f) = .no 3 := by unfold step; dsimp only; rw [if_neg (fun z => z h), if_pos h2]
theorem step_str_yes (h : 0 ≤ p ∧ p < S.n) (h2 : 0 < f) : step S (.stretch p f) = .yes (strS S p.toNat f) .non := by unfold step; dsimp only; rw [if_neg (fun z => z h), if_neg (fun z => z h2)]
theorem step_set_1 (h : ¬ (0 ≤ k ∧ k < S.n)) : step S (.set k x y) = .no 1 := by unfold step; dsimp only; rw [if_pos h]
theorem step_set_3 (h : 0 ≤ k ∧ k < S.n) (h2 : ¬ (0 < x ∧ 0 < y)) : step S (.set k x y) = .no 3 := by unfold step; dsimp only; rw [if_neg (fun z => z h), if_pos h2]
theorem step_set_4 (h : 0 ≤ k ∧ k < S.n) (h2 : 0 < x ∧ 0 < y) (h3 : S.n = 12) : step S (.set k x y) = .no 4 := by unfold step; dsimp only; rw [if_neg (fun z => z h), if_neg (fun z => z h2), if_pos h3]
theorem step_set_yes (h : 0 ≤ k ∧ k < S.n) (h2 : 0 < x ∧ 0 < y) (h3 : S.n ≠ 12) : step S (.set k x y) = .yes (setS S k.toNat x y) (.num (k + 1)) := by unfold step; dsimp only; rw [if_neg (fun z => z h), if_neg (fun z => z h2), if_neg h3]
theorem step_draw_1 (h : ¬ (0 ≤ p ∧ p < S.n)) : step S (.draw p) = .no 1 := by unfold step; dsimp only; rw [if_pos h]
theorem step_draw_5 (h : 0 ≤ p ∧ p < S.n) (h2 : S.n = 3) : step S (.draw p) = .no 5 := by unfold step; dsimp only; rw [if_neg (fun z => z h), if_pos h2]
theorem step_draw_6 (h : 0 ≤ p ∧ p < S.n) (h2 : S.n ≠ 3) (h3 : ropeAt S p) : step S (.draw p) = .no 6 := by unfold step; dsimp only; rw [if_neg (fun z => z h), if_neg h2, if_pos h3]
theorem step_draw_yes (h : 0 ≤ p ∧ p < S.n) (h2 : S.n ≠ 3) (h3 : ¬ ropeAt S p) : step S (.draw p) = .yes (drawS S p.toNat) (.two (S.D (min (bef S.n p.toNat) p.toNat) (max (bef S.n p.toNat) p.toNat)) (S.D (min p.toNat (nxt S.n p.toNat)) (max p.toNat (nxt S.n p.toNat)))) := by unfold step; dsimp only; rw [if_neg (fun z => z h), if_neg h2, if_neg h3]
end
/-- the three of a state -/
def StA (K : PySem.W.Frag) (H : Hp) (z c d : Addr) (S : Ms) : Prop := H z = some (.tup [.int S.n, .ref c, .ref d]) ∧ PLt H c S.cut ∧ DLs K H d S
theorem StA.same {K : PySem.W.Frag} {H H' : Hp} {z c d : Addr} {S : Ms} (h : StA K H z c d S) (s : Same H H') : StA K H' z c d S := ⟨s _ _ h.1, h.2.1.same s, h.2.2.same s⟩
/-- what the law's model answers: the state, the answer -/
def ModNew (K : PySem.W.Frag) (H : Hp) (S : Ms) (c d : Addr) (dd : Deed) (Q : VK) : Prop := ∀ (r z' c' d' : Addr) (H' : Hp) (an : V), Same H H' → H r = none → H' r = some (.tup [.ref z', an]) → StA K H' z' c' d' ((step S dd).st S) → (H c' = none ∨ c' = c) → (H d' = none ∨ d' = d) → RepAt K H' an (step S dd) → Q (.ref r) H'
section
variable {K : PySem.W.Frag} {H : Hp} {S : Ms} {dd : Deed} {Q : VK} {z c d t r : Addr}
theorem ModNew.no {j : Nat} (q : ModNew K H S c d dd Q) (e : step S dd = .no j) (hst : StA K H z c d S) (ht : H t = none) (hr : upd H t (.tup [.str "no", .int j]) r = none) : Q (.ref r) (upd (upd H t (.tup [.str "no", .int j])) r (.tup [.ref z, .ref t])) := by
  have s1 := same_new ht (.tup [.str "no", .int j])
  have s2 := same_new hr (.tup [.ref z, .ref t])
  refine q r z c d _ (.ref t) (s1.trans s2) (s1.free hr) upd_same ?_ (.inr rfl) (.inr rfl) ?_
  · rw [e]
    exact hst.same (s1.trans s2)
  · rw [e]
    exact ⟨t, rfl, s2 _ _ upd_same⟩
end
end Pm
namespace Pm
open PySem PySem.Spec PyProof.Rows L2
/-- a heap without two of its objects -/
def off (p a : Addr) (H : Hp) : Hp := fun b => if b = p ∨ b = a then none else H b
section
variable {p a a' : Addr} {H H' : Hp}
theorem off_same (s : Same H H') : Same (off p a H) (off p a H') := fun b o e => by
  unfold off at e ⊢
  by_cases h : b = p ∨ b = a
  · rw [if_pos h] at e; cases e
  · rw [if_neg h] at e ⊢; exact s _ _ e
theorem off_get {b : Addr} {o : HO} (e : H b = some o) (n1 : b ≠ p) (n2 : b ≠ a) : off p a H b = some o := by
  unfold off
  rw [if_neg (fun z => z.elim n1 n2)]
  exact e
theorem off_keeps {xs ys : List V} (h1 : H p = some (.lst xs)) (h2 : H a = some (.lst ys)) : Keeps H (off p a H) := fun b zs e => off_get e (ne_of e h1 (fun z => nomatch z)) (ne_of e h2 (fun z => nomatch z))
end
/-- where a row of states stands, and the mead's own row of states ahead of each deed -/
def nowS : Ms → List (Deed × Ms) → Ms
  | S, [] => S
  | _, e :: r => nowS e.2 r
def prevs : Ms → List (Deed × Ms) → List (Deed × Ms)
  | _, [] => []
  | S, e :: r => (e.1, S) :: prevs e.2 r
theorem ens_same {K : PySem.W.Frag} {H H' : Hp} {vs : List V} {L : List (Deed × Ms)} (s : Same H H') (h : All2 (EnAt K H) vs L) : All2 (EnAt K H') vs L := h.mono fun _ _ r => r.same s
theorem Ok.up {S : Ms} {B B' : Nat} (h : Ok S B) (e : B ≤ B') : Ok S B' := by
  obtain ⟨n12, t, L, F, C, M, Z⟩ := h
  have pw : ∀ {a : Nat}, a < 2 ^ B → a < 2 ^ B' := fun h => Nat.lt_of_lt_of_le h (Nat.pow_le_pow_right (by decide) e)
  exact ⟨n12, t, L, F, C, M, Z.f0, pw Z.fb, fun i k hi hk => by
    obtain ⟨z, h1, h2⟩ := Z.all i k hi hk
    exact ⟨z, h1, pw h2⟩⟩
theorem rb_ng {r : Rat} {n : Nat} (h : rb r n) : rb (-r) n := by
  obtain ⟨h1, h2⟩ := h
  exact ⟨by show (-r.num).natAbs < 2 ^ n; rw [Int.natAbs_neg]; exact h1, h2⟩
theorem Ok.next {S : Ms} {B : Nat} (h : Ok S B) {d : Deed} (hd : d.rbs 11) : Ok ((step S d).st S) (2 * B + 23) := by
  have up : Ok S (2 * B + 23) := h.up (by omega)
  have n3 := h.n3
  cases d with
  | turn a b =>
    by_cases e : tieOf a b ∈ S.cut
    · rw [step_turn_yes e]
      exact (h.turn e).up (by omega)
    · rw [step_turn_no e]
      exact up
  | stretch p f =>
    by_cases e1 : 0 ≤ p ∧ p < (S.n : Int)
    · by_cases e2 : 0 < f
      · rw [step_str_yes e1 e2]
        exact (h.stretch (p := p.toNat) e2 hd).up (by omega)
      · rw [step_str_3 e1 e2]
        exact up
    · rw [step_str_1 e1]
      exact up
  | set k x y =>
    by_cases e1 : 0 ≤ k ∧ k < (S.n : Int)
    · by_cases e2 : 0 < x ∧ 0 < y
      · by_cases e3 : S.n = 12
        · rw [step_set_4 e1 e2 e3]
          exact up
        · rw [step_set_yes e1 e2 e3]
          have hk : k.toNat < S.n := by omega
          have hs : rb (sg S.n k.toNat * S.D k.toNat ((k.toNat + 1) % S.n)) B := by
            obtain ⟨n12, t, L, F, C, M, Z⟩ := h
            have := Z.rb hk (Nat.mod_lt (k.toNat + 1) (show 0 < S.n by omega))
            unfold sg
            split
            · rw [show (1 : Rat) * S.D k.toNat ((k.toNat + 1) % S.n) = S.D k.toNat ((k.toNat + 1) % S.n) by grind]
              exact this
            · rw [show (-1 : Rat) * S.D k.toNat ((k.toNat + 1) % S.n) = - S.D k.toNat ((k.toNat + 1) % S.n) by grind]
              exact rb_ng this
          exact (h.set hk (by have := h.1; omega) e2.1 e2.2 hd.1 hd.2 hs).up (by omega)
      · rw [step_set_3 e1 e2]
        exact up
    · rw [step_set_1 e1]
      exact up
  | draw p =>
    by_cases e1 : 0 ≤ p ∧ p < (S.n : Int)
    · by_cases e2 : S.n = 3
      · rw [step_draw_5 e1 e2]
        exact up
      · by_cases e3 : ropeAt S p
        · rw [step_draw_6 e1 e2 e3]
          exact up
        · rw [step_draw_yes e1 e2 e3]
          have e : ((p.toNat : Nat) : Int) = p := by omega
          exact (h.draw (p := p.toNat) e2 (by omega) (by rw [e]; exact e3)).up (by omega)
    · rw [step_draw_1 e1]
      exact up
/-- a bound for the figures behind k deeds -/
def bnd : Nat → Nat
  | 0 => 550
  | k + 1 => 2 * bnd k + 23
/-- a law's rows of states at pl (done) and al (taken back), its row of numbers at r, its first state, and the mead at p -/
structure LS (K : PySem.W.Frag) (C p pl al r z c d : Addr) (row : List Int) (S0 : Ms) (H0 Hs H : Hp) (LP LA : List (Deed × Ms)) : Prop where
  M : MeadAt K C H0 Hs H p (nowS S0 LP) (prevs S0 LP) LA
  ne : pl ≠ al
  lp : ∃ pv, H0 pl = some (.lst pv) ∧ All2 (EnAt K (off pl al H0)) pv LP
  la : ∃ av, H0 al = some (.lst av) ∧ All2 (EnAt K (off pl al H0)) av LA
  st : StA K (off pl al H0) z c d S0
  row : off pl al H0 r = some (.lst (row.map V.int))
section
variable {K : PySem.W.Frag} {C p pl al r z c d : Addr} {row : List Int} {S0 : Ms} {H0 Hs H : Hp} {LP LA : List (Deed × Ms)}
/-- the mead has changed, what is not its own stands -/
theorem LS.mead {H0' Hs' H' : Hp} {LP' LA' : List (Deed × Ms)} (L : LS K C p pl al r z c d row S0 H0 Hs H LP LA) (s : Same H0 H0') (M : MeadAt K C H0' Hs' H' p (nowS S0 LP') (prevs S0 LP') LA') (e1 : LP' = LP) (e2 : LA' = LA) : LS K C p pl al r z c d row S0 H0' Hs' H' LP LA := by
  subst e1 e2
  obtain ⟨pv, hp, hP⟩ := L.lp
  obtain ⟨av, ha, hA⟩ := L.la
  exact ⟨M, L.ne, ⟨pv, s _ _ hp, ens_same (off_same s) hP⟩, ⟨av, s _ _ ha, ens_same (off_same s) hA⟩, L.st.same (off_same s), off_same s _ _ L.row⟩
theorem LS.grow {H' : Hp} (L : LS K C p pl al r z c d row S0 H0 Hs H LP LA) (s : Same H H') : ∃ H0' Hs', Same H0 H0' ∧ Same Hs Hs' ∧ LS K C p pl al r z c d row S0 H0' Hs' H' LP LA ∧ ∀ b, H b = none → H0' b = H' b := by
  obtain ⟨H0', Hs', g1, g2, M', f⟩ := L.M.grow s
  exact ⟨H0', Hs', g1, g2, L.mead g1 M' rfl rfl, f⟩
theorem LS.keeps (L : LS K C p pl al r z c d row S0 H0 Hs H LP LA) : Keeps H (off pl al H0) := by
  obtain ⟨pv, hp, _⟩ := L.lp
  obtain ⟨av, ha, _⟩ := L.la
  exact L.M.k0.trans (off_keeps hp ha)
end
end Pm
namespace Pm
open PySem PySem.Spec PyProof.Rows L2 PySem.W
def keysO (p d : Addr) : HO := .ext fun h => KdlKeysView h p d
theorem keysO_ok {P : Program} {w : World} {H : Hp} {h : Heap} {p d : Addr} (e : h.get? p = some { cls := .type "dict_keys", data := .fields #[.ref d] }) : ObjOk P w H h p (keysO p d) :=
  ⟨⟨_, e, rfl, rfl⟩, ⟨_, e⟩, fun h1 h2 x k => let ⟨o, ho, r⟩ := x; ⟨o, k o ho, r⟩⟩
def rKeysT : V → List V → Hp → VK → Prop := fun x xs H Q => ∃ (a : Addr) (kvs : List (List L2.Key × V)), x = .ref a ∧ xs = [] ∧ H a = some (.dT kvs) ∧ ∀ p, H p = none → Q (.ref p) (upd H p (keysO p a))
theorem mt_keysT {X : Cx} : MtR X "dict.keys" rKeysT := by
  intro pins s σ H x xs v us Q I rx rxs h
  obtain ⟨a, kvs, rfl, rfl, ha, q⟩ := h
  cases rx
  cases rxs
  obtain ⟨z, hd, xs', rel, dd⟩ := dt_of I.hok ha
  obtain ⟨o, es, ep, ho, hx, hdat, _⟩ := id dd
  have raw : s.heap.DictRaw a es ep := ⟨o, ho, hx, hdat⟩
  have hf : H s.heap.objs.size = none := I.hok.fresh (Nat.le_refl _)
  exact call_meetsIn PySem.F.slot_dict_keys dd.typeIs PySem.F.entry_dict_keys (PySem.F.args_dict_keys_1 _) (meets_dict_keys_raw a hd)
    ⟨⟨es, ep, raw⟩, ⟨.ref s.heap.objs.size, upd H s.heap.objs.size (keysO s.heap.objs.size a), I.laid (t' := s.toks) (fun b u e => Heap.get?_push_of_some _ e) (Nat.le_refl _) (keysO_ok (Heap.get?_push_size _ rfl)), rfl, q _ hf⟩⟩
section
variable {prog : Program} {w : World} {A : Around} {E : Value → Shared → Prop} {s : Shared}
theorem sorted_keysO {r d : Addr} {es : Array DictEntry} {ep : Nat} {k : Value → Int × Int} {Q : Value → Shared → Prop} (hh : A.handled = none) (hv : KdlKeysView s.heap r d) (hm : s.heap.DictRaw d es ep) (hz : es.size ≤ sizeLine)
    (hp : ∀ e ∈ es.toList, Srt.IsPair s.heap e.key (k e.key).1 (k e.key).2)
    (h : ∀ (h1 h' : Heap) (tk : Nat) (out : List Value), SrtO.Srtd (fun v u => SrtO.lexB (k v) (k u)) out → SrtO.Stb (fun v u => SrtO.lexB (k v) (k u)) out (es.toList.map (·.key)) → (∀ b o, s.heap.get? b = some o → h1.get? b = some o) → (∀ b o, h1.get? b = some o → h'.get? b = some o) → (∃ n, h'.get? h1.objs.size = some (seqObj "list" out.toArray n)) → Q (.ref h1.objs.size) { s with heap := h', toks := tk }) :
    wpAny (model prog w) A (call (.builtin "sorted") [.ref r]) Q E s := by
  refine Calls.call_function_entry kind_sorted plain_sorted entry_sorted (args_sorted1 _) ?_
  unfold Builtin.«sorted»
  refine wpAny_bind (m := checkCount "sorted" 1 1 _) (wpAny_pure ?_)
  refine wpAny_bind (kdu_collect (A := A.in1) (KdlSrc.rawKeys (r := r) (d := d) (es := es) (ep := ep)) hh ⟨hv, hm⟩ hz fun h1 tk acc hk hacc => ?_)
  have eacc : acc.toList = es.toList.map (·.key) := by
    refine List.ext_getElem? fun j => ?_
    rw [List.getElem?_map]
    have sz := hacc.1
    by_cases c : j < es.size
    · have c1 : j < acc.size := by omega
      have q := hacc.2 j acc[j] (by rw [Array.getElem?_eq_getElem c1])
      obtain ⟨hi, e⟩ := q
      rw [Array.getElem?_toList, Array.getElem?_toList, Array.getElem?_eq_getElem c1, Array.getElem?_eq_getElem c, e]
      rfl
    · rw [Array.getElem?_toList, Array.getElem?_toList, Array.getElem?_eq_none (by omega), Array.getElem?_eq_none (by omega)]
      rfl
  rw [eacc]
  have hz' : (es.toList.map (·.key)).length ≤ sizeLine := by rw [List.length_map, Array.length_toList]; exact hz
  generalize hvs : es.toList.map (·.key) = vs at *
  refine wpAny_bind (wpAny_newList ?_ hz')
  have hoL : (h1.push (seqObj "list" vs.toArray 0)).get? h1.objs.size = some (seqObj "list" vs.toArray 0) := Heap.get?_push_size _ rfl
  have keep : ∀ b o, s.heap.get? b = some o → b ≠ h1.objs.size ∧ (h1.push (seqObj "list" vs.toArray 0)).get? b = some o := fun b o q => by
    have q1 := hk b o q
    exact ⟨Nat.ne_of_lt (Heap.lt_size q1), Heap.get?_push_of_some _ q1⟩
  show wpAny _ _ _ _ _ { s with heap := h1.push (seqObj "list" vs.toArray 0), toks := tk }
  refine wpAny_bind (wpAny_holding (wpAny_call_entry slot_list_sort ⟨_, hoL, rfl⟩ entry_list_sort (SrtO.list_sort_ord (SrtO.swo_lex k) hoL hz' (fun h2 => ?_) fun out hs hb => ⟨_, rfl, ?_⟩) (args_list_sort _)))
  · refine SrtO.pairs_sortableO (by omega) (fun v hm => ?_) fun o e => ?_
    · rw [← hvs] at hm
      obtain ⟨en, he, rfl⟩ := List.mem_map.mp hm
      exact (hp en he).keeps fun b o e _ => (keep b o e).2
    · have e' : some o = some (seqObj "list" vs.toArray 0) := e.symm.trans hoL
      cases e'
      intro c
      exact absurd (Value.type.inj c) (by decide)
  · refine wpAny_pure ⟨_, rfl, h h1 _ _ out hs hb hk (fun b o e => ?_) (sortedHeap_at hoL)⟩
    have n2 := Heap.get?_push_of_some (seqObj "list" vs.toArray 0) e
    rw [sortedHeap_old (Nat.ne_of_lt (Heap.lt_size e)) (Heap.lt_size n2)]
    exact n2
end
/-- sorted(d.keys()) of a dict with keys that are pairs -/
def rSortKT : List V → Hp → VK → Prop := fun vs H Q => ∃ (p a : Addr) (kvs : List (List L2.Key × V)) (ks : List IP), vs = [.ref p] ∧ H p = some (keysO p a) ∧ H a = some (.dT kvs) ∧ kvs.map (·.1) = ks.map kk ∧ ∀ ys l, H l = none → Prs H ys (sortP ks) → Q (.ref l) (upd H l (.lst ys))
theorem cr_sortKT {X : Cx} (hc : X.calm = true) : CallR X (.builtin "sorted") rSortKT := by
  intro pins s σ H vs us Q I r h
  obtain ⟨p, a, kvs, ks, rfl, hp, ha, hks, q⟩ := h
  obtain ⟨u, rfl, ru⟩ := vals1 r
  obtain rfl : u = Value.ref p := ru
  obtain ⟨z, hd, xs, rel, dd⟩ := dt_of I.hok ha
  obtain ⟨o, es, ep, ho, hx, hdat, he, _, hn⟩ := id dd
  have hview : KdlKeysView s.heap p a := (I.hok p _ hp).1
  have hsz : es.size = xs.length := size_of_entries he
  have lx := Paired.length rel
  have ek : es.toList.map (·.key) = xs.map fun x => Value.ref x.2.1 := by
    rw [he, List.map_map]
    rfl
  have all : ∀ x ∈ xs, ∃ k : IP, Pr H (.ref x.2.1) k := fun x hx => by
    obtain ⟨v, m, e⟩ := KT_mem rel x hx
    have m2 : x.1 ∈ ks.map kk := by rw [← hks]; exact List.mem_map.mpr ⟨_, m, rfl⟩
    obtain ⟨k, _, ek⟩ := List.mem_map.mp m2
    rw [← ek, kk_map] at e
    exact ⟨k, _, rfl, e⟩
  have keys2 : All2 (fun v k => Pr H v k) (xs.map fun x => V.ref x.2.1) ks := by
    have gen : ∀ {kvs : List (List L2.Key × V)} {xs : List (List L2.Key × Addr × Value)} {ks : List IP}, KT H kvs xs → kvs.map (·.1) = ks.map kk → All2 (fun v k => Pr H v k) (xs.map fun x => V.ref x.2.1) ks := by
      intro kvs
      induction kvs with
      | nil =>
        intro xs ks h e
        cases h
        match ks, e with
        | [], _ => trivial
      | cons kv kvs ih =>
        intro xs ks h e
        cases h with
        | @cons _ x _ xs h1 h2 =>
          match ks, e with
          | k :: ks, e =>
            rw [List.map_cons, List.map_cons] at e
            injection e with e1 e2
            refine ⟨?_, ih h2 e2⟩
            have h3 := h1.2.1
            rw [e1, kk_map] at h3
            exact ⟨_, rfl, h3⟩
    exact gen rel hks
  refine sorted_keysO (k := fun u => kOf H (backV u)) (I.ok.hd hc) hview ⟨o, ho, hx, hdat⟩ (by omega) (fun e hm => ?_) fun h1 h' tk out hs hb hk hk' hn' => ?_
  · have hm2 : e.key ∈ es.toList.map (·.key) := List.mem_map.mpr ⟨e, hm, rfl⟩
    rw [ek] at hm2
    obtain ⟨x, hx', ex⟩ := List.mem_map.mp hm2
    rw [← ex]
    obtain ⟨k, hk⟩ := all x hx'
    have hkk : kOf H (backV (Value.ref x.2.1)) = k := hk.k
    rw [hkk]
    obtain ⟨t, et, ht⟩ := hk
    cases et
    obtain ⟨_, its2, r2, o2, ho2, hc2, n2, hd2⟩ := I.hok _ _ ht
    obtain ⟨u1, u2, rfl, ri, rj⟩ := vals2 r2
    obtain ⟨t1, rfl⟩ := ri
    obtain ⟨t2, rfl⟩ := rj
    exact ⟨_, o2, t1, t2, n2, rfl, ho2, hc2, hd2⟩
  · have h3 : ∀ u ∈ out, ∃ a, u = Value.ref a := fun u hu => by
      have hu2 := hb.perm.mem_iff.mp hu
      rw [ek] at hu2
      obtain ⟨x, _, e⟩ := List.mem_map.mp hu2
      exact ⟨_, e.symm⟩
    obtain ⟨n, hn'⟩ := hn'
    have hbb : SrtO.Stb (ltP (kOf H)) (out.map backV) (xs.map fun x => V.ref x.2.1) := by
      have e9 : (xs.map fun x => V.ref x.2.1) = (es.toList.map (·.key)).map backV := by rw [ek, List.map_map]; rfl
      rw [e9]
      exact SrtO.Stb.map (ltP_swo (kOf H)) backV hb
    have hss : SrtO.Srtd (ltP (kOf H)) (out.map backV) := SrtO.srtd_map hs
    have I1 : Inv X pins σ H { s with heap := h1, toks := tk } := I.kept hk
    have len : (out.map backV).length ≤ sizeLine := by rw [hbb.len, List.length_map]; omega
    refine ⟨.ref h1.objs.size, upd H h1.objs.size (.lst (out.map backV)), I1.laid (t' := tk) hk' (Nat.le_refl _) (show ObjOk X.prog X.w _ _ _ (.lst (out.map backV)) from ⟨len, out, n, vals_back h3, hn'⟩), rfl, q _ _ (I1.hok.fresh (Nat.le_refl _)) ?_⟩
    have e1 : (xs.map fun x => V.ref x.2.1).map (kOf H) = ks := keys2.map_eq fun _ _ r => r.k
    have pm : ((out.map backV).map (kOf H)).Perm ks := by rw [← e1]; exact hbb.perm.map _
    have rs : Rising ((out.map backV).map (kOf H)) := List.pairwise_map.mpr (hss.imp fun {x y} q => lexB_le q)
    rw [sortP_eq rs pm]
    refine All2.of_map fun y hy => ?_
    obtain ⟨q', _, r'⟩ := keys2.mem (hbb.perm.mem_iff.mp hy)
    rw [r'.k]
    exact r'
theorem w_ldKeys {K : PySem.W.Frag} {H : Hp} {Q : VK} {d : Addr} {ks : List IP} {L : IP → IP} (h : LD K H d ks L) (q : ∀ p, H p = none → Q (.ref p) (upd H p (keysO p d))) : rKeysT (.ref d) [] H Q := by
  obtain ⟨n, es, h1, h2⟩ := h
  exact ⟨d, es, rfl, rfl, h1, q⟩
theorem ens_keys {K : PySem.W.Frag} {H : Hp} {L : IP → IP} : ∀ {es : List (List L2.Key × V)} {ks : List IP}, All2 (En K H L) es ks → es.map (·.1) = ks.map kk
  | [], [], _ => rfl
  | _ :: _, _ :: _, h => by
    rw [List.map_cons, List.map_cons, h.1.1, ens_keys h.2]
theorem w_ldSortKeys {K : PySem.W.Frag} {H : Hp} {Q : VK} {d p : Addr} {ks : List IP} {L : IP → IP} (h : LD K H d ks L) (hp : H p = some (keysO p d)) (q : ∀ ys l, H l = none → Prs H ys (sortP ks) → Q (.ref l) (upd H l (.lst ys))) : rSortKT [.ref p] H Q := by
  obtain ⟨n, es, h1, h2⟩ := h
  exact ⟨p, d, es, ks, rfl, hp, h1, ens_keys h2, q⟩
end Pm
namespace Pm
open PySem PySem.Spec PyProof.Rows L2 TL
def rSplit : V → List V → Hp → VK → Prop := fun x xs H Q => ∃ a b, x = .str a ∧ xs = [.str b] ∧ (b.length == 0) = false ∧ a.length + 2 ≤ sizeLine ∧ rNewStrs (Txt.split a b) H Q
theorem mt_splitS {X : Cx} : MtR X "str.split" rSplit := mt_split
def rStrI : List V → Hp → VK → Prop := fun xs H Q => ∃ i : Int, xs = [.int i] ∧ i.natAbs.log2 < 1920 ∧ Q (.str (Str.ofString (toString i))) H
theorem c_strI {X : Cx} : CallR X (.type "str") rStrI := call_str_int
def rIntS : List V → Hp → VK → Prop := fun xs H Q => ∃ a n, xs = [.str a] ∧ PySem.intText? a = some n ∧ a.length ≤ 640 ∧ Q (.int n) H
theorem c_intS {X : Cx} : CallR X (.type "int") rIntS := call_int_str
def rNinC : R2 := fun x y H Q => ∃ (c : Nat) (z : Str), x = .str ⟨#[c]⟩ ∧ y = .str z ∧ Q (.bl (!decide (c ∈ z.cps.toList))) H
theorem o_ninC {X : Cx} : OpR X (compareOp .NotIn) rNinC := op_notIn_sign
def rMulS : R2 := fun x y H Q => ∃ (z : Str) (n : Int), x = .str z ∧ y = .int n ∧ MulOk z n ∧ Q (.str (PySem.Txt.mul z n)) H
theorem op_mulS {X : Cx} : OpR X (binaryOp .Mult) rMulS := by
  intro pins s σ H x y v u Q I rx ry h
  obtain ⟨z, n, rfl, rfl, ok, q⟩ := h
  obtain ⟨t, rfl⟩ := rx
  obtain ⟨t', rfl⟩ := ry
  exact SB.mul ok fun t' k => ⟨.str _, H, I.tok _, ⟨_, rfl⟩, q⟩
def rJoin (K : PySem.W.Frag) : V → List V → Hp → VK → Prop := fun x xs H Q => ∃ a p, ∃ ys : List Str, x = .str a ∧ xs = [.ref p] ∧ (SqL K H p (ys.map V.str) ∨ SqT K H p (ys.map V.str)) ∧ (ys.map (·.length)).sum + ys.length * a.length ≤ 16777216 ∧ Q (.str (Txt.join a ys)) H
theorem mt_joinK {X : Cx} {K : PySem.W.Frag} (e : X.K = K := by rfl) : MtR X "str.join" (rJoin K) := e ▸ mt_join
def RdS (R : It → Hp → Prop) : VK := fun v H1 => ∃ x, v = .str x ∧ R (Its x) H1
section
variable {σ : L2.St} {H : Hp} {Q : VK} {nx bk ct : L2.St → Hp → Prop} {rt : VK} {g : TG} {t : TS} {te : TE}
theorem w_split {a b : Str} (hb : (b.length == 0) = false) (hz : a.length + 2 ≤ sizeLine) (h : ∀ p, H p = none → Q (.ref p) (upd H p (.lst ((Txt.split a b).map V.str)))) : rSplit (.str a) [.str b] H Q := ⟨a, b, rfl, rfl, hb, hz, h⟩
theorem w_strI {i : Int} (hz : i.natAbs.log2 < 1920) (h : Q (.str (Str.ofString (toString i))) H) : rStrI [.int i] H Q := ⟨i, rfl, hz, h⟩
theorem w_intS {a : Str} {n : Int} (e : PySem.intText? a = some n) (hz : a.length ≤ 640) (h : Q (.int n) H) : rIntS [.str a] H Q := ⟨a, n, rfl, e, hz, h⟩
theorem w_ninC {c : Nat} {z : Str} (h : Q (.bl (!decide (c ∈ z.cps.toList))) H) : rNinC (.str ⟨#[c]⟩) (.str z) H Q := ⟨c, z, rfl, rfl, h⟩
theorem w_mulS {z : Str} {n : Int} (ok : MulOk z n) (h : Q (.str (PySem.Txt.mul z n)) H) : rMulS (.str z) (.int n) H Q := ⟨z, n, rfl, rfl, ok, h⟩
theorem w_catS {i j : Str} (hz : i.length + j.length ≤ sizeLine) (h : Q (.str (i ++ j)) H) : rCatS (.str i) (.str j) H Q := ⟨i, j, rfl, rfl, hz, h⟩
theorem w_slS {z : Str} {lo hi : Option Int} (hz : z.length ≤ sizeLine) (h : Q (.str (cutS z lo hi)) H) : rSlS (.str z) lo hi H Q := ⟨z, rfl, hz, h⟩
theorem w_ixS {z : Str} {i : Int} {c : Nat} (hz : z.length ≤ sizeLine) (e : atI z.cps.toList i = some c) (h : Q (.str ⟨#[c]⟩) H) : rIxS (.str z) (.int i) H Q := ⟨z, i, c, rfl, rfl, hz, e, h⟩
theorem w_join {K : PySem.W.Frag} {a : Str} {p : Addr} {ys : List Str} (hl : SqL K H p (ys.map V.str)) (hz : (ys.map (·.length)).sum + ys.length * a.length ≤ 16777216) (h : Q (.str (Txt.join a ys)) H) : rJoin K (.str a) [.ref p] H Q := ⟨a, p, ys, rfl, rfl, .inl hl, hz, h⟩
theorem w_iStr {R : It → Hp → Prop} (h : te σ H (RdS R)) : iStr te σ H R := h
theorem w_rdS {R : It → Hp → Prop} {x : Str} (h : R (Its x) H) : RdS R (.str x) H := ⟨x, rfl, h⟩
/-- for over the signs of a text -/
theorem w_forS {x : Str} (Pv : Nat → L2.St → Hp → Prop) (h0 : Pv 0 σ H) (hs : ∀ i c σ H, (tl x)[i]? = some c → Pv i σ H → g (.str ⟨#[c]⟩) σ H fun σ2 H2 => t ⟨Pv (i + 1), rt, nx, Pv (i + 1)⟩ σ2 H2) (hd : ∀ σ H, Pv (tl x).length σ H → nx σ H) : ForB g t nx rt σ (Its x) H := by
  have hz : x.cps.size = (tl x).length := len_tl x
  refine ⟨fun i m σ H => i + m = x.cps.size ∧ Pv i σ H, ⟨x.cps.size, by omega, h0⟩, ?_⟩
  rintro i m σ H ⟨hm, hp⟩
  rcases Nat.eq_zero_or_pos m with z | z
  · refine .inl ⟨show x.cps.size ≤ i by omega, hd σ H ?_⟩
    have e : i = (tl x).length := by omega
    rw [← e]
    exact hp
  · refine .inr ⟨show i < x.cps.size by omega, Pv (i + 1), fun σ' H' h => ⟨m - 1, by omega, by omega, h⟩, ?_⟩
    rintro v H' ⟨rfl, c, hc, rfl⟩
    refine hs i c σ H' ?_ hp
    rw [tl, Array.getElem?_toList]
    exact hc
end
theorem len_app (x y : Str) : (x ++ y).length = x.length + y.length := by rw [len_tl, tl_append, List.length_append, ← len_tl, ← len_tl]
theorem tl_cut (z : Str) (lo hi : Option Int) : tl (cutS z lo hi) = ((tl z).drop (HT.sIx z.length 0 lo)).take (HT.sIx z.length z.length hi - HT.sIx z.length 0 lo) := rfl
theorem len_cut (z : Str) (lo hi : Option Int) : (cutS z lo hi).length ≤ z.length := by
  rw [len_tl, tl_cut, List.length_take, List.length_drop, len_tl z]
  omega
/-- the number from nought on that a word writes, or -1 -/
def fig (x : Str) : Int := if x.length = 0 ∨ 400 < x.length ∨ ¬ (∀ c ∈ tl x, 48 ≤ c ∧ c ≤ 57) ∨ ((tl x).head? = some 48 ∧ 1 < x.length) then -1 else ((NumText.digitsVal (tl x) : Nat) : Int)
theorem fig_no {x : Str} (h : x.length = 0 ∨ 400 < x.length ∨ ¬ (∀ c ∈ tl x, 48 ≤ c ∧ c ≤ 57) ∨ ((tl x).head? = some 48 ∧ 1 < x.length)) : fig x = -1 := if_pos h
theorem fig_yes {x : Str} (h : ¬ (x.length = 0 ∨ 400 < x.length ∨ ¬ (∀ c ∈ tl x, 48 ≤ c ∧ c ≤ 57) ∨ ((tl x).head? = some 48 ∧ 1 < x.length))) : fig x = ((NumText.digitsVal (tl x) : Nat) : Int) := if_neg h
theorem fig_ge (x : Str) : -1 ≤ fig x := by
  unfold fig
  split <;> omega
theorem digits_lt : ∀ (cs : List Nat) (a k : Nat), (∀ c ∈ cs, 48 ≤ c ∧ c ≤ 57) → a < 10 ^ k → cs.foldl (fun acc c => acc * 10 + (c - 48)) a < 10 ^ (k + cs.length)
  | [], a, k, _, h => h
  | c :: cs, a, k, hc, h => by
    have h1 := hc c List.mem_cons_self
    have ih := digits_lt cs (a * 10 + (c - 48)) (k + 1) (fun x hx => hc x (List.mem_cons_of_mem _ hx)) (by rw [Nat.pow_succ]; omega)
    rw [List.foldl_cons, List.length_cons, show k + (cs.length + 1) = k + 1 + cs.length by omega]
    exact ih
theorem fig_lt (x : Str) : fig x < 10 ^ 400 := by
  unfold fig
  split
  · exact Int.lt_of_lt_of_le (by decide : (-1 : Int) < 0) (Int.pow_nonneg (by decide))
  · rename_i h
    have h1 : ∀ c ∈ tl x, 48 ≤ c ∧ c ≤ 57 := Classical.byContradiction fun z => h (.inr (.inr (.inl z)))
    have h2 : x.length ≤ 400 := by
      rcases Nat.lt_or_ge 400 x.length with z | z
      · exact absurd (.inr (.inl z)) h
      · exact z
    have h3 := digits_lt (tl x) 0 0 h1 (by decide)
    rw [Nat.zero_add, ← len_tl] at h3
    have h4 : NumText.digitsVal (tl x) < 10 ^ 400 := Nat.lt_of_lt_of_le h3 (Nat.pow_le_pow_right (by decide) h2)
    have h5 : ((NumText.digitsVal (tl x) : Nat) : Int) < ((10 ^ 400 : Nat) : Int) := Int.ofNat_lt.mpr h4
    rw [Int.natCast_pow] at h5
    exact h5
theorem ten400 : (10 : Nat) ^ 400 < 2 ^ 1330 := by decide +kernel
theorem fig_bits {x : Str} : (fig x).natAbs < 2 ^ 1330 := by
  have h1 := fig_ge x
  have h2 := fig_lt x
  have h3 : ((10 : Int) ^ 400) = (((10 : Nat) ^ 400 : Nat) : Int) := by rw [Int.natCast_pow]; rfl
  rw [h3] at h2
  have h4 := ten400
  have h5 : 1 < (10 : Nat) ^ 400 := Nat.one_lt_pow (by decide) (by decide)
  generalize (10 : Nat) ^ 400 = A at *
  omega
theorem figures_mem {c : Nat} : c ∈ ("0123456789" : Str).cps.toList ↔ 48 ≤ c ∧ c ≤ 57 := by
  have e : ("0123456789" : Str).cps.toList = [48, 49, 50, 51, 52, 53, 54, 55, 56, 57] := by decide +kernel
  rw [e]
  simp only [List.mem_cons, List.mem_nil_iff, or_false]
  omega
theorem str_head {x : Str} {c : Nat} (h : (tl x).head? = some c) : atI x.cps.toList 0 = some c := by
  show atI (tl x) 0 = some c
  cases e : tl x with
  | nil => rw [e] at h; cases h
  | cons a r =>
    rw [e] at h
    cases h
    exact atI_nat (j := 0) rfl
theorem one_eq {c d : Nat} : ((⟨#[c]⟩ : Str) = ⟨#[d]⟩) ↔ c = d := ⟨fun h => by injection h with h; simpa using h, fun h => by rw [h]⟩
theorem len_zero {x : Str} : x = ("" : Str) ↔ x.length = 0 := by
  constructor
  · rintro rfl; rfl
  · intro h
    refine ext_tl ?_
    have : tl x = [] := (len0_tl x).mp h
    rw [this]
    rfl
def dash (z : Str) : Prop := cutS z none (some 1) = ("-" : Str)
instance (z : Str) : Decidable (dash z) := by unfold dash; infer_instance
theorem dash_iff {z : Str} : dash z ↔ (tl z).head? = some 45 := by
  unfold dash
  have e : tl ("-" : Str) = [45] := by decide +kernel
  constructor
  · intro h
    have h2 := congrArg tl h
    rw [tl_cut, e] at h2
    cases ez : tl z with
    | nil => rw [ez] at h2; simp at h2
    | cons a r =>
      have hl : z.length = r.length + 1 := by rw [len_tl, ez, List.length_cons]
      rw [ez, show HT.sIx z.length 0 none = 0 from rfl, show HT.sIx z.length z.length (some 1) = 1 by unfold HT.sIx; simp only; rw [if_neg (by decide)]; omega] at h2
      simp only [List.drop_zero, Nat.sub_zero, List.take_succ_cons, List.take_zero] at h2
      injection h2 with h2 _
      rw [h2] <;> rfl
  · intro h
    refine ext_tl ?_
    rw [tl_cut, e]
    cases ez : tl z with
    | nil => rw [ez] at h; cases h
    | cons a r =>
      rw [ez] at h
      have h : a = 45 := by simpa using h
      subst h
      have hl : z.length = r.length + 1 := by rw [len_tl, ez, List.length_cons]
      rw [show HT.sIx z.length 0 none = 0 from rfl, show HT.sIx z.length z.length (some 1) = 1 by unfold HT.sIx; simp only; rw [if_neg (by decide)]; omega]
      simp
/-- the text without its first sign -/
def rest1 (z : Str) : Str := cutS z (some 1) none
theorem tl_rest1 (z : Str) : tl (rest1 z) = (tl z).drop 1 := by
  unfold rest1
  rw [tl_cut]
  cases ez : tl z with
  | nil => simp
  | cons a r =>
    have hl : z.length = r.length + 1 := by rw [len_tl, ez, List.length_cons]
    rw [show HT.sIx z.length z.length none = z.length from rfl, show HT.sIx z.length 0 (some 1) = 1 by unfold HT.sIx; simp only; rw [if_neg (by decide)]; omega]
    rw [List.take_of_length_le]
    rw [List.length_drop, List.length_cons]
    omega
theorem rest1_ne {z : Str} (h : dash z) : rest1 z ≠ z := fun e => by
  have h1 := congrArg (fun x => (tl x).length) e
  simp only [tl_rest1, List.length_drop] at h1
  have h2 := dash_iff.mp h
  cases ez : tl z with
  | nil => rw [ez] at h2; cases h2
  | cons a r => rw [ez, List.length_cons] at h1; omega
/-- the text behind its sign -/
def restOf (z : Str) : Str := if dash z then rest1 z else z
def partTwo (d : Bool) : List Str → Option IP
  | [a, b] => if fig a < 0 ∨ fig b < 1 ∨ Int.gcd (fig a) (fig b) ≠ 1 ∨ (d = true ∧ fig a = 0) then none else some (if d = true then -fig a else fig a, fig b)
  | _ => none
theorem partTwo_ab (d : Bool) (a b : Str) : partTwo d [a, b] = if fig a < 0 ∨ fig b < 1 ∨ Int.gcd (fig a) (fig b) ≠ 1 ∨ (d = true ∧ fig a = 0) then none else some (if d = true then -fig a else fig a, fig b) := rfl
/-- the fraction that a text writes -/
def partOf (z : Str) : Option IP := partTwo (decide (dash z)) (Txt.split (restOf z) ("/" : Str))
theorem rest_len (z : Str) : (restOf z).length ≤ z.length := by
  unfold restOf rest1
  split
  · exact len_cut _ _ _
  · exact Nat.le_refl _
theorem partOf_good {z : Str} {p : IP} (h : partOf z = some p) : 0 < p.2 ∧ Int.gcd p.1 p.2 = 1 ∧ p.1.natAbs < 2 ^ 1330 ∧ p.2.natAbs < 2 ^ 1330 := by
  unfold partOf at h
  generalize decide (dash z) = d at h
  match Txt.split (restOf z) ("/" : Str), h with
  | [a, b], h =>
    rw [partTwo_ab] at h
    by_cases c : fig a < 0 ∨ fig b < 1 ∨ Int.gcd (fig a) (fig b) ≠ 1 ∨ (d = true ∧ fig a = 0)
    · rw [if_pos c] at h; cases h
    · rw [if_neg c] at h
      cases h
      have h2 : ¬ fig b < 1 := fun z => c (.inr (.inl z))
      have h3 : Int.gcd (fig a) (fig b) = 1 := Classical.byContradiction fun z => c (.inr (.inr (.inl z)))
      have ba := fig_bits (x := a)
      have bb := fig_bits (x := b)
      refine ⟨by simp only; omega, ?_, ?_, bb⟩
      · simp only
        split
        · rw [Int.neg_gcd]; exact h3
        · exact h3
      · simp only
        split
        · rw [Int.natAbs_neg]; exact ba
        · exact ba
/-- a fraction written -/
def partStr (p : IP) : Str := Str.ofString (toString p.1) ++ ("/" : Str) ++ Str.ofString (toString p.2)
theorem log2_lt {n k : Nat} (h : n < 2 ^ k) (hk : 0 < k) : n.log2 < k := by
  rcases Nat.eq_zero_or_pos n with z | z
  · rw [z]; simpa using hk
  · exact (Nat.log2_lt (by omega)).mpr h
theorem spl_len {S : List Nat} : ∀ (l : List Nat) (k : Nat) (acc p : List Nat), p ∈ spl S k acc l → p.length ≤ acc.length + l.length
  | [], k, acc, p, h => by
    rw [spl_nil] at h
    rw [List.mem_singleton.mp h]
    omega
  | c :: r, 0, acc, p, h => by
    cases hp : pre S (c :: r) with
    | true =>
      rw [spl_hit hp] at h
      rcases List.mem_cons.mp h with h | h
      · rw [h]; omega
      · have := spl_len r _ [] p h
        simp only [List.length_nil, List.length_cons] at this ⊢
        omega
    | false =>
      rw [spl_miss hp] at h
      have := spl_len r _ _ p h
      simp only [List.length_append, List.length_cons, List.length_nil] at this ⊢
      omega
  | c :: r, k + 1, acc, p, h => by
    have := spl_len r k acc p h
    rw [List.length_cons]
    omega
theorem spl_many {S : List Nat} : ∀ (l : List Nat) (k : Nat) (acc : List Nat), (spl S k acc l).length ≤ l.length + 1
  | [], k, acc => by
    rw [spl_nil]
    exact Nat.le_refl 1
  | c :: r, 0, acc => by
    cases hp : pre S (c :: r) with
    | true =>
      rw [spl_hit hp, List.length_cons, List.length_cons]
      have := spl_many (S := S) r (S.length - 1) []
      omega
    | false =>
      rw [spl_miss hp, List.length_cons]
      have := spl_many (S := S) r 0 (acc ++ [c])
      omega
  | c :: r, k + 1, acc => by
    have := spl_many (S := S) r k acc
    rw [List.length_cons]
    exact Nat.le_trans this (by omega)
theorem split_many {x : Str} {c : Nat} (hc : c < 256 := by decide) : (Txt.split x ⟨#[c]⟩).length ≤ x.length + 1 := by
  have h := split_spl x ⟨#[c]⟩ (by simp) (kind_ok (by simpa using hc))
  have e : (Txt.split x ⟨#[c]⟩).length = ((Txt.split x ⟨#[c]⟩).map tl).length := (List.length_map _).symm
  rw [e, h, len_tl]
  exact spl_many _ _ _
theorem split_piece' {x y p : Str} (hy : tl y ≠ []) (hk : y.cps.all (· < 256) = true) (hp : p ∈ Txt.split x y) : p.length ≤ x.length := by
  have h := split_spl x y hy (kind_ok hk)
  have h2 : tl p ∈ spl (tl y) 0 [] (tl x) := by
    rw [← h]
    exact List.mem_map.mpr ⟨p, hp, rfl⟩
  have h3 := spl_len _ _ _ _ h2
  rw [← len_tl, ← len_tl, List.length_nil, Nat.zero_add] at h3
  exact h3
theorem split_piece {x p : Str} {c : Nat} (hp : p ∈ Txt.split x ⟨#[c]⟩) (hc : c < 256 := by decide) : p.length ≤ x.length := split_piece' (by simp) (by simpa using hc) hp
theorem tl_nat (n : Nat) : tl (Str.ofString (toString (n : Int))) = numL n := tl_num n
theorem tl_neg {n : Nat} (h : 0 < n) : tl (Str.ofString (toString (-(n : Int)))) = 45 :: numL n := by
  obtain ⟨m, rfl⟩ : ∃ m, n = m + 1 := ⟨n - 1, by omega⟩
  have e1 : toString (-((m + 1 : Nat) : Int)) = "-" ++ toString (((m + 1 : Nat) : Int)) := rfl
  rw [← tl_nat, e1, tl_ofString, tl_ofString, String.toList_append, List.map_append]
  rfl
theorem numL_le {n k : Nat} (hk : 0 < k) (h : n < 10 ^ k) : (numL n).length ≤ k := numL_len hk h
theorem istr_len {i : Int} {k : Nat} (hk : 0 < k) (h : i.natAbs < 10 ^ k) : (Str.ofString (toString i)).length ≤ k + 1 := by
  rw [len_tl]
  rcases Int.lt_or_le i 0 with z | z
  · rw [show i = -((i.natAbs : Nat) : Int) by omega, tl_neg (by omega), List.length_cons]
    have := numL_le hk h
    omega
  · rw [show i = ((i.natAbs : Nat) : Int) by omega, tl_nat]
    have := numL_le hk h
    omega
theorem restOf_eq {z : Str} : restOf z = z ↔ ¬ dash z := by
  unfold restOf
  constructor
  · intro h d
    rw [if_pos d] at h
    exact rest1_ne d h
  · intro d
    rw [if_neg d]
def AllS (B : Nat) : List V → Prop
  | [] => True
  | v :: r => (∃ z : Str, v = .str z ∧ z.length ≤ B) ∧ AllS B r
theorem AllS.app {B : Nat} : ∀ {xs ys : List V}, AllS B xs → AllS B ys → AllS B (xs ++ ys)
  | [], _, _, h => h
  | _ :: _, _, h, k => ⟨h.1, AllS.app h.2 k⟩
theorem AllS.get {B : Nat} : ∀ {xs : List V} {i : Nat}, AllS B xs → i < xs.length → ∃ z : Str, xs[i]? = some (.str z) ∧ z.length ≤ B
  | [], _, _, h => absurd h (Nat.not_lt_zero _)
  | v :: r, 0, h, _ => by
    obtain ⟨z, e, l⟩ := h.1
    exact ⟨z, by rw [e]; rfl, l⟩
  | v :: r, i + 1, h, l => by
    obtain ⟨z, e, q⟩ := AllS.get (i := i) h.2 (by rw [List.length_cons] at l; omega)
    exact ⟨z, by rw [List.getElem?_cons_succ]; exact e, q⟩
theorem w_newLS {H : Hp} {Q : VK} {xs : List V} {B k : Nat} (a : AllS B xs) (e : xs.length = k) (h : ∀ (p : Addr) (ys : List V), H p = none → AllS B ys → ys.length = k → Q (.ref p) (upd H p (.lst ys))) (hz : xs.length ≤ sizeLine := by exact Pm.size_ok (Nat.le_of_ble_eq_true rfl)) : LstK Q xs H := ⟨hz, fun p hp => h p xs hp a e⟩
theorem fold_size (a : Array Nat) : ∀ (k : Nat) (b : Array Nat), ((List.replicate k a).foldl (· ++ ·) b).size = b.size + k * a.size
  | 0, b => by simp
  | k + 1, b => by
    rw [List.replicate_succ, List.foldl_cons, fold_size a k (b ++ a), Array.size_append, Nat.add_mul, Nat.one_mul]
    omega
end Pm
namespace Pm
open PySem PySem.Spec PyProof.Rows L2 TL
def ilL (i : Int) : List Nat := tl (Str.ofString (toString i))
def parL (p : IP) : List Nat := ilL p.1 ++ 47 :: ilL p.2
def rowL (k p : IP) : List Nat := ilL k.1 ++ 32 :: (ilL k.2 ++ 32 :: parL p)
def headL (n : Int) : List Nat := [109, 101, 97, 100, 32] ++ ilL n
def linesL (n : Int) (ks : List IP) (L : IP → IP) : List (List Nat) := headL n :: ((ks.map fun k => rowL k (L k)) ++ [[101, 110, 100]])
def sheetL (n : Int) (ks : List IP) (L : IP → IP) : List Nat := (linesL n ks L).flatMap fun l => l ++ [10]
def sheetS (n : Int) (ks : List IP) (L : IP → IP) : Str := ⟨(sheetL n ks L).toArray⟩
theorem tl_sheet (n : Int) (ks : List IP) (L : IP → IP) : tl (sheetS n ks L) = sheetL n ks L := rfl
theorem tl_part (p : IP) : tl (partStr p) = parL p := by
  unfold partStr parL ilL
  rw [tl_append, tl_append, show tl ("/" : Str) = [47] by decide +kernel, List.append_assoc]
  rfl
theorem il_nat (n : Nat) : ilL (n : Int) = numL n := tl_nat n
theorem il_neg {n : Nat} (h : 0 < n) : ilL (-(n : Int)) = 45 :: numL n := tl_neg h
theorem il_free {i : Int} {c : Nat} (h1 : c ≠ 45) (h2 : c < 48 ∨ 57 < c) : c ∉ ilL i := by
  rcases Int.lt_or_le i 0 with z | z
  · rw [show i = -((i.natAbs : Nat) : Int) by omega, il_neg (by omega)]
    rintro (_ | ⟨_, m⟩)
    · exact h1 rfl
    · exact numL_free h2 m
  · rw [show i = ((i.natAbs : Nat) : Int) by omega, il_nat]
    exact numL_free h2
theorem numL_head : ∀ {n : Nat}, 1 ≤ n → (numL n).head? ≠ some 48 := by
  intro n
  induction n using Nat.strongRecOn with
  | _ n ih =>
    intro h
    by_cases c : n < 10
    · rw [numL_lt c]
      intro e
      have : 48 + n = 48 := by simpa using e
      omega
    · rw [numL_step (by omega)]
      have h1 := ih (n / 10) (by omega) (by omega)
      cases e : numL (n / 10) with
      | nil => exact absurd e (numL_ne _)
      | cons a r =>
        rw [e] at h1
        simpa using h1
/-- a number from nought on, written and read -/
theorem fig_nat {n : Nat} (h : (numL n).length ≤ 400) : fig (Str.ofString (toString (n : Int))) = n := by
  have e := tl_nat n
  have l : (Str.ofString (toString (n : Int))).length = (numL n).length := by rw [len_tl, e]
  have pos : 0 < (numL n).length := List.length_pos_iff.mpr (numL_ne n)
  rw [fig_yes, e, numL_val]
  rw [e, l]
  rintro (z | z | z | ⟨z1, z2⟩)
  · omega
  · omega
  · exact z (numL_digits n)
  · by_cases c : n < 10
    · rw [numL_lt c] at z2
      simp at z2
    · exact numL_head (by omega) z1
theorem mk_il (i : Int) : (⟨(ilL i).toArray⟩ : Str) = Str.ofString (toString i) := mk_tl _
theorem spl_lines {s : Nat} : ∀ (ls : List (List Nat)), (∀ l ∈ ls, s ∉ l) → spl [s] 0 [] (ls.flatMap fun l => l ++ [s]) = ls ++ [[]]
  | [], _ => by rw [List.flatMap_nil, spl_nil]; rfl
  | l :: ls, h => by
    rw [List.flatMap_cons, List.append_assoc, show l ++ ([s] ++ ls.flatMap fun l => l ++ [s]) = l ++ (s :: [] ++ ls.flatMap fun l => l ++ [s]) from rfl, spl_part1 (h l List.mem_cons_self), List.nil_append, spl_lines ls fun x hx => h x (List.mem_cons_of_mem _ hx)]
    rfl
theorem split_of {z : Str} {c : Nat} {parts : List (List Nat)} (h : spl [c] 0 [] (tl z) = parts) (hc : c < 256 := by decide) : Txt.split z ⟨#[c]⟩ = parts.map fun l => (⟨l.toArray⟩ : Str) := by
  refine map_tl_inj ?_
  rw [split_spl z ⟨#[c]⟩ (by simp) (kind_ok (by simpa using hc)), List.map_map]
  show spl [c] 0 [] (tl z) = parts.map fun l => l
  rw [h, List.map_id']
theorem par_free (p : IP) : 10 ∉ parL p ∧ 32 ∉ parL p := by
  unfold parL
  constructor
  · simp only [List.mem_append, List.mem_cons, not_or]
    exact ⟨il_free (by decide) (by decide), by decide, il_free (by decide) (by decide)⟩
  · simp only [List.mem_append, List.mem_cons, not_or]
    exact ⟨il_free (by decide) (by decide), by decide, il_free (by decide) (by decide)⟩
theorem row_free (k p : IP) : 10 ∉ rowL k p := by
  unfold rowL
  simp only [List.mem_append, List.mem_cons, not_or]
  exact ⟨il_free (by decide) (by decide), by decide, il_free (by decide) (by decide), by decide, (par_free p).1⟩
theorem head_free (n : Int) : 10 ∉ headL n := by
  unfold headL
  simp only [List.mem_append, List.mem_cons, List.mem_nil_iff, or_false, not_or]
  exact ⟨by decide, il_free (by decide) (by decide)⟩
/-- the rows of a sheet -/
theorem split_sheet (n : Int) (ks : List IP) (L : IP → IP) : Txt.split (sheetS n ks L) ⟨#[10]⟩ = (linesL n ks L ++ [[]]).map fun l : List Nat => (⟨l.toArray⟩ : Str) := by
  refine split_of (c := 10) ?_ (by decide)
  rw [tl_sheet]
  refine spl_lines _ fun l hl => ?_
  unfold linesL at hl
  rcases List.mem_cons.mp hl with rfl | hl
  · exact head_free n
  · rcases List.mem_append.mp hl with hl | hl
    · obtain ⟨k, _, rfl⟩ := List.mem_map.mp hl
      exact row_free _ _
    · rw [List.mem_singleton.mp hl]
      decide
theorem split_row (k p : IP) : Txt.split ⟨(rowL k p).toArray⟩ ⟨#[32]⟩ = [Str.ofString (toString k.1), Str.ofString (toString k.2), partStr p] := by
  rw [split_of (parts := [ilL k.1, ilL k.2, parL p])]
  · simp only [List.map_cons, List.map_nil, mk_il]
    rw [← tl_part, mk_tl]
  · show spl [32] 0 [] (rowL k p) = _
    unfold rowL
    rw [show ilL k.1 ++ 32 :: (ilL k.2 ++ 32 :: parL p) = ilL k.1 ++ (32 :: [] ++ (ilL k.2 ++ (32 :: [] ++ parL p))) from rfl, spl_part1 (il_free (by decide) (by decide)), spl_part1 (il_free (by decide) (by decide)), spl_last1 (par_free p).2]
    rfl
theorem split_part {a : List Nat} {b : Int} {z : Str} (ha : 47 ∉ a) (e : tl z = a ++ 47 :: ilL b) : Txt.split z ("/" : Str) = [⟨a.toArray⟩, Str.ofString (toString b)] := by
  show Txt.split z ⟨#[47]⟩ = _
  rw [split_of (parts := [a, ilL b])]
  · simp only [List.map_cons, List.map_nil, mk_il]
  · rw [e, show a ++ 47 :: ilL b = a ++ (47 :: [] ++ ilL b) from rfl, spl_part1 ha, spl_last1 (il_free (by decide) (by decide))]
    rfl
/-- a fraction, written and read -/
theorem part_back {p : IP} (h2 : 0 < p.2) (g : Int.gcd p.1 p.2 = 1) (l1 : (numL p.1.natAbs).length ≤ 400) (l2 : (numL p.2.natAbs).length ≤ 400) : partOf (partStr p) = some p := by
  obtain ⟨a, b⟩ := p
  simp only at h2 g l1 l2
  have eb : b = ((b.natAbs : Nat) : Int) := by omega
  have fb : fig (Str.ofString (toString b)) = b := by
    rw [eb] at l2 ⊢
    rw [Int.natAbs_natCast] at l2
    exact fig_nat l2
  have et := tl_part (a, b)
  unfold parL at et
  simp only at et
  unfold partOf
  rcases Int.lt_or_le a 0 with z | z
  · have ea : a = -((a.natAbs : Nat) : Int) := by omega
    have hd : dash (partStr (a, b)) := by
      rw [dash_iff, et, ea, il_neg (by omega)]
      rfl
    have er : tl (restOf (partStr (a, b))) = numL a.natAbs ++ 47 :: ilL b := by
      unfold restOf
      rw [if_pos hd, tl_rest1, et, ea, il_neg (by omega), ← ea]
      rfl
    rw [decide_eq_true hd, split_part (numL_free (by decide)) er, partTwo_ab, fb]
    have fa : fig ⟨(numL a.natAbs).toArray⟩ = ((a.natAbs : Nat) : Int) := by
      rw [← il_nat, mk_il]
      exact fig_nat l1
    rw [fa, if_neg]
    · rw [if_pos rfl, ← ea]
    · rintro (h | h | h | ⟨_, h⟩)
      · omega
      · omega
      · refine h ?_
        rw [ea] at g
        rw [Int.neg_gcd] at g
        exact g
      · omega
  · have ea : a = ((a.natAbs : Nat) : Int) := by omega
    have hd : ¬ dash (partStr (a, b)) := by
      rw [dash_iff, et, ea, il_nat]
      cases e : numL a.natAbs with
      | nil => exact absurd e (numL_ne _)
      | cons c r =>
        have := numL_digits a.natAbs c (by rw [e]; exact List.mem_cons_self)
        intro q
        have : c = 45 := by simpa using q
        omega
    have er : tl (restOf (partStr (a, b))) = numL a.natAbs ++ 47 :: ilL b := by
      rw [restOf_eq.mpr hd, et]
      conv => lhs; rw [ea, il_nat]
    rw [decide_eq_false hd, split_part (numL_free (by decide)) er, partTwo_ab, fb]
    have fa : fig ⟨(numL a.natAbs).toArray⟩ = a := by
      rw [← il_nat, mk_il]
      rw [fig_nat l1]
      exact ea.symm
    rw [fa, if_neg]
    · rw [if_neg (by decide)]
    · rintro (h | h | h | ⟨h, _⟩)
      · omega
      · omega
      · exact h g
      · exact nomatch h
theorem atI_last {α : Type} (xs : List α) (a : α) : atI (xs ++ [a]) (-1) = some a := by
  unfold atI ixN
  rw [if_neg (by decide), if_pos (by rw [List.length_append, List.length_singleton]; omega)]
  show (xs ++ [a])[_]? = some a
  rw [show (-1 + (((xs ++ [a]).length : Nat) : Int)).toNat = xs.length by rw [List.length_append, List.length_singleton]; omega, List.getElem?_append_right (Nat.le_refl _), Nat.sub_self]
  rfl
theorem atI_last2 {α : Type} (xs : List α) (a b : α) : atI (xs ++ [a, b]) (-2) = some a := by
  unfold atI ixN
  rw [if_neg (by decide), if_pos (by rw [List.length_append]; simp only [List.length_cons, List.length_nil]; omega)]
  show (xs ++ [a, b])[_]? = some a
  rw [show (-2 + (((xs ++ [a, b]).length : Nat) : Int)).toNat = xs.length by rw [List.length_append]; simp only [List.length_cons, List.length_nil]; omega, List.getElem?_append_right (Nat.le_refl _), Nat.sub_self]
  rfl
theorem cut_inner (a b c : V) (xs : List V) : cutV (a :: (xs ++ [b, c])) (some 1) (some (-2)) = xs := by
  have hl : (a :: (xs ++ [b, c])).length = xs.length + 3 := by simp
  unfold cutV
  rw [hl]
  have e1 : HT.sIx (xs.length + 3) 0 (some 1) = 1 := by unfold HT.sIx; simp only; rw [if_neg (by decide)]; omega
  have e2 : HT.sIx (xs.length + 3) (xs.length + 3) (some (-2)) = xs.length + 1 := by unfold HT.sIx; simp only; rw [if_pos (by decide)]; omega
  rw [e1, e2, List.drop_succ_cons, List.drop_zero, Nat.add_sub_cancel, List.take_left']
  rfl
end Pm
namespace Pm
open PySem PySem.Spec PyProof.Rows L2
def Nx (p q : Nat × Nat) : Prop := ¬ (p.1 < q.1 ∧ q.1 < p.2 ∧ p.2 < q.2) ∧ ¬ (q.1 < p.1 ∧ p.1 < q.2 ∧ q.2 < p.2)
theorem all_one {α : Type} {a : α} : ∀ {l : List α}, l.Nodup → (∀ x ∈ l, x = a) → l = [] ∨ l = [a]
  | [], _, _ => .inl rfl
  | [x], _, h => .inr (by rw [h x List.mem_cons_self])
  | x :: y :: l, n, h => by
    have e1 := h x List.mem_cons_self
    have e2 := h y (List.mem_cons_of_mem _ List.mem_cons_self)
    rw [List.nodup_cons] at n
    exact absurd (by rw [e1, e2]; exact List.mem_cons_self) n.1
/-- the greatest of some numbers -/
theorem greatest (f : Nat × Nat → Bool) : ∀ (l : List (Nat × Nat)), (∀ p ∈ l, f p = false) ∨ ∃ p ∈ l, f p = true ∧ ∀ q ∈ l, f q = true → q.2 ≤ p.2
  | [] => .inl fun _ h => nomatch h
  | x :: l => by
    rcases greatest f l with h | ⟨p, hp, fp, h⟩
    · cases e : f x with
      | false =>
        refine .inl fun p hp => ?_
        rcases List.mem_cons.mp hp with z | z
        · rw [z, e]
        · exact h p z
      | true =>
        refine .inr ⟨x, List.mem_cons_self, e, fun q hq fq => ?_⟩
        rcases List.mem_cons.mp hq with z | z
        · rw [z]
          exact Nat.le_refl _
        · rw [h q z] at fq
          cases fq
    · by_cases c : f x = true ∧ p.2 ≤ x.2
      · refine .inr ⟨x, List.mem_cons_self, c.1, fun q hq fq => ?_⟩
        rcases List.mem_cons.mp hq with z | z
        · rw [z]
          exact Nat.le_refl _
        · exact Nat.le_trans (h q z fq) c.2
      · refine .inr ⟨p, List.mem_cons_of_mem _ hp, fp, fun q hq fq => ?_⟩
        rcases List.mem_cons.mp hq with z | z
        · rw [z] at fq ⊢
          have : ¬ p.2 ≤ x.2 := fun k => c ⟨fq, k⟩
          omega
        · exact h q z fq
theorem fill : ∀ (w lo : Nat) (ps : List (Nat × Nat)), 1 ≤ w → ps.Nodup → (∀ p ∈ ps, lo ≤ p.1 ∧ p.1 + 2 ≤ p.2 ∧ p.2 ≤ lo + w) → (∀ p ∈ ps, ∀ q ∈ ps, Nx p q) →
    ps.length + 1 ≤ w ∧ (ps.length + 1 = w → ∃ t : Tr, t.w = w ∧ (t.inn lo).Perm ps) := by
  intro w
  induction w using Nat.strongRecOn with
  | _ w ih =>
  intro lo ps w1 nd bd nx
  by_cases w2 : w = 1
  · have e : ps = [] := by
      match ps, bd with
      | [], _ => rfl
      | p :: _, b =>
        have := b p List.mem_cons_self
        omega
    subst e
    exact ⟨by simpa using w1, fun _ => ⟨.leaf, by rw [w2]; rfl, .refl _⟩⟩
  generalize hps' : ps.filter (fun p => !decide (p = (lo, lo + w))) = ps'
  have mem' : ∀ p, p ∈ ps' ↔ p ∈ ps ∧ p ≠ (lo, lo + w) := fun p => by
    rw [← hps', List.mem_filter]
    simp
  have nd' : ps'.Nodup := by rw [← hps']; exact nd.sublist List.filter_sublist
  obtain ⟨m, m1, m2, hm, hmax⟩ : ∃ m, lo + 1 ≤ m ∧ m < lo + w ∧ (m = lo + 1 ∨ (lo, m) ∈ ps') ∧ ∀ p ∈ ps', p.1 = lo → p.2 ≤ m := by
    rcases greatest (fun p => decide (p.1 = lo)) ps' with h | ⟨p, hp, fp, h⟩
    · exact ⟨lo + 1, Nat.le_refl _, by omega, .inl rfl, fun p hp e => by
        have := h p hp
        rw [e] at this
        simp at this⟩
    · have fp : p.1 = lo := by simpa using fp
      obtain ⟨h1, h2⟩ := (mem' p).mp hp
      have b := bd p h1
      have ne : p.2 ≠ lo + w := fun z => h2 (Prod.ext fp z)
      refine ⟨p.2, by omega, by omega, .inr ?_, fun q hq e => h q hq (by simpa using e)⟩
      rw [show (lo, p.2) = p from Prod.ext fp.symm rfl]
      exact hp
  generalize hA : ps'.filter (fun p => decide (p.2 ≤ m)) = A
  generalize hB : ps'.filter (fun p => !decide (p.2 ≤ m)) = B
  have mA : ∀ p, p ∈ A ↔ p ∈ ps' ∧ p.2 ≤ m := fun p => by rw [← hA, List.mem_filter]; simp
  have mB : ∀ p, p ∈ B ↔ p ∈ ps' ∧ ¬ p.2 ≤ m := fun p => by rw [← hB, List.mem_filter]; simp
  have pAB : (A ++ B).Perm ps' := by
    rw [← hA, ← hB]
    exact List.filter_append_perm _ _
  have bB : ∀ p ∈ B, m ≤ p.1 := fun p hp => by
    obtain ⟨h1, h2⟩ := (mB p).mp hp
    have h3 := ((mem' p).mp h1).1
    have b := bd p h3
    by_cases e : p.1 = lo
    · exact absurd (hmax p h1 e) h2
    · rcases hm with hm | hm
      · omega
      · have x := (nx _ ((mem' _).mp hm).1 _ h3).1
        simp only at x
        omega
  have subA : ∀ p ∈ A, p ∈ ps := fun p hp => ((mem' p).mp ((mA p).mp hp).1).1
  have subB : ∀ p ∈ B, p ∈ ps := fun p hp => ((mem' p).mp ((mB p).mp hp).1).1
  have iA := ih (m - lo) (by omega) lo A (by omega) (by rw [← hA]; exact nd'.sublist List.filter_sublist) (fun p hp => by
    have b := bd p (subA p hp)
    have := ((mA p).mp hp).2
    omega) (fun p hp q hq => nx p (subA p hp) q (subA q hq))
  have iB := ih (lo + w - m) (by omega) m B (by omega) (by rw [← hB]; exact nd'.sublist List.filter_sublist) (fun p hp => by
    have b := bd p (subB p hp)
    have := bB p hp
    omega) (fun p hp q hq => nx p (subB p hp) q (subB q hq))
  have lAB := pAB.length_eq
  rw [List.length_append] at lAB
  have pR : (ps.filter (fun p => decide (p = (lo, lo + w))) ++ ps').Perm ps := by
    rw [← hps']
    exact List.filter_append_perm _ _
  have lR := pR.length_eq
  rw [List.length_append] at lR
  have one := all_one (a := (lo, lo + w)) (nd.sublist (List.filter_sublist (p := fun p => decide (p = (lo, lo + w))))) (fun x hx => by simpa using (List.mem_filter.mp hx).2)
  rcases one with one | one
  · rw [one] at lR
    have lR : 0 + ps'.length = ps.length := lR
    exact ⟨by omega, fun e => by omega⟩
  · rw [one] at lR pR
    have lR : 1 + ps'.length = ps.length := lR
    refine ⟨by omega, fun e => ?_⟩
    obtain ⟨l, hl, pl⟩ := iA.2 (by omega)
    obtain ⟨r, hr, pr⟩ := iB.2 (by omega)
    have ew : l.w + r.w = w := by omega
    refine ⟨.node l r, ew, ?_⟩
    show ((lo, lo + (l.w + r.w)) :: (l.inn lo ++ r.inn (lo + l.w))).Perm ps
    rw [ew, show lo + l.w = m by omega]
    exact (((pl.append pr).trans pAB).cons _).trans pR
/-- what kept lets by is a cutting -/
theorem kept_tree {n : Int} {ps : List IP} (h : KeptOk n ps) : ∃ (nn : Nat) (t : Tr), n = nn ∧ nn ≤ 12 ∧ Cutting nn (sortP (ps.map tied)) t := by
  obtain ⟨⟨n3, n12⟩, len, G⟩ := h
  have lc : (sortP (ps.map tied)).length = ps.length := by rw [sortP_len, List.length_map]
  have rise := sortP_rising (ps.map tied)
  generalize sortP (ps.map tied) = cut at G lc rise ⊢
  generalize hqs : cut.map (fun p => (p.1.toNat, p.2.toNat)) = qs
  have ecut : cut = qs.map castP := by
    rw [← hqs, List.map_map]
    have : cut.map id = cut.map (castP ∘ fun p => (p.1.toNat, p.2.toNat)) := List.map_congr_left fun p hp => by
      have := G.ok p hp
      unfold ropeOk at this
      exact Prod.ext (by simp only [Function.comp, castP, id]; omega) (by simp only [Function.comp, castP, id]; omega)
    rw [← this, List.map_id]
  have lq : qs.length = cut.length := by rw [← hqs, List.length_map]
  have okq : ∀ q ∈ qs, q.1 + 2 ≤ q.2 ∧ (q.2 : Int) < n ∧ (q.2 : Int) - q.1 < n - 1 := fun q hq => by
    have := G.ok (castP q) (by rw [ecut]; exact List.mem_map.mpr ⟨q, hq, rfl⟩)
    unfold ropeOk castP at this
    simp only at this
    omega
  have pwq : qs.Pairwise (fun p q => p ≠ q ∧ Nx p q) := by
    have pw := G.pw
    rw [ecut, List.pairwise_map] at pw
    refine pw.imp_of_mem fun {p q} hp hq z => ⟨fun e => z.1 (by rw [e]), ?_⟩
    have b1 := okq p hp
    have b2 := okq q hq
    have z2 := z.2
    simp only [castP] at z2
    rw [cross_iff (by omega) (by omega)] at z2
    unfold Nx
    omega
  have nd : qs.Nodup := pwq.imp fun z => z.1
  have self : ∀ p : Nat × Nat, Nx p p := fun p => ⟨by omega, by omega⟩
  have nxq : ∀ p ∈ qs, ∀ q ∈ qs, Nx p q := by
    have h2 : qs.Pairwise Nx := pwq.imp fun z => z.2
    have gen : ∀ l : List (Nat × Nat), l.Pairwise Nx → ∀ p ∈ l, ∀ q ∈ l, Nx p q := by
      intro l
      induction l with
      | nil => exact fun _ _ h => nomatch h
      | cons x l ih =>
        intro h p hp q hq
        rw [List.pairwise_cons] at h
        rcases List.mem_cons.mp hp with e1 | hp
        · rcases List.mem_cons.mp hq with e2 | hq
          · rw [e1, e2]
            exact self _
          · rw [e1]
            exact h.1 q hq
        · rcases List.mem_cons.mp hq with e2 | hq
          · rw [e2]
            have := h.1 p hp
            exact ⟨this.2, this.1⟩
          · exact ih h.2 p hp q hq
    exact gen qs h2
  obtain ⟨nn, rfl⟩ : ∃ nn : Nat, n = nn := ⟨n.toNat, by omega⟩
  have hN := (fill (nn - 1) 0 ((0, nn - 1) :: qs) (by omega) (List.nodup_cons.mpr ⟨fun m => by
      have := okq _ m
      simp only at this
      omega, nd⟩) (fun p hp => by
    rcases List.mem_cons.mp hp with e | hp
    · rw [e]
      simp only
      omega
    · have := okq p hp
      omega) (fun p hp q hq => by
    rcases List.mem_cons.mp hp with e | hp
    · rcases List.mem_cons.mp hq with e2 | hq
      · rw [e, e2]
        exact self _
      · have := okq q hq
        rw [e]
        unfold Nx
        simp only
        omega
    · rcases List.mem_cons.mp hq with e2 | hq
      · have := okq p hp
        rw [e2]
        unfold Nx
        simp only
        omega
      · exact nxq p hp q hq)).2 (by rw [List.length_cons]; omega)
  obtain ⟨t, hw, hp⟩ := hN
  rw [Tr.inn_node (by omega), hw, Nat.zero_add] at hp
  have hp2 := hp.cons_inv
  refine ⟨nn, t, rfl, by omega, by omega, by omega, ?_, rise⟩
  rw [ecut]
  exact (hp2.symm).map castP
end Pm
namespace Pm
open PySem PySem.Spec PyProof.Rows L2 TL
theorem numL_back {cs : List Nat} (h : ∀ c ∈ cs, 48 ≤ c ∧ c ≤ 57) (ne : cs ≠ []) (z : ¬ (cs.head? = some 48 ∧ 1 < cs.length)) : numL (NumText.digitsVal cs) = cs := by
  have e := PySem.NumText.toDigits_digitsVal (cs.length - 1) cs (by have := List.length_pos_iff.mpr ne; omega) h (by
    match cs, ne with
    | [c], _ => exact .inl rfl
    | c :: d :: r, _ =>
      refine .inr ⟨c, d :: r, rfl, ?_⟩
      have := h c List.mem_cons_self
      by_cases c48 : c = 48
      · exact absurd ⟨by rw [c48]; rfl, by simp⟩ z
      · omega)
  unfold numL
  rw [e, List.map_map]
  have : cs.map (Char.toNat ∘ Char.ofNat) = cs.map id := List.map_congr_left fun c hc => by
    have := h c hc
    show (Char.ofNat c).toNat = c
    have sm : ∀ c : Nat, c < 58 → (Char.ofNat c).toNat = c := by decide
    exact sm c (by omega)
  rw [this, List.map_id]
theorem fig_back {x : Str} (h : 0 ≤ fig x) : x = Str.ofString (toString (fig x)) := by
  by_cases c : x.length = 0 ∨ 400 < x.length ∨ ¬ (∀ c ∈ tl x, 48 ≤ c ∧ c ≤ 57) ∨ ((tl x).head? = some 48 ∧ 1 < x.length)
  · rw [fig_no c] at h
    omega
  have e := fig_yes c
  have d : ∀ c ∈ tl x, 48 ≤ c ∧ c ≤ 57 := Classical.byContradiction fun z => c (.inr (.inr (.inl z)))
  have ne : tl x ≠ [] := fun z => c (.inl ((len0_tl x).mpr z))
  refine ext_tl ?_
  rw [e, tl_nat]
  exact (numL_back d ne (fun z => c (.inr (.inr (.inr ⟨z.1, by rw [len_tl]; exact z.2⟩))))).symm
theorem spl_first {S : List Nat} : ∀ (l : List Nat) (k : Nat) (acc : List Nat), ∃ p rest, spl S k acc l = p :: rest
  | [], k, acc => ⟨acc, [], spl_nil ..⟩
  | c :: r, 0, acc => by
    cases hp : pre S (c :: r) with
    | true => exact ⟨acc, _, spl_hit hp⟩
    | false =>
      obtain ⟨p, rest, h1⟩ := spl_first (S := S) r 0 (acc ++ [c])
      exact ⟨p, rest, by rw [spl_miss hp]; exact h1⟩
  | c :: r, k + 1, acc => spl_first r k acc
/-- the pieces put together again -/
theorem spl_back {s : Nat} : ∀ (l acc : List Nat), joinL [s] (spl [s] 0 acc l) = acc ++ l
  | [], acc => by
    rw [spl_nil, List.append_nil]
    rfl
  | c :: r, acc => by
    cases hp : pre [s] (c :: r) with
    | true =>
      have ec : c = s := by simpa [pre] using hp
      rw [spl_hit hp]
      have ih := spl_back (s := s) r []
      obtain ⟨p, rest, e⟩ := spl_first (S := [s]) r 0 []
      rw [show [s].length - 1 = 0 from rfl, e]
      rw [e] at ih
      show acc ++ ([s] ++ joinL [s] (p :: rest)) = _
      rw [ih, ec]
      simp
    | false =>
      rw [spl_miss hp, spl_back r (acc ++ [c])]
      simp
theorem split_back {z : Str} {c : Nat} (hc : c < 256 := by decide) : joinL [c] ((Txt.split z ⟨#[c]⟩).map tl) = tl z := by
  have h := split_spl z ⟨#[c]⟩ (by simp) (kind_ok (by simpa using hc))
  have h2 : (Txt.split z ⟨#[c]⟩).map tl = spl [c] 0 [] (tl z) := h
  rw [h2, spl_back]
  rfl
theorem join_lines {s : Nat} : ∀ ls : List (List Nat), joinL [s] (ls ++ [[]]) = ls.flatMap fun l => l ++ [s]
  | [] => rfl
  | [l] => by
    show l ++ ([s] ++ []) = _
    simp
  | l :: m :: r => by
    show l ++ ([s] ++ joinL [s] (m :: r ++ [[]])) = _
    rw [join_lines (m :: r)]
    simp
end Pm
namespace Pm
open PySem PySem.Spec PyProof.Rows L2 TL
open PySem.Builtin PySem.Builtin.Str
def occs (x y : Str) : Nat := (occurrences x y 0 x.length (x.length + 1)).length
theorem glued_len (x y z : Str) : (glued z (partsBetween x (occurrences x y 0 x.length (x.length + 1)) y.length)).length ≤ x.length + occs x y * z.length := by
  have hy : (glued y (partsBetween x (occurrences x y 0 x.length (x.length + 1)) y.length)).length = x.length := by rw [StrLaws.glued_between_self]
  rw [size_glued, length_partsBetween, Nat.add_sub_cancel] at hy
  rw [size_glued, length_partsBetween, Nat.add_sub_cancel]
  unfold occs
  omega
theorem rep_len (x y z : Str) : (Txt.replace x y z).length ≤ x.length + occs x y * z.length := by
  unfold Txt.replace
  split
  · exact Nat.le_add_right _ _
  · exact glued_len x y z
theorem count_gluedFold (c : Nat) (sep : Str) : ∀ (rest : List Str) (acc : Array Nat), (rest.foldl (fun acc p => acc ++ sep.cps ++ p.cps) acc).toList.count c = acc.toList.count c + (rest.map fun p => (tl p).count c).sum + rest.length * (tl sep).count c
  | [], acc => by simp
  | p :: r, acc => by
    rw [List.foldl_cons, count_gluedFold c sep r]
    simp only [Array.toList_append, List.count_append, List.map_cons, List.sum_cons, List.length_cons, Nat.add_mul, Nat.one_mul]
    have e1 : (tl sep).count c = sep.cps.toList.count c := rfl
    have e2 : (tl p).count c = p.cps.toList.count c := rfl
    omega
theorem count_glued (c : Nat) (sep : Str) : ∀ (parts : List Str), (parts.length - 1) * (tl sep).count c ≤ (tl (glued sep parts)).count c
  | [] => by simp
  | p :: r => by
    show _ ≤ (r.foldl (fun acc q => acc ++ sep.cps ++ q.cps) p.cps).toList.count c
    rw [count_gluedFold, List.length_cons, Nat.add_sub_cancel]
    omega
/-- so often a text is found as a sign of it at most -/
theorem occs_le {x y : Str} {c : Nat} (h : c ∈ tl y) : occs x y ≤ (tl x).count c := by
  have g := count_glued c y (partsBetween x (occurrences x y 0 x.length (x.length + 1)) y.length)
  rw [StrLaws.glued_between_self, length_partsBetween, Nat.add_sub_cancel] at g
  have p : 1 ≤ (tl y).count c := List.count_pos_iff.mpr h
  exact Nat.le_trans (Nat.le_mul_of_pos_right _ p) g
section
variable {prog : Program} {w : World} {A : Around} {E : Value → Shared → Prop} {s : Shared} {x y z : Str} {t u v : Tok} {Q : Value → Shared → Prop}
theorem rep_run (hu : u ≠ 0) (hv : v ≠ 0) (huv : u ≠ v) (hyz : (y == z) = false) (hb : x.length + occs x y * z.length ≤ 16777216)
    (hq : ∀ t' k, Q (.str (Txt.replace x y z) t') { s with toks := k }) : wpAny (model prog w) A (call (.builtin "str.replace") [.str x t, .str y u, .str z v]) Q E s := by
  have hl : tooLong (x.length + (occurrences x y 0 x.length (x.length + 1)).length * z.length) = false := by
    unfold tooLong sizeLine
    unfold occs at hb
    exact decide_eq_false (by omega)
  refine call_gives F.slot_str_replace (typeIs_str _ _ _) F.entry_str_replace (F.args_str_replace_3 _ _ _)
    (gives_str_replace x y z t u v fun _ => ⟨by simp [hu, hv], by simp [huv], hyz, hl⟩) ?_
  have hq' := hq
  unfold Txt.replace at hq'
  cases hc : ((occurrences x y 0 x.length (x.length + 1)).isEmpty || (y.length == 0 && z.length == 0))
  · rw [hc] at hq'
    simp only [Bool.false_eq_true, if_false] at hq' ⊢
    exact ⟨by rw [sizeLine_eq]; exact Nat.le_trans (glued_len x y z) hb, hq' _ _⟩
  · rw [hc] at hq'
    simp only [if_true] at hq' ⊢
    exact hq' t s.toks
end
def tRepC (to : TE) (y z : Str) : TE := fun σ H Q => to σ H fun v H1 => ∃ x, v = .str x ∧ x.length + occs x y * z.length ≤ 16777216 ∧ Q (.str (Txt.replace x y z)) H1
def tRepA (to : TE) (y c : Str) (te : TE) : TE := fun σ H Q => to σ H fun v H1 => ∃ x, v = .str x ∧ te σ H1 fun u H2 => ∃ b, u = .str b ∧ b.length ≠ 0 ∧ (y == c ++ b) = false ∧ c.length + b.length ≤ sizeLine ∧ x.length + occs x y * (c ++ b).length ≤ 16777216 ∧ Q (.str (Txt.replace x y (c ++ b))) H2
def RepC (y z : Str) (Q : VK) : VK := fun v H1 => ∃ x, v = .str x ∧ x.length + occs x y * z.length ≤ 16777216 ∧ Q (.str (Txt.replace x y z)) H1
def RepA (σ : L2.St) (y c : Str) (te : TE) (Q : VK) : VK := fun v H1 => ∃ x, v = .str x ∧ te σ H1 fun u H2 => ∃ b, u = .str b ∧ b.length ≠ 0 ∧ (y == c ++ b) = false ∧ c.length + b.length ≤ sizeLine ∧ x.length + occs x y * (c ++ b).length ≤ 16777216 ∧ Q (.str (Txt.replace x y (c ++ b))) H2
section
variable {σ : L2.St} {H : Hp} {to te : TE} {x y z c : Str} {Q : VK}
theorem w_repC (h : to σ H (RepC y z Q)) : tRepC to y z σ H Q := h
theorem w_repA (h : to σ H (RepA σ y c te Q)) : tRepA to y c te σ H Q := h
theorem w_repC1 (hb : x.length + occs x y * z.length ≤ 16777216) (h : Q (.str (Txt.replace x y z)) H) : RepC y z Q (.str x) H := ⟨x, rfl, hb, h⟩
def RepB (x y c : Str) (Q : VK) : VK := fun u H2 => ∃ b, u = .str b ∧ b.length ≠ 0 ∧ (y == c ++ b) = false ∧ c.length + b.length ≤ sizeLine ∧ x.length + occs x y * (c ++ b).length ≤ 16777216 ∧ Q (.str (Txt.replace x y (c ++ b))) H2
theorem w_repA1 (h : te σ H (RepB x y c Q)) : RepA σ y c te Q (.str x) H := ⟨x, rfl, h⟩
theorem w_repB {b : Str} (h0 : b.length ≠ 0) (hy : y.length < c.length + b.length) (hz : c.length + b.length ≤ sizeLine) (hb : x.length + occs x y * (c.length + b.length) ≤ 16777216) (h : Q (.str (Txt.replace x y (c ++ b))) H) : RepB x y c Q (.str b) H := by
  refine ⟨b, rfl, h0, ?_, hz, by rw [len_app]; exact hb, h⟩
  cases e : y == c ++ b with
  | false => rfl
  | true =>
    have := congrArg Str.length (eq_of_beq e)
    rw [len_app] at this
    omega
end
theorem len_mul_eq (x : Str) {n : Int} (h : 1 ≤ n) : (PySem.Txt.mul x n).length = x.length * n.toNat := by
  unfold PySem.Txt.mul
  split
  · rename_i h1
    omega
  · split
    · rename_i h1 h2
      rcases (Bool.or_eq_true _ _).mp h2 with h | h
      · rw [eq_of_beq h]
        exact (Nat.mul_one _).symm
      · rw [eq_of_beq h, Nat.zero_mul]
    · show ((List.replicate n.toNat x.cps).foldl (· ++ ·) #[]).size = _
      rw [fold_size]
      show 0 + n.toNat * x.cps.size = x.cps.size * n.toNat
      rw [Nat.zero_add, Nat.mul_comm]
section
variable {X : Cx} {o e f : Expr} {te tf : TE} {to : TE} {y z c : Str} {j k : Nat} {c0 c1 apos pos p p' p2 : Pos}
theorem pet_repC (ho : PE X o to) (hyz : (y == z) = false := by decide)
    (hst : starEach [.Constant (.str y) j c0, .Constant (.str z) k c1] X.env = [(false, eval (.Constant (.str y) j c0) X.env), (false, eval (.Constant (.str z) k c1) X.env)] := by rfl)
    (hbase : attributeBase o "replace" X.env (eval o X.env) = eval o X.env := by rfl) (hline : (apos.endLine == pos.line) = true := by rfl) :
    PET X (.Call (.Attribute o "replace" apos) [.Constant (.str y) j c0, .Constant (.str z) k c1] [] pos) (tRepC to y z) := by
  intro pins s σ H Q h0 I h
  refine PySem.Call_method2 hbase hst hline (wpAny_mono (PySem.wpAny_toks (ho.run pins s σ H _ I h)) (fun v s1 q => ?_) fun _ _ z => z.2)
  obtain ⟨hk, v', H1, I1, r1, x, e1, hb, q⟩ := q
  subst e1
  obtain ⟨tx, e2⟩ := r1
  subst e2
  refine ⟨"str", _, PySem.F.plainAttrs_str, PySem.F.slot_str_replace, PySem.F.type_str_replace, typeIs_str _ _ _, (fun _ e => nomatch e), Calls.callWith_builtin rfl (Calls.evalArgs_plain (Calls.spliced_cons ?_))⟩
  refine Calls.Constant_str (Calls.spliced_cons (Calls.Constant_str (Calls.spliced_nil ?_)))
  exact rep_run (by show s1.toks ≠ 0; omega) (by show s1.toks + 1 ≠ 0; omega) (by show s1.toks ≠ s1.toks + 1; omega) hyz hb fun t' k => ⟨.str (Txt.replace x y z), H1, I1.tok k, ⟨t', rfl⟩, q⟩
theorem pet_repA (ho : PE X o to) (he : PE X e te) (hc : c.length ≠ 0 := by decide)
    (hst : starEach [.Constant (.str y) j c0, .BinOp (.Constant (.str c) k c1) .Add e p2] X.env = [(false, eval (.Constant (.str y) j c0) X.env), (false, eval (.BinOp (.Constant (.str c) k c1) .Add e p2) X.env)] := by rfl)
    (hbase : attributeBase o "replace" X.env (eval o X.env) = eval o X.env := by rfl) (hline : (apos.endLine == pos.line) = true := by rfl) :
    PET X (.Call (.Attribute o "replace" apos) [.Constant (.str y) j c0, .BinOp (.Constant (.str c) k c1) .Add e p2] [] pos) (tRepA to y c te) := by
  intro pins s σ H Q h0 I h
  refine PySem.Call_method2 hbase hst hline (wpAny_mono (PySem.wpAny_toks (ho.run pins s σ H _ I h)) (fun v s1 q => ?_) fun _ _ z => z.2)
  obtain ⟨hk, v', H1, I1, r1, x, e1, q⟩ := q
  subst e1
  obtain ⟨tx, e2⟩ := r1
  subst e2
  refine ⟨"str", _, PySem.F.plainAttrs_str, PySem.F.slot_str_replace, PySem.F.type_str_replace, typeIs_str _ _ _, (fun _ e => nomatch e), Calls.callWith_builtin rfl (Calls.evalArgs_plain (Calls.spliced_cons ?_))⟩
  refine Calls.Constant_str (Calls.spliced_cons (wpAny_BinOp (Calls.Constant_str ?_)))
  have I2 : Inv X pins σ H1 { s1 with toks := s1.toks + 1 + 1 } := I1.tok _
  refine wpAny_mono (PySem.wpAny_toks (he.run pins _ σ H1 _ I2 q)) (fun u s3 q => ?_) fun _ _ z => z.2
  obtain ⟨hk3, u', H2, I3, r3, b, e3, hb0, hyz, hz, hb, q⟩ := q
  have hk3 : s1.toks + 1 + 1 ≤ s3.toks := hk3
  subst e3
  obtain ⟨tb, e4⟩ := r3
  subst e4
  refine PySem.P.add_str ?_
  rw [if_neg (by simpa using hc), if_neg (by simpa using hb0)]
  refine ⟨by rw [len_app]; exact hz, Calls.spliced_nil ?_⟩
  exact rep_run (by show s1.toks ≠ 0; omega) (by show s3.toks ≠ 0; omega) (by show s1.toks ≠ s3.toks; omega) hyz hb fun t' k => ⟨.str (Txt.replace x y (c ++ b)), H2, I3.tok k, ⟨t', rfl⟩, q⟩
/-- x = 'c' op e, the first statement: a token is out behind it -/
theorem pss_bin {op : Operator} {r : R2} {i : Nat} {x : Str} {rest : List Stmt} {u : TS} {cpos pos' : Pos} (hN : X.N.Nodup) (hi : X.N[i]? = some x) (hx : Loc X.env.scope x) (hop : OpR X (binaryOp op) r) (he : PE X e te) (h2 : PSsT X rest u)
    (hs : swapsWith (.BinOp (.Constant (.str c) j cpos) op e p2) (some (.Name x pos')) pos.line X.env = pure false := by rfl) (hf : X.fn x = true ∨ X.env.scope.names.lookup x = some .local := by first | exact .inl rfl | exact .inr rfl | assumption) :
    PSs X (.Assign [.Name x pos'] (.BinOp (.Constant (.str c) j cpos) op e p2) pos :: rest) (tSeq (tAsg (tOp r (tC (.str c)) te) (gName i)) u) := by
  refine ⟨fun pins s σ H D I h => ?_⟩
  refine wpAny_execs_cons (wpAny_Assign_Name (wpAny_BinOp (Calls.Constant_str ?_)) hs)
  have I2 : Inv X pins σ H { s with toks := s.toks + 1 } := I.tok _
  refine wpAny_mono (PySem.wpAny_toks (he.run pins _ σ H _ I2 h)) (fun v s3 q => ?_) fun _ _ z => z.2
  obtain ⟨hk3, v', H2, I3, r3, q⟩ := q
  have hk3 : s.toks + 1 ≤ s3.toks := hk3
  refine wpAny_mono (PySem.wpAny_toks (hop pins s3 σ H2 (.str c) _ _ _ _ I3 ⟨s.toks, rfl⟩ r3 q)) (fun v s4 q => ?_) fun _ _ z => z.2
  obtain ⟨hk4, y, H4, I4, r4, q⟩ := q
  refine wpAny_mono (PySem.wpAny_toks (store_ok (Q := fun _ s2 => Inv X pins (σ.set i (some y)) H4 s2) I4 hN hi hx r4 (fun _ I5 => I5) hf)) (fun _ s5 q5 => ?_) fun _ _ z => z.2
  exact h2 pins s5 _ H4 D (by have := q5.1; omega) q5.2 q
theorem pst_set {i : Nat} {x : Str} {pos' : Pos} (hN : X.N.Nodup) (hi : X.N[i]? = some x) (hx : Loc X.env.scope x) (he : PET X e te) (hs : swapsWith e (some (.Name x pos')) pos.line X.env = pure false := by rfl) (hf : X.fn x = true ∨ X.env.scope.names.lookup x = some .local := by first | exact .inl rfl | exact .inr rfl | assumption) :
    PST X (.Assign [.Name x pos'] e pos) (tAsg te (gName i)) := by
  intro pins s σ H D h0 I h
  refine wpAny_Assign_Name (thn (he pins s σ H _ h0 I h) fun v s1 ⟨y, H1, I1, r1, q1⟩ => ?_) hs
  exact store_ok I1 hN hi hx r1 (fun s2 I2 => ⟨_, H1, I2, q1⟩) hf
theorem pet_ix {r : R2} (hr : IxR X r) (ha : PET X e te) (hb : PE X f tf) (hs : PlainIx f) : PET X (.Subscript e f pos) (tOp r te tf) := by
  intro pins s σ H Q h0 I h
  refine Subscript_ (thn (ha pins s σ H _ h0 I h) fun v s1 ⟨x, H1, I1, r1, q1⟩ => thn (hb.run pins s1 σ H1 _ I1 q1) fun u s2 ⟨y, H2, I2, r2, q2⟩ => hr e f pins s2 σ H2 x y v u Q I2 r1 r2 q2 (hs _ _))
end
end Pm
namespace Pm
open PySem PySem.Spec PyProof.Rows L2
/-- the objects at a, a + 1, .., n of them, read one by one -/
def frR {α : Type} (g : Addr → Option Obj) : Nat → Addr → (PySem.W.Frag → α) → α
  | 0, _, k => k []
  | n + 1, a, k => HandSHeadRun.frNat a fun a => match g a with
    | none => frR g n (a + 1) k
    | some o => frR g n (a + 1) fun K => k ((a, o) :: K)
theorem frR_eq {α : Type} (g : Addr → Option Obj) : ∀ (n : Nat) (a : Addr) (k : PySem.W.Frag → α), frR g n a k = k (He.frG g (List.range' a n))
  | 0, _, _ => rfl
  | n + 1, a, k => by
    unfold frR
    rw [HandSHeadRun.frNat_eq, List.range'_succ]
    show (match g a with | none => frR g n (a + 1) k | some o => frR g n (a + 1) fun K => k ((a, o) :: K)) = k (He.frG g (a :: List.range' (a + 1) n))
    cases h : g a with
    | none =>
      show frR g n (a + 1) k = _
      rw [frR_eq g n (a + 1) k]
      unfold He.frG
      rw [List.filterMap_cons, h]
      rfl
    | some o =>
      show (frR g n (a + 1) fun K => k ((a, o) :: K)) = _
      rw [frR_eq g n (a + 1) fun K => k ((a, o) :: K)]
      unfold He.frG
      rw [List.filterMap_cons, h]
      rfl
def asR (n : Nat) : List Addr := mainGlobals :: List.range' 0 n
def obsK {α : Type} (n : Nat) (F : PySem.W.Frag → α) (g : Addr → Option Obj) : α := match g mainGlobals with
  | none => frR g n 0 F
  | some o => frR g n 0 fun K => F ((mainGlobals, o) :: K)
theorem obsK_eq {α : Type} (n : Nat) (F : PySem.W.Frag → α) (g : Addr → Option Obj) : obsK n F g = F (He.frG g (asR n)) := by
  unfold obsK asR
  cases h : g mainGlobals with
  | none =>
    show frR g n 0 F = _
    rw [frR_eq]
    unfold He.frG
    rw [List.filterMap_cons, h]
    rfl
  | some o =>
    show (frR g n 0 fun K => F ((mainGlobals, o) :: K)) = _
    rw [frR_eq]
    unfold He.frG
    rw [List.filterMap_cons, h]
    rfl
/-- the Hook's facts, and Bools of one's own -/
def obsP (fa : List He.Fa) (fn : List He.FnD) (ex : PySem.W.Frag → List Bool) (K : PySem.W.Frag) : He.Al := ((He.obsE fa fn K).1 && (ex K).all id, (He.obsE fa fn K).2)
/-- what the end leans on -/
structure SaysP (fa : List He.Fa) (fn : List He.FnD) (ex : PySem.W.Frag → List Bool) (K : PySem.W.Frag) : Prop where
  e : He.SaysE fa fn K
  x : (ex K).all id = true
theorem saysP_of {fa : List He.Fa} {fn : List He.FnD} {ex : PySem.W.Frag → List Bool} {K : PySem.W.Frag} (h : obsP fa fn ex K = He.valE fn) : SaysP fa fn ex K := by
  have h1 : ((He.obsE fa fn K).1 && (ex K).all id) = true := congrArg Prod.fst h
  have h2 : (He.obsE fa fn K).2 = (He.valE fn).2 := by have z := congrArg Prod.snd h; exact z
  obtain ⟨a, b⟩ := Bool.and_eq_true_iff.mp h1
  exact ⟨Prod.ext a h2, b⟩
theorem obsP_of {fa : List He.Fa} {fn : List He.FnD} {ex : PySem.W.Frag → List Bool} {K : PySem.W.Frag} (h0 : (fn.map fun d => He.fnObs K d.at_) = fn.map He.FnD.val) (h1 : (fn.all fun d => (He.Fa.code d.at_ d.qual).ok K) = true) (h2 : (fa.all fun f => f.ok K) = true) (h3 : (ex K).all id = true) : obsP fa fn ex K = He.valE fn := by
  unfold obsP He.obsE He.valE
  rw [h0, h1, h2, h3]
  rfl
def hookP (n : Nat) (fa : List He.Fa) (fn : List He.FnD) (ex : PySem.W.Frag → List Bool) : PySem.W.Hook where
  α := He.Al
  obs := fun s => obsP fa fn ex (He.frG s.heap.get? (asR n))
  val := fun _ => He.valE fn
  says := fun _ h => ∃ K : PySem.W.Frag, K.In h ∧ SaysP fa fn ex K
  of := fun _ _ e => ⟨_, He.frG_in, saysP_of e⟩
  keeps := fun _ _ _ ⟨K, hK, c⟩ k => ⟨K, PySem.W.Frag.In.keeps hK k, c⟩
def obT (n : Nat) (fa : List He.Fa) (fn : List He.FnD) (ex : PySem.W.Frag → List Bool) (s : PySem.W.SharedT) : He.Al := obsP fa fn ex (He.frG (HandSHeadRun.getT s) (asR n))
theorem obT_eq {n : Nat} {fa : List He.Fa} {fn : List He.FnD} {ex : PySem.W.Frag → List Bool} (s : PySem.W.SharedT) : obT n fa fn ex s = (hookP n fa fn ex).obs s.abs := by
  have e : HandSHeadRun.getT s = s.abs.heap.get? := funext (HandSHeadRun.getT_eq s)
  unfold obT hookP
  rw [e]
/-- the top's end -/
noncomputable abbrev endR (r : PySem.W.OpenRow) (M : Nat) (w : World) (os : OsState) : Option PySem.W.SharedT := HandSHeadRun.endF (HandSHeadRun.stepQ (HandSHeadRun.denQ HandSHeadRun.tabQ) r.prog w) M r.prog w os
/-- one look at what stands at the end -/
def Look {α : Type} (r : PySem.W.OpenRow) (M n : Nat) (w : World) (F : PySem.W.Frag → α) (v : α) : Prop := ∀ os : OsState, (endR r M w os).map (fun s => obsK n F (HandSHeadRun.getT s)) = some v
theorem Look.at_ {α : Type} {r : PySem.W.OpenRow} {M n : Nat} {w : World} {F : PySem.W.Frag → α} {v : α} (h : Look r M n w F v) {os : OsState} {s : PySem.W.SharedT} (e : endR r M w os = some s) : F (He.frG (HandSHeadRun.getT s) (asR n)) = v := by
  have z := h os
  rw [e] at z
  have z2 : obsK n F (HandSHeadRun.getT s) = v := Option.some.inj z
  rw [obsK_eq] at z2
  exact z2
theorem run_of {r : PySem.W.OpenRow} {q : Program} {fa : List He.Fa} {fn : List He.FnD} {ex : PySem.W.Frag → List Bool} {M n : Nat} {loose : List Str} {w : World}
    (A : ∀ os : OsState, (endR r M w os).map (fun s => (HandSHeadRun.looksF r.prog (PySem.W.boot_heap w.params) s.abs, HandSHeadRun.seenQ q loose (importedModules r.prog.main.body) (fun s => PySem.W.xlAt q [] s && PySem.W.recOk r.toRowW.records s) s.abs)) = some (true, PySem.W.openGood q loose))
    (B : ∀ os s, endR r M w os = some s → obsP fa fn ex (He.frG (HandSHeadRun.getT s) (asR n)) = He.valE fn) : HandSHeadRun.RunEq r q (hookP n fa fn ex) (obT n fa fn ex) M loose w := by
  intro os
  have a := A os
  cases e : endR r M w os with
  | none =>
    rw [e] at a
    cases a
  | some s =>
    rw [e] at a
    have a2 := Option.some.inj a
    have a3 := congrArg Prod.fst a2
    have a4 := congrArg Prod.snd a2
    simp only at a3 a4
    show (endR r M w os).map _ = _
    rw [e]
    show some (_, _, obT n fa fn ex s) = some (true, _, He.valE fn)
    rw [a3, a4]
    unfold obT
    rw [B os s e]
section
variable {fa : List He.Fa} {fn : List He.FnD} {ex : PySem.W.Frag → List Bool} {K : PySem.W.Frag}
theorem SaysP.b (c : SaysP fa fn ex K) (i : Nat) {b : Bool} (h : (ex K)[i]? = some b) : b = true := List.all_eq_true.mp c.x b (List.mem_of_getElem? h)
theorem SaysP.d (c : SaysP fa fn ex K) (i : Nat) {p : Prop} [Decidable p] (h : (ex K)[i]? = some (decide p)) : p := of_decide_eq_true (c.b i h)
/-- a def of the top -/
theorem SaysP.def_ {D : He.FnD} (c : SaysP fa fn ex K) (i : Nat) (h : fn[i]? = some D) : ∃ oc od osl kV doc pm an cdv ct, K.lookup (He.fAd K D.at_) = some ⟨oc, od, .func (PySem.W.fnOf D.name D.qual D.params D.body D.scope .none kV doc pm an cdv ct), osl⟩ ∧ PySem.W.codeIn K cdv D.qual = true := c.e.def_ i h
end
end Pm
namespace Pm
open PySem PySem.Spec PyProof.Rows L2
/-- walk_seer over a head by facts -/
theorem walk_seerE {l : PySem.W.OpenLaw} {n k : Nat} {q : Program} {loose : List Str} {XP : (Str → Option Value) → Heap → Prop} {YP : World → Heap → Prop} {d : DefRec} {CX : CXT} {x : Str}
    (many : l.most = some n) (few : n ≤ sizeLine) (dfl : d.params.defaults = []) (imp : importsNone q = true) (room : Room k callerA)
    (F : ∀ (w : World) (mg : Str → Option Value) (fa : Addr) (h : Heap), YP w h → h.Ns mainGlobals mg → mg d.name = some (.ref fa) → ∃ (K : PySem.W.Frag) (fd : FuncData) (sp : Sp), K.In h ∧ (∀ (s : Shared) (u : Value), BindsTo s fd ⟨[u], []⟩ [(x, u)]) ∧
        (∀ (G : Hp) (a : Addr) (ms : List Int), ms.length ≤ n → SqL K G a (ms.map V.int) → sp [.ref a] G (fun v _ => v = .bl true) fun _ _ _ => False) ∧
        ∀ b : Heap, K.In b → b.Ns mainGlobals mg → b.NoSeer → FnOk l.prog w K mg b CX k fa fd [x] sp)
    (noX : ∀ (G : Hp) (s : Shared) (e : Value) (s2 : Shared), CX [] G s (fun _ _ _ => False) e s2 → False) :
    PySem.W.WalkO q loose XP YP l.row.toRowW d [] (fun f vs => PySem.call f vs) := by
  refine Att.attach_call many dfl fun w s0 s1 mg mb fa o pm cd doc a us ms G Y ho hd hcd hmg hobj hints hlen hg => ?_
  obtain ⟨K, fd, sp, hK, hb, want, hF⟩ := F w mg fa _ Y G.T.g hmg
  have hz : s1.heap.NoSeer := G.T.seer imp
  exact law_seer hK G.T.g G.T.b G.T.builtins G.T.nolimit hz hg hobj hints (Nat.le_trans hlen few) room hF hb (fun H hS => want H a ms hlen hS) fun H e s2 => noX H s1 e s2
end Pm
local macro_rules | `(tactic| walk_at "s1") => `(tactic| with_reducible refine Pm.w_rdS ?_)
local macro_rules | `(tactic| walk_at "s1") => `(tactic| with_reducible refine Pm.w_iStr ?_)
local macro_rules | `(tactic| walk_at "s1") => `(tactic| with_reducible refine Pm.w_iteN0 ?_)
local macro_rules | `(tactic| walk_at "s1") => `(tactic| with_reducible refine Pm.w_iteN1 ?_)
local macro_rules | `(tactic| walk_at "s1") => `(tactic| with_reducible refine Pm.w_iteF ?_)
local macro_rules | `(tactic| walk_at "s1") => `(tactic| with_reducible refine Pm.w_iteT ?_)
local macro_rules | `(tactic| walk_at "s1") => `(tactic| with_reducible refine Pm.w_makeX ?_)
local macro_rules | `(tactic| walk_at "s1") => `(tactic| with_reducible refine Pm.w_make ?_)
local macro_rules | `(tactic| walk_at "s1") => `(tactic| with_reducible refine Pm.w_methX ?_)
local macro_rules | `(tactic| walk_at "s1") => `(tactic| with_reducible refine Pm.w_sfld ?_)
local macro_rules | `(tactic| walk_at "s1") => `(tactic| with_reducible refine Pm.w_nes ?_)
local macro_rules | `(tactic| walk_at "s1") => `(tactic| with_reducible refine Pm.w_yes ?_)
local macro_rules | `(tactic| walk_at "s1") => `(tactic| with_reducible refine Pm.w_partK ?_)
local macro_rules | `(tactic| walk_at "s1") => `(tactic| with_reducible refine Pm.w_part ?_)
local macro_rules | `(tactic| walk_at "s1") => `(tactic| with_reducible refine Pm.w_noPart ?_)
local macro_rules | `(tactic| walk_at "s1") => `(tactic| with_reducible refine Pm.w_sl ?_)
local macro_rules | `(tactic| walk_at "s1") => `(tactic| with_reducible refine Pm.w_int1 ?_)
local macro_rules | `(tactic| walk_at "s1") => `(tactic| with_reducible refine Pm.w_dget ?_)
local macro_rules | `(tactic| walk_at "s1") => `(tactic| with_reducible refine Pm.w_dnotin ?_)
local macro_rules | `(tactic| walk_at "s1") => `(tactic| with_reducible refine Pm.w_din ?_)
local macro_rules | `(tactic| walk_at "s1") => `(tactic| with_reducible refine Pm.w_pairs0 ?_)
local macro_rules | `(tactic| walk_at "s1") => `(tactic| with_reducible refine Pm.w_pairs ?_)
local macro_rules | `(tactic| walk_at "s1") => `(tactic| ((with_reducible refine Pm.w_rg2 ?_ ?_); (refine ⟨⟨?_, ?_⟩, ?_, ?_⟩ <;> omega)))
local macro_rules | `(tactic| walk_at "s1") => `(tactic| ((with_reducible refine Pm.w_rg1 ?_ ?_); (constructor <;> omega)))
local macro_rules | `(tactic| walk_at "s1") => `(tactic| with_reducible refine Pm.w_iRng2 ?_)
local macro_rules | `(tactic| walk_at "s1") => `(tactic| with_reducible refine Pm.w_iRng1 ?_)
local macro_rules | `(tactic| walk_at "s1") => `(tactic| with_reducible refine Pm.w_iTup ?_)
local macro_rules | `(tactic| walk_at "s1") => `(tactic| with_reducible refine Pm.w_bm0 ?_)
local macro_rules | `(tactic| walk_at "s1") => `(tactic| with_reducible refine Pm.w_bm ?_)
local macro_rules | `(tactic| walk_at "s1") => `(tactic| with_reducible refine Pm.w_abs ?_)
local macro_rules | `(tactic| walk_at "s1") => `(tactic| with_reducible refine Pm.w_min ?_)
local macro_rules | `(tactic| walk_at "s1") => `(tactic| with_reducible refine Pm.w_max ?_)
local macro_rules | `(tactic| walk_at "s1") => `(tactic| with_reducible refine Pm.w_par2 ?_)
local macro_rules | `(tactic| walk_at "s1") => `(tactic| with_reducible refine Pm.w_par ?_)
local macro_rules | `(tactic| walk_at "s1") => `(tactic| with_reducible refine Pm.w_blx ?_)
local macro_rules | `(tactic| walk_at "s1") => `(tactic| with_reducible refine Pm.w_chain3 ?_)
local macro_rules | `(tactic| walk_at "s1") => `(tactic| with_reducible refine Pm.w_chain ?_)
local macro_rules | `(tactic| walk_at "s1") => `(tactic| with_reducible refine Pm.w_ifE ?_)
local macro_rules | `(tactic| walk_at "s1") => `(tactic| with_reducible refine Pm.w_notV ?_)
local macro_rules | `(tactic| walk_at "s1") => `(tactic| with_reducible refine Pm.w_orV ?_)
local macro_rules | `(tactic| walk_at "s1") => `(tactic| with_reducible refine Pm.w_andV ?_)
local macro_rules | `(tactic| walk_at "s1") => `(tactic| with_reducible refine Pm.w_not ?_)
local macro_rules | `(tactic| walk_at "s1") => `(tactic| with_reducible refine Pm.w_and ?_)
local macro_rules | `(tactic| walk_at "s1") => `(tactic| with_reducible refine Pm.w_bl ?_)
local macro_rules | `(tactic| walk_at "s1") => `(tactic| with_reducible refine Pm.w_lst ?_)
local macro_rules | `(tactic| walk_at "s1") => `(tactic| with_reducible refine Pm.w_callS ?_)
local macro_rules | `(tactic| walk_at "s1") => `(tactic| with_reducible refine Pm.w_eqs ?_)
local macro_rules | `(tactic| walk_at "s1") => `(tactic| with_reducible refine Pm.w_neb ?_)
local macro_rules | `(tactic| walk_at "s1") => `(tactic| with_reducible refine Pm.w_eqb ?_)
local macro_rules | `(tactic| walk_at "s1") => `(tactic| with_reducible refine Pm.w_nei ?_)
local macro_rules | `(tactic| walk_at "s1") => `(tactic| with_reducible refine Pm.w_eqi ?_)
local macro_rules | `(tactic| walk_at "s1") => `(tactic| with_reducible refine Pm.w_u ?_)
local macro_rules | `(tactic| walk_at "s1") => `(tactic| with_reducible refine Pm.w_gnil ?_)
local macro_rules | `(tactic| walk_at "s1") => `(tactic| with_reducible refine Pm.w_gsub ?_)
local macro_rules | `(tactic| walk_at "s1") => `(tactic| with_reducible refine Pm.w_cont ?_)
local macro_rules | `(tactic| walk_at "s1") => `(tactic| with_reducible refine Pm.w_brk ?_)
local macro_rules | `(tactic| walk_at "s1") => `(tactic| with_reducible refine Pm.w_retN ?_)
local macro_rules | `(tactic| walk_at "s1") => `(tactic| with_reducible refine Pm.w_or ?_)
local macro_rules | `(tactic| walk_at "s1") => `(tactic| with_reducible refine Pm.w_un ?_)
local macro_rules | `(tactic| walk_at "s1") => `(tactic| with_reducible refine Pm.w_drop ?_)
local macro_rules | `(tactic| walk_at "s1") => `(tactic| with_reducible refine Pm.w_b ?_)
local macro_rules | `(tactic| walk_at "s1") => `(tactic| with_reducible refine Pm.w_iList ?_)
local macro_rules | `(tactic| walk_at "s1") => `(tactic| with_reducible refine Pm.w_meth ?_)
local macro_rules | `(tactic| walk_at "s1") => `(tactic| with_reducible refine Pm.w_for ?_)
local macro_rules | `(tactic| walk_at "s1") => `(tactic| with_reducible refine Pm.w_dput ?_)
local macro_rules | `(tactic| walk_at "s1") => `(tactic| with_reducible refine Pm.w_fld ?_)
local macro_rules | `(tactic| walk_at "s1") => `(tactic| with_reducible refine Pm.w_cb ?_)
local macro_rules | `(tactic| walk_at "s1") => `(tactic| with_reducible refine Pm.w_lc ?_)
local macro_rules | `(tactic| walk_at "s1") => `(tactic| with_reducible refine Pm.w_gcons ?_)
local macro_rules | `(tactic| walk_at "s1") => `(tactic| with_reducible refine Pm.w_test ?_)
local macro_rules | `(tactic| walk_at "s1") => `(tactic| with_reducible refine Pm.w_tup ?_)
local macro_rules | `(tactic| walk_at "s1") => `(tactic| ((with_reducible show Pm.LcTurn _ _ _ _ _ _ _ _); refine Pm.w_turn rfl ?_))
local macro_rules | `(tactic| walk_at "s1") => `(tactic| with_reducible refine Pm.w_next ?_)
local macro_rules | `(tactic| walk_at "s1") => `(tactic| with_reducible refine Pm.w_nil ?_)
local macro_rules | `(tactic| walk_at "s1") => `(tactic| ((with_reducible refine Pm.w_i ?_ ?_); (walk_at "side")))
local macro_rules | `(tactic| walk_at "s1") => `(tactic| with_reducible refine Pm.w_i0 ?_)
local macro_rules | `(tactic| walk_at "s1") => `(tactic| with_reducible refine Pm.w_call ?_)
local macro_rules | `(tactic| walk_at "s1") => `(tactic| with_reducible refine Pm.w_ret ?_)
local macro_rules | `(tactic| walk_at "s1") => `(tactic| with_reducible refine Pm.w_gname ?_)
local macro_rules | `(tactic| walk_at "s1") => `(tactic| with_reducible refine Pm.w_if ?_)
local macro_rules | `(tactic| walk_at "s1") => `(tactic| with_reducible refine Pm.w_asg ?_)
local macro_rules | `(tactic| walk_at "s1") => `(tactic| with_reducible refine Pm.w_c ?_)
local macro_rules | `(tactic| walk_at "s1") => `(tactic| with_reducible refine Pm.w_seq ?_)
local macro_rules | `(tactic| walk_at "s1") => `(tactic| with_reducible refine Pm.w_op ?_)
local macro_rules | `(tactic| walk_at "s1") => `(tactic| with_reducible refine Pm.w_cons ?_)
local macro_rules | `(tactic| walk_at "s1") => `(tactic| ((with_reducible show L2.tVar _ _ _ _); refine Pm.w_var rfl ?_))
local macro_rules | `(tactic| walk_at "side") => `(tactic| first | (refine Pm.w_mul1 ?_; constructor <;> omega) | (refine Pm.w_mul2 ?_; constructor <;> omega) | ((with_reducible show L2.CDiv _ _); refine ⟨?_, ?_⟩ <;> omega) | ((with_reducible show L2.CPow _ _); exact ⟨by decide, by decide, by decide⟩) | (show (0:Int) < _; omega))
local macro_rules | `(tactic| walk_at "st") => `(tactic| repeat (walk_at "s1"))
namespace Pm
open PySem PySem.Spec PyProof.Rows L2
def top (i : Nat) : Stmt := PySem.Challenge.pw_postmead_k47_sheets_refused.main.body.getD i (.Pass ⟨0, 0, 0, 0⟩)
abbrev s_wall : Stmt := top 0
abbrev s_tie_of : Stmt := top 12
abbrev N_tie_of : List Str := ["a", "b"]
theorem sc_tie_of : FnScope N_tie_of ["a", "b"] (defScope s_tie_of) := ⟨rfl, rfl, rfl, by decide +kernel, rfl, by decide +kernel, by decide +kernel⟩
abbrev s_crosses : Stmt := top 13
abbrev N_crosses : List Str := ["one", "other", "low", "high", "post"]
theorem sc_crosses : FnScope N_crosses ["one", "other"] (defScope s_crosses) := ⟨rfl, rfl, rfl, by decide +kernel, rfl, by decide +kernel, by decide +kernel⟩
abbrev s_sides : Stmt := top 14
abbrev N_sides : List Str := ["n", "k"]
theorem sc_sides : FnScope N_sides ["n"] (defScope s_sides) := ⟨rfl, rfl, rfl, by decide +kernel, rfl, by decide +kernel, by decide +kernel⟩
abbrev s_is_rope : Stmt := top 15
abbrev N_is_rope : List Str := ["n", "pair", "a", "b"]
theorem sc_is_rope : FnScope N_is_rope ["n", "pair"] (defScope s_is_rope) := ⟨rfl, rfl, rfl, by decide +kernel, rfl, by decide +kernel, by decide +kernel⟩
abbrev s_kept : Stmt := top 16
abbrev N_kept : List Str := ["n", "ropes", "cut", "rope", "k", "other"]
theorem sc_kept : FnScope N_kept ["n", "ropes"] (defScope s_kept) := ⟨rfl, rfl, rfl, by decide +kernel, rfl, by decide +kernel, by decide +kernel⟩
abbrev s_ties : Stmt := top 17
abbrev N_ties : List Str := ["n", "cut"]
theorem sc_ties : FnScope N_ties ["n", "cut"] (defScope s_ties) := ⟨rfl, rfl, rfl, by decide +kernel, rfl, by decide +kernel, by decide +kernel⟩
abbrev s_plots : Stmt := top 18
abbrev s_measure : Stmt := top 24
abbrev N_measure : List Str := ["one", "other"]
theorem sc_measure : FnScope N_measure ["one", "other"] (defScope s_measure) := ⟨rfl, rfl, rfl, by decide +kernel, rfl, by decide +kernel, by decide +kernel⟩
abbrev s_lowest : Stmt := top 25
abbrev s_plus : Stmt := top 26
abbrev s_less : Stmt := top 27
abbrev s_times : Stmt := top 28
abbrev s_over : Stmt := top 29
abbrev s_is_part : Stmt := top 30
abbrev N_is_part : List Str := ["pair"]
theorem sc_is_part : FnScope N_is_part ["pair"] (defScope s_is_part) := ⟨rfl, rfl, rfl, by decide +kernel, rfl, by decide +kernel, by decide +kernel⟩
abbrev s_is_length : Stmt := top 31
abbrev N_is_length : List Str := ["pair"]
theorem sc_is_length : FnScope N_is_length ["pair"] (defScope s_is_length) := ⟨rfl, rfl, rfl, by decide +kernel, rfl, by decide +kernel, by decide +kernel⟩
abbrev s_whole_of : Stmt := top 32
abbrev N_whole_of : List Str := ["word", "sign"]
theorem sc_whole_of : FnScope N_whole_of ["word"] (defScope s_whole_of) := ⟨rfl, rfl, rfl, by decide +kernel, rfl, by decide +kernel, by decide +kernel⟩
abbrev s_part_text : Stmt := top 33
abbrev N_part_text : List Str := ["one"]
theorem sc_part_text : FnScope N_part_text ["one"] (defScope s_part_text) := ⟨rfl, rfl, rfl, by decide +kernel, rfl, by decide +kernel, by decide +kernel⟩
abbrev s_part_read : Stmt := top 34
abbrev N_part_read : List Str := ["line", "below", "rest", "words", "top", "bottom"]
theorem sc_part_read : FnScope N_part_read ["line"] (defScope s_part_read) := ⟨rfl, rfl, rfl, by decide +kernel, rfl, by decide +kernel, by decide +kernel⟩
abbrev s_two_posts : Stmt := top 36
abbrev s_between : Stmt := top 38
abbrev s_spread : Stmt := top 39
abbrev s_pair_mixed : Stmt := top 40
abbrev s_third : Stmt := top 41
abbrev s_stands : Stmt := top 42
abbrev s_measured : Stmt := top 43
abbrev s_sized_by : Stmt := top 45
abbrev N_sized_by : List Str := ["n", "cut", "lengths", "found", "tie"]
theorem sc_sized_by : FnScope N_sized_by ["n", "cut", "lengths"] (defScope s_sized_by) := ⟨rfl, rfl, rfl, by decide +kernel, rfl, by decide +kernel, by decide +kernel⟩
abbrev s_mead_text : Stmt := top 48
abbrev N_mead_text : List Str := ["mead", "lengths", "text", "a", "b"]
theorem sc_mead_text : FnScope N_mead_text ["mead"] (defScope s_mead_text) := ⟨rfl, rfl, rfl, by decide +kernel, rfl, by decide +kernel, by decide +kernel⟩
abbrev s_tie_row : Stmt := top 49
abbrev N_tie_row : List Str := ["line", "words", "a", "b", "length"]
theorem sc_tie_row : FnScope N_tie_row ["line"] (defScope s_tie_row) := ⟨rfl, rfl, rfl, by decide +kernel, rfl, by decide +kernel, by decide +kernel⟩
abbrev s_mead_read : Stmt := top 50
abbrev N_mead_read : List Str := ["text", "lines", "n", "lengths", "ropes", "line", "tie", "length", "mead"]
theorem sc_mead_read : FnScope N_mead_read ["text"] (defScope s_mead_read) := ⟨rfl, rfl, rfl, by decide +kernel, rfl, by decide +kernel, by decide +kernel⟩
abbrev s_law_flow : Stmt := top 52
abbrev N_law_flow : List Str := ["_law_script", "_law_many_here", "_law_great", "_law_row", "_law_k", "_law_cell", "_law_mixed"]
theorem sc_law_flow : FnScope N_law_flow ["_law_script", "_law_many_here"] (defScope s_law_flow) := ⟨rfl, rfl, rfl, by decide +kernel, rfl, by decide +kernel, by decide +kernel⟩
abbrev s_law_whole : Stmt := top 53
abbrev N_law_whole : List Str := ["_law_found"]
theorem sc_law_whole : FnScope N_law_whole ["_law_found"] (defScope s_law_whole) := ⟨rfl, rfl, rfl, by decide +kernel, rfl, by decide +kernel, by decide +kernel⟩
abbrev s_law_low : Stmt := top 54
abbrev N_law_low : List Str := ["_law_top", "_law_bottom", "_law_one", "_law_other"]
theorem sc_law_low : FnScope N_law_low ["_law_top", "_law_bottom"] (defScope s_law_low) := ⟨rfl, rfl, rfl, by decide +kernel, rfl, by decide +kernel, by decide +kernel⟩
abbrev s_law_part : Stmt := top 55
abbrev N_law_part : List Str := ["_law_found"]
theorem sc_law_part : FnScope N_law_part ["_law_found"] (defScope s_law_part) := ⟨rfl, rfl, rfl, by decide +kernel, rfl, by decide +kernel, by decide +kernel⟩
abbrev s_law_size : Stmt := top 56
abbrev N_law_size : List Str := ["_law_one"]
theorem sc_law_size : FnScope N_law_size ["_law_one"] (defScope s_law_size) := ⟨rfl, rfl, rfl, by decide +kernel, rfl, by decide +kernel, by decide +kernel⟩
abbrev s_law_many : Stmt := top 57
abbrev N_law_many : List Str := ["_law_row"]
theorem sc_law_many : FnScope N_law_many ["_law_row"] (defScope s_law_many) := ⟨rfl, rfl, rfl, by decide +kernel, rfl, by decide +kernel, by decide +kernel⟩
abbrev s_law_pair : Stmt := top 58
abbrev N_law_pair : List Str := ["_law_a", "_law_b"]
theorem sc_law_pair : FnScope N_law_pair ["_law_a", "_law_b"] (defScope s_law_pair) := ⟨rfl, rfl, rfl, by decide +kernel, rfl, by decide +kernel, by decide +kernel⟩
abbrev s_law_ears : Stmt := top 59
abbrev N_law_ears : List Str := ["_law_n", "_law_row", "_law_left", "_law_k", "_law_ears_here"]
theorem sc_law_ears : FnScope N_law_ears ["_law_n", "_law_row"] (defScope s_law_ears) := ⟨rfl, rfl, rfl, by decide +kernel, rfl, by decide +kernel, by decide +kernel⟩
abbrev s_law_ropes : Stmt := top 60
abbrev N_law_ropes : List Str := ["_law_ears_here", "_law_ear"]
theorem sc_law_ropes : FnScope N_law_ropes ["_law_ears_here"] (defScope s_law_ropes) := ⟨rfl, rfl, rfl, by decide +kernel, rfl, by decide +kernel, by decide +kernel⟩
abbrev s_law_sides : Stmt := top 61
abbrev N_law_sides : List Str := ["_law_n", "_law_k"]
theorem sc_law_sides : FnScope N_law_sides ["_law_n"] (defScope s_law_sides) := ⟨rfl, rfl, rfl, by decide +kernel, rfl, by decide +kernel, by decide +kernel⟩
abbrev s_law_ties : Stmt := top 62
abbrev N_law_ties : List Str := ["_law_n", "_law_cut"]
theorem sc_law_ties : FnScope N_law_ties ["_law_n", "_law_cut"] (defScope s_law_ties) := ⟨rfl, rfl, rfl, by decide +kernel, rfl, by decide +kernel, by decide +kernel⟩
abbrev s_law_sized : Stmt := top 63
abbrev N_law_sized : List Str := ["_law_all_ties", "_law_row", "_law_sized_here", "_law_k", "_law_at"]
theorem sc_law_sized : FnScope N_law_sized ["_law_all_ties", "_law_row"] (defScope s_law_sized) := ⟨rfl, rfl, rfl, by decide +kernel, rfl, by decide +kernel, by decide +kernel⟩
abbrev s_law_cross : Stmt := top 64
abbrev N_law_cross : List Str := ["_law_one", "_law_other", "_law_post", "_law_low_here", "_law_high"]
theorem sc_law_cross : FnScope N_law_cross ["_law_one", "_law_other"] (defScope s_law_cross) := ⟨rfl, rfl, rfl, by decide +kernel, rfl, by decide +kernel, by decide +kernel⟩
abbrev s_law_tuple : Stmt := top 65
abbrev N_law_tuple : List Str := ["_law_found", "_law_many_here", "_law_one"]
theorem sc_law_tuple : FnScope N_law_tuple ["_law_found", "_law_many_here"] (defScope s_law_tuple) := ⟨rfl, rfl, rfl, by decide +kernel, rfl, by decide +kernel, by decide +kernel⟩
abbrev s_law_list : Stmt := top 66
abbrev N_law_list : List Str := ["_law_found", "_law_many_here", "_law_one"]
theorem sc_law_list : FnScope N_law_list ["_law_found", "_law_many_here"] (defScope s_law_list) := ⟨rfl, rfl, rfl, by decide +kernel, rfl, by decide +kernel, by decide +kernel⟩
abbrev s_law_dict : Stmt := top 67
abbrev N_law_dict : List Str := ["_law_found", "_law_due", "_law_tie", "_law_length"]
theorem sc_law_dict : FnScope N_law_dict ["_law_found", "_law_due"] (defScope s_law_dict) := ⟨rfl, rfl, rfl, by decide +kernel, rfl, by decide +kernel, by decide +kernel⟩
abbrev s_law_is_at : Stmt := top 68
abbrev N_law_is_at : List Str := ["_law_mead", "_law_state", "_law_n", "_law_cut"]
theorem sc_law_is_at : FnScope N_law_is_at ["_law_mead", "_law_state"] (defScope s_law_is_at) := ⟨rfl, rfl, rfl, by decide +kernel, rfl, by decide +kernel, by decide +kernel⟩
abbrev s_law_start : Stmt := top 69
abbrev N_law_start : List Str := ["_law_row", "_law_n", "_law_cut"]
theorem sc_law_start : FnScope N_law_start ["_law_row"] (defScope s_law_start) := ⟨rfl, rfl, rfl, by decide +kernel, rfl, by decide +kernel, by decide +kernel⟩
abbrev s_law_fig : Stmt := top 70
abbrev N_law_fig : List Str := ["_law_word", "_law_sign"]
theorem sc_law_fig : FnScope N_law_fig ["_law_word"] (defScope s_law_fig) := ⟨rfl, rfl, rfl, by decide +kernel, rfl, by decide +kernel, by decide +kernel⟩
abbrev s_law_part_of : Stmt := top 71
abbrev N_law_part_of : List Str := ["_law_word", "_law_words", "_law_top", "_law_bottom"]
theorem sc_law_part_of : FnScope N_law_part_of ["_law_word"] (defScope s_law_part_of) := ⟨rfl, rfl, rfl, by decide +kernel, rfl, by decide +kernel, by decide +kernel⟩
abbrev s_law_fits_ring : Stmt := top 72
abbrev N_law_fits_ring : List Str := ["_law_n", "_law_ropes_here", "_law_k", "_law_a", "_law_b", "_law_other"]
theorem sc_law_fits_ring : FnScope N_law_fits_ring ["_law_n", "_law_ropes_here"] (defScope s_law_fits_ring) := ⟨rfl, rfl, rfl, by decide +kernel, rfl, by decide +kernel, by decide +kernel⟩
abbrev s_law_sheet : Stmt := top 73
abbrev N_law_sheet : List Str := ["_law_state", "_law_text", "_law_a", "_law_b", "_law_top", "_law_bottom"]
theorem sc_law_sheet : FnScope N_law_sheet ["_law_state"] (defScope s_law_sheet) := ⟨rfl, rfl, rfl, by decide +kernel, rfl, by decide +kernel, by decide +kernel⟩
abbrev s_law_unsheet : Stmt := top 74
abbrev N_law_unsheet : List Str := ["_law_text", "_law_lines_here", "_law_n", "_law_marks", "_law_sized_here", "_law_line", "_law_words", "_law_tie", "_law_cut"]
theorem sc_law_unsheet : FnScope N_law_unsheet ["_law_text"] (defScope s_law_unsheet) := ⟨rfl, rfl, rfl, by decide +kernel, rfl, by decide +kernel, by decide +kernel⟩
abbrev s_law_signs : Stmt := top 75
abbrev N_law_signs : List Str := ["_law_text", "_law_row", "_law_at", "_law_sign", "_law_way"]
theorem sc_law_signs : FnScope N_law_signs ["_law_text", "_law_row"] (defScope s_law_signs) := ⟨rfl, rfl, rfl, by decide +kernel, rfl, by decide +kernel, by decide +kernel⟩
abbrev s_law_lines : Stmt := top 76
abbrev N_law_lines : List Str := ["_law_text", "_law_row", "_law_n", "_law_lines_here", "_law_i", "_law_k", "_law_way", "_law_fresh"]
theorem sc_law_lines : FnScope N_law_lines ["_law_text", "_law_row", "_law_n"] (defScope s_law_lines) := ⟨rfl, rfl, rfl, by decide +kernel, rfl, by decide +kernel, by decide +kernel⟩
abbrev s_law_odd : Stmt := top 77
abbrev N_law_odd : List Str := ["_law_text", "_law_row", "_law_long", "_law_some"]
theorem sc_law_odd : FnScope N_law_odd ["_law_text", "_law_row"] (defScope s_law_odd) := ⟨rfl, rfl, rfl, by decide +kernel, rfl, by decide +kernel, by decide +kernel⟩
abbrev s_law : Stmt := top 78
abbrev N_law : List Str := ["_law_script", "_law_row", "_law_state", "_law_tie", "_law_text", "_law_way", "_law_due", "_law_found", "e"]
theorem sc_law : FnScope N_law ["_law_script"] (defScope s_law) := ⟨rfl, rfl, rfl, by decide +kernel, rfl, by decide +kernel, by decide +kernel⟩
abbrev s_Mead___init__ : Stmt := inClass (top 46) 0
abbrev N_Mead___init__ : List Str := ["self", "n", "ropes", "lengths"]
theorem sc_Mead___init__ : FnScope N_Mead___init__ ["self", "n", "ropes", "lengths"] (defScope s_Mead___init__) := ⟨rfl, rfl, rfl, by decide +kernel, rfl, by decide +kernel, by decide +kernel⟩
abbrev s_Mead_posts : Stmt := inClass (top 46) 1
abbrev N_Mead_posts : List Str := ["self"]
theorem sc_Mead_posts : FnScope N_Mead_posts ["self"] (defScope s_Mead_posts) := ⟨rfl, rfl, rfl, by decide +kernel, rfl, by decide +kernel, by decide +kernel⟩
abbrev s_Mead_ropes : Stmt := inClass (top 46) 2
abbrev N_Mead_ropes : List Str := ["self"]
theorem sc_Mead_ropes : FnScope N_Mead_ropes ["self"] (defScope s_Mead_ropes) := ⟨rfl, rfl, rfl, by decide +kernel, rfl, by decide +kernel, by decide +kernel⟩
abbrev s_Mead_lengths : Stmt := inClass (top 46) 3
abbrev N_Mead_lengths : List Str := ["self"]
theorem sc_Mead_lengths : FnScope N_Mead_lengths ["self"] (defScope s_Mead_lengths) := ⟨rfl, rfl, rfl, by decide +kernel, rfl, by decide +kernel, by decide +kernel⟩
abbrev s_Mead_deeds : Stmt := inClass (top 46) 4
abbrev N_Mead_deeds : List Str := ["self", "entry"]
theorem sc_Mead_deeds : FnScope N_Mead_deeds ["self"] (defScope s_Mead_deeds) := ⟨rfl, rfl, rfl, by decide +kernel, rfl, by decide +kernel, by decide +kernel⟩
abbrev s_Mead_length : Stmt := inClass (top 46) 5
abbrev s_Mead_state : Stmt := inClass (top 46) 6
abbrev s_Mead_stand_at : Stmt := inClass (top 46) 7
abbrev s_Mead_done : Stmt := inClass (top 46) 8
abbrev s_Mead_back : Stmt := inClass (top 46) 13
abbrev s_Mead_again : Stmt := inClass (top 46) 14
structure DefAt (K : PySem.W.Frag) (mg : Str → Option Value) (nm qn : Str) (st : Stmt) (ps : List Str) : Type where
  a : Addr
  fd : FuncData
  F : Fun K nm qn st a fd
  g : mg nm = some (.ref a)
  b : Binds K fd ps []
structure MethAt (K : PySem.W.Frag) (C : Addr) (nm qn : Str) (st : Stmt) (ps : List Str) : Type where
  a : Addr
  fd : FuncData
  F : Fun K nm qn st a fd
  M : Meth K C nm a
  b : Binds K fd ps []
structure ExAt (K : PySem.W.Frag) (mg : Str → Option Value) (nm : Str) : Type where
  c : Addr
  g : mg nm = some (.ref c)
  x : PySem.W.excIn K c [.type "ValueError", .type "Exception", .type "BaseException", .type "object"] "ValueError.__new__" = true
  k : PySem.W.keepIn K (.ref c) = true
  b : PySem.W.subIn K (.ref c) (.type "BaseException") = some true
  t : PySem.W.typeIn K (.ref c) = some (.type "type")
  i : PySem.W.isClsIn K c = true
  z : PySem.W.subIn K (.ref c) (.ref c) = some true
/-- what the top has written -/
structure Tx0 (K : PySem.W.Frag) (mg : Str → Option Value) : Type where
  c_Mead : Addr
  d_wall : DefAt K mg "_wall" "_wall" s_wall ["k"]
  d_tie_of : DefAt K mg "tie_of" "tie_of" s_tie_of ["a", "b"]
  d_crosses : DefAt K mg "crosses" "crosses" s_crosses ["one", "other"]
  d_sides : DefAt K mg "sides" "sides" s_sides ["n"]
  d_is_rope : DefAt K mg "is_rope" "is_rope" s_is_rope ["n", "pair"]
  d_kept : DefAt K mg "kept" "kept" s_kept ["n", "ropes"]
  d_ties : DefAt K mg "ties" "ties" s_ties ["n", "cut"]
  d_plots : DefAt K mg "plots" "plots" s_plots ["n", "cut"]
  d_measure : DefAt K mg "measure" "measure" s_measure ["one", "other"]
  d_lowest : DefAt K mg "lowest" "lowest" s_lowest ["top", "bottom"]
  d_plus : DefAt K mg "plus" "plus" s_plus ["one", "other"]
  d_less : DefAt K mg "less" "less" s_less ["one", "other"]
  d_times : DefAt K mg "times" "times" s_times ["one", "other"]
  d_over : DefAt K mg "over" "over" s_over ["one", "other"]
  d_is_part : DefAt K mg "is_part" "is_part" s_is_part ["pair"]
  d_is_length : DefAt K mg "is_length" "is_length" s_is_length ["pair"]
  d_whole_of : DefAt K mg "whole_of" "whole_of" s_whole_of ["word"]
  d_part_text : DefAt K mg "part_text" "part_text" s_part_text ["one"]
  d_part_read : DefAt K mg "part_read" "part_read" s_part_read ["line"]
  d_two_posts : DefAt K mg "two_posts" "two_posts" s_two_posts ["n", "a", "b"]
  d_between : DefAt K mg "between" "between" s_between ["lengths", "a", "b"]
  d_spread : DefAt K mg "spread" "spread" s_spread ["one", "other"]
  d_pair_mixed : DefAt K mg "pair_mixed" "pair_mixed" s_pair_mixed ["one", "part", "other", "share"]
  d_third : DefAt K mg "third" "third" s_third ["lengths", "stood", "a", "b", "c"]
  d_stands : DefAt K mg "stands" "stands" s_stands ["n", "cut", "lengths"]
  d_measured : DefAt K mg "measured" "measured" s_measured ["n", "cut", "lengths", "a", "b"]
  d_sized_by : DefAt K mg "sized_by" "sized_by" s_sized_by ["n", "cut", "lengths"]
  d_mead_text : DefAt K mg "mead_text" "mead_text" s_mead_text ["mead"]
  d_tie_row : DefAt K mg "tie_row" "tie_row" s_tie_row ["line"]
  d_mead_read : DefAt K mg "mead_read" "mead_read" s_mead_read ["text"]
  d_law_flow : DefAt K mg "_law_flow" "_law_flow" s_law_flow ["_law_script", "_law_many_here"]
  d_law_whole : DefAt K mg "_law_whole" "_law_whole" s_law_whole ["_law_found"]
  d_law_low : DefAt K mg "_law_low" "_law_low" s_law_low ["_law_top", "_law_bottom"]
  d_law_part : DefAt K mg "_law_part" "_law_part" s_law_part ["_law_found"]
  d_law_size : DefAt K mg "_law_size" "_law_size" s_law_size ["_law_one"]
  d_law_many : DefAt K mg "_law_many" "_law_many" s_law_many ["_law_row"]
  d_law_pair : DefAt K mg "_law_pair" "_law_pair" s_law_pair ["_law_a", "_law_b"]
  d_law_ears : DefAt K mg "_law_ears" "_law_ears" s_law_ears ["_law_n", "_law_row"]
  d_law_ropes : DefAt K mg "_law_ropes" "_law_ropes" s_law_ropes ["_law_ears_here"]
  d_law_sides : DefAt K mg "_law_sides" "_law_sides" s_law_sides ["_law_n"]
  d_law_ties : DefAt K mg "_law_ties" "_law_ties" s_law_ties ["_law_n", "_law_cut"]
  d_law_sized : DefAt K mg "_law_sized" "_law_sized" s_law_sized ["_law_all_ties", "_law_row"]
  d_law_cross : DefAt K mg "_law_cross" "_law_cross" s_law_cross ["_law_one", "_law_other"]
  d_law_tuple : DefAt K mg "_law_tuple" "_law_tuple" s_law_tuple ["_law_found", "_law_many_here"]
  d_law_list : DefAt K mg "_law_list" "_law_list" s_law_list ["_law_found", "_law_many_here"]
  d_law_dict : DefAt K mg "_law_dict" "_law_dict" s_law_dict ["_law_found", "_law_due"]
  d_law_is_at : DefAt K mg "_law_is_at" "_law_is_at" s_law_is_at ["_law_mead", "_law_state"]
  d_law_start : DefAt K mg "_law_start" "_law_start" s_law_start ["_law_row"]
  d_law_fig : DefAt K mg "_law_fig" "_law_fig" s_law_fig ["_law_word"]
  d_law_part_of : DefAt K mg "_law_part_of" "_law_part_of" s_law_part_of ["_law_word"]
  d_law_fits_ring : DefAt K mg "_law_fits_ring" "_law_fits_ring" s_law_fits_ring ["_law_n", "_law_ropes_here"]
  d_law_sheet : DefAt K mg "_law_sheet" "_law_sheet" s_law_sheet ["_law_state"]
  d_law_unsheet : DefAt K mg "_law_unsheet" "_law_unsheet" s_law_unsheet ["_law_text"]
  d_law_signs : DefAt K mg "_law_signs" "_law_signs" s_law_signs ["_law_text", "_law_row"]
  d_law_lines : DefAt K mg "_law_lines" "_law_lines" s_law_lines ["_law_text", "_law_row", "_law_n"]
  d_law_odd : DefAt K mg "_law_odd" "_law_odd" s_law_odd ["_law_text", "_law_row"]
  d_law : DefAt K mg "law" "law" s_law ["_law_script"]
  d_Mead___init__ : MethAt K c_Mead "__init__" "Mead.__init__" s_Mead___init__ ["self", "n", "ropes", "lengths"]
  d_Mead_posts : MethAt K c_Mead "posts" "Mead.posts" s_Mead_posts ["self"]
  d_Mead_ropes : MethAt K c_Mead "ropes" "Mead.ropes" s_Mead_ropes ["self"]
  d_Mead_lengths : MethAt K c_Mead "lengths" "Mead.lengths" s_Mead_lengths ["self"]
  d_Mead_deeds : MethAt K c_Mead "deeds" "Mead.deeds" s_Mead_deeds ["self"]
  d_Mead_length : MethAt K c_Mead "length" "Mead.length" s_Mead_length ["self", "a", "b"]
  d_Mead_state : MethAt K c_Mead "state" "Mead.state" s_Mead_state ["self"]
  d_Mead_stand_at : MethAt K c_Mead "stand_at" "Mead.stand_at" s_Mead_stand_at ["self", "state"]
  d_Mead_done : MethAt K c_Mead "done" "Mead.done" s_Mead_done ["self", "deed", "state"]
  d_Mead_back : MethAt K c_Mead "back" "Mead.back" s_Mead_back ["self"]
  d_Mead_again : MethAt K c_Mead "again" "Mead.again" s_Mead_again ["self"]
  m_min : mg "min" = none
  m_max : mg "max" = none
  m_sorted : mg "sorted" = none
  m_range : mg "range" = none
  m_len : mg "len" = none
  m_abs : mg "abs" = none
  m_int : mg "int" = none
  m_str : mg "str" = none
  m_isinstance : mg "isinstance" = none
  m_bool : mg "bool" = none
  m_tuple : mg "tuple" = none
  m_list : mg "list" = none
  m_dict : mg "dict" = none
  g_Mead : mg "Mead" = some (.ref c_Mead)
  cl_Mead : Cls K c_Mead
  mk_Mead : Mk K c_Mead d_Mead___init__.a
  n_Mead_cut : NoAttr K c_Mead "cut"
  n_Mead_many : NoAttr K c_Mead "many"
  n_Mead_sized : NoAttr K c_Mead "sized"
  n_Mead_past : NoAttr K c_Mead "past"
  n_Mead_ahead : NoAttr K c_Mead "ahead"
  e_NoCutting : ExAt K mg "NoCutting"
  e_NoFraction : ExAt K mg "NoFraction"
  e_NoPost : ExAt K mg "NoPost"
  e_BadLength : ExAt K mg "BadLength"
  e_BadSheet : ExAt K mg "BadSheet"
  e_MeadError : ExAt K mg "MeadError"
  e_NoBack : ExAt K mg "NoBack"
  u_FEWEST : Value
  g_FEWEST : mg "FEWEST" = some u_FEWEST
  r_FEWEST : RelV (.int 3) u_FEWEST
  u_MOST : Value
  g_MOST : mg "MOST" = some u_MOST
  r_MOST : RelV (.int 12) u_MOST
  u_MOST_FIGURES : Value
  g_MOST_FIGURES : mg "MOST_FIGURES" = some u_MOST_FIGURES
  r_MOST_FIGURES : RelV (.int 400) u_MOST_FIGURES
  u_FIGURES : Value
  g_FIGURES : mg "FIGURES" = some u_FIGURES
  r_FIGURES : RelV (.str "0123456789") u_FIGURES
  c_ONE : Addr
  g_ONE : mg "ONE" = some (.ref c_ONE)
  r_ONE : RelV (.ref c_ONE) (.ref c_ONE)
  v_ONE : ∀ H, SqT K H c_ONE [.int 1, .int 1]
  c_NOUGHT : Addr
  g_NOUGHT : mg "NOUGHT" = some (.ref c_NOUGHT)
  r_NOUGHT : RelV (.ref c_NOUGHT) (.ref c_NOUGHT)
  v_NOUGHT : ∀ H, SqT K H c_NOUGHT [.int 0, .int 1]
  exm_NoFraction_NoFraction : PySem.W.exmOne K (.ref e_NoFraction.c) (.ref e_NoFraction.c) = some true
  exm_NoCutting_NoCutting : PySem.W.exmOne K (.ref e_NoCutting.c) (.ref e_NoCutting.c) = some true
  exm_BadLength_BadLength : PySem.W.exmOne K (.ref e_BadLength.c) (.ref e_BadLength.c) = some true
  exm_NoCutting_BadLength : PySem.W.exmOne K (.ref e_NoCutting.c) (.ref e_BadLength.c) = some false
  exm_BadLength_NoCutting : PySem.W.exmOne K (.ref e_BadLength.c) (.ref e_NoCutting.c) = some false
  ex1_BadSheet : PySem.W.findIn K (.ref e_BadSheet.c) "__getattribute__" = some (some (.builtin "BaseException.__getattribute__"))
  ex2_BadSheet : PySem.W.findIn K (.ref e_BadSheet.c) "__getattr__" = some none
  ex3_BadSheet : PySem.W.hasDictIn K e_BadSheet.c = true
  ex4_BadSheet : PySem.W.findIn K (.ref e_BadSheet.c) "__class__" = some (some (.builtin "object.__class__"))
  ex5_BadSheet : PySem.W.specialIn K (.builtin "object.__class__") "__get__" = some (some (.builtin "getset_descriptor.__get__"))
  ex6_BadSheet : PySem.W.takesIn K (.builtin "object.__class__") = some true
  ex7_BadSheet : PySem.W.mroIn K e_BadSheet.c (.type "object") = some true
  kit_BadSheet_MeadError : PySem.W.kitOne K (.ref e_BadSheet.c) (.ref e_MeadError.c) = some true
  exm_BadSheet_MeadError : PySem.W.exmOne K (.ref e_BadSheet.c) (.ref e_MeadError.c) = some true
  kit_BadSheet_BadSheet : PySem.W.kitOne K (.ref e_BadSheet.c) (.ref e_BadSheet.c) = some true
  exm_BadSheet_BadSheet : PySem.W.exmOne K (.ref e_BadSheet.c) (.ref e_BadSheet.c) = some true
abbrev Tx0.a_tie_of {K : PySem.W.Frag} {mg : Str → Option Value} (T : Tx0 K mg) : Addr := T.d_tie_of.a
abbrev Tx0.fd_tie_of {K : PySem.W.Frag} {mg : Str → Option Value} (T : Tx0 K mg) : FuncData := T.d_tie_of.fd
theorem Tx0.F_tie_of {K : PySem.W.Frag} {mg : Str → Option Value} (T : Tx0 K mg) : Fun K "tie_of" "tie_of" s_tie_of T.a_tie_of T.fd_tie_of := T.d_tie_of.F
theorem Tx0.g_tie_of {K : PySem.W.Frag} {mg : Str → Option Value} (T : Tx0 K mg) : mg "tie_of" = some (.ref T.a_tie_of) := T.d_tie_of.g
theorem Tx0.b_tie_of {K : PySem.W.Frag} {mg : Str → Option Value} (T : Tx0 K mg) : Binds K T.fd_tie_of ["a", "b"] [] := T.d_tie_of.b
abbrev Tx0.a_crosses {K : PySem.W.Frag} {mg : Str → Option Value} (T : Tx0 K mg) : Addr := T.d_crosses.a
abbrev Tx0.fd_crosses {K : PySem.W.Frag} {mg : Str → Option Value} (T : Tx0 K mg) : FuncData := T.d_crosses.fd
theorem Tx0.F_crosses {K : PySem.W.Frag} {mg : Str → Option Value} (T : Tx0 K mg) : Fun K "crosses" "crosses" s_crosses T.a_crosses T.fd_crosses := T.d_crosses.F
theorem Tx0.g_crosses {K : PySem.W.Frag} {mg : Str → Option Value} (T : Tx0 K mg) : mg "crosses" = some (.ref T.a_crosses) := T.d_crosses.g
theorem Tx0.b_crosses {K : PySem.W.Frag} {mg : Str → Option Value} (T : Tx0 K mg) : Binds K T.fd_crosses ["one", "other"] [] := T.d_crosses.b
abbrev Tx0.a_sides {K : PySem.W.Frag} {mg : Str → Option Value} (T : Tx0 K mg) : Addr := T.d_sides.a
abbrev Tx0.fd_sides {K : PySem.W.Frag} {mg : Str → Option Value} (T : Tx0 K mg) : FuncData := T.d_sides.fd
theorem Tx0.F_sides {K : PySem.W.Frag} {mg : Str → Option Value} (T : Tx0 K mg) : Fun K "sides" "sides" s_sides T.a_sides T.fd_sides := T.d_sides.F
theorem Tx0.g_sides {K : PySem.W.Frag} {mg : Str → Option Value} (T : Tx0 K mg) : mg "sides" = some (.ref T.a_sides) := T.d_sides.g
theorem Tx0.b_sides {K : PySem.W.Frag} {mg : Str → Option Value} (T : Tx0 K mg) : Binds K T.fd_sides ["n"] [] := T.d_sides.b
abbrev Tx0.a_is_rope {K : PySem.W.Frag} {mg : Str → Option Value} (T : Tx0 K mg) : Addr := T.d_is_rope.a
abbrev Tx0.fd_is_rope {K : PySem.W.Frag} {mg : Str → Option Value} (T : Tx0 K mg) : FuncData := T.d_is_rope.fd
theorem Tx0.F_is_rope {K : PySem.W.Frag} {mg : Str → Option Value} (T : Tx0 K mg) : Fun K "is_rope" "is_rope" s_is_rope T.a_is_rope T.fd_is_rope := T.d_is_rope.F
theorem Tx0.g_is_rope {K : PySem.W.Frag} {mg : Str → Option Value} (T : Tx0 K mg) : mg "is_rope" = some (.ref T.a_is_rope) := T.d_is_rope.g
theorem Tx0.b_is_rope {K : PySem.W.Frag} {mg : Str → Option Value} (T : Tx0 K mg) : Binds K T.fd_is_rope ["n", "pair"] [] := T.d_is_rope.b
abbrev Tx0.a_kept {K : PySem.W.Frag} {mg : Str → Option Value} (T : Tx0 K mg) : Addr := T.d_kept.a
abbrev Tx0.fd_kept {K : PySem.W.Frag} {mg : Str → Option Value} (T : Tx0 K mg) : FuncData := T.d_kept.fd
theorem Tx0.F_kept {K : PySem.W.Frag} {mg : Str → Option Value} (T : Tx0 K mg) : Fun K "kept" "kept" s_kept T.a_kept T.fd_kept := T.d_kept.F
theorem Tx0.g_kept {K : PySem.W.Frag} {mg : Str → Option Value} (T : Tx0 K mg) : mg "kept" = some (.ref T.a_kept) := T.d_kept.g
theorem Tx0.b_kept {K : PySem.W.Frag} {mg : Str → Option Value} (T : Tx0 K mg) : Binds K T.fd_kept ["n", "ropes"] [] := T.d_kept.b
abbrev Tx0.a_ties {K : PySem.W.Frag} {mg : Str → Option Value} (T : Tx0 K mg) : Addr := T.d_ties.a
abbrev Tx0.fd_ties {K : PySem.W.Frag} {mg : Str → Option Value} (T : Tx0 K mg) : FuncData := T.d_ties.fd
theorem Tx0.F_ties {K : PySem.W.Frag} {mg : Str → Option Value} (T : Tx0 K mg) : Fun K "ties" "ties" s_ties T.a_ties T.fd_ties := T.d_ties.F
theorem Tx0.g_ties {K : PySem.W.Frag} {mg : Str → Option Value} (T : Tx0 K mg) : mg "ties" = some (.ref T.a_ties) := T.d_ties.g
theorem Tx0.b_ties {K : PySem.W.Frag} {mg : Str → Option Value} (T : Tx0 K mg) : Binds K T.fd_ties ["n", "cut"] [] := T.d_ties.b
abbrev Tx0.a_measure {K : PySem.W.Frag} {mg : Str → Option Value} (T : Tx0 K mg) : Addr := T.d_measure.a
abbrev Tx0.fd_measure {K : PySem.W.Frag} {mg : Str → Option Value} (T : Tx0 K mg) : FuncData := T.d_measure.fd
theorem Tx0.F_measure {K : PySem.W.Frag} {mg : Str → Option Value} (T : Tx0 K mg) : Fun K "measure" "measure" s_measure T.a_measure T.fd_measure := T.d_measure.F
theorem Tx0.g_measure {K : PySem.W.Frag} {mg : Str → Option Value} (T : Tx0 K mg) : mg "measure" = some (.ref T.a_measure) := T.d_measure.g
theorem Tx0.b_measure {K : PySem.W.Frag} {mg : Str → Option Value} (T : Tx0 K mg) : Binds K T.fd_measure ["one", "other"] [] := T.d_measure.b
abbrev Tx0.a_is_part {K : PySem.W.Frag} {mg : Str → Option Value} (T : Tx0 K mg) : Addr := T.d_is_part.a
abbrev Tx0.fd_is_part {K : PySem.W.Frag} {mg : Str → Option Value} (T : Tx0 K mg) : FuncData := T.d_is_part.fd
theorem Tx0.F_is_part {K : PySem.W.Frag} {mg : Str → Option Value} (T : Tx0 K mg) : Fun K "is_part" "is_part" s_is_part T.a_is_part T.fd_is_part := T.d_is_part.F
theorem Tx0.g_is_part {K : PySem.W.Frag} {mg : Str → Option Value} (T : Tx0 K mg) : mg "is_part" = some (.ref T.a_is_part) := T.d_is_part.g
theorem Tx0.b_is_part {K : PySem.W.Frag} {mg : Str → Option Value} (T : Tx0 K mg) : Binds K T.fd_is_part ["pair"] [] := T.d_is_part.b
abbrev Tx0.a_is_length {K : PySem.W.Frag} {mg : Str → Option Value} (T : Tx0 K mg) : Addr := T.d_is_length.a
abbrev Tx0.fd_is_length {K : PySem.W.Frag} {mg : Str → Option Value} (T : Tx0 K mg) : FuncData := T.d_is_length.fd
theorem Tx0.F_is_length {K : PySem.W.Frag} {mg : Str → Option Value} (T : Tx0 K mg) : Fun K "is_length" "is_length" s_is_length T.a_is_length T.fd_is_length := T.d_is_length.F
theorem Tx0.g_is_length {K : PySem.W.Frag} {mg : Str → Option Value} (T : Tx0 K mg) : mg "is_length" = some (.ref T.a_is_length) := T.d_is_length.g
theorem Tx0.b_is_length {K : PySem.W.Frag} {mg : Str → Option Value} (T : Tx0 K mg) : Binds K T.fd_is_length ["pair"] [] := T.d_is_length.b
abbrev Tx0.a_whole_of {K : PySem.W.Frag} {mg : Str → Option Value} (T : Tx0 K mg) : Addr := T.d_whole_of.a
abbrev Tx0.fd_whole_of {K : PySem.W.Frag} {mg : Str → Option Value} (T : Tx0 K mg) : FuncData := T.d_whole_of.fd
theorem Tx0.F_whole_of {K : PySem.W.Frag} {mg : Str → Option Value} (T : Tx0 K mg) : Fun K "whole_of" "whole_of" s_whole_of T.a_whole_of T.fd_whole_of := T.d_whole_of.F
theorem Tx0.g_whole_of {K : PySem.W.Frag} {mg : Str → Option Value} (T : Tx0 K mg) : mg "whole_of" = some (.ref T.a_whole_of) := T.d_whole_of.g
theorem Tx0.b_whole_of {K : PySem.W.Frag} {mg : Str → Option Value} (T : Tx0 K mg) : Binds K T.fd_whole_of ["word"] [] := T.d_whole_of.b
abbrev Tx0.a_part_text {K : PySem.W.Frag} {mg : Str → Option Value} (T : Tx0 K mg) : Addr := T.d_part_text.a
abbrev Tx0.fd_part_text {K : PySem.W.Frag} {mg : Str → Option Value} (T : Tx0 K mg) : FuncData := T.d_part_text.fd
theorem Tx0.F_part_text {K : PySem.W.Frag} {mg : Str → Option Value} (T : Tx0 K mg) : Fun K "part_text" "part_text" s_part_text T.a_part_text T.fd_part_text := T.d_part_text.F
theorem Tx0.g_part_text {K : PySem.W.Frag} {mg : Str → Option Value} (T : Tx0 K mg) : mg "part_text" = some (.ref T.a_part_text) := T.d_part_text.g
theorem Tx0.b_part_text {K : PySem.W.Frag} {mg : Str → Option Value} (T : Tx0 K mg) : Binds K T.fd_part_text ["one"] [] := T.d_part_text.b
abbrev Tx0.a_part_read {K : PySem.W.Frag} {mg : Str → Option Value} (T : Tx0 K mg) : Addr := T.d_part_read.a
abbrev Tx0.fd_part_read {K : PySem.W.Frag} {mg : Str → Option Value} (T : Tx0 K mg) : FuncData := T.d_part_read.fd
theorem Tx0.F_part_read {K : PySem.W.Frag} {mg : Str → Option Value} (T : Tx0 K mg) : Fun K "part_read" "part_read" s_part_read T.a_part_read T.fd_part_read := T.d_part_read.F
theorem Tx0.g_part_read {K : PySem.W.Frag} {mg : Str → Option Value} (T : Tx0 K mg) : mg "part_read" = some (.ref T.a_part_read) := T.d_part_read.g
theorem Tx0.b_part_read {K : PySem.W.Frag} {mg : Str → Option Value} (T : Tx0 K mg) : Binds K T.fd_part_read ["line"] [] := T.d_part_read.b
abbrev Tx0.a_sized_by {K : PySem.W.Frag} {mg : Str → Option Value} (T : Tx0 K mg) : Addr := T.d_sized_by.a
abbrev Tx0.fd_sized_by {K : PySem.W.Frag} {mg : Str → Option Value} (T : Tx0 K mg) : FuncData := T.d_sized_by.fd
theorem Tx0.F_sized_by {K : PySem.W.Frag} {mg : Str → Option Value} (T : Tx0 K mg) : Fun K "sized_by" "sized_by" s_sized_by T.a_sized_by T.fd_sized_by := T.d_sized_by.F
theorem Tx0.g_sized_by {K : PySem.W.Frag} {mg : Str → Option Value} (T : Tx0 K mg) : mg "sized_by" = some (.ref T.a_sized_by) := T.d_sized_by.g
theorem Tx0.b_sized_by {K : PySem.W.Frag} {mg : Str → Option Value} (T : Tx0 K mg) : Binds K T.fd_sized_by ["n", "cut", "lengths"] [] := T.d_sized_by.b
abbrev Tx0.a_mead_text {K : PySem.W.Frag} {mg : Str → Option Value} (T : Tx0 K mg) : Addr := T.d_mead_text.a
abbrev Tx0.fd_mead_text {K : PySem.W.Frag} {mg : Str → Option Value} (T : Tx0 K mg) : FuncData := T.d_mead_text.fd
theorem Tx0.F_mead_text {K : PySem.W.Frag} {mg : Str → Option Value} (T : Tx0 K mg) : Fun K "mead_text" "mead_text" s_mead_text T.a_mead_text T.fd_mead_text := T.d_mead_text.F
theorem Tx0.g_mead_text {K : PySem.W.Frag} {mg : Str → Option Value} (T : Tx0 K mg) : mg "mead_text" = some (.ref T.a_mead_text) := T.d_mead_text.g
theorem Tx0.b_mead_text {K : PySem.W.Frag} {mg : Str → Option Value} (T : Tx0 K mg) : Binds K T.fd_mead_text ["mead"] [] := T.d_mead_text.b
abbrev Tx0.a_tie_row {K : PySem.W.Frag} {mg : Str → Option Value} (T : Tx0 K mg) : Addr := T.d_tie_row.a
abbrev Tx0.fd_tie_row {K : PySem.W.Frag} {mg : Str → Option Value} (T : Tx0 K mg) : FuncData := T.d_tie_row.fd
theorem Tx0.F_tie_row {K : PySem.W.Frag} {mg : Str → Option Value} (T : Tx0 K mg) : Fun K "tie_row" "tie_row" s_tie_row T.a_tie_row T.fd_tie_row := T.d_tie_row.F
theorem Tx0.g_tie_row {K : PySem.W.Frag} {mg : Str → Option Value} (T : Tx0 K mg) : mg "tie_row" = some (.ref T.a_tie_row) := T.d_tie_row.g
theorem Tx0.b_tie_row {K : PySem.W.Frag} {mg : Str → Option Value} (T : Tx0 K mg) : Binds K T.fd_tie_row ["line"] [] := T.d_tie_row.b
abbrev Tx0.a_mead_read {K : PySem.W.Frag} {mg : Str → Option Value} (T : Tx0 K mg) : Addr := T.d_mead_read.a
abbrev Tx0.fd_mead_read {K : PySem.W.Frag} {mg : Str → Option Value} (T : Tx0 K mg) : FuncData := T.d_mead_read.fd
theorem Tx0.F_mead_read {K : PySem.W.Frag} {mg : Str → Option Value} (T : Tx0 K mg) : Fun K "mead_read" "mead_read" s_mead_read T.a_mead_read T.fd_mead_read := T.d_mead_read.F
theorem Tx0.g_mead_read {K : PySem.W.Frag} {mg : Str → Option Value} (T : Tx0 K mg) : mg "mead_read" = some (.ref T.a_mead_read) := T.d_mead_read.g
theorem Tx0.b_mead_read {K : PySem.W.Frag} {mg : Str → Option Value} (T : Tx0 K mg) : Binds K T.fd_mead_read ["text"] [] := T.d_mead_read.b
abbrev Tx0.a_law_flow {K : PySem.W.Frag} {mg : Str → Option Value} (T : Tx0 K mg) : Addr := T.d_law_flow.a
abbrev Tx0.fd_law_flow {K : PySem.W.Frag} {mg : Str → Option Value} (T : Tx0 K mg) : FuncData := T.d_law_flow.fd
theorem Tx0.F_law_flow {K : PySem.W.Frag} {mg : Str → Option Value} (T : Tx0 K mg) : Fun K "_law_flow" "_law_flow" s_law_flow T.a_law_flow T.fd_law_flow := T.d_law_flow.F
theorem Tx0.g_law_flow {K : PySem.W.Frag} {mg : Str → Option Value} (T : Tx0 K mg) : mg "_law_flow" = some (.ref T.a_law_flow) := T.d_law_flow.g
theorem Tx0.b_law_flow {K : PySem.W.Frag} {mg : Str → Option Value} (T : Tx0 K mg) : Binds K T.fd_law_flow ["_law_script", "_law_many_here"] [] := T.d_law_flow.b
abbrev Tx0.a_law_whole {K : PySem.W.Frag} {mg : Str → Option Value} (T : Tx0 K mg) : Addr := T.d_law_whole.a
abbrev Tx0.fd_law_whole {K : PySem.W.Frag} {mg : Str → Option Value} (T : Tx0 K mg) : FuncData := T.d_law_whole.fd
theorem Tx0.F_law_whole {K : PySem.W.Frag} {mg : Str → Option Value} (T : Tx0 K mg) : Fun K "_law_whole" "_law_whole" s_law_whole T.a_law_whole T.fd_law_whole := T.d_law_whole.F
theorem Tx0.g_law_whole {K : PySem.W.Frag} {mg : Str → Option Value} (T : Tx0 K mg) : mg "_law_whole" = some (.ref T.a_law_whole) := T.d_law_whole.g
theorem Tx0.b_law_whole {K : PySem.W.Frag} {mg : Str → Option Value} (T : Tx0 K mg) : Binds K T.fd_law_whole ["_law_found"] [] := T.d_law_whole.b
abbrev Tx0.a_law_low {K : PySem.W.Frag} {mg : Str → Option Value} (T : Tx0 K mg) : Addr := T.d_law_low.a
abbrev Tx0.fd_law_low {K : PySem.W.Frag} {mg : Str → Option Value} (T : Tx0 K mg) : FuncData := T.d_law_low.fd
theorem Tx0.F_law_low {K : PySem.W.Frag} {mg : Str → Option Value} (T : Tx0 K mg) : Fun K "_law_low" "_law_low" s_law_low T.a_law_low T.fd_law_low := T.d_law_low.F
theorem Tx0.g_law_low {K : PySem.W.Frag} {mg : Str → Option Value} (T : Tx0 K mg) : mg "_law_low" = some (.ref T.a_law_low) := T.d_law_low.g
theorem Tx0.b_law_low {K : PySem.W.Frag} {mg : Str → Option Value} (T : Tx0 K mg) : Binds K T.fd_law_low ["_law_top", "_law_bottom"] [] := T.d_law_low.b
abbrev Tx0.a_law_part {K : PySem.W.Frag} {mg : Str → Option Value} (T : Tx0 K mg) : Addr := T.d_law_part.a
abbrev Tx0.fd_law_part {K : PySem.W.Frag} {mg : Str → Option Value} (T : Tx0 K mg) : FuncData := T.d_law_part.fd
theorem Tx0.F_law_part {K : PySem.W.Frag} {mg : Str → Option Value} (T : Tx0 K mg) : Fun K "_law_part" "_law_part" s_law_part T.a_law_part T.fd_law_part := T.d_law_part.F
theorem Tx0.g_law_part {K : PySem.W.Frag} {mg : Str → Option Value} (T : Tx0 K mg) : mg "_law_part" = some (.ref T.a_law_part) := T.d_law_part.g
theorem Tx0.b_law_part {K : PySem.W.Frag} {mg : Str → Option Value} (T : Tx0 K mg) : Binds K T.fd_law_part ["_law_found"] [] := T.d_law_part.b
abbrev Tx0.a_law_size {K : PySem.W.Frag} {mg : Str → Option Value} (T : Tx0 K mg) : Addr := T.d_law_size.a
abbrev Tx0.fd_law_size {K : PySem.W.Frag} {mg : Str → Option Value} (T : Tx0 K mg) : FuncData := T.d_law_size.fd
theorem Tx0.F_law_size {K : PySem.W.Frag} {mg : Str → Option Value} (T : Tx0 K mg) : Fun K "_law_size" "_law_size" s_law_size T.a_law_size T.fd_law_size := T.d_law_size.F
theorem Tx0.g_law_size {K : PySem.W.Frag} {mg : Str → Option Value} (T : Tx0 K mg) : mg "_law_size" = some (.ref T.a_law_size) := T.d_law_size.g
theorem Tx0.b_law_size {K : PySem.W.Frag} {mg : Str → Option Value} (T : Tx0 K mg) : Binds K T.fd_law_size ["_law_one"] [] := T.d_law_size.b
abbrev Tx0.a_law_many {K : PySem.W.Frag} {mg : Str → Option Value} (T : Tx0 K mg) : Addr := T.d_law_many.a
abbrev Tx0.fd_law_many {K : PySem.W.Frag} {mg : Str → Option Value} (T : Tx0 K mg) : FuncData := T.d_law_many.fd
theorem Tx0.F_law_many {K : PySem.W.Frag} {mg : Str → Option Value} (T : Tx0 K mg) : Fun K "_law_many" "_law_many" s_law_many T.a_law_many T.fd_law_many := T.d_law_many.F
theorem Tx0.g_law_many {K : PySem.W.Frag} {mg : Str → Option Value} (T : Tx0 K mg) : mg "_law_many" = some (.ref T.a_law_many) := T.d_law_many.g
theorem Tx0.b_law_many {K : PySem.W.Frag} {mg : Str → Option Value} (T : Tx0 K mg) : Binds K T.fd_law_many ["_law_row"] [] := T.d_law_many.b
abbrev Tx0.a_law_pair {K : PySem.W.Frag} {mg : Str → Option Value} (T : Tx0 K mg) : Addr := T.d_law_pair.a
abbrev Tx0.fd_law_pair {K : PySem.W.Frag} {mg : Str → Option Value} (T : Tx0 K mg) : FuncData := T.d_law_pair.fd
theorem Tx0.F_law_pair {K : PySem.W.Frag} {mg : Str → Option Value} (T : Tx0 K mg) : Fun K "_law_pair" "_law_pair" s_law_pair T.a_law_pair T.fd_law_pair := T.d_law_pair.F
theorem Tx0.g_law_pair {K : PySem.W.Frag} {mg : Str → Option Value} (T : Tx0 K mg) : mg "_law_pair" = some (.ref T.a_law_pair) := T.d_law_pair.g
theorem Tx0.b_law_pair {K : PySem.W.Frag} {mg : Str → Option Value} (T : Tx0 K mg) : Binds K T.fd_law_pair ["_law_a", "_law_b"] [] := T.d_law_pair.b
abbrev Tx0.a_law_ears {K : PySem.W.Frag} {mg : Str → Option Value} (T : Tx0 K mg) : Addr := T.d_law_ears.a
abbrev Tx0.fd_law_ears {K : PySem.W.Frag} {mg : Str → Option Value} (T : Tx0 K mg) : FuncData := T.d_law_ears.fd
theorem Tx0.F_law_ears {K : PySem.W.Frag} {mg : Str → Option Value} (T : Tx0 K mg) : Fun K "_law_ears" "_law_ears" s_law_ears T.a_law_ears T.fd_law_ears := T.d_law_ears.F
theorem Tx0.g_law_ears {K : PySem.W.Frag} {mg : Str → Option Value} (T : Tx0 K mg) : mg "_law_ears" = some (.ref T.a_law_ears) := T.d_law_ears.g
theorem Tx0.b_law_ears {K : PySem.W.Frag} {mg : Str → Option Value} (T : Tx0 K mg) : Binds K T.fd_law_ears ["_law_n", "_law_row"] [] := T.d_law_ears.b
abbrev Tx0.a_law_ropes {K : PySem.W.Frag} {mg : Str → Option Value} (T : Tx0 K mg) : Addr := T.d_law_ropes.a
abbrev Tx0.fd_law_ropes {K : PySem.W.Frag} {mg : Str → Option Value} (T : Tx0 K mg) : FuncData := T.d_law_ropes.fd
theorem Tx0.F_law_ropes {K : PySem.W.Frag} {mg : Str → Option Value} (T : Tx0 K mg) : Fun K "_law_ropes" "_law_ropes" s_law_ropes T.a_law_ropes T.fd_law_ropes := T.d_law_ropes.F
theorem Tx0.g_law_ropes {K : PySem.W.Frag} {mg : Str → Option Value} (T : Tx0 K mg) : mg "_law_ropes" = some (.ref T.a_law_ropes) := T.d_law_ropes.g
theorem Tx0.b_law_ropes {K : PySem.W.Frag} {mg : Str → Option Value} (T : Tx0 K mg) : Binds K T.fd_law_ropes ["_law_ears_here"] [] := T.d_law_ropes.b
abbrev Tx0.a_law_sides {K : PySem.W.Frag} {mg : Str → Option Value} (T : Tx0 K mg) : Addr := T.d_law_sides.a
abbrev Tx0.fd_law_sides {K : PySem.W.Frag} {mg : Str → Option Value} (T : Tx0 K mg) : FuncData := T.d_law_sides.fd
theorem Tx0.F_law_sides {K : PySem.W.Frag} {mg : Str → Option Value} (T : Tx0 K mg) : Fun K "_law_sides" "_law_sides" s_law_sides T.a_law_sides T.fd_law_sides := T.d_law_sides.F
theorem Tx0.g_law_sides {K : PySem.W.Frag} {mg : Str → Option Value} (T : Tx0 K mg) : mg "_law_sides" = some (.ref T.a_law_sides) := T.d_law_sides.g
theorem Tx0.b_law_sides {K : PySem.W.Frag} {mg : Str → Option Value} (T : Tx0 K mg) : Binds K T.fd_law_sides ["_law_n"] [] := T.d_law_sides.b
abbrev Tx0.a_law_ties {K : PySem.W.Frag} {mg : Str → Option Value} (T : Tx0 K mg) : Addr := T.d_law_ties.a
abbrev Tx0.fd_law_ties {K : PySem.W.Frag} {mg : Str → Option Value} (T : Tx0 K mg) : FuncData := T.d_law_ties.fd
theorem Tx0.F_law_ties {K : PySem.W.Frag} {mg : Str → Option Value} (T : Tx0 K mg) : Fun K "_law_ties" "_law_ties" s_law_ties T.a_law_ties T.fd_law_ties := T.d_law_ties.F
theorem Tx0.g_law_ties {K : PySem.W.Frag} {mg : Str → Option Value} (T : Tx0 K mg) : mg "_law_ties" = some (.ref T.a_law_ties) := T.d_law_ties.g
theorem Tx0.b_law_ties {K : PySem.W.Frag} {mg : Str → Option Value} (T : Tx0 K mg) : Binds K T.fd_law_ties ["_law_n", "_law_cut"] [] := T.d_law_ties.b
abbrev Tx0.a_law_sized {K : PySem.W.Frag} {mg : Str → Option Value} (T : Tx0 K mg) : Addr := T.d_law_sized.a
abbrev Tx0.fd_law_sized {K : PySem.W.Frag} {mg : Str → Option Value} (T : Tx0 K mg) : FuncData := T.d_law_sized.fd
theorem Tx0.F_law_sized {K : PySem.W.Frag} {mg : Str → Option Value} (T : Tx0 K mg) : Fun K "_law_sized" "_law_sized" s_law_sized T.a_law_sized T.fd_law_sized := T.d_law_sized.F
theorem Tx0.g_law_sized {K : PySem.W.Frag} {mg : Str → Option Value} (T : Tx0 K mg) : mg "_law_sized" = some (.ref T.a_law_sized) := T.d_law_sized.g
theorem Tx0.b_law_sized {K : PySem.W.Frag} {mg : Str → Option Value} (T : Tx0 K mg) : Binds K T.fd_law_sized ["_law_all_ties", "_law_row"] [] := T.d_law_sized.b
abbrev Tx0.a_law_cross {K : PySem.W.Frag} {mg : Str → Option Value} (T : Tx0 K mg) : Addr := T.d_law_cross.a
abbrev Tx0.fd_law_cross {K : PySem.W.Frag} {mg : Str → Option Value} (T : Tx0 K mg) : FuncData := T.d_law_cross.fd
theorem Tx0.F_law_cross {K : PySem.W.Frag} {mg : Str → Option Value} (T : Tx0 K mg) : Fun K "_law_cross" "_law_cross" s_law_cross T.a_law_cross T.fd_law_cross := T.d_law_cross.F
theorem Tx0.g_law_cross {K : PySem.W.Frag} {mg : Str → Option Value} (T : Tx0 K mg) : mg "_law_cross" = some (.ref T.a_law_cross) := T.d_law_cross.g
theorem Tx0.b_law_cross {K : PySem.W.Frag} {mg : Str → Option Value} (T : Tx0 K mg) : Binds K T.fd_law_cross ["_law_one", "_law_other"] [] := T.d_law_cross.b
abbrev Tx0.a_law_tuple {K : PySem.W.Frag} {mg : Str → Option Value} (T : Tx0 K mg) : Addr := T.d_law_tuple.a
abbrev Tx0.fd_law_tuple {K : PySem.W.Frag} {mg : Str → Option Value} (T : Tx0 K mg) : FuncData := T.d_law_tuple.fd
theorem Tx0.F_law_tuple {K : PySem.W.Frag} {mg : Str → Option Value} (T : Tx0 K mg) : Fun K "_law_tuple" "_law_tuple" s_law_tuple T.a_law_tuple T.fd_law_tuple := T.d_law_tuple.F
theorem Tx0.g_law_tuple {K : PySem.W.Frag} {mg : Str → Option Value} (T : Tx0 K mg) : mg "_law_tuple" = some (.ref T.a_law_tuple) := T.d_law_tuple.g
theorem Tx0.b_law_tuple {K : PySem.W.Frag} {mg : Str → Option Value} (T : Tx0 K mg) : Binds K T.fd_law_tuple ["_law_found", "_law_many_here"] [] := T.d_law_tuple.b
abbrev Tx0.a_law_list {K : PySem.W.Frag} {mg : Str → Option Value} (T : Tx0 K mg) : Addr := T.d_law_list.a
abbrev Tx0.fd_law_list {K : PySem.W.Frag} {mg : Str → Option Value} (T : Tx0 K mg) : FuncData := T.d_law_list.fd
theorem Tx0.F_law_list {K : PySem.W.Frag} {mg : Str → Option Value} (T : Tx0 K mg) : Fun K "_law_list" "_law_list" s_law_list T.a_law_list T.fd_law_list := T.d_law_list.F
theorem Tx0.g_law_list {K : PySem.W.Frag} {mg : Str → Option Value} (T : Tx0 K mg) : mg "_law_list" = some (.ref T.a_law_list) := T.d_law_list.g
theorem Tx0.b_law_list {K : PySem.W.Frag} {mg : Str → Option Value} (T : Tx0 K mg) : Binds K T.fd_law_list ["_law_found", "_law_many_here"] [] := T.d_law_list.b
abbrev Tx0.a_law_dict {K : PySem.W.Frag} {mg : Str → Option Value} (T : Tx0 K mg) : Addr := T.d_law_dict.a
abbrev Tx0.fd_law_dict {K : PySem.W.Frag} {mg : Str → Option Value} (T : Tx0 K mg) : FuncData := T.d_law_dict.fd
theorem Tx0.F_law_dict {K : PySem.W.Frag} {mg : Str → Option Value} (T : Tx0 K mg) : Fun K "_law_dict" "_law_dict" s_law_dict T.a_law_dict T.fd_law_dict := T.d_law_dict.F
theorem Tx0.g_law_dict {K : PySem.W.Frag} {mg : Str → Option Value} (T : Tx0 K mg) : mg "_law_dict" = some (.ref T.a_law_dict) := T.d_law_dict.g
theorem Tx0.b_law_dict {K : PySem.W.Frag} {mg : Str → Option Value} (T : Tx0 K mg) : Binds K T.fd_law_dict ["_law_found", "_law_due"] [] := T.d_law_dict.b
abbrev Tx0.a_law_is_at {K : PySem.W.Frag} {mg : Str → Option Value} (T : Tx0 K mg) : Addr := T.d_law_is_at.a
abbrev Tx0.fd_law_is_at {K : PySem.W.Frag} {mg : Str → Option Value} (T : Tx0 K mg) : FuncData := T.d_law_is_at.fd
theorem Tx0.F_law_is_at {K : PySem.W.Frag} {mg : Str → Option Value} (T : Tx0 K mg) : Fun K "_law_is_at" "_law_is_at" s_law_is_at T.a_law_is_at T.fd_law_is_at := T.d_law_is_at.F
theorem Tx0.g_law_is_at {K : PySem.W.Frag} {mg : Str → Option Value} (T : Tx0 K mg) : mg "_law_is_at" = some (.ref T.a_law_is_at) := T.d_law_is_at.g
theorem Tx0.b_law_is_at {K : PySem.W.Frag} {mg : Str → Option Value} (T : Tx0 K mg) : Binds K T.fd_law_is_at ["_law_mead", "_law_state"] [] := T.d_law_is_at.b
abbrev Tx0.a_law_start {K : PySem.W.Frag} {mg : Str → Option Value} (T : Tx0 K mg) : Addr := T.d_law_start.a
abbrev Tx0.fd_law_start {K : PySem.W.Frag} {mg : Str → Option Value} (T : Tx0 K mg) : FuncData := T.d_law_start.fd
theorem Tx0.F_law_start {K : PySem.W.Frag} {mg : Str → Option Value} (T : Tx0 K mg) : Fun K "_law_start" "_law_start" s_law_start T.a_law_start T.fd_law_start := T.d_law_start.F
theorem Tx0.g_law_start {K : PySem.W.Frag} {mg : Str → Option Value} (T : Tx0 K mg) : mg "_law_start" = some (.ref T.a_law_start) := T.d_law_start.g
theorem Tx0.b_law_start {K : PySem.W.Frag} {mg : Str → Option Value} (T : Tx0 K mg) : Binds K T.fd_law_start ["_law_row"] [] := T.d_law_start.b
abbrev Tx0.a_law_fig {K : PySem.W.Frag} {mg : Str → Option Value} (T : Tx0 K mg) : Addr := T.d_law_fig.a
abbrev Tx0.fd_law_fig {K : PySem.W.Frag} {mg : Str → Option Value} (T : Tx0 K mg) : FuncData := T.d_law_fig.fd
theorem Tx0.F_law_fig {K : PySem.W.Frag} {mg : Str → Option Value} (T : Tx0 K mg) : Fun K "_law_fig" "_law_fig" s_law_fig T.a_law_fig T.fd_law_fig := T.d_law_fig.F
theorem Tx0.g_law_fig {K : PySem.W.Frag} {mg : Str → Option Value} (T : Tx0 K mg) : mg "_law_fig" = some (.ref T.a_law_fig) := T.d_law_fig.g
theorem Tx0.b_law_fig {K : PySem.W.Frag} {mg : Str → Option Value} (T : Tx0 K mg) : Binds K T.fd_law_fig ["_law_word"] [] := T.d_law_fig.b
abbrev Tx0.a_law_part_of {K : PySem.W.Frag} {mg : Str → Option Value} (T : Tx0 K mg) : Addr := T.d_law_part_of.a
abbrev Tx0.fd_law_part_of {K : PySem.W.Frag} {mg : Str → Option Value} (T : Tx0 K mg) : FuncData := T.d_law_part_of.fd
theorem Tx0.F_law_part_of {K : PySem.W.Frag} {mg : Str → Option Value} (T : Tx0 K mg) : Fun K "_law_part_of" "_law_part_of" s_law_part_of T.a_law_part_of T.fd_law_part_of := T.d_law_part_of.F
theorem Tx0.g_law_part_of {K : PySem.W.Frag} {mg : Str → Option Value} (T : Tx0 K mg) : mg "_law_part_of" = some (.ref T.a_law_part_of) := T.d_law_part_of.g
theorem Tx0.b_law_part_of {K : PySem.W.Frag} {mg : Str → Option Value} (T : Tx0 K mg) : Binds K T.fd_law_part_of ["_law_word"] [] := T.d_law_part_of.b
abbrev Tx0.a_law_fits_ring {K : PySem.W.Frag} {mg : Str → Option Value} (T : Tx0 K mg) : Addr := T.d_law_fits_ring.a
abbrev Tx0.fd_law_fits_ring {K : PySem.W.Frag} {mg : Str → Option Value} (T : Tx0 K mg) : FuncData := T.d_law_fits_ring.fd
theorem Tx0.F_law_fits_ring {K : PySem.W.Frag} {mg : Str → Option Value} (T : Tx0 K mg) : Fun K "_law_fits_ring" "_law_fits_ring" s_law_fits_ring T.a_law_fits_ring T.fd_law_fits_ring := T.d_law_fits_ring.F
theorem Tx0.g_law_fits_ring {K : PySem.W.Frag} {mg : Str → Option Value} (T : Tx0 K mg) : mg "_law_fits_ring" = some (.ref T.a_law_fits_ring) := T.d_law_fits_ring.g
theorem Tx0.b_law_fits_ring {K : PySem.W.Frag} {mg : Str → Option Value} (T : Tx0 K mg) : Binds K T.fd_law_fits_ring ["_law_n", "_law_ropes_here"] [] := T.d_law_fits_ring.b
abbrev Tx0.a_law_sheet {K : PySem.W.Frag} {mg : Str → Option Value} (T : Tx0 K mg) : Addr := T.d_law_sheet.a
abbrev Tx0.fd_law_sheet {K : PySem.W.Frag} {mg : Str → Option Value} (T : Tx0 K mg) : FuncData := T.d_law_sheet.fd
theorem Tx0.F_law_sheet {K : PySem.W.Frag} {mg : Str → Option Value} (T : Tx0 K mg) : Fun K "_law_sheet" "_law_sheet" s_law_sheet T.a_law_sheet T.fd_law_sheet := T.d_law_sheet.F
theorem Tx0.g_law_sheet {K : PySem.W.Frag} {mg : Str → Option Value} (T : Tx0 K mg) : mg "_law_sheet" = some (.ref T.a_law_sheet) := T.d_law_sheet.g
theorem Tx0.b_law_sheet {K : PySem.W.Frag} {mg : Str → Option Value} (T : Tx0 K mg) : Binds K T.fd_law_sheet ["_law_state"] [] := T.d_law_sheet.b
abbrev Tx0.a_law_unsheet {K : PySem.W.Frag} {mg : Str → Option Value} (T : Tx0 K mg) : Addr := T.d_law_unsheet.a
abbrev Tx0.fd_law_unsheet {K : PySem.W.Frag} {mg : Str → Option Value} (T : Tx0 K mg) : FuncData := T.d_law_unsheet.fd
theorem Tx0.F_law_unsheet {K : PySem.W.Frag} {mg : Str → Option Value} (T : Tx0 K mg) : Fun K "_law_unsheet" "_law_unsheet" s_law_unsheet T.a_law_unsheet T.fd_law_unsheet := T.d_law_unsheet.F
theorem Tx0.g_law_unsheet {K : PySem.W.Frag} {mg : Str → Option Value} (T : Tx0 K mg) : mg "_law_unsheet" = some (.ref T.a_law_unsheet) := T.d_law_unsheet.g
theorem Tx0.b_law_unsheet {K : PySem.W.Frag} {mg : Str → Option Value} (T : Tx0 K mg) : Binds K T.fd_law_unsheet ["_law_text"] [] := T.d_law_unsheet.b
abbrev Tx0.a_law_signs {K : PySem.W.Frag} {mg : Str → Option Value} (T : Tx0 K mg) : Addr := T.d_law_signs.a
abbrev Tx0.fd_law_signs {K : PySem.W.Frag} {mg : Str → Option Value} (T : Tx0 K mg) : FuncData := T.d_law_signs.fd
theorem Tx0.F_law_signs {K : PySem.W.Frag} {mg : Str → Option Value} (T : Tx0 K mg) : Fun K "_law_signs" "_law_signs" s_law_signs T.a_law_signs T.fd_law_signs := T.d_law_signs.F
theorem Tx0.g_law_signs {K : PySem.W.Frag} {mg : Str → Option Value} (T : Tx0 K mg) : mg "_law_signs" = some (.ref T.a_law_signs) := T.d_law_signs.g
theorem Tx0.b_law_signs {K : PySem.W.Frag} {mg : Str → Option Value} (T : Tx0 K mg) : Binds K T.fd_law_signs ["_law_text", "_law_row"] [] := T.d_law_signs.b
abbrev Tx0.a_law_lines {K : PySem.W.Frag} {mg : Str → Option Value} (T : Tx0 K mg) : Addr := T.d_law_lines.a
abbrev Tx0.fd_law_lines {K : PySem.W.Frag} {mg : Str → Option Value} (T : Tx0 K mg) : FuncData := T.d_law_lines.fd
theorem Tx0.F_law_lines {K : PySem.W.Frag} {mg : Str → Option Value} (T : Tx0 K mg) : Fun K "_law_lines" "_law_lines" s_law_lines T.a_law_lines T.fd_law_lines := T.d_law_lines.F
theorem Tx0.g_law_lines {K : PySem.W.Frag} {mg : Str → Option Value} (T : Tx0 K mg) : mg "_law_lines" = some (.ref T.a_law_lines) := T.d_law_lines.g
theorem Tx0.b_law_lines {K : PySem.W.Frag} {mg : Str → Option Value} (T : Tx0 K mg) : Binds K T.fd_law_lines ["_law_text", "_law_row", "_law_n"] [] := T.d_law_lines.b
abbrev Tx0.a_law_odd {K : PySem.W.Frag} {mg : Str → Option Value} (T : Tx0 K mg) : Addr := T.d_law_odd.a
abbrev Tx0.fd_law_odd {K : PySem.W.Frag} {mg : Str → Option Value} (T : Tx0 K mg) : FuncData := T.d_law_odd.fd
theorem Tx0.F_law_odd {K : PySem.W.Frag} {mg : Str → Option Value} (T : Tx0 K mg) : Fun K "_law_odd" "_law_odd" s_law_odd T.a_law_odd T.fd_law_odd := T.d_law_odd.F
theorem Tx0.g_law_odd {K : PySem.W.Frag} {mg : Str → Option Value} (T : Tx0 K mg) : mg "_law_odd" = some (.ref T.a_law_odd) := T.d_law_odd.g
theorem Tx0.b_law_odd {K : PySem.W.Frag} {mg : Str → Option Value} (T : Tx0 K mg) : Binds K T.fd_law_odd ["_law_text", "_law_row"] [] := T.d_law_odd.b
abbrev Tx0.a_law {K : PySem.W.Frag} {mg : Str → Option Value} (T : Tx0 K mg) : Addr := T.d_law.a
abbrev Tx0.fd_law {K : PySem.W.Frag} {mg : Str → Option Value} (T : Tx0 K mg) : FuncData := T.d_law.fd
theorem Tx0.F_law {K : PySem.W.Frag} {mg : Str → Option Value} (T : Tx0 K mg) : Fun K "law" "law" s_law T.a_law T.fd_law := T.d_law.F
theorem Tx0.g_law {K : PySem.W.Frag} {mg : Str → Option Value} (T : Tx0 K mg) : mg "law" = some (.ref T.a_law) := T.d_law.g
abbrev Tx0.a_Mead___init__ {K : PySem.W.Frag} {mg : Str → Option Value} (T : Tx0 K mg) : Addr := T.d_Mead___init__.a
abbrev Tx0.fd_Mead___init__ {K : PySem.W.Frag} {mg : Str → Option Value} (T : Tx0 K mg) : FuncData := T.d_Mead___init__.fd
theorem Tx0.F_Mead___init__ {K : PySem.W.Frag} {mg : Str → Option Value} (T : Tx0 K mg) : Fun K "__init__" "Mead.__init__" s_Mead___init__ T.a_Mead___init__ T.fd_Mead___init__ := T.d_Mead___init__.F
theorem Tx0.b_Mead___init__ {K : PySem.W.Frag} {mg : Str → Option Value} (T : Tx0 K mg) : Binds K T.fd_Mead___init__ ["self", "n", "ropes", "lengths"] [] := T.d_Mead___init__.b
abbrev Tx0.a_Mead_posts {K : PySem.W.Frag} {mg : Str → Option Value} (T : Tx0 K mg) : Addr := T.d_Mead_posts.a
abbrev Tx0.fd_Mead_posts {K : PySem.W.Frag} {mg : Str → Option Value} (T : Tx0 K mg) : FuncData := T.d_Mead_posts.fd
theorem Tx0.F_Mead_posts {K : PySem.W.Frag} {mg : Str → Option Value} (T : Tx0 K mg) : Fun K "posts" "Mead.posts" s_Mead_posts T.a_Mead_posts T.fd_Mead_posts := T.d_Mead_posts.F
theorem Tx0.M_Mead_posts {K : PySem.W.Frag} {mg : Str → Option Value} (T : Tx0 K mg) : Meth K T.c_Mead "posts" T.a_Mead_posts := T.d_Mead_posts.M
theorem Tx0.b_Mead_posts {K : PySem.W.Frag} {mg : Str → Option Value} (T : Tx0 K mg) : Binds K T.fd_Mead_posts ["self"] [] := T.d_Mead_posts.b
abbrev Tx0.a_Mead_ropes {K : PySem.W.Frag} {mg : Str → Option Value} (T : Tx0 K mg) : Addr := T.d_Mead_ropes.a
abbrev Tx0.fd_Mead_ropes {K : PySem.W.Frag} {mg : Str → Option Value} (T : Tx0 K mg) : FuncData := T.d_Mead_ropes.fd
theorem Tx0.F_Mead_ropes {K : PySem.W.Frag} {mg : Str → Option Value} (T : Tx0 K mg) : Fun K "ropes" "Mead.ropes" s_Mead_ropes T.a_Mead_ropes T.fd_Mead_ropes := T.d_Mead_ropes.F
theorem Tx0.M_Mead_ropes {K : PySem.W.Frag} {mg : Str → Option Value} (T : Tx0 K mg) : Meth K T.c_Mead "ropes" T.a_Mead_ropes := T.d_Mead_ropes.M
theorem Tx0.b_Mead_ropes {K : PySem.W.Frag} {mg : Str → Option Value} (T : Tx0 K mg) : Binds K T.fd_Mead_ropes ["self"] [] := T.d_Mead_ropes.b
abbrev Tx0.a_Mead_lengths {K : PySem.W.Frag} {mg : Str → Option Value} (T : Tx0 K mg) : Addr := T.d_Mead_lengths.a
abbrev Tx0.fd_Mead_lengths {K : PySem.W.Frag} {mg : Str → Option Value} (T : Tx0 K mg) : FuncData := T.d_Mead_lengths.fd
theorem Tx0.F_Mead_lengths {K : PySem.W.Frag} {mg : Str → Option Value} (T : Tx0 K mg) : Fun K "lengths" "Mead.lengths" s_Mead_lengths T.a_Mead_lengths T.fd_Mead_lengths := T.d_Mead_lengths.F
theorem Tx0.M_Mead_lengths {K : PySem.W.Frag} {mg : Str → Option Value} (T : Tx0 K mg) : Meth K T.c_Mead "lengths" T.a_Mead_lengths := T.d_Mead_lengths.M
theorem Tx0.b_Mead_lengths {K : PySem.W.Frag} {mg : Str → Option Value} (T : Tx0 K mg) : Binds K T.fd_Mead_lengths ["self"] [] := T.d_Mead_lengths.b
abbrev Tx0.a_Mead_deeds {K : PySem.W.Frag} {mg : Str → Option Value} (T : Tx0 K mg) : Addr := T.d_Mead_deeds.a
abbrev Tx0.fd_Mead_deeds {K : PySem.W.Frag} {mg : Str → Option Value} (T : Tx0 K mg) : FuncData := T.d_Mead_deeds.fd
theorem Tx0.F_Mead_deeds {K : PySem.W.Frag} {mg : Str → Option Value} (T : Tx0 K mg) : Fun K "deeds" "Mead.deeds" s_Mead_deeds T.a_Mead_deeds T.fd_Mead_deeds := T.d_Mead_deeds.F
theorem Tx0.M_Mead_deeds {K : PySem.W.Frag} {mg : Str → Option Value} (T : Tx0 K mg) : Meth K T.c_Mead "deeds" T.a_Mead_deeds := T.d_Mead_deeds.M
theorem Tx0.b_Mead_deeds {K : PySem.W.Frag} {mg : Str → Option Value} (T : Tx0 K mg) : Binds K T.fd_Mead_deeds ["self"] [] := T.d_Mead_deeds.b
abbrev Tx0.c_NoCutting {K : PySem.W.Frag} {mg : Str → Option Value} (T : Tx0 K mg) : Addr := T.e_NoCutting.c
theorem Tx0.g_NoCutting {K : PySem.W.Frag} {mg : Str → Option Value} (T : Tx0 K mg) : mg "NoCutting" = some (.ref T.c_NoCutting) := T.e_NoCutting.g
theorem Tx0.x_NoCutting {K : PySem.W.Frag} {mg : Str → Option Value} (T : Tx0 K mg) : PySem.W.excIn K T.c_NoCutting [.type "ValueError", .type "Exception", .type "BaseException", .type "object"] "ValueError.__new__" = true := T.e_NoCutting.x
theorem Tx0.k_NoCutting {K : PySem.W.Frag} {mg : Str → Option Value} (T : Tx0 K mg) : PySem.W.keepIn K (.ref T.c_NoCutting) = true := T.e_NoCutting.k
theorem Tx0.b_NoCutting {K : PySem.W.Frag} {mg : Str → Option Value} (T : Tx0 K mg) : PySem.W.subIn K (.ref T.c_NoCutting) (.type "BaseException") = some true := T.e_NoCutting.b
theorem Tx0.t_NoCutting {K : PySem.W.Frag} {mg : Str → Option Value} (T : Tx0 K mg) : PySem.W.typeIn K (.ref T.c_NoCutting) = some (.type "type") := T.e_NoCutting.t
abbrev Tx0.c_NoFraction {K : PySem.W.Frag} {mg : Str → Option Value} (T : Tx0 K mg) : Addr := T.e_NoFraction.c
theorem Tx0.g_NoFraction {K : PySem.W.Frag} {mg : Str → Option Value} (T : Tx0 K mg) : mg "NoFraction" = some (.ref T.c_NoFraction) := T.e_NoFraction.g
theorem Tx0.x_NoFraction {K : PySem.W.Frag} {mg : Str → Option Value} (T : Tx0 K mg) : PySem.W.excIn K T.c_NoFraction [.type "ValueError", .type "Exception", .type "BaseException", .type "object"] "ValueError.__new__" = true := T.e_NoFraction.x
theorem Tx0.k_NoFraction {K : PySem.W.Frag} {mg : Str → Option Value} (T : Tx0 K mg) : PySem.W.keepIn K (.ref T.c_NoFraction) = true := T.e_NoFraction.k
theorem Tx0.b_NoFraction {K : PySem.W.Frag} {mg : Str → Option Value} (T : Tx0 K mg) : PySem.W.subIn K (.ref T.c_NoFraction) (.type "BaseException") = some true := T.e_NoFraction.b
theorem Tx0.t_NoFraction {K : PySem.W.Frag} {mg : Str → Option Value} (T : Tx0 K mg) : PySem.W.typeIn K (.ref T.c_NoFraction) = some (.type "type") := T.e_NoFraction.t
abbrev Tx0.c_BadLength {K : PySem.W.Frag} {mg : Str → Option Value} (T : Tx0 K mg) : Addr := T.e_BadLength.c
theorem Tx0.g_BadLength {K : PySem.W.Frag} {mg : Str → Option Value} (T : Tx0 K mg) : mg "BadLength" = some (.ref T.c_BadLength) := T.e_BadLength.g
theorem Tx0.x_BadLength {K : PySem.W.Frag} {mg : Str → Option Value} (T : Tx0 K mg) : PySem.W.excIn K T.c_BadLength [.type "ValueError", .type "Exception", .type "BaseException", .type "object"] "ValueError.__new__" = true := T.e_BadLength.x
theorem Tx0.k_BadLength {K : PySem.W.Frag} {mg : Str → Option Value} (T : Tx0 K mg) : PySem.W.keepIn K (.ref T.c_BadLength) = true := T.e_BadLength.k
theorem Tx0.b_BadLength {K : PySem.W.Frag} {mg : Str → Option Value} (T : Tx0 K mg) : PySem.W.subIn K (.ref T.c_BadLength) (.type "BaseException") = some true := T.e_BadLength.b
theorem Tx0.t_BadLength {K : PySem.W.Frag} {mg : Str → Option Value} (T : Tx0 K mg) : PySem.W.typeIn K (.ref T.c_BadLength) = some (.type "type") := T.e_BadLength.t
abbrev Tx0.c_BadSheet {K : PySem.W.Frag} {mg : Str → Option Value} (T : Tx0 K mg) : Addr := T.e_BadSheet.c
theorem Tx0.g_BadSheet {K : PySem.W.Frag} {mg : Str → Option Value} (T : Tx0 K mg) : mg "BadSheet" = some (.ref T.c_BadSheet) := T.e_BadSheet.g
theorem Tx0.x_BadSheet {K : PySem.W.Frag} {mg : Str → Option Value} (T : Tx0 K mg) : PySem.W.excIn K T.c_BadSheet [.type "ValueError", .type "Exception", .type "BaseException", .type "object"] "ValueError.__new__" = true := T.e_BadSheet.x
theorem Tx0.k_BadSheet {K : PySem.W.Frag} {mg : Str → Option Value} (T : Tx0 K mg) : PySem.W.keepIn K (.ref T.c_BadSheet) = true := T.e_BadSheet.k
theorem Tx0.b_BadSheet {K : PySem.W.Frag} {mg : Str → Option Value} (T : Tx0 K mg) : PySem.W.subIn K (.ref T.c_BadSheet) (.type "BaseException") = some true := T.e_BadSheet.b
theorem Tx0.t_BadSheet {K : PySem.W.Frag} {mg : Str → Option Value} (T : Tx0 K mg) : PySem.W.typeIn K (.ref T.c_BadSheet) = some (.type "type") := T.e_BadSheet.t
abbrev Tx0.c_MeadError {K : PySem.W.Frag} {mg : Str → Option Value} (T : Tx0 K mg) : Addr := T.e_MeadError.c
theorem Tx0.g_MeadError {K : PySem.W.Frag} {mg : Str → Option Value} (T : Tx0 K mg) : mg "MeadError" = some (.ref T.c_MeadError) := T.e_MeadError.g
theorem Tx0.exc_BadSheet {K : PySem.W.Frag} {mg : Str → Option Value} (T : Tx0 K mg) : ExcC K T.c_BadSheet := ⟨T.ex1_BadSheet, T.ex2_BadSheet, T.b_BadSheet, T.ex3_BadSheet, T.ex4_BadSheet, T.ex5_BadSheet, T.ex6_BadSheet, T.ex7_BadSheet⟩
structure Tx (P : Program) (K : PySem.W.Frag) (mg : Str → Option Value) (base : Heap) : Type extends Tx0 K mg where
  seer : base.NoSeer
  tree : P.given.tree = none
def spFlow (K : PySem.W.Frag) : Sp := fun vs H Q _ => ∃ (a : Addr) (ns : List Int) (m : Nat), vs = [.ref a, .int m] ∧ SqL K H a (ns.map V.int) ∧ m ≤ 100000 ∧
  ∀ (row : List Int) (H' : Hp) (p : Addr), row.length = m → (∀ x ∈ row, 0 ≤ x ∧ x < 1000000) → Same H H' → H p = none → H' p = some (.lst (row.map V.int)) → Q (.ref p) H'
theorem flow_more {row : List Int} {x : Int} (h : ∀ x ∈ row, 0 ≤ x ∧ x < 1000000) (h0 : 0 ≤ x) (h1 : x < 1000000) : ∀ y ∈ row ++ [x], 0 ≤ y ∧ y < 1000000 := fun y hy => by
  rcases List.mem_append.mp hy with q | q
  · exact h y q
  · rw [List.mem_singleton.mp q]; exact ⟨h0, h1⟩
section
variable {P : Program} {w : World} {K : PySem.W.Frag} {mg : Str → Option Value} {base : Heap}
theorem ok_law_flow (T : Tx P K mg base) : FnOk P w K mg base CX0 41 T.a_law_flow T.fd_law_flow ["_law_script", "_law_many_here"] (spFlow K) := by
  refine T.F_law_flow.ok sc_law_flow (fun vs H Q E h => ?_) (fun cdv A outer s H vs Q E hr h => ?_)
  · obtain ⟨a, ns, m, rfl, _⟩ := h
    rfl
  obtain ⟨a, ns, m, rfl, hS, hm, q⟩ := h
  refine ⟨_, (pss_cons (ps_set (i := 2) sc_law_flow.nd rfl (.inl rfl) (pe_int))
      (C8.pss_cut (ps_if (PW.pt (pw_and (pt_cmpR op_gt (pe_callB (c_len (K := K)) (by rfl) T.m_len PySem.boot_len (pa_cons (pv 0) pa_nil)) (pe_int) (nomark _)) (pw_and1 (pt_cmpR op_ge (pe_callB c_abs (by rfl) T.m_abs (by decide +kernel) (pa_cons (pe_ix (ix_listK (K := K)) (pv 0) (pe_int) (fun _ _ => rfl)) pa_nil)) (pe_op op_pow (pe_int) (pe_int)) (nomark _))))) (pss_one (ps_set (i := 2) sc_law_flow.nd rfl (.inl rfl) (pe_op op_sub (pe_callB c_abs (by rfl) T.m_abs (by decide +kernel) (pa_cons (pe_ix (ix_listK (K := K)) (pv 0) (pe_int) (fun _ _ => rfl)) pa_nil)) (pe_op op_pow (pe_int) (pe_int))))) pss_nil)
      (pss_cons (ps_set (i := 3) sc_law_flow.nd rfl (.inl rfl) (pe_lst pa_nil))
      (pss_cons (ps_for PassesOwn.never rfl (pi_range1 (by rfl) T.m_range (pa_cons (pv 1) pa_nil)) (pg_name (i := 4) sc_law_flow.nd rfl (.inl rfl)) (pss_one (ps_if (pt_cmpR op_gt (pv 2) (pe_int) (nomark _)) (pss_cons (ps_expr (k_bm (K := K) (pe_bm PySem.F.plainAttrs_list PySem.F.slot_list_append PySem.F.type_list_append mt_append (pv 3) (pa_cons (pe_op op_mod (pv 2) (pe_int)) pa_nil))))
      (pss_one (ps_set (i := 2) sc_law_flow.nd rfl (.inl rfl) (pe_op op_fdiv (pv 2) (pe_int))))) (pss_cons (ps_set (i := 5) sc_law_flow.nd rfl (.inl rfl) (pe_op op_add (pv 4) (pe_int)))
      (C8.pss_cut (ps_if (pt_cmpR op_gt (pe_callB (c_len (K := K)) (by rfl) T.m_len PySem.boot_len (pa_cons (pv 0) pa_nil)) (pe_int) (nomark _)) (pss_one (ps_set (i := 5) sc_law_flow.nd rfl (.inl rfl) (pe_ix (ix_listK (K := K)) (pv 0) (pe_op op_mod (pv 4) (pe_callB (c_len (K := K)) (by rfl) T.m_len PySem.boot_len (pa_cons (pv 0) pa_nil))) (fun _ _ => rfl)))) pss_nil)
      (pss_cons (ps_set (i := 6) sc_law_flow.nd rfl (.inl rfl) (pe_op op_mod (pe_op op_add (pe_op op_add (pe_op op_mul (pv 5) (pe_int)) (pe_op op_mul (pv 4) (pe_int))) (pe_int)) (pe_int)))
      (pss_cons (ps_set (i := 6) sc_law_flow.nd rfl (.inl rfl) (pe_op op_mod (pe_op op_add (pe_op op_add (pe_op op_mul (pv 6) (pe_int)) (pe_op op_mul (pv 4) (pe_int))) (pe_callB (c_len (K := K)) (by rfl) T.m_len PySem.boot_len (pa_cons (pv 0) pa_nil))) (pe_int)))
      (pss_one (ps_expr (k_bm (K := K) (pe_bm PySem.F.plainAttrs_list PySem.F.slot_list_append PySem.F.type_list_append mt_append (pv 3) (pa_cons (pe_op op_mod (pe_op op_fdiv (pv 6) (pe_int)) (pe_int)) pa_nil))))))))))))
      (pss_one (ps_ret (pv 3))))))), ?_⟩
  walk_at "st"
  have hl : (ns.map V.int).length = ns.length := List.length_map _
  refine Pm.w_cut (fun σ' H' => ∃ g : Int, σ' = [some (.ref a), some (.int m), some (.int g), none, none, none, none] ∧ H' = H) ?_ ?_
  · walk_at "st"
    refine Pm.w_len (.inl hS) ?_
    walk_at "st"
    refine Pm.w_ite (fun c => ?_) (fun c => ?_)
    · rw [hl] at c
      walk_at "st"
      refine Pm.w_ixL hS (atI_int (by omega) (by omega)) ?_
      walk_at "st"
      refine Pm.w_ite (fun c => ?_) (fun c => ?_)
      · walk_at "st"
        refine Pm.w_ixL hS (atI_int (by omega) (by omega)) ?_
        walk_at "st"
        exact ⟨_, rfl, rfl⟩
      · walk_at "st"
        exact ⟨_, rfl, rfl⟩
    · walk_at "st"
      exact ⟨_, rfl, rfl⟩
  rintro σ H' ⟨g, rfl, rfl⟩
  walk_at "st"
  refine Pm.w_newL (fun p hp => ?_)
  walk_at "st"
  rw [Int.toNat_natCast]
  refine Pm.w_forR (fun i σ H2 => ∃ (g : Int) (row : List Int) (x4 x5 x6 : Option V), σ = [some (.ref a), some (.int m), some (.int g), some (.ref p), x4, x5, x6] ∧
    row.length = i ∧ (∀ x ∈ row, 0 ≤ x ∧ x < 1000000) ∧ H2 = upd H' p (.lst (row.map V.int))) ?_ ?_ ?_
  · exact ⟨g, [], none, none, none, rfl, rfl, fun x hx => absurd hx (List.not_mem_nil), rfl⟩
  · rintro i σ H2 hi ⟨g, row, x4, x5, x6, rfl, hrow, hb, rfl⟩
    have hS2 : SqL K (upd H' p (.lst (row.map V.int))) a (ns.map V.int) := (same_new hp _).seq hS
    have hz : (row.map V.int).length < sizeLine := by rw [List.length_map]; exact size_lt (by omega)
    have fin : ∀ x : Int, upd (upd H' p (.lst (row.map V.int))) p (.lst (row.map V.int ++ [.int x])) = upd H' p (.lst ((row ++ [x]).map V.int)) := fun x => by rw [upd_upd, List.map_append] <;> rfl
    walk_at "st"
    refine Pm.w_ite (fun c => ?_) (fun c => ?_)
    · walk_at "st"
      refine ⟨.inl ⟨rfl, _, SqL.of upd_same⟩, ?_⟩
      walk_at "st"
      refine Pm.w_append upd_same hz ?_
      walk_at "st"
      refine ⟨_, row ++ [g % 1000000], _, _, _, rfl, by rw [List.length_append, hrow] <;> rfl, flow_more hb (by omega) (by omega), fin _⟩
    · walk_at "st"
      refine Pm.w_cut (fun σ' H3 => ∃ cell : Int, σ' = [some (.ref a), some (.int m), some (.int g), some (.ref p), some (.int (0 + (i : Nat))), some (.int cell), x6] ∧ H3 = upd H' p (.lst (row.map V.int))) ?_ ?_
      · walk_at "st"
        refine Pm.w_len (.inl hS2) ?_
        walk_at "st"
        refine Pm.w_ite (fun c => ?_) (fun c => ?_)
        · rw [hl] at c
          walk_at "st"
          refine Pm.w_len (.inl hS2) ?_
          rw [hl]
          walk_at "st"
          refine Pm.w_ixL hS2 (atI_int (Int.emod_nonneg _ (by omega)) (Int.emod_lt_of_pos _ (by omega))) ?_
          walk_at "st"
          exact ⟨_, rfl, rfl⟩
        · walk_at "st"
          exact ⟨_, rfl, rfl⟩
      · rintro σ H3 ⟨cell, rfl, rfl⟩
        walk_at "st"
        refine Pm.w_len (.inl hS2) ?_
        walk_at "st"
        refine ⟨.inl ⟨rfl, _, SqL.of upd_same⟩, ?_⟩
        walk_at "st"
        refine Pm.w_append upd_same hz ?_
        walk_at "st"
        refine ⟨_, row ++ [_], _, _, _, rfl, by rw [List.length_append, hrow] <;> rfl, flow_more hb (Int.emod_nonneg _ (by decide)) (Int.emod_lt_of_pos _ (by decide)), fin _⟩
  · rintro σ H2 ⟨g, row, x4, x5, x6, rfl, hrow, hb, rfl⟩
    walk_at "st"
    exact q row _ p hrow hb (same_new hp _) hp upd_same
end
section
variable {P : Program} {w : World} {K : PySem.W.Frag} {mg : Str → Option Value} {base : Heap}
def spWhole : Sp := fun vs H Q _ => ∃ i : Int, vs = [.int i] ∧ Q (.bl true) H
theorem ok_law_whole (T : Tx P K mg base) : FnOk P w K mg base CX0 41 T.a_law_whole T.fd_law_whole ["_law_found"] spWhole := by
  refine T.F_law_whole.ok sc_law_whole (fun vs H Q E h => ?_) (fun cdv A outer s H vs Q E hr h => ?_)
  · obtain ⟨i, rfl, _⟩ := h
    rfl
  obtain ⟨i, rfl, q⟩ := h
  refine ⟨_, (pss_one (ps_ret ((pe_and (pe_callB (call_isK (K := K)) (by rfl) T.m_isinstance (by decide +kernel) (pa_cons (pv 0) (pa_cons (pe_bltn (v := .ty "int") (by rfl) T.m_int (by decide +kernel) rfl) pa_nil))) (pe_one (pe_not (pe_callB (call_isK (K := K)) (by rfl) T.m_isinstance (by decide +kernel) (pa_cons (pv 0) (pa_cons (pe_bltn (v := .ty "bool") (by rfl) T.m_bool (by decide +kernel) rfl) pa_nil))))))))), ?_⟩
  walk_at "st"
  refine Pm.w_isiInt (b := true) (by decide +kernel) ?_
  walk_at "st"
  refine Pm.w_isiInt (b := false) (by decide +kernel) ?_
  walk_at "st"
  exact q
end
/-- a new pair -/
def PrNew (H : Hp) (p : IP) (Q : VK) : Prop := ∀ (t : Addr) (H' : Hp), Same H H' → H t = none → Pr H' (.ref t) p → Q (.ref t) H'
def spPair : Sp := fun vs H Q _ => ∃ a b : Int, vs = [.int a, .int b] ∧ PrNew H (tieOf a b) Q
theorem atI_prev {ns : List Int} {k : Int} (h0 : 0 ≤ k) (h : k < (ns.length : Int)) : atI (ns.map V.int) (k - 1) = some (.int (ns.getD ((k.toNat + ns.length - 1) % ns.length) 0)) := by
  by_cases c : k = 0
  · subst c
    have e : ((0 : Int).toNat + ns.length - 1) % ns.length = ns.length - 1 := by
      rw [show (0 : Int).toNat + ns.length - 1 = ns.length - 1 by omega]
      exact Nat.mod_eq_of_lt (by omega)
    rw [e]
    unfold atI ixN
    rw [if_neg (by omega), if_pos (by rw [List.length_map]; omega)]
    show (ns.map V.int)[(0 - 1 + ((ns.map V.int).length : Int)).toNat]? = _
    rw [show (0 - 1 + ((ns.map V.int).length : Int)).toNat = ns.length - 1 by rw [List.length_map]; omega, List.getElem?_map, List.getElem?_eq_getElem (by omega), List.getD_eq_getElem?_getD, List.getElem?_eq_getElem (by omega)] <;> rfl
  · have e : (k.toNat + ns.length - 1) % ns.length = (k - 1).toNat := by
      rw [show k.toNat + ns.length - 1 = (k - 1).toNat + ns.length by omega, Nat.add_mod_right]
      exact Nat.mod_eq_of_lt (by omega)
    rw [e]
    exact atI_int (by omega) (by omega)
section
variable {P : Program} {w : World} {K : PySem.W.Frag} {mg : Str → Option Value} {base : Heap}
theorem ok_law_pair (T : Tx P K mg base) : FnOk P w K mg base CX0 41 T.a_law_pair T.fd_law_pair ["_law_a", "_law_b"] spPair := by
  refine T.F_law_pair.ok sc_law_pair (fun vs H Q E h => ?_) (fun cdv A outer s H vs Q E hr h => ?_)
  · obtain ⟨a, b, rfl, _⟩ := h
    rfl
  obtain ⟨a, b, rfl, q⟩ := h
  refine ⟨_, (pss_one (ps_ret (pe_tup (pa_cons (pe_callB (c_min rfl) (by rfl) T.m_min (by decide +kernel) (pa_cons (pv 0) (pa_cons (pv 1) pa_nil))) (pa_cons (pe_callB (c_max rfl) (by rfl) T.m_max (by decide +kernel) (pa_cons (pv 0) (pa_cons (pv 1) pa_nil))) pa_nil))))), ?_⟩
  walk_at "st"
  refine Pm.w_newT (fun t ht => ?_)
  exact q t _ (same_new ht _) ht (pr_new upd_same)
def spEars (K : PySem.W.Frag) : Sp := fun vs H Q _ => ∃ (n : Nat) (r : Addr) (row : List Int), vs = [.int n, .ref r] ∧ SqL K H r (row.map V.int) ∧ 3 ≤ n ∧ n ≤ 12 ∧ n ≤ row.length + 3 ∧
  ∀ (p : Addr) (H' : Hp) (evs : List V) (es : List Ear), Same H H' → H p = none → H' p = some (.lst evs) → All2 (Er H') evs es → Ears (posts n) es → es.length + 3 = n → Q (.ref p) H'
theorem ok_law_ears (T : Tx P K mg base) : FnOk P w K mg base CX0 41 T.a_law_ears T.fd_law_ears ["_law_n", "_law_row"] (spEars K) := by
  refine T.F_law_ears.ok sc_law_ears (fun vs H Q E h => ?_) (fun cdv A outer s H vs Q E hr h => ?_)
  · obtain ⟨n, r, row, rfl, _⟩ := h
    rfl
  obtain ⟨n, r, row, rfl, hR, n3, n12, hrow, q⟩ := h
  refine ⟨_, (pss_cons (ps_setLc (i := 2) (own := [("_law_k", 3)]) (g := gName 3) (tt := tYes) rfl sc_law_ears.nd rfl rfl (sw_true rfl rfl rfl (by decide +kernel)) (pi_range1 (by rfl) T.m_range (pa_cons (pv 0) pa_nil)) (blkOk_by (N := N_law_ears) (sc := defScope s_law_ears) (by decide +kernel)) (fun _ _ _ _ _ => (pg_name (i := 3) sc_law_ears.nd rfl (.inl rfl))) (fun _ _ _ _ _ => pts_nil) (fun _ _ _ _ _ => (pv 3)))
      (pss_cons (ps_set (i := 4) sc_law_ears.nd rfl (.inl rfl) (pe_lst pa_nil))
      (pss_cons (ps_while PassesOwn.never (pt_cmpR op_gt (pe_callB (c_len (K := K)) (by rfl) T.m_len PySem.boot_len (pa_cons (pv 2) pa_nil)) (pe_int) (nomark _)) (pss_cons (ps_set (i := 3) sc_law_ears.nd rfl (.inl rfl) (pe_op op_mod (pe_ix (ix_listK (K := K)) (pv 1) (pe_callB (c_len (K := K)) (by rfl) T.m_len PySem.boot_len (pa_cons (pv 4) pa_nil)) (fun _ _ => rfl)) (pe_callB (c_len (K := K)) (by rfl) T.m_len PySem.boot_len (pa_cons (pv 2) pa_nil))))
      (pss_cons (ps_expr (k_bm (K := K) (pe_bm PySem.F.plainAttrs_list PySem.F.slot_list_append PySem.F.type_list_append mt_append (pv 4) (pa_cons (pe_tup (pa_cons (pe_ix (ix_listK (K := K)) (pv 2) (pv 3) (fun _ _ => rfl)) (pa_cons (pe_ix (ix_listK (K := K)) (pv 2) (pe_op op_sub (pv 3) (pe_int)) (fun _ _ => rfl)) (pa_cons (pe_ix (ix_listK (K := K)) (pv 2) (pe_op op_mod (pe_op op_add (pv 3) (pe_int)) (pe_callB (c_len (K := K)) (by rfl) T.m_len PySem.boot_len (pa_cons (pv 2) pa_nil))) (fun _ _ => rfl)) pa_nil)))) pa_nil))))
      (pss_one (ps_set (i := 2) sc_law_ears.nd rfl (.inl rfl) (pe_op op_cat (pe_slice (sl_listK (K := K)) (pv 2) po_none (po_some (pv 3))) (pe_slice (sl_listK (K := K)) (pv 2) (po_some (pe_op op_add (pv 3) (pe_int))) po_none)))))))
      (pss_one (ps_ret (pv 4)))))), ?_⟩
  walk_at "st"
  rw [Int.toNat_natCast]
  refine Pm.w_lcRm (R := In) in_mono (fun i : Nat => (i : Int)) (by omega) (fun D i H1 Nx hD hi s1 put => ?_) (fun D H1 ws hD s1 hd ha => ?_)
  · walk_at "st"
    exact put _ _ (Same.refl _) (by show V.int (0 + (i : Int)) = _; rw [Int.zero_add])
  have ew := ins_map ha
  subst ew
  walk_at "st"
  refine Pm.w_newL (fun e he => ?_)
  walk_at "st"
  have nD : e ≠ D := fun z => by subst z; rw [hd] at he; cases he
  have hD2 : (upd H1 e (.lst [])) D = some (.lst ((posts n).map V.int)) := by rw [upd_ne nD.symm]; exact hd
  have sE : Same H (upd H1 e (.lst [])) := s1.trans (same_new he _)
  have hHe : H e = none := s1.free he
  refine Pm.w_while (fun m σ H2 => ∃ (l : Addr) (L : List Int) (x : Option V) (evs : List V) (es : List Ear), σ = [some (.int n), some (.ref r), some (.ref l), x, some (.ref e)] ∧ H2 l = some (.lst (L.map V.int)) ∧ H2 e = some (.lst evs) ∧ All2 (Er H2) evs es ∧
    L.length + es.length = n ∧ 3 ≤ L.length ∧ (∀ es', Ears L es' → Ears (posts n) (es ++ es')) ∧ Same H H2 ∧ l ≠ e ∧ m = L.length) n ⟨D, posts n, _, [], [], rfl, hD2, upd_same, trivial, by rw [posts_len] <;> rfl, by rw [posts_len]; exact n3, fun _ h => h, sE, nD.symm, (posts_len n).symm⟩ ?_
  rintro m σ H2 ⟨l, L, x, evs, es, rfl, hl, hE, hA, hlen, hL3, hears, s2, nle, rfl⟩
  have hlL : (L.map V.int).length = L.length := List.length_map _
  have hR2 : SqL K H2 r (row.map V.int) := s2.seq hR
  have ale := hA.length
  walk_at "st"
  refine Pm.w_lenL (SqL.of hl) ?_
  walk_at "st"
  refine Pm.w_wh (fun c => ?_) (fun c => ?_)
  · rw [hlL] at c
    walk_at "st"
    refine Pm.w_lenL (SqL.of hE) ?_
    walk_at "st"
    refine Pm.w_ixL hR2 (atI_int (by omega) (by omega)) ?_
    walk_at "st"
    refine Pm.w_lenL (SqL.of hl) ?_
    rw [hlL]
    walk_at "st"
    generalize hk : row.getD (evs.length : Int).toNat 0 % (L.length : Int) = k
    have k0 : 0 ≤ k := by rw [← hk]; exact Int.emod_nonneg _ (by omega)
    have k1 : k < (L.length : Int) := by rw [← hk]; exact Int.emod_lt_of_pos _ (by omega)
    refine ⟨.inl ⟨rfl, _, SqL.of hE⟩, ?_⟩
    walk_at "st"
    refine Pm.w_ixL (SqL.of hl) (atI_int k0 k1) ?_
    walk_at "st"
    refine Pm.w_ixL (SqL.of hl) (atI_prev k0 k1) ?_
    walk_at "st"
    refine Pm.w_lenL (SqL.of hl) ?_
    rw [hlL]
    walk_at "st"
    refine Pm.w_ixL (SqL.of hl) (atI_int (Int.emod_nonneg _ (by omega)) (Int.emod_lt_of_pos _ (by omega))) ?_
    walk_at "st"
    refine Pm.w_newT (fun t ht => ?_)
    walk_at "st"
    have ek : ((k + 1) % (L.length : Int)).toNat = (k.toNat + 1) % L.length := by
      have e1 : k + 1 = ((k.toNat + 1 : Nat) : Int) := by omega
      rw [e1, ← Int.natCast_emod, Int.toNat_natCast]
    rw [ek]
    have nte : e ≠ t := ne_of_none hE ht
    have ntl : l ≠ t := ne_of_none hl ht
    refine Pm.w_append (by rw [upd_ne nte]; exact hE) (size_lt (by omega)) ?_
    walk_at "st"
    generalize hT : (V.ref t) = tv
    have hl3 : (upd (upd H2 t (.tup [.int (L.getD k.toNat 0), .int (L.getD ((k.toNat + L.length - 1) % L.length) 0), .int (L.getD ((k.toNat + 1) % L.length) 0)])) e (.lst (evs ++ [tv]))) l = some (.lst (L.map V.int)) := by
      rw [upd_ne nle, upd_ne ntl]; exact hl
    refine Pm.w_slL (SqL.of hl3) (fun p1 hp1 => ?_)
    rw [cut_take k0 (by rw [hlL]; omega)]
    walk_at "st"
    have np1 : l ≠ p1 := ne_of_none hl3 hp1
    refine Pm.w_slL (SqL.of (by rw [upd_ne np1]; exact hl3)) (fun p2 hp2 => ?_)
    have np12 : p1 ≠ p2 := ne_of_none upd_same hp2
    rw [cut_drop (by omega) (by rw [hlL]; omega)]
    refine Pm.w_cat (by rw [upd_ne np12]; exact upd_same) upd_same (size_ok (by rw [List.length_take, List.length_drop, hlL]; omega)) (fun p3 hp3 => ?_)
    walk_at "st"
    have eL : (L.map V.int).take k.toNat ++ (L.map V.int).drop (k + 1).toNat = (L.eraseIdx k.toNat).map V.int := by
      rw [List.eraseIdx_eq_take_drop_succ, List.map_append, List.map_take, List.map_drop, show (k + 1).toNat = k.toNat + 1 by omega]
    have hkL : k.toNat < L.length := by omega
    have leL : (L.eraseIdx k.toNat).length = L.length - 1 := List.length_eraseIdx_of_lt hkL
    have kk : Keeps H2 (upd (upd H2 t (.tup [.int (L.getD k.toNat 0), .int (L.getD ((k.toNat + L.length - 1) % L.length) 0), .int (L.getD ((k.toNat + 1) % L.length) 0)])) e (.lst (evs ++ [tv]))) := (keeps (same_new ht _)).trans (keeps_lst (xs := evs) (by rw [upd_ne nte]; exact hE))
    have sF : Same (upd (upd H2 t (.tup [.int (L.getD k.toNat 0), .int (L.getD ((k.toNat + L.length - 1) % L.length) 0), .int (L.getD ((k.toNat + 1) % L.length) 0)])) e (.lst (evs ++ [tv]))) (upd (upd (upd (upd (upd H2 t (.tup [.int (L.getD k.toNat 0), .int (L.getD ((k.toNat + L.length - 1) % L.length) 0), .int (L.getD ((k.toNat + 1) % L.length) 0)])) e (.lst (evs ++ [tv]))) p1 (.lst (List.take k.toNat (List.map V.int L)))) p2 (.lst (List.drop (k + 1).toNat (List.map V.int L)))) p3 (.lst (List.take k.toNat (List.map V.int L) ++ List.drop (k + 1).toNat (List.map V.int L)))) :=
      (same_new hp1 _).trans ((same_new hp2 _).trans (same_new hp3 _))
    refine ⟨L.length - 1, by omega, p3, L.eraseIdx k.toNat, _, evs ++ [tv], es ++ [(L.getD k.toNat 0, L.getD ((k.toNat + L.length - 1) % L.length) 0, L.getD ((k.toNat + 1) % L.length) 0)], rfl, by rw [upd_same, eL], sF _ _ upd_same, ?_, ?_, by omega, fun es' h' => ?_, ?_, ?_, leL.symm⟩
    · refine (hA.mono fun _ _ r => er_mono _ _ _ _ (kk.trans (keeps sF)) r).snoc (er_mono _ _ _ _ (keeps sF) ⟨t, hT.symm, ?_⟩)
      rw [upd_ne nte.symm, upd_same]
    · rw [leL, List.length_append, List.length_singleton]; omega
    · rw [List.append_assoc]
      exact hears _ (Ears.step k.toNat (by omega) hkL h')
    · exact (same_but hHe (s2.trans (same_new ht _))).trans sF
    · exact fun z => by
        have : e ≠ p3 := ne_of_none (o := .lst (evs ++ [tv])) (((same_new hp1 _).trans (same_new hp2 _)) _ _ upd_same) hp3
        exact this z.symm
  · rw [hlL] at c
    walk_at "st"
    have h0 : Ears L [] := .done (by omega)
    have h1 := hears _ h0
    rw [List.append_nil] at h1
    exact q e H2 evs es s2 hHe hE hA h1 (by omega)
def spRopes (K : PySem.W.Frag) : Sp := fun vs H Q _ => ∃ (r : Addr) (evs : List V) (es : List Ear), vs = [.ref r] ∧ SqL K H r evs ∧ All2 (Er H) evs es ∧ es.length ≤ 1000 ∧ PLNew H (sortP (es.map ropeOf)) Q
theorem ok_law_ropes (T : Tx P K mg base) : FnOk P w K mg base CX0 42 T.a_law_ropes T.fd_law_ropes ["_law_ears_here"] (spRopes K) := by
  refine T.F_law_ropes.ok sc_law_ropes (fun vs H Q E h => ?_) (fun cdv A outer s H vs Q E hr h => ?_)
  · obtain ⟨r, evs, es, rfl, _⟩ := h
    rfl
  obtain ⟨r, evs, es, rfl, hR, hA, hn, q⟩ := h
  refine ⟨_, (pss_one (ps_ret (pe_callB (cr_sortK (K := K)) (by rfl) T.m_sorted (by decide +kernel) (pa_cons (pe_lc (own := [("_law_ear", 1)]) (g := gName 1) (tt := tYes) rfl sc_law_ropes.nd (k_il (K := K) (pi_list (pv 0))) (blkOk_by (N := N_law_ropes) (sc := defScope s_law_ropes) (by decide +kernel)) (fun _ _ _ _ _ => (pg_name (i := 1) sc_law_ropes.nd rfl (.inl rfl))) (fun _ _ _ _ _ => pts_nil) (fun _ _ _ _ _ => (pe_call (ok_law_pair T) (hr.mono (by decide)) (by rfl) T.g_law_pair T.F_law_pair.kp T.b_law_pair .nil pass0 (pa_cons (pe_ix (ix_tupK (K := K)) (pv 1) (pe_int) (fun _ _ => rfl)) (pa_cons (pe_ix (ix_tupK (K := K)) (pv 1) (pe_int) (fun _ _ => rfl)) pa_nil))))) pa_nil)))), ?_⟩
  walk_at "st"
  refine Pm.w_rdL hR ?_
  refine Pm.w_lcLf (R := Pr) pr_mono (S := Er) er_mono hR hA ropeOf (fun _ => true) (by omega) (fun D x c H1 Nx hD hc hs s1 put skip => ?_) (fun D H1 ws hD s1 hd ha => ?_)
  · obtain ⟨t, rfl, ht⟩ := hs
    walk_at "st"
    refine Pm.w_ixT (SqT.of ht) (show atI [V.int c.1, V.int c.2.1, V.int c.2.2] 1 = some (V.int c.2.1) from rfl) ?_
    walk_at "st"
    refine Pm.w_ixT (SqT.of ht) (show atI [V.int c.1, V.int c.2.1, V.int c.2.2] 2 = some (V.int c.2.2) from rfl) ?_
    walk_at "st"
    exact ⟨_, _, rfl, fun u H2 s2 nu hu => put _ _ rfl s2 hu⟩
  · rw [List.filter_eq_self.mpr (fun _ _ => rfl)] at ha
    walk_at "st"
    refine Pm.w_sortP (SqL.of hd) ha (fun ys p hp hy => ?_)
    exact q p _ ys (s1.trans (same_new hp _)) (s1.free hp) upd_same (prs_keep (keeps (same_new hp _)) hy)
end
section
variable {P : Program} {w : World} {K : PySem.W.Frag} {mg : Str → Option Value} {base : Heap}
def spMany (K : PySem.W.Frag) : Sp := fun vs H Q _ => ∃ (r : Addr) (row : List Int), vs = [.ref r] ∧ SqL K H r (row.map V.int) ∧ 2 ≤ row.length ∧ ∀ n : Nat, 3 ≤ n → n ≤ 12 → Q (.int n) H
theorem ok_law_many (T : Tx P K mg base) : FnOk P w K mg base CX0 41 T.a_law_many T.fd_law_many ["_law_row"] (spMany K) := by
  refine T.F_law_many.ok sc_law_many (fun vs H Q E h => ?_) (fun cdv A outer s H vs Q E hr h => ?_)
  · obtain ⟨r, row, rfl, _⟩ := h
    rfl
  obtain ⟨r, row, rfl, hR, hn, q⟩ := h
  have q' : ∀ n : Int, 3 ≤ n → n ≤ 12 → Q (.int n) H := fun n h1 h2 => by
    have e : n = (n.toNat : Int) := by omega
    rw [e]
    exact q _ (by omega) (by omega)
  refine ⟨_, (pss_cons (ps_if (pt_cmpR op_eq (pe_op op_mod (pe_ix (ix_listK (K := K)) (pv 0) (pe_int) (fun _ _ => rfl)) (pe_int)) (pe_int) (nomark _)) (pss_one (ps_ret (pe_op op_add (pe_int) (pe_op op_mod (pe_ix (ix_listK (K := K)) (pv 0) (pe_int) (fun _ _ => rfl)) (pe_int))))) pss_nil)
      (pss_one (ps_ret (pe_op op_add (pe_int) (pe_op op_mod (pe_ix (ix_listK (K := K)) (pv 0) (pe_int) (fun _ _ => rfl)) (pe_int)))))), ?_⟩
  walk_at "st"
  refine Pm.w_ixL hR (atI_int (by omega) (by omega)) ?_
  walk_at "st"
  refine Pm.w_ite (fun e => ?_) (fun e => ?_)
  · walk_at "st"
    refine Pm.w_ixL hR (atI_int (by omega) (by omega)) ?_
    walk_at "st"
    exact q' _ (by omega) (by omega)
  · walk_at "st"
    refine Pm.w_ixL hR (atI_int (by omega) (by omega)) ?_
    walk_at "st"
    exact q' _ (by omega) (by omega)
end
section
variable {P : Program} {w : World} {K : PySem.W.Frag} {mg : Str → Option Value} {base : Heap}
theorem ok_tie_of (T : Tx P K mg base) : FnOk P w K mg base CX0 41 T.a_tie_of T.fd_tie_of ["a", "b"] spPair := by
  refine T.F_tie_of.ok sc_tie_of (fun vs H Q E h => ?_) (fun cdv A outer s H vs Q E hr h => ?_)
  · obtain ⟨a, b, rfl, _⟩ := h
    rfl
  obtain ⟨a, b, rfl, q⟩ := h
  refine ⟨_, (pss_one (ps_ret (pe_tup (pa_cons (pe_callB (c_min rfl) (by rfl) T.m_min (by decide +kernel) (pa_cons (pv 0) (pa_cons (pv 1) pa_nil))) (pa_cons (pe_callB (c_max rfl) (by rfl) T.m_max (by decide +kernel) (pa_cons (pv 0) (pa_cons (pv 1) pa_nil))) pa_nil))))), ?_⟩
  walk_at "st"
  refine Pm.w_newT (fun t ht => ?_)
  exact q t _ (same_new ht _) ht (pr_new upd_same)
end
section
variable {P : Program} {w : World} {K : PySem.W.Frag} {mg : Str → Option Value} {base : Heap}
def spSides : Sp := fun vs H Q _ => ∃ n : Nat, vs = [.int n] ∧ 1 ≤ n ∧ n ≤ 1000 ∧ PLNew H (sidesL n) Q
theorem ok_sides (T : Tx P K mg base) : FnOk P w K mg base CX0 41 T.a_sides T.fd_sides ["n"] spSides := by
  refine T.F_sides.ok sc_sides (fun vs H Q E h => ?_) (fun cdv A outer s H vs Q E hr h => ?_)
  · obtain ⟨n, rfl, _⟩ := h
    rfl
  obtain ⟨n, rfl, n1, n2, q⟩ := h
  refine ⟨_, (pss_one (ps_ret (pe_callB (cr_sortK (K := K)) (by rfl) T.m_sorted (by decide +kernel) (pa_cons (pe_op op_cat (pe_lc (own := [("k", 1)]) (g := gName 1) (tt := tYes) rfl sc_sides.nd (pi_range1 (by rfl) T.m_range (pa_cons (pe_op op_sub (pv 0) (pe_int)) pa_nil)) (blkOk_by (N := N_sides) (sc := defScope s_sides) (by decide +kernel)) (fun _ _ _ _ _ => (pg_name (i := 1) sc_sides.nd rfl (.inl rfl))) (fun _ _ _ _ _ => pts_nil) (fun _ _ _ _ _ => (pe_tup (pa_cons (pv 1) (pa_cons (pe_op op_add (pv 1) (pe_int)) pa_nil))))) (pe_lst (pa_cons (pe_tup (pa_cons (pe_int) (pa_cons (pe_op op_sub (pv 0) (pe_int)) pa_nil))) pa_nil))) pa_nil)))), ?_⟩
  walk_at "st"
  have en : ((n : Int) - 1).toNat = n - 1 := by omega
  rw [en]
  refine Pm.w_lcRm (R := Pr) pr_mono (fun k : Nat => ((k : Int), (k : Int) + 1)) (by omega) (fun D i H1 Nx hD hi s1 put => ?_) (fun D H1 ws hD s1 hd ha => ?_)
  · walk_at "st"
    refine Pm.w_newT (fun t ht => ?_)
    refine put _ _ (same_new ht _) ⟨t, rfl, ?_⟩
    rw [upd_same, Int.zero_add]
  · walk_at "st"
    refine Pm.w_newT (fun t ht => ?_)
    walk_at "st"
    refine Pm.w_newL (fun l hl => ?_)
    have nD : D ≠ l := ne_of_none (o := .lst ws) ((same_new ht _) _ _ hd) hl
    have hlen := ha.length
    rw [List.length_map, List.length_range] at hlen
    refine Pm.w_cat (by rw [upd_ne nD, upd_ne (ne_of_none hd ht)]; exact hd) upd_same (size_ok (by rw [hlen, List.length_singleton]; omega)) (fun p hp => ?_)
    have k1 : Keeps H1 (upd (upd (upd H1 t (.tup [.int 0, .int ((n : Int) - 1)])) l (.lst [.ref t])) p (.lst (ws ++ [.ref t]))) := keeps ((same_new ht _).trans ((same_new hl _).trans (same_new hp _)))
    refine Pm.w_sortP (ps := sides0 n) (SqL.of upd_same) ((prs_keep k1 ha).append ⟨⟨t, rfl, ?_⟩, trivial⟩) (fun ys p2 hp2 hy => ?_)
    · exact ((same_new hl _).trans (same_new hp _)) _ _ upd_same
    · have s2 := s1.trans ((same_new ht _).trans ((same_new hl _).trans (same_new hp (.lst (ws ++ [.ref t])))))
      exact q p2 _ ys (s2.trans (same_new hp2 _)) (s2.free hp2) upd_same (prs_keep (keeps (same_new hp2 _)) hy)
end
section
variable {P : Program} {w : World} {K : PySem.W.Frag} {mg : Str → Option Value} {base : Heap}
def spTies : Sp := fun vs H Q _ => ∃ (n : Nat) (c : Addr) (cut : List IP), vs = [.int n, .ref c] ∧ 1 ≤ n ∧ n ≤ 1000 ∧ PLt H c cut ∧ cut.length ≤ 1000 ∧ PLNew H (tiesL n cut) Q
theorem ok_ties (T : Tx P K mg base) : FnOk P w K mg base CX0 42 T.a_ties T.fd_ties ["n", "cut"] spTies := by
  refine T.F_ties.ok sc_ties (fun vs H Q E h => ?_) (fun cdv A outer s H vs Q E hr h => ?_)
  · obtain ⟨n, c, cut, rfl, _⟩ := h
    rfl
  obtain ⟨n, c, cut, rfl, n1, n2, ⟨cvs, hc, pc⟩, cl, q⟩ := h
  refine ⟨_, (pss_one (ps_ret (pe_callB (cr_sortK (K := K)) (by rfl) T.m_sorted (by decide +kernel) (pa_cons (pe_op op_cat (pe_call (ok_sides T) (hr.mono (by decide)) (by rfl) T.g_sides T.F_sides.kp T.b_sides .nil pass0 (pa_cons (pv 0) pa_nil)) (pv 1)) pa_nil)))), ?_⟩
  walk_at "st"
  refine ⟨n, rfl, n1, n2, fun p H1 ws s1 np hp ha => ?_⟩
  walk_at "st"
  have l1 := ha.length
  rw [sidesL, sortP_len, sides0_len n1] at l1
  have l2 := pc.length
  refine Pm.w_cat hp (s1 _ _ hc) (size_ok (by omega)) (fun l hl => ?_)
  have k1 := keeps (same_new hl (.lst (ws ++ cvs)))
  refine Pm.w_sortP (SqL.of upd_same) ((prs_keep k1 ha).append (prs_keep ((keeps s1).trans k1) pc)) (fun ys p2 hp2 hy => ?_)
  rw [tiesL_eq] at hy
  have s2 := s1.trans (same_new hl (.lst (ws ++ cvs)))
  exact q p2 _ ys (s2.trans (same_new hp2 _)) (s2.free hp2) upd_same (prs_keep (keeps (same_new hp2 _)) hy)
end
section
variable {P : Program} {w : World} {K : PySem.W.Frag} {mg : Str → Option Value} {base : Heap}
def spMeasure : Sp := fun vs H Q _ => ∃ a b : Int, vs = [.int a, .int b] ∧ Q (.int ((Int.gcd a b : Nat) : Int)) H
theorem ok_measure (T : Tx P K mg base) : FnOk P w K mg base CX0 41 T.a_measure T.fd_measure ["one", "other"] spMeasure := by
  refine T.F_measure.ok sc_measure (fun vs H Q E h => ?_) (fun cdv A outer s H vs Q E hr h => ?_)
  · obtain ⟨a, b, rfl, _⟩ := h
    rfl
  obtain ⟨a, b, rfl, q⟩ := h
  refine ⟨_, (pss_cons (ps_set (i := 0) sc_measure.nd rfl (.inl rfl) (pe_callB c_abs (by rfl) T.m_abs (by decide +kernel) (pa_cons (pv 0) pa_nil)))
      (pss_cons (ps_set (i := 1) sc_measure.nd rfl (.inl rfl) (pe_callB c_abs (by rfl) T.m_abs (by decide +kernel) (pa_cons (pv 1) pa_nil)))
      (pss_cons (ps_while PassesOwn.never (pt_cmpR op_gt (pv 1) (pe_int) (nomark _)) (pss_one (ps_par (i := 0) (j := 1) (by rfl) sc_measure.nd rfl rfl (by decide) rfl rfl (pa_cons (pv 1) (pa_cons (pe_op op_mod (pv 0) (pv 1)) pa_nil)) (by rfl))))
      (pss_one (ps_ret (pv 0)))))), ?_⟩
  walk_at "st"
  refine Pm.w_while (fun m σ H' => ∃ x y : Nat, σ = [some (.int x), some (.int y)] ∧ m = y ∧ Nat.gcd x y = Int.gcd a b ∧ H' = H) _ ⟨(if a < 0 then -a else a).natAbs, (if b < 0 then -b else b).natAbs, ?_, rfl, gcd_abs a b, rfl⟩ ?_
  · have e : ∀ c : Int, (if c < 0 then -c else c) = (((if c < 0 then -c else c).natAbs : Nat) : Int) := fun c => by split <;> omega
    show [some (V.int (if a < 0 then -a else a)), some (V.int (if b < 0 then -b else b))] = _
    rw [← e a, ← e b]
  · rintro m σ H' ⟨x, y, rfl, rfl, hg, rfl⟩
    walk_at "st"
    refine Pm.w_wh (fun c => ?_) (fun c => ?_)
    · walk_at "st"
      exact ⟨_, Nat.mod_lt x (by omega), m, x % m, rfl, rfl, by rw [gcd_turn x m (by omega)]; exact hg, rfl⟩
    · have e : m = 0 := by omega
      subst e
      rw [Nat.gcd_zero_right] at hg
      rw [hg]
      walk_at "st"
      exact q
end
section
variable {P : Program} {w : World} {K : PySem.W.Frag} {mg : Str → Option Value} {base : Heap}
def partOk (p : IP) : Prop := 0 < p.2 ∧ Int.gcd p.1 p.2 = 1
def lenOk (p : IP) : Prop := partOk p ∧ 0 < p.1
instance (p : IP) : Decidable (partOk p) := by unfold partOk; infer_instance
instance (p : IP) : Decidable (lenOk p) := by unfold lenOk; infer_instance
def spIsPart (K : PySem.W.Frag) : Sp := fun vs H Q _ => ∃ (t : Addr) (p : IP), vs = [.ref t] ∧ FrV K H (.ref t) p ∧ Q (.bl (decide (partOk p))) H
theorem ok_is_part (T : Tx P K mg base) : FnOk P w K mg base CX0 42 T.a_is_part T.fd_is_part ["pair"] (spIsPart K) := by
  refine T.F_is_part.ok sc_is_part (fun vs H Q E h => ?_) (fun cdv A outer s H vs Q E hr h => ?_)
  · obtain ⟨t, p, rfl, _⟩ := h
    rfl
  obtain ⟨t, p, rfl, ht, q⟩ := h
  refine ⟨_, (pss_cons (ps_if (PW.pt (pw_or (pt_cmpR op_ne (pe_callB (c_len (K := K)) (by rfl) T.m_len PySem.boot_len (pa_cons (pv 0) pa_nil)) (pe_int) (nomark _)) (pw_or1 (pt_cmpR op_le (pe_ix (ix_tupK (K := K)) (pv 0) (pe_int) (fun _ _ => rfl)) (pe_int) (nomark _))))) (pss_one (ps_ret (pe_bl))) pss_nil)
      (pss_one (ps_ret (pe_cmpR op_eq (pe_call (ok_measure T) (hr.mono (by decide)) (by rfl) T.g_measure T.F_measure.kp T.b_measure .nil pass0 (pa_cons (pe_ix (ix_tupK (K := K)) (pv 0) (pe_int) (fun _ _ => rfl)) (pa_cons (pe_ix (ix_tupK (K := K)) (pv 0) (pe_int) (fun _ _ => rfl)) pa_nil))) (pe_int) (nomark _))))), ?_⟩
  walk_at "st"
  refine Pm.w_lenT ht.tup ?_
  walk_at "st"
  refine Pm.w_iteN (fun z => absurd rfl z) (fun _ => ?_)
  walk_at "st"
  refine Pm.w_ixT ht.tup (atI2 _ _).2 ?_
  walk_at "st"
  refine Pm.w_ite (fun z => ?_) (fun z => ?_)
  · walk_at "st"
    rw [decide_eq_false (show ¬ partOk p from fun k => by have := k.1; omega)] at q
    exact q
  · walk_at "st"
    refine Pm.w_ixT ht.tup (atI2 _ _).1 ?_
    walk_at "st"
    refine Pm.w_ixT ht.tup (atI2 _ _).2 ?_
    walk_at "st"
    refine ⟨_, _, rfl, ?_⟩
    walk_at "st"
    rw [show decide (((Int.gcd p.1 p.2 : Nat) : Int) = 1) = decide (partOk p) from decide_eq_decide.mpr ⟨fun k => ⟨by omega, by omega⟩, fun k => by have := k.2; omega⟩]
    exact q
def spIsLength (K : PySem.W.Frag) : Sp := fun vs H Q _ => ∃ (t : Addr) (p : IP), vs = [.ref t] ∧ FrV K H (.ref t) p ∧ Q (.bl (decide (lenOk p))) H
theorem ok_is_length (T : Tx P K mg base) : FnOk P w K mg base CX0 43 T.a_is_length T.fd_is_length ["pair"] (spIsLength K) := by
  refine T.F_is_length.ok sc_is_length (fun vs H Q E h => ?_) (fun cdv A outer s H vs Q E hr h => ?_)
  · obtain ⟨t, p, rfl, _⟩ := h
    rfl
  obtain ⟨t, p, rfl, ht, q⟩ := h
  refine ⟨_, (pss_one (ps_ret ((pe_and (pe_call (ok_is_part T) (hr.mono (by decide)) (by rfl) T.g_is_part T.F_is_part.kp T.b_is_part .nil pass0 (pa_cons (pv 0) pa_nil)) (pe_one (pe_cmpR op_gt (pe_ix (ix_tupK (K := K)) (pv 0) (pe_int) (fun _ _ => rfl)) (pe_int) (nomark _))))))), ?_⟩
  walk_at "st"
  refine ⟨t, p, rfl, ht, ?_⟩
  walk_at "st"
  refine Pm.w_ite (fun z => ?_) (fun z => ?_)
  · walk_at "st"
    refine Pm.w_ixT ht.tup (atI2 _ _).1 ?_
    walk_at "st"
    rw [show decide (p.1 > 0) = decide (lenOk p) from decide_eq_decide.mpr ⟨fun k => ⟨z, k⟩, fun k => k.2⟩]
    exact q
  · walk_at "st"
    rw [decide_eq_false (show ¬ lenOk p from fun k => z k.1)] at q
    exact q
end
section
variable {P : Program} {w : World} {K : PySem.W.Frag} {mg : Str → Option Value} {base : Heap}
theorem ok_crosses (T : Tx P K mg base) : FnOk P w K mg base CX0 41 T.a_crosses T.fd_crosses ["one", "other"] (spCross K) := by
  refine T.F_crosses.ok sc_crosses (fun vs H Q E h => ?_) (fun cdv A outer s H vs Q E hr h => ?_)
  · obtain ⟨t, u, a, b, c, d, rfl, _⟩ := h
    rfl
  obtain ⟨t, u, a, b, c, d, rfl, h1, h2, q⟩ := h
  refine ⟨_, (pss_cons (ps_set (i := 2) sc_crosses.nd rfl (.inl rfl) (pe_callB (c_min rfl) (by rfl) T.m_min (by decide +kernel) (pa_cons (pe_ix (ix_tupK (K := K)) (pv 0) (pe_int) (fun _ _ => rfl)) (pa_cons (pe_ix (ix_tupK (K := K)) (pv 0) (pe_int) (fun _ _ => rfl)) pa_nil))))
      (pss_cons (ps_set (i := 3) sc_crosses.nd rfl (.inl rfl) (pe_callB (c_max rfl) (by rfl) T.m_max (by decide +kernel) (pa_cons (pe_ix (ix_tupK (K := K)) (pv 0) (pe_int) (fun _ _ => rfl)) (pa_cons (pe_ix (ix_tupK (K := K)) (pv 0) (pe_int) (fun _ _ => rfl)) pa_nil))))
      (pss_cons (ps_for PassesOwn.never rfl (k_it (K := K) (pi_tup (pv 1))) (pg_name (i := 4) sc_crosses.nd rfl (.inl rfl)) (pss_one (ps_if (PW.pt (pw_or (pt_cmpR op_eq (pv 4) (pv 2) (nomark _)) (pw_or1 (pt_cmpR op_eq (pv 4) (pv 3) (nomark _))))) (pss_one (ps_ret (pe_bl))) pss_nil)))
      (pss_one (ps_ret (pe_cmpR op_ne (pe_chain op_lt op_lt (pv 2) (pe_ix (ix_tupK (K := K)) (pv 1) (pe_int) (fun _ _ => rfl)) (pv 3)) (pe_chain op_lt op_lt (pv 2) (pe_ix (ix_tupK (K := K)) (pv 1) (pe_int) (fun _ _ => rfl)) (pv 3)) (nomark _))))))), ?_⟩
  walk_at "st"
  refine Pm.w_ixT h1 (atI2 _ _).1 ?_
  walk_at "st"
  refine Pm.w_ixT h1 (atI2 _ _).2 ?_
  walk_at "st"
  refine Pm.w_ixT h1 (atI2 _ _).1 ?_
  walk_at "st"
  refine Pm.w_ixT h1 (atI2 _ _).2 ?_
  walk_at "st"
  refine Pm.w_rdT h2 ?_
  refine Pm.w_forT (xs := [.int c, .int d]) (fun i σ H' => ∃ x4, σ = [some (.ref t), some (.ref u), some (.int (min a b)), some (.int (max a b)), x4] ∧ H' = H ∧ (1 ≤ i → c ≠ min a b ∧ c ≠ max a b) ∧ (2 ≤ i → d ≠ min a b ∧ d ≠ max a b)) ?_ ?_ ?_ ?_
  · exact ⟨_, rfl, rfl, fun h => absurd h (by omega), fun h => absurd h (by omega)⟩
  · rintro i σ H' _ ⟨x4, rfl, rfl, _⟩
    exact h2
  · rintro i x σ H' hx ⟨x4, rfl, rfl, i1, i2⟩
    match i, hx with
    | 0, hx =>
      cases hx
      walk_at "st"
      refine Pm.w_ite (fun e => ?_) (fun e => ?_)
      · walk_at "st"
        rw [cross_no (.inl e)] at q
        exact q
      · walk_at "st"
        refine Pm.w_ite (fun e => ?_) (fun e2 => ?_)
        · walk_at "st"
          rw [cross_no (.inr (.inl e))] at q
          exact q
        · walk_at "st"
          exact ⟨_, rfl, rfl, fun _ => ⟨e, e2⟩, fun h => absurd h (by omega)⟩
    | 1, hx =>
      cases hx
      walk_at "st"
      refine Pm.w_ite (fun e => ?_) (fun e => ?_)
      · walk_at "st"
        rw [cross_no (.inr (.inr (.inl e)))] at q
        exact q
      · walk_at "st"
        refine Pm.w_ite (fun e => ?_) (fun e2 => ?_)
        · walk_at "st"
          rw [cross_no (.inr (.inr (.inr e)))] at q
          exact q
        · walk_at "st"
          exact ⟨_, rfl, rfl, fun _ => i1 (by omega), fun _ => ⟨e, e2⟩⟩
    | i + 2, hx => simp at hx
  · rintro σ H' ⟨x4, rfl, rfl, i1, i2⟩
    have j1 := i1 (by show 1 ≤ 2; decide)
    have j2 := i2 (by show 2 ≤ 2; decide)
    have ne := And.intro j1.1 (And.intro j1.2 j2)
    walk_at "st"
    refine Pm.w_ixT h2 (atI2 _ _).1 ?_
    walk_at "st"
    refine Pm.w_ite (fun e1 => ?_) (fun e1 => ?_)
    · walk_at "st"
      refine Pm.w_ixT h2 (atI2 _ _).2 ?_
      walk_at "st"
      refine Pm.w_ite (fun e3 => ?_) (fun e3 => ?_)
      · walk_at "st"
        rw [cross_is (a := a) (b := b) ne (by simp [e1]) (by simp [e3])]
        exact q
      · walk_at "st"
        rw [cross_is (a := a) (b := b) ne (by simp [e1]) (by simp [e3])]
        exact q
    · walk_at "st"
      refine Pm.w_ixT h2 (atI2 _ _).2 ?_
      walk_at "st"
      refine Pm.w_ite (fun e3 => ?_) (fun e3 => ?_)
      · walk_at "st"
        rw [cross_is (a := a) (b := b) ne (by simp [e1]) (by simp [e3])]
        exact q
      · walk_at "st"
        rw [cross_is (a := a) (b := b) ne (by simp [e1]) (by simp [e3])]
        exact q
end
section
variable {P : Program} {w : World} {K : PySem.W.Frag} {mg : Str → Option Value} {base : Heap}
def spIsRope : Sp := fun vs H Q _ => ∃ (n : Int) (t : Addr) (p : IP), vs = [.int n, .ref t] ∧ Pr H (.ref t) p ∧ Q (.bl (decide (ropeOk n p))) H
theorem ok_is_rope (T : Tx P K mg base) : FnOk P w K mg base CX0 41 T.a_is_rope T.fd_is_rope ["n", "pair"] spIsRope := by
  refine T.F_is_rope.ok sc_is_rope (fun vs H Q E h => ?_) (fun cdv A outer s H vs Q E hr h => ?_)
  · obtain ⟨n, t, p, rfl, _⟩ := h
    rfl
  obtain ⟨n, t, p, rfl, ht, q⟩ := h
  refine ⟨_, (pss_cons (ps_asg (pv 1) (k_gt (K := K) (pg_tup (by rfl) (pgs_cons (pg_name (i := 2) sc_is_rope.nd rfl (.inl rfl)) (pgs_cons (pg_name (i := 3) sc_is_rope.nd rfl (.inl rfl)) pgs_nil)))))
      (pss_cons (ps_if (PW.pt (pw_or (pt_cmpR op_lt (pv 2) (pe_int) (nomark _)) (pw_or (pt_cmpR op_ge (pv 3) (pv 0) (nomark _)) (pw_or1 (pt_cmpR op_lt (pe_op op_sub (pv 3) (pv 2)) (pe_int) (nomark _)))))) (pss_one (ps_ret (pe_bl))) pss_nil)
      (pss_one (ps_ret (pe_cmpR op_lt (pe_op op_sub (pv 3) (pv 2)) (pe_op op_sub (pv 0) (pe_int)) (nomark _)))))), ?_⟩
  have no : ¬ ropeOk n p → Q (.bl false) H := fun z => by rw [decide_eq_false z] at q; exact q
  walk_at "st"
  refine Pm.w_gtup ht.tup rfl ?_
  walk_at "st"
  refine Pm.w_ite (fun e => ?_) (fun e1 => ?_)
  · walk_at "st"
    exact no (fun z => by unfold ropeOk at z; omega)
  walk_at "st"
  refine Pm.w_ite (fun e => ?_) (fun e2 => ?_)
  · walk_at "st"
    exact no (fun z => by unfold ropeOk at z; omega)
  walk_at "st"
  refine Pm.w_ite (fun e => ?_) (fun e3 => ?_)
  · walk_at "st"
    exact no (fun z => by unfold ropeOk at z; omega)
  walk_at "st"
  rw [show decide (ropeOk n p) = decide (p.2 - p.1 < n - 1) from decide_eq_decide.mpr ⟨fun z => z.2.2.2, fun z => ⟨by omega, by omega, by omega, z⟩⟩] at q
  exact q
def spKept (C : Addr) : Sp := fun vs H Q E => ∃ (n : Int) (r : Addr) (ps : List IP), vs = [.int n, .ref r] ∧ PLt H r ps ∧ ps.length ≤ 400000 ∧ (¬ KeptOk n ps → ∀ H', Same H H' → E (.ref C) none H') ∧ (KeptOk n ps → PLNew H (sortP (ps.map tied)) Q)
theorem ok_kept (T : Tx P K mg base) : FnOk P w K mg base (L2N.CX P w) 42 T.a_kept T.fd_kept ["n", "ropes"] (spKept T.c_NoCutting) := by
  refine T.F_kept.okXN sc_kept (fun vs H Q E h => ?_) (fun cdv A outer s H vs Q E hr h => ?_)
  · obtain ⟨n, r, ps, rfl, _⟩ := h
    rfl
  obtain ⟨n, r, ps, rfl, ⟨rvs, hrv, hpr⟩, pl, hE, q⟩ := h
  refine ⟨_, (pss_cons (ps_if (PW.pt (pw_or (pt_cmpR op_lt (pv 0) (pe_glob (by rfl) T.g_FEWEST T.r_FEWEST) (nomark _)) (pw_or (pt_cmpR op_gt (pv 0) (pe_glob (by rfl) T.g_MOST T.r_MOST) (nomark _)) (pw_or1 (pt_cmpR op_ne (pe_callB (c_len (K := K)) (by rfl) T.m_len PySem.boot_len (pa_cons (pv 1) pa_nil)) (pe_op op_sub (pv 0) (pe_int)) (nomark _)))))) (pss_one (L2N.ps_raise rfl (L2N.takes_of rfl rfl rfl rfl) (L2N.pmk_own PySem.F.excBase_ValueError T.x_NoCutting T.g_NoCutting T.k_NoCutting (raises_own T.b_NoCutting T.t_NoCutting) rfl))) pss_nil)
      (pss_cons (ps_set (i := 2) sc_kept.nd rfl (.inl rfl) (pe_callB (cr_sortK (K := K)) (by rfl) T.m_sorted (by decide +kernel) (pa_cons (pe_lc (own := [("rope", 3)]) (g := gName 3) (tt := tYes) rfl sc_kept.nd (k_il (K := K) (pi_list (pv 1))) (blkOk_by (N := N_kept) (sc := defScope s_kept) (by decide +kernel)) (fun _ _ _ _ _ => (pg_name (i := 3) sc_kept.nd rfl (.inl rfl))) (fun _ _ _ _ _ => pts_nil) (fun _ _ _ _ _ => (pe_call (ok_tie_of T) (hr.mono (by decide)) (by rfl) T.g_tie_of T.F_tie_of.kp T.b_tie_of .nil pass0 (pa_cons (pe_ix (ix_tupK (K := K)) (pv 3) (pe_int) (fun _ _ => rfl)) (pa_cons (pe_ix (ix_tupK (K := K)) (pv 3) (pe_int) (fun _ _ => rfl)) pa_nil))))) pa_nil)))
      (pss_cons (ps_for (passes_of rfl) rfl (pi_range1 (by rfl) T.m_range (pa_cons (pe_callB (c_len (K := K)) (by rfl) T.m_len PySem.boot_len (pa_cons (pv 2) pa_nil)) pa_nil)) (pg_name (i := 4) sc_kept.nd rfl (.inl rfl)) (pss_cons (ps_if (pt_not (pt_val (pe_call (ok_is_rope T) (hr.mono (by decide)) (by rfl) T.g_is_rope T.F_is_rope.kp T.b_is_rope .nil pass0 (pa_cons (pv 0) (pa_cons (pe_ix (ix_listK (K := K)) (pv 2) (pv 4) (fun _ _ => rfl)) pa_nil))))) (pss_one (L2N.ps_raise rfl (L2N.takes_of rfl rfl rfl rfl) (L2N.pmk_own PySem.F.excBase_ValueError T.x_NoCutting T.g_NoCutting T.k_NoCutting (raises_own T.b_NoCutting T.t_NoCutting) rfl))) pss_nil)
      (pss_one (ps_for (passes_of rfl) rfl (k_il (K := K) (pi_list (pe_slice (sl_listK (K := K)) (pv 2) po_none (po_some (pv 4))))) (pg_name (i := 5) sc_kept.nd rfl (.inl rfl)) (pss_one (ps_if (PW.pt (pw_or (pt_cmpR (op_eqDK (K := K) hr.units) (pv 5) (pe_ix (ix_listK (K := K)) (pv 2) (pv 4) (fun _ _ => rfl)) (nomark _)) (pw_or1 (pt_val (pe_call (ok_crosses T) (hr.mono (by decide)) (by rfl) T.g_crosses T.F_crosses.kp T.b_crosses .nil pass0 (pa_cons (pv 5) (pa_cons (pe_ix (ix_listK (K := K)) (pv 2) (pv 4) (fun _ _ => rfl)) pa_nil))))))) (pss_one (L2N.ps_raise rfl (L2N.takes_of rfl rfl rfl rfl) (L2N.pmk_own PySem.F.excBase_ValueError T.x_NoCutting T.g_NoCutting T.k_NoCutting (raises_own T.b_NoCutting T.t_NoCutting) rfl))) pss_nil))))))
      (pss_one (ps_ret (pv 2)))))), ?_⟩
  have plen := hpr.length
  walk_at "st"
  refine Pm.w_ite (fun e => ?_) (fun e1 => ?_)
  · exact hE (fun z => by have := z.1; omega) _ (Same.refl _)
  walk_at "st"
  refine Pm.w_ite (fun e => ?_) (fun e2 => ?_)
  · exact hE (fun z => by have := z.1; omega) _ (Same.refl _)
  walk_at "st"
  refine Pm.w_lenL (SqL.of hrv) ?_
  walk_at "st"
  refine Pm.w_iteN (fun e => ?_) (fun e3 => ?_)
  · exact hE (fun z => by have := z.2.1; omega) _ (Same.refl _)
  walk_at "st"
  refine Pm.w_rdL (SqL.of hrv) ?_
  refine Pm.w_lcLf (R := Pr) pr_mono (S := Pr) pr_mono (SqL.of hrv) hpr tied (fun _ => true) (by omega) (fun D x p H1 Nx hD hm hs s1 put skip => ?_) (fun D H1 ws hD s1 hd ha => ?_)
  · obtain ⟨t, rfl, ht⟩ := hs
    walk_at "st"
    refine Pm.w_ixT (SqT.of ht) (atI2 _ _).1 ?_
    walk_at "st"
    refine Pm.w_ixT (SqT.of ht) (atI2 _ _).2 ?_
    walk_at "st"
    exact ⟨_, _, rfl, fun u H2 s2 nu hu => put _ _ rfl s2 hu⟩
  rw [List.filter_eq_self.mpr (fun _ _ => rfl)] at ha
  walk_at "st"
  refine Pm.w_sortP (SqL.of hd) ha (fun ys c hc hy => ?_)
  have s2 := s1.trans (same_new hc (.lst ys))
  have hHc : H c = none := s1.free hc
  have hc2 : upd H1 c (.lst ys) c = some (.lst ys) := upd_same
  have hy2 := prs_keep (keeps (same_new hc (.lst ys))) hy
  generalize upd H1 c (.lst ys) = H2 at s2 hc2 hy2
  generalize hcut : sortP (ps.map tied) = cut at hy2
  have ko : KeptOk n ps ↔ GoodP n cut := by
    unfold KeptOk
    rw [hcut]
    exact ⟨fun z => z.2.2, fun z => ⟨⟨by omega, by omega⟩, by omega, z⟩⟩
  have clen : ys.length = cut.length := hy2.length
  have cle : cut.length = ps.length := by rw [← hcut, sortP_len, List.length_map]
  walk_at "st"
  refine Pm.w_lenL (SqL.of hc2) ?_
  walk_at "st"
  rw [Int.toNat_natCast]
  refine Pm.w_forR (fun i σ H3 => ∃ x y z, σ = [some (.int n), some (.ref r), some (.ref c), x, y, z] ∧ Same H2 H3 ∧ GoodP n (cut.take i)) ⟨_, _, _, rfl, Same.refl _, by rw [List.take_zero]; exact good_nil n⟩ ?_ ?_
  · rintro i σ H3 hi ⟨x, y, z, rfl, s3, hg⟩
    obtain ⟨p, hp, t, et, ht⟩ := hy2.get (List.getElem?_eq_getElem hi)
    have hat : atI ys (0 + (i : Int)) = some (.ref t) := by rw [Int.zero_add]; exact atI_nat (by rw [List.getElem?_eq_getElem hi, et])
    have cH3 := s3 _ _ hc2
    have tak : cut.take (i + 1) = cut.take i ++ [p] := by rw [List.take_add_one, hp] <;> rfl
    have bad : (¬ ropeOk n p ∨ ∃ p' ∈ cut.take i, ¬ okPair p' p) → ¬ KeptOk n ps := fun z k => by
      have g := good_take (k := i + 1) (ko.mp k)
      rw [tak, good_snoc] at g
      rcases z with z | ⟨p', h1, h2⟩
      · exact z g.2.1
      · exact h2 (g.2.2 p' h1)
    walk_at "st"
    refine Pm.w_ixL (SqL.of cH3) hat ?_
    walk_at "st"
    refine ⟨n, t, p, rfl, ⟨t, rfl, s3 _ _ ht⟩, ?_⟩
    walk_at "st"
    refine Pm.w_iteN (fun e => ?_) (fun e => ?_)
    · exact hE (bad (.inl e)) _ (s2.trans s3)
    walk_at "st"
    refine Pm.w_slL (SqL.of cH3) (fun g hg' => ?_)
    have s4 := s3.trans (same_new hg' (.lst (cutV ys none (some (0 + (i : Int))))))
    have es : cutV ys none (some (0 + (i : Int))) = ys.take i := by rw [cut_take (by omega) (by omega), show (0 + (i : Int)).toNat = i by omega]
    rw [es] at s4 ⊢
    have pt := (prs_keep (keeps s4) hy2).take i
    refine Pm.w_rdL (SqL.of upd_same) ?_
    refine Pm.w_forL (xs := ys.take i) (fun j σ H5 => ∃ z, σ = [some (.int n), some (.ref r), some (.ref c), x, some (.int (0 + (i : Int))), z] ∧ H5 = upd H3 g (.lst (ys.take i)) ∧ ∀ p' ∈ (cut.take i).take j, okPair p' p) ?_ ?_ ?_ ?_
    · exact ⟨_, rfl, rfl, fun p' hp' => by rw [List.take_zero] at hp'; exact absurd hp' List.not_mem_nil⟩
    · rintro j σ H5 _ ⟨z, _, e5, _⟩
      rw [e5]; exact SqL.of upd_same
    · rintro j x' σ H5 hx ⟨z, rfl, rfl, hok⟩
      obtain ⟨p', hp', t', rfl, ht'⟩ := pt.get hx
      have mp' : p' ∈ cut.take i := List.mem_of_getElem? hp'
      have cH5 := s4 _ _ hc2
      have tak2 : (cut.take i).take (j + 1) = (cut.take i).take j ++ [p'] := by rw [List.take_add_one, hp'] <;> rfl
      walk_at "st"
      refine Pm.w_ixL (SqL.of cH5) hat ?_
      walk_at "st"
      refine Pm.w_eqP ⟨t', rfl, ht'⟩ ⟨t, rfl, s4 _ _ ht⟩ ?_
      walk_at "st"
      refine Pm.w_ite (fun e1 => ?_) (fun e1 => ?_)
      · exact hE (bad (.inr ⟨p', mp', fun z => z.1 e1⟩)) _ (s2.trans s4)
      walk_at "st"
      refine Pm.w_ixL (SqL.of cH5) hat ?_
      walk_at "st"
      refine ⟨t', t, p'.1, p'.2, p.1, p.2, rfl, SqT.of ht', SqT.of (s4 _ _ ht), ?_⟩
      walk_at "st"
      refine Pm.w_ite (fun e2 => ?_) (fun e2 => ?_)
      · exact hE (bad (.inr ⟨p', mp', fun z => z.2 e2⟩)) _ (s2.trans s4)
      walk_at "st"
      refine ⟨_, rfl, rfl, fun p2 hp2 => ?_⟩
      rw [tak2] at hp2
      rcases List.mem_append.mp hp2 with h | h
      · exact hok p2 h
      · rw [List.mem_singleton.mp h]; exact ⟨e1, e2⟩
    · rintro σ H5 ⟨z, rfl, rfl, hok⟩
      rw [List.take_of_length_le (l := cut.take i) (by rw [List.length_take, List.length_take, clen]; exact Nat.le_refl _)] at hok
      refine ⟨_, _, _, rfl, s4, ?_⟩
      rw [tak, good_snoc]
      exact ⟨hg, e, hok⟩
  · rintro σ H3 ⟨x, y, z, rfl, s3, hg⟩
    rw [clen, List.take_length] at hg
    walk_at "st"
    have q := q (ko.mpr hg)
    rw [hcut] at q
    exact q c _ ys (s2.trans s3) hHc (s3 _ _ hc2) (prs_keep (keeps s3) hy2)
end
section
variable {P : Program} {w : World} {K : PySem.W.Frag} {mg : Str → Option Value} {base : Heap}
theorem sub_full : ∀ {l m : List IP}, l.Nodup → (∀ x ∈ l, x ∈ m) → m.length ≤ l.length → ∀ x ∈ m, x ∈ l
  | [], m, _, _, h, x, hx => by
    have : m = [] := List.length_eq_zero_iff.mp (Nat.le_zero.mp h)
    rw [this] at hx
    exact hx
  | a :: r, m, nd, sub, h, x, hx => by
    have ⟨n1, n2⟩ := List.nodup_cons.mp nd
    have am : a ∈ m := sub a List.mem_cons_self
    have ml : (m.erase a).length = m.length - 1 := List.length_erase_of_mem am
    have ih := sub_full (m := m.erase a) n2 (fun y hy => (List.mem_erase_of_ne (show y ≠ a from fun e => n1 (by rw [← e]; exact hy))).mpr (sub y (List.mem_cons_of_mem _ hy))) (by rw [List.length_cons] at h; omega)
    by_cases e : x = a
    · rw [e]; exact List.mem_cons_self
    · exact List.mem_cons_of_mem _ (ih x ((List.mem_erase_of_ne e).mpr hx))
/-- what sized_by lets by -/
def SzOk (n : Nat) (cut : List IP) (ks : List IP) (L : IP → IP) : Prop := (∀ p, p ∈ ks ↔ p ∈ tiesL n cut) ∧ ∀ p ∈ ks, lenOk (L p)
theorem szOk_iff {n : Nat} {cut : List IP} {ks : List IP} {L : IP → IP} (nd : (tiesL n cut).Nodup) (nk : ks.Nodup) : SzOk n cut ks L ↔ (∀ p ∈ tiesL n cut, p ∈ ks ∧ lenOk (L p)) ∧ ks.length = (tiesL n cut).length := by
  constructor
  · rintro ⟨h1, h2⟩
    exact ⟨fun p hp => ⟨(h1 p).mpr hp, h2 p ((h1 p).mpr hp)⟩, perm_len nk nd h1⟩
  · rintro ⟨h1, h2⟩
    have up : ∀ p ∈ ks, p ∈ tiesL n cut := sub_full nd (fun p hp => (h1 p hp).1) (by omega)
    exact ⟨fun p => ⟨up p, fun hp => (h1 p hp).1⟩, fun p hp => (h1 p (up p hp)).2⟩
def spSizedBy (K : PySem.W.Frag) (C : Addr) : Sp := fun vs H Q E => ∃ (n : Nat) (c d : Addr) (cut ks : List IP) (L : IP → IP), vs = [.int n, .ref c, .ref d] ∧ 1 ≤ n ∧ n ≤ 1000 ∧ PLt H c cut ∧ cut.length ≤ 1000 ∧ (tiesL n cut).Nodup ∧ LD K H d ks L ∧
  (¬ SzOk n cut ks L → ∀ H', Same H H' → E (.ref C) none H') ∧ (SzOk n cut ks L → ∀ (g : Addr) (H' : Hp), Same H H' → H g = none → LD K H' g (tiesL n cut) L → Q (.ref g) H')
theorem ok_sized_by (T : Tx P K mg base) : FnOk P w K mg base (L2N.CX P w) 44 T.a_sized_by T.fd_sized_by ["n", "cut", "lengths"] (spSizedBy K T.c_BadLength) := by
  refine T.F_sized_by.okXN sc_sized_by (fun vs H Q E h => ?_) (fun cdv A outer s H vs Q E hr h => ?_)
  · obtain ⟨n, c, d, cut, ks, L, rfl, _⟩ := h
    rfl
  obtain ⟨n, c, d, cut, ks, L, rfl, n1, n2, hc, cl, nd, hL, hE, q⟩ := h
  have tl : (tiesL n cut).length ≤ 3000 := by rw [tiesL, sortP_len, List.length_append, sides0_len (by omega)]; omega
  rw [szOk_iff nd hL.nd] at hE q
  refine ⟨_, (pss_cons (ps_set (i := 3) sc_sized_by.nd rfl (.inl rfl) (pe_dnewT))
      (pss_cons (ps_for (passes_of rfl) rfl (k_il (K := K) (pi_list (pe_call (ok_ties T) (hr.mono (by decide)) (by rfl) T.g_ties T.F_ties.kp T.b_ties .nil pass0 (pa_cons (pv 0) (pa_cons (pv 1) pa_nil))))) (pg_name (i := 4) sc_sized_by.nd rfl (.inl rfl)) (pss_cons (ps_if (PW.pt (pw_or (pt_cmp (pc_dnotin (hu_of hr) (pv 4) (pv 2))) (pw_or1 (pt_not (pt_val (pe_call (ok_is_length T) (hr.mono (by decide)) (by rfl) T.g_is_length T.F_is_length.kp T.b_is_length .nil pass0 (pa_cons (pe_dget (hu_of hr) (pv 2) (pv 4) (fun _ _ => rfl)) pa_nil))))))) (pss_one (L2N.ps_raise rfl (L2N.takes_of rfl rfl rfl rfl) (L2N.pmk_own PySem.F.excBase_ValueError T.x_BadLength T.g_BadLength T.k_BadLength (raises_own T.b_BadLength T.t_BadLength) rfl))) pss_nil)
      (pss_one (ps_dput (hu_of hr) (pv 3) (pv 4) (pe_dget (hu_of hr) (pv 2) (pv 4) (fun _ _ => rfl)) rfl))))
      (pss_cons (ps_if (pt_cmpR op_ne (pe_callB call_len_dT (by rfl) T.m_len PySem.boot_len (pa_cons (pv 2) pa_nil)) (pe_callB call_len_dT (by rfl) T.m_len PySem.boot_len (pa_cons (pv 3) pa_nil)) (nomark _)) (pss_one (L2N.ps_raise rfl (L2N.takes_of rfl rfl rfl rfl) (L2N.pmk_own PySem.F.excBase_ValueError T.x_BadLength T.g_BadLength T.k_BadLength (raises_own T.b_BadLength T.t_BadLength) rfl))) pss_nil)
      (pss_one (ps_ret (pv 3)))))), ?_⟩
  walk_at "st"
  refine Pm.w_dnewT (fun g hg => ?_)
  have s1 := same_new hg (.dT [])
  have hgd : g ≠ d := by
    obtain ⟨_, es3, h1, _⟩ := hL
    exact (ne_of_none h1 hg).symm
  walk_at "st"
  refine ⟨n, c, cut, rfl, by omega, n2, hc.same s1, cl, fun l H2 ws s2 nl hl hpl => ?_⟩
  have s12 := s1.trans s2
  have nlg : g ≠ l := ne_of_none upd_same nl
  refine Pm.w_rdL (SqL.of hl) ?_
  refine Pm.w_forL (xs := ws) (fun i σ H4 => ∃ x, σ = [some (.int n), some (.ref c), some (.ref d), some (.ref g), x] ∧ Same H H4 ∧ H4 l = some (.lst ws) ∧ Prs H4 ws (tiesL n cut) ∧ LD K H4 g ((tiesL n cut).take i) L ∧ ∀ p ∈ (tiesL n cut).take i, p ∈ ks ∧ lenOk (L p)) ⟨_, rfl, s12, hl, hpl, by rw [List.take_zero]; exact ld_nil (s2 _ _ upd_same) _, by rw [List.take_zero]; exact fun p h => nomatch h⟩ (fun i σ H4 _ ⟨x, _, _, h, _⟩ => SqL.of h) ?_ ?_
  · rintro i v σ H4 hi ⟨x, rfl, s4, hl4, hpl4, hg4, hal⟩
    obtain ⟨k, hk, hv⟩ := hpl4.get hi
    obtain ⟨b, rfl, hb⟩ := hv
    have hb : Pr H4 (.ref b) k := ⟨b, rfl, hb⟩
    have mk := List.mem_of_getElem? hk
    have ktk : (tiesL n cut).take (i + 1) = (tiesL n cut).take i ++ [k] := by rw [List.take_add_one, hk] <;> rfl
    have hL4 := hL.same s4
    walk_at "st"
    refine w_ldNotIn hL4 hb ?_
    walk_at "st"
    rcases (show k ∉ ks ∨ k ∈ ks from (Classical.em _).symm) with kin | kin
    · rw [decide_eq_false kin]
      walk_at "st"
      exact hE (fun z => kin (z.1 k mk).1) _ s4
    rw [decide_eq_true kin]
    walk_at "st"
    refine w_ldGet hL4 hb kin (fun u hu => ?_)
    walk_at "st"
    refine ⟨u, _, rfl, hu, ?_⟩
    walk_at "st"
    refine Pm.w_iteN (fun e => ?_) (fun lk => ?_)
    · exact hE (fun z => e (z.1 k mk).2) _ s4
    walk_at "st"
    refine w_ldGet hL4 hb kin (fun u2 hu2 => ?_)
    walk_at "st"
    refine w_ldPut hg4 hb hu2 (by rw [List.length_take]; omega) (fun es5 hL5 kp5 => ?_)
    have knot : k ∉ (tiesL n cut).take i := fun z => by
      have e1 : ((tiesL n cut).take (i + 1)).Nodup := nd.sublist (List.take_sublist _ _)
      rw [ktk, List.nodup_append] at e1
      exact e1.2.2 k z k List.mem_cons_self rfl
    refine ⟨_, rfl, same_but hg s4, by rw [upd_ne nlg.symm]; exact hl4, prs_keep kp5 hpl4, ?_, ?_⟩
    · rw [ktk, ← putk_new knot]
      refine hL5.congr fun j hj => ?_
      by_cases e : j = k
      · rw [e, updF_same]
      · rw [updF_ne e]
    · rw [ktk]
      intro p hp
      rcases List.mem_append.mp hp with z | z
      · exact hal p z
      · rw [List.mem_singleton.mp z]
        exact ⟨kin, lk⟩
  · rintro σ H4 ⟨x, rfl, s4, hl4, hpl4, hg4, hal⟩
    rw [hpl.length, List.take_length] at hg4 hal
    walk_at "st"
    refine w_ldLen (hL.same s4) ?_
    walk_at "st"
    refine w_ldLen hg4 ?_
    walk_at "st"
    refine Pm.w_iteN (fun e => ?_) (fun e => ?_)
    · exact hE (fun z => e (by rw [z.2])) _ s4
    · walk_at "st"
      exact q ⟨hal, by omega⟩ g _ s4 hg hg4
def spPosts (K : PySem.W.Frag) (C : Addr) : Sp := fun vs H Q _ => ∃ (p : Addr) (H0 Hs : Hp) (S : Ms) (P A : List (Deed × Ms)), vs = [.ref p] ∧ MeadAt K C H0 Hs H p S P A ∧ Q (.int S.n) H
theorem ok_Mead_posts (T : Tx P K mg base) : FnOk P w K mg base CX0 41 T.a_Mead_posts T.fd_Mead_posts ["self"] (spPosts K T.c_Mead) := by
  refine T.F_Mead_posts.ok sc_Mead_posts (fun vs H Q E h => ?_) (fun cdv A outer s H vs Q E hr h => ?_)
  · obtain ⟨p, H0, Hs, S, P, A, rfl, _⟩ := h
    rfl
  obtain ⟨p, H0, Hs, S, P, A, rfl, M, q⟩ := h
  obtain ⟨dx, lp, la, c, d, vs, us, p0, l0, a0, ps, ls, as, nla, hp, hlp, hla, hc, hd, hP, hA⟩ := M.ex
  refine ⟨_, (pss_one (ps_ret (k_fld (K := K) (pe_fld (pv 0) rfl)))), ?_⟩
  walk_at "st"
  refine w_fldAt hp T.cl_Mead T.n_Mead_many (mf_many _ _ _ _ _) ?_
  exact q
def spMRopes (K : PySem.W.Frag) (C : Addr) : Sp := fun vs H Q _ => ∃ (p : Addr) (H0 Hs : Hp) (S : Ms) (P A : List (Deed × Ms)), vs = [.ref p] ∧ MeadAt K C H0 Hs H p S P A ∧ ∀ (l : Addr) (H' : Hp), Same H H' → H l = none → PLt H' l S.cut → Q (.ref l) H'
theorem ok_Mead_ropes (T : Tx P K mg base) : FnOk P w K mg base CX0 41 T.a_Mead_ropes T.fd_Mead_ropes ["self"] (spMRopes K T.c_Mead) := by
  refine T.F_Mead_ropes.ok sc_Mead_ropes (fun vs H Q E h => ?_) (fun cdv A outer s H vs Q E hr h => ?_)
  · obtain ⟨p, H0, Hs, S, P, A, rfl, _⟩ := h
    rfl
  obtain ⟨p, H0, Hs, S, P, A, rfl, M, q⟩ := h
  obtain ⟨dx, lp, la, c, d, vs, us, p0, l0, a0, ps, ls, as, nla, hp, hlp, hla, hc, hd, hP, hA⟩ := M.ex
  obtain ⟨cv, hcv, hpv⟩ := hc.same M.ss
  refine ⟨_, (pss_one (ps_ret (pe_callTy (c_listOf (K := K)) (by rfl) T.m_list (by decide +kernel) (pa_cons (k_fld (K := K) (pe_fld (pv 0) rfl)) pa_nil)))), ?_⟩
  walk_at "st"
  refine w_fldAt hp T.cl_Mead T.n_Mead_cut (mf_cut _ _ _ _ _) ?_
  walk_at "st"
  refine Pm.w_listOf (SqL.of hcv) (fun y hy => ?_)
  exact q y _ (same_new hy _) hy ⟨cv, upd_same, prs_keep (keeps (same_new hy _)) hpv⟩
def spMLengths (K : PySem.W.Frag) (C : Addr) : Sp := fun vs H Q _ => ∃ (p : Addr) (H0 Hs : Hp) (S : Ms) (P A : List (Deed × Ms)), vs = [.ref p] ∧ MeadAt K C H0 Hs H p S P A ∧ ∀ (g : Addr) (H' : Hp), Same H H' → H g = none → DLs K H' g S → Q (.ref g) H'
theorem ok_Mead_lengths (T : Tx P K mg base) : FnOk P w K mg base CX0 41 T.a_Mead_lengths T.fd_Mead_lengths ["self"] (spMLengths K T.c_Mead) := by
  refine T.F_Mead_lengths.ok sc_Mead_lengths (fun vs H Q E h => ?_) (fun cdv A outer s H vs Q E hr h => ?_)
  · obtain ⟨p, H0, Hs, S, P, A, rfl, _⟩ := h
    rfl
  obtain ⟨p, H0, Hs, S, P, A, rfl, M, q⟩ := h
  obtain ⟨dx, lp, la, c, d, vs, us, p0, l0, a0, ps, ls, as, nla, hp, hlp, hla, hc, hd, hP, hA⟩ := M.ex
  obtain ⟨ks, h1, h2, h3, h4⟩ := hd.same M.ss
  refine ⟨_, (pss_one (ps_ret (pe_callTy (call_dictT hr.u2) (by rfl) T.m_dict (by decide +kernel) (pa_cons (k_fld (K := K) (pe_fld (pv 0) rfl)) pa_nil)))), ?_⟩
  walk_at "st"
  refine w_fldAt hp T.cl_Mead T.n_Mead_sized (mf_sized _ _ _ _ _) ?_
  walk_at "st"
  refine w_ldDict h1 h3 (fun g es hg hLg => ?_)
  exact q g _ (same_new hg _) hg ⟨ks, hLg, h2, h3, h4⟩
/-- all but one object stand as they were -/
def SameX (p : Addr) (H H' : Hp) : Prop := ∀ b o, b ≠ p → H b = some o → H' b = some o
end
section
variable {P : Program} {w : World} {K : PySem.W.Frag} {mg : Str → Option Value} {base : Heap}
theorem SameX.keeps {p C dx : Addr} {fs : List (Str × V)} {H H' : Hp} (h : SameX p H H') (hp : H p = some (.ins C dx fs)) : Keeps H H' := fun b xs e => h b _ (ne_of e hp (fun z => nomatch z)) e
theorem SameX.put {p : Addr} {H H' : Hp} {o : HO} (h : SameX p H H') : SameX p H (upd H' p o) := fun b u nb e => by rw [upd_ne nb]; exact h b u nb e
theorem SameX.step {p : Addr} {H H' H2 : Hp} (h : SameX p H H') (s : Same H' H2) : SameX p H H2 := fun b u nb e => s _ _ (h b u nb e)
theorem SameX.plt {p C dx : Addr} {fs : List (Str × V)} {H H' : Hp} {c : Addr} {ps : List IP} (h : SameX p H H') (hp : H p = some (.ins C dx fs)) (hc : PLt H c ps) : PLt H' c ps := hc.keep (h.keeps hp) (by
  obtain ⟨xs, h1, _⟩ := hc
  rw [h c _ (ne_of h1 hp (fun z => nomatch z)) h1, h1])
theorem SameX.ld {p C dx : Addr} {fs : List (Str × V)} {H H' : Hp} {d : Addr} {ks : List IP} {L : IP → IP} (h : SameX p H H') (hp : H p = some (.ins C dx fs)) (hd : LD K H d ks L) : LD K H' d ks L := hd.keep (o := .tup []) (h.keeps hp) (by
  obtain ⟨_, xs, h1, _⟩ := hd
  rw [h d _ (ne_of h1 hp (fun z => nomatch z)) h1, h1])
theorem gone_put {p b : Addr} {H : Hp} {o u : HO} (hp : H p = some u) (h : upd H p o b = none) : H b = none := by
  by_cases z : b = p
  · rw [z, upd_same] at h; cases h
  · rw [upd_ne z] at h; exact h
def spInit (K : PySem.W.Frag) (C C1 C2 : Addr) : Sp := fun vs H Q E => ∃ (p r d dx : Addr) (n : Int) (ps ks : List IP) (L : IP → IP) (H0 : Hp), vs = [.ref p, .int n, .ref r, .ref d] ∧ H p = some (.ins C dx []) ∧ Same H0 H ∧ H0 p = none ∧ Keeps H H0 ∧ PLt H r ps ∧ ps.length ≤ 400000 ∧ LD K H d ks L ∧
  (¬ KeptOk n ps → ∀ H', E (.ref C1) none H') ∧
  (KeptOk n ps → ∃ (nn : Nat) (t : Tr), n = nn ∧ nn ≤ 12 ∧ Cutting nn (sortP (ps.map tied)) t ∧ (¬ SzOk nn (sortP (ps.map tied)) ks L → ∀ H', E (.ref C2) none H') ∧
    (SzOk nn (sortP (ps.map tied)) ks L → ∃ S : Ms, S.n = nn ∧ S.cut = sortP (ps.map tied) ∧ (∀ k ∈ tiesL nn (sortP (ps.map tied)), L k = rp (S.D k.1.toNat k.2.toNat)) ∧ ∀ (H0' Hs' H' : Hp), Same H0 H0' → MeadAt K C H0' Hs' H' p S [] [] → Q .non H'))
theorem ok_Mead___init__ (T : Tx P K mg base) : FnOk P w K mg base (L2N.CX P w) 45 T.a_Mead___init__ T.fd_Mead___init__ ["self", "n", "ropes", "lengths"] (spInit K T.c_Mead T.c_NoCutting T.c_BadLength) := by
  refine T.F_Mead___init__.okXN sc_Mead___init__ (fun vs H Q E h => ?_) (fun cdv A outer s H vs Q E hr h => ?_)
  · obtain ⟨p, r, d, dx, n, ps, ks, L, H0, rfl, _⟩ := h
    rfl
  obtain ⟨p, r, d, dx, n, ps, ks, L, H0, rfl, hp, s0, p0, k0, hr0, pl, hL, hE1, q⟩ := h
  refine ⟨_, (pss_cons (k_sfld (K := K) (ps_fld (pv 0) (pe_call (ok_kept T) (hr.mono (by decide)) (by rfl) T.g_kept T.F_kept.kp T.b_kept .nil (L2N.passes_call (L2N.takes_of rfl rfl rfl rfl) (fun _ _ _ _ h => h)) (pa_cons (pv 1) (pa_cons (pv 2) pa_nil))) rfl))
      (pss_cons (k_sfld (K := K) (ps_fld (pv 0) (pv 1) rfl))
      (pss_cons (k_sfld (K := K) (ps_fld (pv 0) (pe_call (ok_sized_by T) (hr.mono (by decide)) (by rfl) T.g_sized_by T.F_sized_by.kp T.b_sized_by .nil (L2N.passes_call (L2N.takes_of rfl rfl rfl rfl) (fun _ _ _ _ h => h)) (pa_cons (pv 1) (pa_cons (k_fld (K := K) (pe_fld (pv 0) rfl)) (pa_cons (pv 3) pa_nil)))) rfl))
      (pss_cons (k_sfld (K := K) (ps_fld (pv 0) (pe_lst pa_nil) rfl))
      (pss_one (k_sfld (K := K) (ps_fld (pv 0) (pe_lst pa_nil) rfl))))))), ?_⟩
  walk_at "st"
  refine ⟨n, r, ps, rfl, hr0, pl, fun z H' _ => hE1 z H', fun ok c H1 cv s1 nc hc hpc => ?_⟩
  obtain ⟨nn, t, rfl, n12, C, hE2, q⟩ := q ok
  generalize sortP (ps.map tied) = cut at *
  have cl := C.cut_len
  have n3 := C.n3
  walk_at "st"
  refine w_sfldAt (s1 _ _ hp) T.cl_Mead T.n_Mead_cut (by show 0 < 1000; decide) ?_
  have sx1 : SameX p H (upd H1 p (.ins T.c_Mead dx (putF "cut" (.ref c) []))) := SameX.put fun b o nb e => s1 _ _ e
  have ncp : c ≠ p := ne_of hc (s1 _ _ hp) (fun z => nomatch z)
  have kx1 : Keeps H1 (upd H1 p (.ins T.c_Mead dx (putF "cut" (.ref c) []))) := fun b xs e => by rw [upd_ne (ne_of e (s1 _ _ hp) (fun z => nomatch z))]; exact e
  have hc1 : PLt (upd H1 p (.ins T.c_Mead dx (putF "cut" (.ref c) []))) c cut := ⟨cv, by rw [upd_ne ncp]; exact hc, prs_keep kx1 hpc⟩
  have hp1 : upd H1 p (.ins T.c_Mead dx (putF "cut" (.ref c) [])) p = some (.ins T.c_Mead dx (putF "cut" (.ref c) [])) := upd_same
  have n1 : ∀ b, upd H1 p (.ins T.c_Mead dx (putF "cut" (.ref c) [])) b = none → H b = none := fun b e => s1.free (gone_put (s1 _ _ hp) e)
  generalize upd H1 p (.ins T.c_Mead dx (putF "cut" (.ref c) [])) = H2 at sx1 hc1 hp1 n1 ⊢
  walk_at "st"
  refine w_sfldAt hp1 T.cl_Mead T.n_Mead_many (by show 1 < 1000; decide) ?_
  have sx2 : SameX p H (upd H2 p (.ins T.c_Mead dx (putF "many" (.int nn) (putF "cut" (.ref c) [])))) := sx1.put
  have sy2 : SameX p H2 (upd H2 p (.ins T.c_Mead dx (putF "many" (.int nn) (putF "cut" (.ref c) [])))) := SameX.put fun b o nb e => e
  have hc2 := sy2.plt hp1 hc1
  have hp2 : upd H2 p (.ins T.c_Mead dx (putF "many" (.int nn) (putF "cut" (.ref c) []))) p = some (.ins T.c_Mead dx (putF "many" (.int nn) (putF "cut" (.ref c) []))) := upd_same
  have n2 : ∀ b, upd H2 p (.ins T.c_Mead dx (putF "many" (.int nn) (putF "cut" (.ref c) []))) b = none → H b = none := fun b e => n1 b (gone_put hp1 e)
  generalize upd H2 p (.ins T.c_Mead dx (putF "many" (.int nn) (putF "cut" (.ref c) []))) = H3 at sx2 sy2 hc2 hp2 n2 ⊢
  have hL3 := sx2.ld hp hL
  walk_at "st"
  refine w_fldAt hp2 T.cl_Mead T.n_Mead_cut (v := .ref c) (by rw [show putF "many" (V.int nn) (putF "cut" (V.ref c) []) = ([("cut", .ref c), ("many", .int nn)] : List (Str × V)) from by rw [show putF "cut" (V.ref c) [] = ([("cut", .ref c)] : List (Str × V)) from rfl, pf_cons (by decide +kernel)]; rfl]; exact lk_here) ?_
  walk_at "st"
  refine ⟨nn, c, d, cut, ks, L, rfl, by omega, by omega, hc2, by omega, C.ties_nodup, hL3, fun z H' _ => hE2 z H', fun ok2 g H4 s4 ng hg => ?_⟩
  obtain ⟨⟨Sn, Sc, SD⟩, eS1, eS2, eS3, q2⟩ := q ok2
  have eS1 : nn = Sn := eS1.symm
  have eS2 : cut = Sc := eS2.symm
  subst eS1 eS2
  walk_at "st"
  refine w_sfldAt (s4 _ _ hp2) T.cl_Mead T.n_Mead_sized (by show 2 < 1000; decide) ?_
  have ngp : g ≠ p := (ne_of_none hp2 ng).symm
  have sx4 : SameX p H (upd H4 p (.ins T.c_Mead dx (putF "sized" (.ref g) (putF "many" (.int nn) (putF "cut" (.ref c) []))))) := (sx2.step s4).put
  have sy4 : SameX p H4 (upd H4 p (.ins T.c_Mead dx (putF "sized" (.ref g) (putF "many" (.int nn) (putF "cut" (.ref c) []))))) := SameX.put fun b o nb e => e
  have hc4 := sy4.plt (s4 _ _ hp2) (hc2.same s4)
  have hg4 := sy4.ld (s4 _ _ hp2) hg
  have hp4 : upd H4 p (.ins T.c_Mead dx (putF "sized" (.ref g) (putF "many" (.int nn) (putF "cut" (.ref c) [])))) p = some (.ins T.c_Mead dx (putF "sized" (.ref g) (putF "many" (.int nn) (putF "cut" (.ref c) [])))) := upd_same
  have n4 : ∀ b, upd H4 p (.ins T.c_Mead dx (putF "sized" (.ref g) (putF "many" (.int nn) (putF "cut" (.ref c) [])))) b = none → H b = none := fun b e => n2 b (s4.free (gone_put (s4 _ _ hp2) e))
  generalize upd H4 p (.ins T.c_Mead dx (putF "sized" (.ref g) (putF "many" (.int nn) (putF "cut" (.ref c) [])))) = H5 at sx4 sy4 hc4 hg4 hp4 n4 ⊢
  walk_at "st"
  refine Pm.w_newL (fun l1 hl1 => ?_)
  have s6 := same_new hl1 (.lst [])
  walk_at "st"
  refine w_sfldAt (s6 _ _ hp4) T.cl_Mead T.n_Mead_past (by show 3 < 1000; decide) ?_
  have nl1p : l1 ≠ p := (ne_of_none hp4 hl1).symm
  have nl1c : c ≠ l1 := by obtain ⟨xs, h, _⟩ := hc4; exact ne_of_none h hl1
  have sx6 : SameX p H (upd (upd H5 l1 (.lst [])) p (.ins T.c_Mead dx (putF "past" (.ref l1) (putF "sized" (.ref g) (putF "many" (.int nn) (putF "cut" (.ref c) [])))))) := (sx4.step s6).put
  have sy6 : SameX p (upd H5 l1 (.lst [])) (upd (upd H5 l1 (.lst [])) p (.ins T.c_Mead dx (putF "past" (.ref l1) (putF "sized" (.ref g) (putF "many" (.int nn) (putF "cut" (.ref c) [])))))) := SameX.put fun b o nb e => e
  have hc6 := sy6.plt (s6 _ _ hp4) (hc4.same s6)
  have hg6 := sy6.ld (s6 _ _ hp4) (hg4.same s6)
  have hl16 := sy6 l1 _ nl1p upd_same
  have hp6 : upd (upd H5 l1 (.lst [])) p (.ins T.c_Mead dx (putF "past" (.ref l1) (putF "sized" (.ref g) (putF "many" (.int nn) (putF "cut" (.ref c) []))))) p = some (.ins T.c_Mead dx (putF "past" (.ref l1) (putF "sized" (.ref g) (putF "many" (.int nn) (putF "cut" (.ref c) []))))) := upd_same
  have n6 : ∀ b, upd (upd H5 l1 (.lst [])) p (.ins T.c_Mead dx (putF "past" (.ref l1) (putF "sized" (.ref g) (putF "many" (.int nn) (putF "cut" (.ref c) []))))) b = none → H b = none := fun b e => n4 b (s6.free (gone_put (s6 _ _ hp4) e))
  have f1 : H l1 = none := n4 _ hl1
  generalize upd (upd H5 l1 (.lst [])) p (.ins T.c_Mead dx (putF "past" (.ref l1) (putF "sized" (.ref g) (putF "many" (.int nn) (putF "cut" (.ref c) []))))) = H6 at sx6 sy6 hc6 hg6 hl16 hp6 n6 ⊢
  walk_at "st"
  refine Pm.w_newL (fun l2 hl2 => ?_)
  have s7 := same_new hl2 (.lst [])
  walk_at "st"
  refine w_sfldAt (s7 _ _ hp6) T.cl_Mead T.n_Mead_ahead (by show 4 < 1000; decide) ?_
  rw [mf_new]
  have nl2p : l2 ≠ p := (ne_of_none hp6 hl2).symm
  have nl2c : c ≠ l2 := by obtain ⟨xs, h, _⟩ := hc6; exact ne_of_none h hl2
  have n12' : l1 ≠ l2 := ne_of_none hl16 hl2
  have sx7 : SameX p H (upd (upd H6 l2 (.lst [])) p (.ins T.c_Mead dx (mf (.ref c) (.int nn) (.ref g) (.ref l1) (.ref l2)))) := (sx6.step s7).put
  have sy7 : SameX p (upd H6 l2 (.lst [])) (upd (upd H6 l2 (.lst [])) p (.ins T.c_Mead dx (mf (.ref c) (.int nn) (.ref g) (.ref l1) (.ref l2)))) := SameX.put fun b o nb e => e
  have hc7 := sy7.plt (s7 _ _ hp6) (hc6.same s7)
  have hg7 := sy7.ld (s7 _ _ hp6) (hg6.same s7)
  have hl17 := sy7 l1 _ nl1p (s7 _ _ hl16)
  have hl27 := sy7 l2 _ nl2p upd_same
  have f2 : H l2 = none := n6 _ hl2
  have fc : H c = none := nc
  have fg : H g = none := n2 _ ng
  walk_at "st"
  have s07 : Same H0 (upd (upd H6 l2 (.lst [])) p (.ins T.c_Mead dx (mf (.ref c) (.int nn) (.ref g) (.ref l1) (.ref l2)))) := fun b o e => sx7 b o (ne_of_none e p0) (s0 _ _ e)
  have z0 : ∀ b, H b = none → H0 b = none := fun b e => s0.free e
  have hd7 : DLs K (upd (upd H6 l2 (.lst [])) p (.ins T.c_Mead dx (mf (.ref c) (.int nn) (.ref g) (.ref l1) (.ref l2)))) g ⟨nn, Sc, SD⟩ := by
    refine ⟨_, hg7.congr fun k hk => (eS3 k hk).symm, fun _ => Iff.rfl, fun k hk => small_tie' C n12 hk, ?_⟩
    rw [C.ties_len']
    omega
  obtain ⟨H0', Hs', r1, _, r3⟩ := mead_mk (K := K) (C := T.c_Mead) (S := ⟨nn, Sc, SD⟩) (P := []) (A := []) (Hs := fun _ => none) s07 (fun _ _ e => nomatch e) (fun _ _ e => nomatch e) p0 (z0 _ f1) (z0 _ f2) rfl rfl rfl n12' upd_same hl17 hl27 hc7 (z0 _ fc) nl1c nl2c hd7 (z0 _ fg) (fun _ _ _ _ => ⟨trivial, trivial⟩)
  exact q2 H0' Hs' _ r1 r3
end
section
variable {P : Program} {w : World} {K : PySem.W.Frag} {mg : Str → Option Value} {base : Heap}
def EnT (K : PySem.W.Frag) (H : Hp) (v : V) (e : Deed) : Prop := ∃ (t s : Addr) (u : V), v = .ref t ∧ H t = some (.tup [u, .ref s]) ∧ DeedAt K H u e
theorem enT_mono (H H' : Hp) (v : V) (e : Deed) (k : Keeps H H') (h : EnT K H v e) : EnT K H' v e := by
  obtain ⟨t, s, u, rfl, h1, h2⟩ := h
  exact ⟨t, s, u, rfl, k _ _ h1, h2.keep k⟩
theorem deed_mono (H H' : Hp) (v : V) (e : Deed) (k : Keeps H H') (h : DeedAt K H v e) : DeedAt K H' v e := h.keep k
theorem all2_map {α β γ : Type} {R : α → β → Prop} {R2 : α → γ → Prop} {f : β → γ} (g : ∀ x y, R x y → R2 x (f y)) : ∀ {xs : List α} {ys : List β}, All2 R xs ys → All2 R2 xs (ys.map f)
  | [], [], _ => trivial
  | _ :: _, _ :: _, h => ⟨g _ _ h.1, all2_map g h.2⟩
def spDeeds (K : PySem.W.Frag) (C : Addr) : Sp := fun vs H Q _ => ∃ (p : Addr) (H0 Hs : Hp) (S : Ms) (P A : List (Deed × Ms)), vs = [.ref p] ∧ MeadAt K C H0 Hs H p S P A ∧ P.length ≤ 1000 ∧ ∀ (l : Addr) (H' : Hp) (ws : List V), Same H H' → H l = none → H' l = some (.lst ws) → All2 (DeedAt K H') ws (P.map (·.1)) → Q (.ref l) H'
theorem ok_Mead_deeds (T : Tx P K mg base) : FnOk P w K mg base CX0 41 T.a_Mead_deeds T.fd_Mead_deeds ["self"] (spDeeds K T.c_Mead) := by
  refine T.F_Mead_deeds.ok sc_Mead_deeds (fun vs H Q E h => ?_) (fun cdv A outer s H vs Q E hr h => ?_)
  · obtain ⟨p, H0, Hs, S, P, A, rfl, _⟩ := h
    rfl
  obtain ⟨p, H0, Hs, S, P, A, rfl, M, Pl, q⟩ := h
  obtain ⟨dx, lp, la, c, d, vs, us, p0, l0, a0, ps, ls, as, nla, hp, hlp, hla, hc, hd, hP, hA⟩ := M.ex
  refine ⟨_, (pss_one (ps_ret (pe_lc (own := [("entry", 1)]) (g := gName 1) (tt := tYes) rfl sc_Mead_deeds.nd (k_il (K := K) (pi_list (k_fld (K := K) (pe_fld (pv 0) rfl)))) (blkOk_by (N := N_Mead_deeds) (sc := defScope s_Mead_deeds) (by decide +kernel)) (fun _ _ _ _ _ => (pg_name (i := 1) sc_Mead_deeds.nd rfl (.inl rfl))) (fun _ _ _ _ _ => pts_nil) (fun _ _ _ _ _ => (pe_ix (ix_tupK (K := K)) (pv 1) (pe_int) (fun _ _ => rfl)))))), ?_⟩
  walk_at "st"
  refine w_fldAt hp T.cl_Mead T.n_Mead_past (mf_past _ _ _ _ _) ?_
  refine Pm.w_rdL (SqL.of hlp) ?_
  have hT : All2 (EnT K H) vs (P.map (·.1)) := all2_map (fun v e r => by
    obtain ⟨t, z, c, d, u, e1, h1, h2, h3, _⟩ := r.same M.ss
    exact ⟨t, z, u, e1, h1, h2⟩) hP
  refine Pm.w_lcLf (R := DeedAt K) deed_mono (S := EnT K) enT_mono (SqL.of hlp) hT id (fun _ => true) (by rw [List.length_map]; omega) (fun D x e H3 Nx hD hm hs s3 put skip => ?_) (fun D H3 ws hD s3 hd ha => ?_)
  · obtain ⟨t, z, u, rfl, h1, h2⟩ := hs
    walk_at "st"
    refine Pm.w_ixT (SqT.of h1) rfl ?_
    exact put _ _ rfl (Same.refl _) h2
  · rw [List.map_id, List.filter_eq_self.mpr fun _ _ => rfl] at ha
    exact q D H3 ws s3 hD hd ha
theorem lenOk_rp' {f : Rat} : lenOk (rp f) ↔ 0 < f := by
  unfold lenOk partOk rp
  simp only
  have := f.den_nz
  have r : Int.gcd f.num (f.den : Int) = 1 := f.reduced
  constructor
  · intro h
    have h2 : (0 : Rat) ≤ f := Rat.num_nonneg.mp (by omega)
    have h3 : f ≠ 0 := fun z => by rw [z] at h; exact absurd h.2 (by decide)
    grind
  · exact fun h => ⟨⟨by omega, r⟩, pos_num h⟩
end
section
variable {P : Program} {w : World} {K : PySem.W.Frag} {mg : Str → Option Value} {base : Heap}
def spLow : Sp := fun vs H Q _ => ∃ (a b : Int) (n : Nat), vs = [.int a, .int b] ∧ b ≠ 0 ∧ b.natAbs < 2 ^ n ∧ n ≤ 120000000 ∧ FrNew H (Rat.divInt a b) Q
theorem ok_law_low (T : Tx P K mg base) : FnOk P w K mg base CX0 41 T.a_law_low T.fd_law_low ["_law_top", "_law_bottom"] spLow := by
  refine T.F_law_low.ok sc_law_low (fun vs H Q E h => ?_) (fun cdv A outer s H vs Q E hr h => ?_)
  · obtain ⟨a, b, n, rfl, _⟩ := h
    rfl
  obtain ⟨a, b, n, rfl, hb, hn, hn9, q⟩ := h
  refine ⟨_, (pss_cons (ps_set (i := 2) sc_law_low.nd rfl (.inl rfl) (pe_callB c_abs (by rfl) T.m_abs (by decide +kernel) (pa_cons (pv 0) pa_nil)))
      (pss_cons (ps_set (i := 3) sc_law_low.nd rfl (.inl rfl) (pe_callB c_abs (by rfl) T.m_abs (by decide +kernel) (pa_cons (pv 1) pa_nil)))
      (pss_cons (ps_while PassesOwn.never (pt_cmpR op_gt (pv 3) (pe_int) (nomark _)) (pss_one (ps_par (i := 2) (j := 3) (by rfl) sc_law_low.nd rfl rfl (by decide) rfl rfl (pa_cons (pv 3) (pa_cons (pe_op op_mod (pv 2) (pv 3)) pa_nil)) (by rfl))))
      (C8.pss_cut (ps_if (pt_cmpR op_lt (pv 1) (pe_int) (nomark _)) (pss_cons (ps_set (i := 0) sc_law_low.nd rfl (.inl rfl) (pe_un un_neg (pv 0)))
      (pss_one (ps_set (i := 1) sc_law_low.nd rfl (.inl rfl) (pe_un un_neg (pv 1))))) pss_nil)
      (pss_one (ps_ret (pe_tup (pa_cons (pe_op (op_fdivL T.seer T.tree (room_long hr (by decide))) (pv 0) (pv 2)) (pa_cons (pe_op (op_fdivL T.seer T.tree (room_long hr (by decide))) (pv 1) (pv 2)) pa_nil))))))))), ?_⟩
  walk_at "st"
  refine Pm.w_while (fun m σ H' => ∃ x y : Nat, σ = [some (.int a), some (.int b), some (.int x), some (.int y)] ∧ m = y ∧ Nat.gcd x y = Int.gcd a b ∧ H' = H) _ ⟨(if a < 0 then -a else a).natAbs, (if b < 0 then -b else b).natAbs, ?_, rfl, gcd_abs a b, rfl⟩ ?_
  · have e : ∀ c : Int, (if c < 0 then -c else c) = (((if c < 0 then -c else c).natAbs : Nat) : Int) := fun c => by split <;> omega
    show [some (V.int a), some (V.int b), some (V.int (if a < 0 then -a else a)), some (V.int (if b < 0 then -b else b))] = _
    rw [← e a, ← e b]
  · rintro m σ H' ⟨x, y, rfl, rfl, hg, rfl⟩
    walk_at "st"
    refine Pm.w_wh (fun c => ?_) (fun c => ?_)
    · walk_at "st"
      exact ⟨_, Nat.mod_lt x (by omega), m, x % m, rfl, rfl, by rw [gcd_turn x m (by omega)]; exact hg, rfl⟩
    · have e : m = 0 := by omega
      subst e
      rw [Nat.gcd_zero_right] at hg
      subst hg
      refine Pm.w_cut (fun σ' H2 => ∃ a' b' : Int, σ' = [some (.int a'), some (.int b'), some (.int ((Int.gcd a b : Nat) : Int)), some (.int ((0 : Nat) : Int))] ∧ H2 = H' ∧ Int.gcd a' b' = Int.gcd a b ∧ 0 < b' ∧ b'.natAbs < 2 ^ n ∧ Rat.divInt a' b' = Rat.divInt a b) ?_ ?_
      · walk_at "st"
        refine Pm.w_ite (fun d => ?_) (fun d => ?_)
        · walk_at "st"
          exact ⟨-a, -b, rfl, rfl, by rw [Int.gcd_neg, Int.neg_gcd], by omega, by omega, Rat.neg_divInt_neg a b⟩
        · walk_at "st"
          exact ⟨a, b, rfl, rfl, rfl, by omega, hn, rfl⟩
      · rintro σ H2 ⟨a', b', rfl, rfl, eg, hb', hn, e⟩
        rw [← eg]
        have g0 : 0 < ((Int.gcd a' b' : Nat) : Int) := gcd_pos (by omega)
        have g1 := gcd_le_right (a := a') hb'
        have n0 : 0 < n := by
          rcases Nat.eq_zero_or_pos n with z | z
          · subst z
            exact absurd hn (by omega)
          · exact z
        have hd : ∀ i : Int, CDivL i ((Int.gcd a' b' : Nat) : Int) := fun i => long_div g0 (Nat.lt_of_le_of_lt (by omega) hn) n0 hn9
        walk_at "st"
        refine Pm.w_i (hd _) ?_
        walk_at "st"
        refine Pm.w_i (hd _) ?_
        walk_at "st"
        refine Pm.w_newT (fun t ht => ?_)
        have z := div_pos_num (a := a') hb'
        rw [z.1, z.2, e]
        exact q t _ (same_new ht _) ht upd_same
end
section
variable {P : Program} {w : World} {K : PySem.W.Frag} {mg : Str → Option Value} {base : Heap}
def spPart (K : PySem.W.Frag) : Sp := fun vs H Q _ => ∃ (t : Addr) (r : Rat) (n : Nat), vs = [.ref t] ∧ SqT K H t [.int r.num, .int r.den] ∧ r.den < 2 ^ n ∧ n ≤ 120000000 ∧ ∀ H', Same H H' → Q (.bl true) H'
theorem ok_law_part (T : Tx P K mg base) : FnOk P w K mg base CX0 42 T.a_law_part T.fd_law_part ["_law_found"] (spPart K) := by
  refine T.F_law_part.ok sc_law_part (fun vs H Q E h => ?_) (fun cdv A outer s H vs Q E hr h => ?_)
  · obtain ⟨t, r, n, rfl, _⟩ := h
    rfl
  obtain ⟨t, r, n, rfl, ht, hn, hn9, q⟩ := h
  refine ⟨_, (pss_cons (ps_if (PW.pt (pw_or (pt_not (pt_val (pe_callB (call_isK (K := K)) (by rfl) T.m_isinstance (by decide +kernel) (pa_cons (pv 0) (pa_cons (pe_bltn (v := .ty "tuple") (by rfl) T.m_tuple (by decide +kernel) rfl) pa_nil))))) (pw_or1 (pt_cmpR op_ne (pe_callB (c_len (K := K)) (by rfl) T.m_len PySem.boot_len (pa_cons (pv 0) pa_nil)) (pe_int) (nomark _))))) (pss_one (ps_ret (pe_bl))) pss_nil)
      (pss_cons (ps_if (PW.pt (pw_or (pt_not (pt_val (pe_call (ok_law_whole T) (hr.mono (by decide)) (by rfl) T.g_law_whole T.F_law_whole.kp T.b_law_whole .nil pass0 (pa_cons (pe_ix (ix_tupK (K := K)) (pv 0) (pe_int) (fun _ _ => rfl)) pa_nil)))) (pw_or (pt_not (pt_val (pe_call (ok_law_whole T) (hr.mono (by decide)) (by rfl) T.g_law_whole T.F_law_whole.kp T.b_law_whole .nil pass0 (pa_cons (pe_ix (ix_tupK (K := K)) (pv 0) (pe_int) (fun _ _ => rfl)) pa_nil)))) (pw_or1 (pt_cmpR op_le (pe_ix (ix_tupK (K := K)) (pv 0) (pe_int) (fun _ _ => rfl)) (pe_int) (nomark _)))))) (pss_one (ps_ret (pe_bl))) pss_nil)
      (pss_one (ps_ret (pe_cmpR (op_eqDK (K := K) hr.units) (pe_call (ok_law_low T) (hr.mono (by decide)) (by rfl) T.g_law_low T.F_law_low.kp T.b_law_low .nil pass0 (pa_cons (pe_ix (ix_tupK (K := K)) (pv 0) (pe_int) (fun _ _ => rfl)) (pa_cons (pe_ix (ix_tupK (K := K)) (pv 0) (pe_int) (fun _ _ => rfl)) pa_nil))) (pv 0) (nomark _)))))), ?_⟩
  have rd := r.den_nz
  walk_at "st"
  refine Pm.w_isiTup ht (b := true) (by decide +kernel) ?_
  walk_at "st"
  refine Pm.w_lenT ht ?_
  walk_at "st"
  refine Pm.w_iteN (fun z => absurd rfl z) (fun _ => ?_)
  walk_at "st"
  refine Pm.w_ixT ht (atI2 _ _).1 ?_
  walk_at "st"
  refine ⟨_, rfl, ?_⟩
  walk_at "st"
  refine Pm.w_ixT ht (atI2 _ _).2 ?_
  walk_at "st"
  refine ⟨_, rfl, ?_⟩
  walk_at "st"
  refine Pm.w_ixT ht (atI2 _ _).2 ?_
  walk_at "st"
  refine Pm.w_ite (fun z => absurd z (by omega)) (fun _ => ?_)
  walk_at "st"
  refine Pm.w_ixT ht (atI2 _ _).1 ?_
  walk_at "st"
  refine Pm.w_ixT ht (atI2 _ _).2 ?_
  walk_at "st"
  refine ⟨_, _, n, rfl, den_ne r, by omega, hn9, fun u H' s1 nu hu => ?_⟩
  walk_at "st"
  refine Pm.w_eqPair (SqT.of hu) (Same.tup s1 ht) ?_
  rw [divInt_self', decide_eq_true ⟨rfl, rfl⟩]
  exact q H' s1
end
section
variable {P : Program} {w : World} {K : PySem.W.Frag} {mg : Str → Option Value} {base : Heap}
def spSize : Sp := fun vs H Q _ => ∃ x : Int, vs = [.int x] ∧ 0 ≤ x ∧ ∀ r : Rat, szd r 1024 128 → FrNew H r Q
theorem szd_div {a b : Int} {N M : Nat} (ha : 1 ≤ a ∧ a ≤ N) (hb : 1 ≤ b ∧ b ≤ M) : szd (Rat.divInt a b) N M := by
  have e := div_pos_num (a := a) (b := b) (by omega)
  have g : (0 : Int) < ((Int.gcd a b : Nat) : Int) := gcd_pos (by omega)
  have n1 : (Rat.divInt a b).num ≤ a := by
    rw [← e.1]
    exact Int.ediv_le_self _ (by omega)
  have d1 : ((Rat.divInt a b).den : Int) ≤ b := by
    rw [← e.2]
    exact Int.ediv_le_self _ (by omega)
  have p : 0 < Rat.divInt a b := by
    rw [Rat.divInt_eq_div]
    refine rat_div_pos ?_ ?_
    · exact Rat.intCast_pos.mpr (by omega)
    · exact Rat.intCast_pos.mpr (by omega)
  have := pos_num p
  exact ⟨p, by omega, by omega⟩
theorem ok_law_size (T : Tx P K mg base) : FnOk P w K mg base CX0 42 T.a_law_size T.fd_law_size ["_law_one"] spSize := by
  refine T.F_law_size.ok sc_law_size (fun vs H Q E h => ?_) (fun cdv A outer s H vs Q E hr h => ?_)
  · obtain ⟨x, rfl, _⟩ := h
    rfl
  obtain ⟨x, rfl, x0, q⟩ := h
  refine ⟨_, (pss_cons (ps_if (pt_cmpR op_eq (pe_op op_mod (pv 0) (pe_int)) (pe_int) (nomark _)) (pss_one (ps_ret (pe_call (ok_law_low T) (hr.mono (by decide)) (by rfl) T.g_law_low T.F_law_low.kp T.b_law_low .nil pass0 (pa_cons (pe_op op_add (pe_int) (pe_op op_mod (pe_op op_fdiv (pv 0) (pe_int)) (pe_int))) (pa_cons (pe_op op_add (pe_int) (pe_op op_mod (pe_op op_fdiv (pv 0) (pe_int)) (pe_int))) pa_nil))))) pss_nil)
      (pss_one (ps_ret (pe_call (ok_law_low T) (hr.mono (by decide)) (by rfl) T.g_law_low T.F_law_low.kp T.b_law_low .nil pass0 (pa_cons (pe_op op_add (pe_int) (pe_op op_mod (pv 0) (pe_int))) (pa_cons (pe_op op_add (pe_int) (pe_op op_mod (pe_op op_fdiv (pv 0) (pe_int)) (pe_int))) pa_nil)))))), ?_⟩
  walk_at "st"
  refine Pm.w_ite (fun e => ?_) (fun e => ?_)
  · walk_at "st"
    refine ⟨_, _, 8, rfl, by omega, by omega, by decide, q _ (szd_div ?_ ?_)⟩
    · constructor <;> omega
    · constructor <;> omega
  · walk_at "st"
    refine ⟨_, _, 8, rfl, by omega, by omega, by decide, q _ (szd_div ?_ ?_)⟩
    · constructor <;> omega
    · constructor <;> omega
def spSized (K : PySem.W.Frag) : Sp := fun vs H Q _ => ∃ (a r : Addr) (ts : List IP) (row : List Int), vs = [.ref a, .ref r] ∧ PLt H a ts ∧ ts.Nodup ∧ SqL K H r (row.map V.int) ∧ ts.length ≤ row.length ∧ 0 < ts.length ∧ ts.length ≤ 1000 ∧ (∀ x ∈ row, 0 ≤ x) ∧
  ∀ (d : Addr) (H' : Hp) (ks : List IP) (R : IP → Rat), Same H H' → H d = none → LD K H' d ks (fun k => rp (R k)) → (∀ p, p ∈ ks ↔ p ∈ ts) → (∀ p ∈ ts, szd (R p) 1024 128) → Q (.ref d) H'
theorem ok_law_sized (T : Tx P K mg base) : FnOk P w K mg base CX0 43 T.a_law_sized T.fd_law_sized ["_law_all_ties", "_law_row"] (spSized K) := by
  refine T.F_law_sized.ok sc_law_sized (fun vs H Q E h => ?_) (fun cdv A outer s H vs Q E hr h => ?_)
  · obtain ⟨a, r, ts, row, rfl, _⟩ := h
    rfl
  obtain ⟨a, r, ts, row, rfl, ⟨tvs, hta, hpt⟩, tnd, hR, trl, t0, t1, hrow, q⟩ := h
  have tl := hpt.length
  have r0 : ∀ i : Nat, i < row.length → 0 ≤ row.getD i 0 := fun i hi => by
    rw [List.getD_eq_getElem?_getD, List.getElem?_eq_getElem hi]
    exact hrow _ (List.getElem_mem hi)
  refine ⟨_, (pss_cons (ps_set (i := 2) sc_law_sized.nd rfl (.inl rfl) (pe_dnewT))
      (pss_cons (ps_for PassesOwn.never rfl (pi_range1 (by rfl) T.m_range (pa_cons (pe_callB (c_len (K := K)) (by rfl) T.m_len PySem.boot_len (pa_cons (pv 0) pa_nil)) pa_nil)) (pg_name (i := 3) sc_law_sized.nd rfl (.inl rfl)) (pss_cons (ps_set (i := 4) sc_law_sized.nd rfl (.inl rfl) (pe_op op_mod (pe_op op_add (pv 3) (pe_op op_fdiv (pe_ix (ix_listK (K := K)) (pv 1) (pe_int) (fun _ _ => rfl)) (pe_int))) (pe_callB (c_len (K := K)) (by rfl) T.m_len PySem.boot_len (pa_cons (pv 0) pa_nil))))
      (pss_one (ps_dput (hu_of hr) (pv 2) (pe_ix (ix_listK (K := K)) (pv 0) (pv 4) (fun _ _ => rfl)) (pe_call (ok_law_size T) (hr.mono (by decide)) (by rfl) T.g_law_size T.F_law_size.kp T.b_law_size .nil pass0 (pa_cons (pe_ix (ix_listK (K := K)) (pv 1) (pv 4) (fun _ _ => rfl)) pa_nil)) rfl))))
      (pss_one (ps_ret (pv 2))))), ?_⟩
  walk_at "st"
  refine Pm.w_dnewT (fun d hd => ?_)
  have s1 := same_new hd (.dT [])
  walk_at "st"
  refine Pm.w_lenL (SqL.of (s1 _ _ hta)) ?_
  walk_at "st"
  rw [tl, Int.toNat_natCast]
  have z0 := r0 0 (by omega)
  generalize hsh : (row.getD 0 0 / 17).toNat = sh
  have hsh' : row.getD 0 0 / 17 = (sh : Int) := by omega
  refine Pm.w_forR (fun i σ H2 => ∃ (x y : Option V) (ks : List IP) (R : IP → Rat), σ = [some (.ref a), some (.ref r), some (.ref d), x, y] ∧ Same H H2 ∧ LD K H2 d ks (fun k => rp (R k)) ∧ ks.length ≤ i ∧ (∀ p, p ∈ ks ↔ ∃ k, k < i ∧ ts[(k + sh) % ts.length]? = some p) ∧ ∀ p ∈ ks, szd (R p) 1024 128) ?_ ?_ ?_
  · exact ⟨_, _, [], fun _ => 0, rfl, s1, ld_nil upd_same _, Nat.le_refl _, fun p => ⟨fun h => (nomatch h), fun ⟨k, hk, _⟩ => absurd hk (by omega)⟩, fun _ h => nomatch h⟩
  · rintro i σ H2 hi ⟨x, y, ks, R, rfl, s2, hL, kl, hks, hz⟩
    have hR2 := s2.seq hR
    have hta2 := s2 _ _ hta
    walk_at "st"
    refine Pm.w_ixL hR2 (atI_int (by omega) (by omega)) ?_
    walk_at "st"
    refine Pm.w_lenL (SqL.of hta2) ?_
    walk_at "st"
    rw [tl, Int.zero_add]
    have em : ((i : Int) + row.getD 0 0 / 17) % (ts.length : Int) = (((i + sh) % ts.length : Nat) : Int) := by rw [hsh']; rfl
    rw [show (0 : Int).toNat = 0 from rfl, em]
    have jm : (i + sh) % ts.length < ts.length := Nat.mod_lt _ t0
    generalize hj : (i + sh) % ts.length = j at jm
    refine Pm.w_ixL hR2 (atI_int (by omega) (by omega)) ?_
    walk_at "st"
    refine ⟨_, rfl, by rw [Int.toNat_natCast]; exact r0 j (by omega), fun rr hrr t H3 s3 nt ht => ?_⟩
    walk_at "st"
    obtain ⟨p, hp, u, hu, hut⟩ := hpt.get (List.getElem?_eq_getElem (show j < tvs.length by omega))
    have hH3 := s2.trans s3
    refine Pm.w_ixL (SqL.of (hH3 _ _ hta)) (v := .ref u) (atI_nat (by rw [List.getElem?_eq_getElem (show j < tvs.length by omega), hu])) ?_
    refine w_ldPut (k := p) (p := rp rr) (hL.same s3) ⟨u, rfl, hH3 _ _ hut⟩ (frv_new ht) (by omega) (fun es hL4 kp => ?_)
    refine ⟨_, _, putk ks p, fun k => if k = p then rr else R k, rfl, same_but hd hH3, hL4.congr fun k hk => ?_, Nat.le_trans (putk_len _ _) (by omega), fun p' => ?_, fun p' hp' => ?_⟩
    · by_cases e : k = p
      · simp only [e, if_true, updF_same]
      · simp only [if_neg e, updF_ne e]
    · rw [mem_putk, hks]
      constructor
      · rintro (⟨k, hk, e⟩ | rfl)
        · exact ⟨k, by omega, e⟩
        · exact ⟨i, by omega, by rw [hj]; exact hp⟩
      · rintro ⟨k, hk, e⟩
        by_cases c : k = i
        · subst c
          rw [hj, hp] at e
          exact .inr (Option.some.inj e).symm
        · exact .inl ⟨k, by omega, e⟩
    · by_cases e : p' = p
      · simp only [e, if_true]; exact hrr
      · simp only [if_neg e]
        rcases mem_putk.mp hp' with z | z
        · exact hz _ z
        · exact absurd z e
  · rintro σ H2 ⟨x, y, ks, R, rfl, s2, hL, kl, hks, hz⟩
    walk_at "st"
    have all : ∀ p, p ∈ ks ↔ p ∈ ts := fun p => by
      rw [hks]
      constructor
      · rintro ⟨k, _, e⟩
        exact List.mem_of_getElem? e
      · intro hp
        obtain ⟨j, hj, e⟩ := List.mem_iff_getElem.mp hp
        refine ⟨(j + (ts.length - sh % ts.length)) % ts.length, Nat.mod_lt _ t0, ?_⟩
        have e2 : ((j + (ts.length - sh % ts.length)) % ts.length + sh) % ts.length = j := by
          rw [Nat.mod_add_mod, Nat.add_assoc]
          have h1 := Nat.mod_lt sh t0
          have h2 := Nat.div_add_mod sh ts.length
          rw [show ts.length - sh % ts.length + sh = ts.length * (sh / ts.length + 1) by rw [Nat.mul_add, Nat.mul_one]; omega, Nat.add_mul_mod_self_left]
          exact Nat.mod_eq_of_lt hj
        rw [e2, List.getElem?_eq_getElem hj, e]
    exact q d H2 ks R s2 hd hL all fun p hp => hz p ((all p).mpr hp)
end
section
variable {P : Program} {w : World} {K : PySem.W.Frag} {mg : Str → Option Value} {base : Heap}
def spTup (K : PySem.W.Frag) : Sp := fun vs H Q _ => ∃ (t : Addr) (ns : List Int), vs = [.ref t, .int ns.length] ∧ SqT K H t (ns.map V.int) ∧ Q (.bl true) H
theorem ok_law_tuple (T : Tx P K mg base) : FnOk P w K mg base CX0 42 T.a_law_tuple T.fd_law_tuple (["_law_found", "_law_many_here"]) (spTup K) := by
  refine T.F_law_tuple.ok sc_law_tuple (fun vs H Q E h => ?_) (fun cdv A outer s H vs Q E hr h => ?_)
  · obtain ⟨t, ns, rfl, _⟩ := h
    rfl
  obtain ⟨t, ns, rfl, ht, q⟩ := h
  refine ⟨_, (pss_cons (ps_if (PW.pt (pw_or (pt_not (pt_val (pe_callB (call_isK (K := K)) (by rfl) T.m_isinstance (by decide +kernel) (pa_cons (pv 0) (pa_cons (pe_bltn (v := .ty "tuple") (by rfl) T.m_tuple (by decide +kernel) rfl) pa_nil))))) (pw_or1 (pt_cmpR op_ne (pe_callB (c_len (K := K)) (by rfl) T.m_len PySem.boot_len (pa_cons (pv 0) pa_nil)) (pv 1) (nomark _))))) (pss_one (ps_ret (pe_bl))) pss_nil)
      (pss_cons (ps_for PassesOwn.never rfl (k_it (K := K) (pi_tup (pv 0))) (pg_name (i := 2) sc_law_tuple.nd rfl (.inl rfl)) (pss_one (ps_if (pt_not (pt_val (pe_call (ok_law_whole T) (hr.mono (by decide)) (by rfl) T.g_law_whole T.F_law_whole.kp T.b_law_whole .nil pass0 (pa_cons (pv 2) pa_nil)))) (pss_one (ps_ret (pe_bl))) pss_nil)))
      (pss_one (ps_ret (pe_bl))))), ?_⟩
  walk_at "st"
  refine Pm.w_isiTup ht (b := true) (by decide +kernel) ?_
  walk_at "st"
  refine Pm.w_lenT ht ?_
  walk_at "st"
  refine Pm.w_iteN (fun z => absurd (by rw [List.length_map]) z) (fun _ => ?_)
  walk_at "st"
  refine Pm.w_rdT ht ?_
  refine Pm.w_forT (xs := ns.map V.int) (fun i σ H' => ∃ x, σ = [some (.ref t), some (.int ns.length), x] ∧ H' = H) ⟨_, rfl, rfl⟩ (fun i σ H' _ ⟨x, _, e⟩ => by rw [e]; exact ht) ?_ ?_
  · rintro i x σ H' hx ⟨y, rfl, rfl⟩
    rw [List.getElem?_map] at hx
    cases ex : ns[i]? with
    | none => rw [ex] at hx; cases hx
    | some z =>
      rw [ex] at hx
      cases hx
      walk_at "st"
      refine ⟨z, rfl, ?_⟩
      walk_at "st"
      exact ⟨_, rfl, rfl⟩
  · rintro σ H' ⟨x, rfl, rfl⟩
    walk_at "st"
    exact q
def spList (K : PySem.W.Frag) : Sp := fun vs H Q _ => ∃ (a : Addr) (xs : List V) (m : Nat), vs = [.ref a, .int m] ∧ SqL K H a xs ∧ (∀ x ∈ xs, ∃ (t : Addr) (ns : List Int), x = .ref t ∧ SqT K H t (ns.map V.int) ∧ ns.length = m) ∧ Q (.bl true) H
theorem ok_law_list (T : Tx P K mg base) : FnOk P w K mg base CX0 43 T.a_law_list T.fd_law_list (["_law_found", "_law_many_here"]) (spList K) := by
  refine T.F_law_list.ok sc_law_list (fun vs H Q E h => ?_) (fun cdv A outer s H vs Q E hr h => ?_)
  · obtain ⟨a, xs, m, rfl, _⟩ := h
    rfl
  obtain ⟨a, xs, m, rfl, ha, hx, q⟩ := h
  refine ⟨_, (pss_cons (ps_if (pt_not (pt_val (pe_callB (call_isK (K := K)) (by rfl) T.m_isinstance (by decide +kernel) (pa_cons (pv 0) (pa_cons (pe_bltn (v := .ty "list") (by rfl) T.m_list (by decide +kernel) rfl) pa_nil))))) (pss_one (ps_ret (pe_bl))) pss_nil)
      (pss_cons (ps_for PassesOwn.never rfl (k_il (K := K) (pi_list (pv 0))) (pg_name (i := 2) sc_law_list.nd rfl (.inl rfl)) (pss_one (ps_if (pt_not (pt_val (pe_call (ok_law_tuple T) (hr.mono (by decide)) (by rfl) T.g_law_tuple T.F_law_tuple.kp T.b_law_tuple .nil pass0 (pa_cons (pv 2) (pa_cons (pv 1) pa_nil))))) (pss_one (ps_ret (pe_bl))) pss_nil)))
      (pss_one (ps_ret (pe_bl))))), ?_⟩
  walk_at "st"
  refine Pm.w_isiLst ha (b := true) (by decide +kernel) ?_
  walk_at "st"
  refine Pm.w_rdL ha ?_
  refine Pm.w_forL (xs := xs) (fun i σ H' => ∃ x, σ = [some (.ref a), some (.int m), x] ∧ H' = H) ⟨_, rfl, rfl⟩ (fun i σ H' _ ⟨x, _, e⟩ => by rw [e]; exact ha) ?_ ?_
  · rintro i x σ H' hi ⟨y, rfl, rfl⟩
    obtain ⟨t, ns, rfl, ht, rfl⟩ := hx x (List.mem_of_getElem? hi)
    walk_at "st"
    refine ⟨t, ns, rfl, ht, ?_⟩
    walk_at "st"
    exact ⟨_, rfl, rfl⟩
  · rintro σ H' ⟨x, rfl, rfl⟩
    walk_at "st"
    exact q
end
section
variable {P : Program} {w : World} {K : PySem.W.Frag} {mg : Str → Option Value} {base : Heap}
def spLDict (K : PySem.W.Frag) : Sp := fun vs H Q _ => ∃ (f d : Addr) (kf kd : List IP) (Lf Ld : IP → IP) (R : IP → Rat) (B : Nat), vs = [.ref f, .ref d] ∧ LD K H f kf Lf ∧ LD K H d kd Ld ∧ f ≠ d ∧ (∀ p, p ∈ kf ↔ p ∈ kd) ∧ (∀ p ∈ kd, Lf p = rp (R p) ∧ Ld p = rp (R p) ∧ rb (R p) B) ∧ B ≤ 120000000 ∧ ∀ H', Same H H' → Q (.bl true) H'
theorem ok_law_dict (T : Tx P K mg base) : FnOk P w K mg base CX0 43 T.a_law_dict T.fd_law_dict (["_law_found", "_law_due"]) (spLDict K) := by
  refine T.F_law_dict.ok sc_law_dict (fun vs H Q E h => ?_) (fun cdv A outer s H vs Q E hr h => ?_)
  · obtain ⟨f, d, kf, kd, Lf, Ld, R, B, rfl, _⟩ := h
    rfl
  obtain ⟨f, d, kf, kd, Lf, Ld, R, B, rfl, hf, hd, ne, hk, hv, hB, q⟩ := h
  have len := perm_len hf.nd hd.nd hk
  refine ⟨_, (pss_cons (ps_if (PW.pt (pw_or (pt_not (pt_val (pe_callB (call_isK (K := K)) (by rfl) T.m_isinstance (by decide +kernel) (pa_cons (pv 0) (pa_cons (pe_bltn (v := .ty "dict") (by rfl) T.m_dict (by decide +kernel) rfl) pa_nil))))) (pw_or1 (pt_cmpR op_ne (pe_callB call_len_dT (by rfl) T.m_len PySem.boot_len (pa_cons (pv 0) pa_nil)) (pe_callB call_len_dT (by rfl) T.m_len PySem.boot_len (pa_cons (pv 1) pa_nil)) (nomark _))))) (pss_one (ps_ret (pe_bl))) pss_nil)
      (pss_cons (ps_lock (ps_for PassesOwn.never rfl (pi_itemsT (pv 1)) (k_gt (K := K) (pg_tup (by rfl) (pgs_cons (pg_name (i := 2) sc_law_dict.nd rfl (.inl rfl)) (pgs_cons (pg_name (i := 3) sc_law_dict.nd rfl (.inl rfl)) pgs_nil)))) (pss_one (ps_if (PW.pt (pw_or (pt_cmp (pc_dnotin (hu_of hr) (pv 2) (pv 0))) (pw_or (pt_not (pt_val (pe_call (ok_law_part T) (hr.mono (by decide)) (by rfl) T.g_law_part T.F_law_part.kp T.b_law_part .nil pass0 (pa_cons (pe_dget (hu_of hr) (pv 0) (pv 2) (fun _ _ => rfl)) pa_nil)))) (pw_or1 (pt_cmpR (op_neDK (K := K) hr.units) (pe_dget (hu_of hr) (pv 0) (pv 2) (fun _ _ => rfl)) (pv 3) (nomark _)))))) (pss_one (ps_ret (pe_bl))) pss_nil))))
      (pss_cons (ps_lock (ps_for PassesOwn.never rfl (pi_keysT (pv 0)) (pg_name (i := 2) sc_law_dict.nd rfl (.inl rfl)) (pss_one (ps_if (pt_not (pt_val (pe_call (ok_law_tuple T) (hr.mono (by decide)) (by rfl) T.g_law_tuple T.F_law_tuple.kp T.b_law_tuple .nil pass0 (pa_cons (pv 2) (pa_cons (pe_int) pa_nil))))) (pss_one (ps_ret (pe_bl))) pss_nil))))
      (pss_one (ps_ret (pe_bl)))))), ?_⟩
  walk_at "st"
  refine w_isiLd hf (bb := true) (by decide +kernel) ?_
  walk_at "st"
  refine w_ldLen hf ?_
  walk_at "st"
  refine w_ldLen hd ?_
  walk_at "st"
  refine Pm.w_iteN (fun z => absurd (by rw [len]) z) (fun _ => ?_)
  walk_at "st"
  refine w_forItems hd (Same.refl H) (fun od u i σ H1 => ∃ x y, σ = [some (.ref f), some (.ref d), x, y]) (fun od u Q _ _ h => Pm.w_var rfl h) (fun od u _ => ⟨_, _, rfl⟩) ?_ ?_
  · rintro od es i k σ H1 hes hki s1 kp ⟨x, y, rfl⟩ T1 p v hT1 hp hvv
    have mk := List.mem_of_getElem? hki
    obtain ⟨v1, v2, v3⟩ := hv k mk
    have s2 := same_new hT1 (.tup [.ref p, v])
    have hf1 := hf.lock hes ne (s1.trans s2)
    have hp2 := hp.keep (keeps s2)
    obtain ⟨vt, rfl, hvt⟩ := hvv.keep (keeps s2)
    have hv2 : FrV K _ (.ref vt) (Ld k) := ⟨vt, rfl, hvt⟩
    rw [v2] at hv2
    walk_at "st"
    refine Pm.w_gtup (SqT.of upd_same) rfl ?_
    walk_at "st"
    refine w_ldNotIn hf1 hp2 ?_
    rw [decide_eq_true ((hk k).mpr mk)]
    walk_at "st"
    refine w_ldGet hf1 hp2 ((hk k).mpr mk) (fun u hu => ?_)
    rw [v1] at hu
    walk_at "st"
    refine ⟨u, R k, B, rfl, hu.rat, v3.2, hB, fun H3 s3 => ?_⟩
    have hp3 := hp2.keep (keeps s3)
    have hf3 := hf.lock hes ne ((s1.trans s2).trans s3)
    walk_at "st"
    refine w_ldGet hf3 hp3 ((hk k).mpr mk) (fun u2 hu2 => ?_)
    rw [v1] at hu2
    walk_at "st"
    refine w_neFr hu2 (hv2.keep (keeps s3)) ?_
    rw [decide_eq_true rfl]
    walk_at "st"
    exact ⟨(s1.trans s2).trans s3, _, _, rfl⟩
  · rintro od es σ H1 hes s1 ⟨x, y, rfl⟩ s2
    walk_at "st"
    refine w_forKeysT (hf.same s2) (Same.refl _) (fun od u i σ H1 => ∃ x y, σ = [some (.ref f), some (.ref d), x, y]) (fun od u Q _ _ h => Pm.w_var rfl h) (fun od u _ => ⟨_, _, rfl⟩) ?_ ?_
    · rintro od2 es2 i k σ H3 hes2 hki s3 kp ⟨x, y, rfl⟩ p hp
      walk_at "st"
      refine ⟨p, [k.1, k.2], rfl, hp.tup, ?_⟩
      walk_at "st"
      exact ⟨s3, _, _, rfl⟩
    · rintro od2 es2 σ H3 hes2 s3 ⟨x, y, rfl⟩ s4
      walk_at "st"
      exact q _ (s2.trans s4)
end
section
variable {P : Program} {w : World} {K : PySem.W.Frag} {mg : Str → Option Value} {base : Heap}
def spLSides : Sp := fun vs H Q _ => ∃ n : Nat, vs = [.int n] ∧ 1 ≤ n ∧ n ≤ 1000 ∧ PLNew H (sides0 n) Q
theorem ok_law_sides (T : Tx P K mg base) : FnOk P w K mg base CX0 41 T.a_law_sides T.fd_law_sides ["_law_n"] spLSides := by
  refine T.F_law_sides.ok sc_law_sides (fun vs H Q E h => ?_) (fun cdv A outer s H vs Q E hr h => ?_)
  · obtain ⟨n, rfl, _⟩ := h
    rfl
  obtain ⟨n, rfl, n1, n2, q⟩ := h
  refine ⟨_, (pss_one (ps_ret (pe_op op_cat (pe_lc (own := [("_law_k", 1)]) (g := gName 1) (tt := tYes) rfl sc_law_sides.nd (pi_range1 (by rfl) T.m_range (pa_cons (pe_op op_sub (pv 0) (pe_int)) pa_nil)) (blkOk_by (N := N_law_sides) (sc := defScope s_law_sides) (by decide +kernel)) (fun _ _ _ _ _ => (pg_name (i := 1) sc_law_sides.nd rfl (.inl rfl))) (fun _ _ _ _ _ => pts_nil) (fun _ _ _ _ _ => (pe_tup (pa_cons (pv 1) (pa_cons (pe_op op_add (pv 1) (pe_int)) pa_nil))))) (pe_lst (pa_cons (pe_tup (pa_cons (pe_int) (pa_cons (pe_op op_sub (pv 0) (pe_int)) pa_nil))) pa_nil))))), ?_⟩
  walk_at "st"
  have en : ((n : Int) - 1).toNat = n - 1 := by omega
  rw [en]
  refine Pm.w_lcRm (R := Pr) pr_mono (fun k : Nat => ((k : Int), (k : Int) + 1)) (by omega) (fun D i H1 Nx hD hi s1 put => ?_) (fun D H1 ws hD s1 hd ha => ?_)
  · walk_at "st"
    refine Pm.w_newT (fun t ht => ?_)
    refine put _ _ (same_new ht _) ⟨t, rfl, ?_⟩
    rw [upd_same, Int.zero_add]
  · walk_at "st"
    refine Pm.w_newT (fun t ht => ?_)
    walk_at "st"
    refine Pm.w_newL (fun l hl => ?_)
    have nD : D ≠ l := ne_of_none (o := .lst ws) ((same_new ht _) _ _ hd) hl
    have hlen := ha.length
    rw [List.length_map, List.length_range] at hlen
    refine Pm.w_cat (by rw [upd_ne nD, upd_ne (ne_of_none hd ht)]; exact hd) upd_same (size_ok (by rw [hlen, List.length_singleton]; omega)) (fun p hp => ?_)
    have k1 : Keeps H1 (upd (upd (upd H1 t (.tup [.int 0, .int ((n : Int) - 1)])) l (.lst [.ref t])) p (.lst (ws ++ [.ref t]))) := keeps ((same_new ht _).trans ((same_new hl _).trans (same_new hp _)))
    have s2 := s1.trans ((same_new ht _).trans ((same_new hl _).trans (same_new hp (.lst (ws ++ [.ref t])))))
    refine q p _ _ s2 (by have := (s1.trans ((same_new ht _).trans (same_new hl (.lst [.ref t])))).free hp; exact this) upd_same ((prs_keep k1 ha).append ⟨⟨t, rfl, ?_⟩, trivial⟩)
    exact ((same_new hl _).trans (same_new hp _)) _ _ upd_same
end
section
variable {P : Program} {w : World} {K : PySem.W.Frag} {mg : Str → Option Value} {base : Heap}
def spLTies : Sp := fun vs H Q _ => ∃ (n : Nat) (c : Addr) (cut : List IP), vs = [.int n, .ref c] ∧ 1 ≤ n ∧ n ≤ 1000 ∧ PLt H c cut ∧ cut.length ≤ 1000 ∧ PLNew H (tiesL n cut) Q
theorem ok_law_ties (T : Tx P K mg base) : FnOk P w K mg base CX0 42 T.a_law_ties T.fd_law_ties ["_law_n", "_law_cut"] spLTies := by
  refine T.F_law_ties.ok sc_law_ties (fun vs H Q E h => ?_) (fun cdv A outer s H vs Q E hr h => ?_)
  · obtain ⟨n, c, cut, rfl, _⟩ := h
    rfl
  obtain ⟨n, c, cut, rfl, n1, n2, ⟨cvs, hc, pc⟩, cl, q⟩ := h
  refine ⟨_, (pss_one (ps_ret (pe_callB (cr_sortK (K := K)) (by rfl) T.m_sorted (by decide +kernel) (pa_cons (pe_op op_cat (pe_call (ok_law_sides T) (hr.mono (by decide)) (by rfl) T.g_law_sides T.F_law_sides.kp T.b_law_sides .nil pass0 (pa_cons (pv 0) pa_nil)) (pv 1)) pa_nil)))), ?_⟩
  walk_at "st"
  refine ⟨n, rfl, n1, n2, fun p H1 ws s1 np hp ha => ?_⟩
  walk_at "st"
  have l1 := ha.length
  rw [sides0_len n1] at l1
  have l2 := pc.length
  refine Pm.w_cat hp (s1 _ _ hc) (size_ok (by omega)) (fun l hl => ?_)
  have k1 := keeps (same_new hl (.lst (ws ++ cvs)))
  refine Pm.w_sortP (SqL.of upd_same) ((prs_keep k1 ha).append (prs_keep ((keeps s1).trans k1) pc)) (fun ys p2 hp2 hy => ?_)
  have s2 := s1.trans (same_new hl (.lst (ws ++ cvs)))
  exact q p2 _ ys (s2.trans (same_new hp2 _)) (s2.free hp2) upd_same (prs_keep (keeps (same_new hp2 _)) hy)
end
section
variable {P : Program} {w : World} {K : PySem.W.Frag} {mg : Str → Option Value} {base : Heap}
theorem LenD.tree {H : Hp} {d : Addr} {n : Nat} {cut : List IP} {t t' : Tr} {D : Nat → Nat → Rat} (h : LenD K H d t D) (C : Cutting n cut t) (C' : Cutting n cut t') : LenD K H d t' D := by
  have e : ∀ q, q ∈ t.all 0 ↔ q ∈ t'.all 0 := fun q => by
    obtain ⟨a, b⟩ := q
    rw [← C.tied, C'.tied]
  obtain ⟨ks, L, h1, h2, h3⟩ := h
  refine ⟨ks, L, h1, fun p => by rw [h2]; exact ⟨fun ⟨q, a, b⟩ => ⟨q, (e q).mp a, b⟩, fun ⟨q, a, b⟩ => ⟨q, (e q).mpr a, b⟩⟩, fun q hq => h3 q ((e q).mpr hq)⟩
end
section
variable {P : Program} {w : World} {K : PySem.W.Frag} {mg : Str → Option Value} {base : Heap}
theorem Cutting.ties_len {n : Nat} {cut : List IP} {t : Tr} (C : Cutting n cut t) : (tiesL n cut).length = 2 * n - 3 := by
  have := C.cut_len
  have := C.n3
  rw [tiesL, sortP_len, List.length_append, sides0_len (by omega)]
  omega
theorem drawn_len' {n : Nat} {cut : List IP} {t : Tr} (C : Cutting n cut t) (n12 : n ≤ 12) {ks : List IP} {R : IP → Rat} (hks : ∀ p, p ∈ ks ↔ p ∈ tiesL n cut) (hsz : ∀ p ∈ tiesL n cut, szd (R p) 1024 128) :
    ∃ (L : Len) (D : Nat → Nat → Rat) (F : Nat), Meas n t L D ∧ Bd n D F 550 ∧ (∀ q ∈ t.all 0, D q.1 q.2 = R (castP q)) ∧ ∀ (K : PySem.W.Frag) (H : Hp) (d : Addr), LD K H d ks (fun k => rp (R k)) → LenD K H d t D := by
  have hL : ∀ p ∈ t.all 0, szd (R (castP p)) 1024 128 := fun p hp => hsz _ (C.ties.mpr ⟨p, hp, rfl⟩)
  have M := meas_mt (L := fun p => R (castP p)) C.w (fun p hp => (hL p hp).1)
  obtain ⟨F, Z⟩ := meas_bd (L := fun p => R (castP p)) C.w n12 hL
  refine ⟨_, _, F, M, Z, fun q hq => M.tie hq, fun K H d h => ⟨ks, _, h, fun p => by rw [hks]; exact C.ties, fun q hq => ?_⟩⟩
  rw [M.tie hq]
def spStart (K : PySem.W.Frag) : Sp := fun vs H Q _ => ∃ (r : Addr) (row : List Int), vs = [.ref r] ∧ SqL K H r (row.map V.int) ∧ 33 ≤ row.length ∧ (∀ x ∈ row, 0 ≤ x) ∧ ∀ (z c d : Addr) (H' : Hp) (S : Ms), Same H H' → H z = none → H c = none → H d = none → StA K H' z c d S → Ok S 550 → (∀ p ∈ tiesL S.n S.cut, szd (S.D p.1.toNat p.2.toNat) 1024 128) → Q (.ref z) H'
theorem ok_law_start (T : Tx P K mg base) : FnOk P w K mg base CX0 44 T.a_law_start T.fd_law_start (["_law_row"]) (spStart K) := by
  refine T.F_law_start.ok sc_law_start (fun vs H Q E h => ?_) (fun cdv A outer s H vs Q E hr h => ?_)
  · obtain ⟨r, row, rfl, _⟩ := h
    rfl
  obtain ⟨r, row, rfl, hR, hl, h0, q⟩ := h
  refine ⟨_, (pss_cons (ps_set (i := 1) sc_law_start.nd rfl (.inl rfl) (pe_call (ok_law_many T) (hr.mono (by decide)) (by rfl) T.g_law_many T.F_law_many.kp T.b_law_many .nil pass0 (pa_cons (pv 0) pa_nil)))
      (pss_cons (ps_set (i := 2) sc_law_start.nd rfl (.inl rfl) (pe_call (ok_law_ropes T) (hr.mono (by decide)) (by rfl) T.g_law_ropes T.F_law_ropes.kp T.b_law_ropes .nil pass0 (pa_cons (pe_call (ok_law_ears T) (hr.mono (by decide)) (by rfl) T.g_law_ears T.F_law_ears.kp T.b_law_ears .nil pass0 (pa_cons (pv 1) (pa_cons (pe_slice (sl_listK (K := K)) (pv 0) (po_some (pe_int)) po_none) pa_nil))) pa_nil)))
      (pss_one (ps_ret (pe_tup (pa_cons (pv 1) (pa_cons (pv 2) (pa_cons (pe_call (ok_law_sized T) (hr.mono (by decide)) (by rfl) T.g_law_sized T.F_law_sized.kp T.b_law_sized .nil pass0 (pa_cons (pe_call (ok_law_ties T) (hr.mono (by decide)) (by rfl) T.g_law_ties T.F_law_ties.kp T.b_law_ties .nil pass0 (pa_cons (pv 1) (pa_cons (pv 2) pa_nil))) (pa_cons (pe_slice (sl_listK (K := K)) (pv 0) (po_some (pe_int)) po_none) pa_nil))) pa_nil)))))))), ?_⟩
  walk_at "st"
  refine ⟨r, row, rfl, hR, by omega, fun n n3 n12 => ?_⟩
  walk_at "st"
  refine Pm.w_slL hR (fun p1 hp1 => ?_)
  rw [cut_drop (by decide) (by rw [List.length_map]; omega), ← List.map_drop]
  have s1 := same_new hp1 (.lst ((row.drop (2 : Int).toNat).map V.int))
  walk_at "st"
  refine ⟨n, p1, row.drop (2 : Int).toNat, rfl, SqL.of upd_same, n3, n12, by rw [List.length_drop]; show n ≤ row.length - 2 + 3; omega, fun e H2 evs es s2 ne he hA hears hes => ?_⟩
  walk_at "st"
  refine ⟨e, evs, es, rfl, SqL.of he, hA, by omega, fun c H3 cvs s3 nc hc hpc => ?_⟩
  obtain ⟨t, C⟩ := drawn_cutting hears n3
  have hcut : ∃ cut, cut = sortP (es.map ropeOf) := ⟨_, rfl⟩
  obtain ⟨cut, hcut⟩ := hcut
  rw [← hcut] at C hpc
  have lcut := C.cut_len
  have s13 : Same H H3 := s1.trans (s2.trans s3)
  have hR3 := s13.seq hR
  walk_at "st"
  refine ⟨n, c, cut, rfl, by omega, by omega, ⟨cvs, hc, hpc⟩, by omega, fun l H4 tvs s4 nl hl4 hpl => ?_⟩
  have hR4 := s4.seq hR3
  walk_at "st"
  refine Pm.w_slL hR4 (fun p5 hp5 => ?_)
  rw [cut_drop (by decide) (by rw [List.length_map]; omega), ← List.map_drop]
  have s5 := same_new hp5 (.lst ((row.drop (12 : Int).toNat).map V.int))
  have tl := C.ties_len
  walk_at "st"
  refine ⟨l, p5, tiesL n cut, row.drop (12 : Int).toNat, rfl, PLt.same ⟨tvs, hl4, hpl⟩ s5, C.ties_nodup, SqL.of upd_same, by rw [List.length_drop, tl]; show 2 * n - 3 ≤ row.length - 12; omega, by omega, by omega, fun x hx => h0 x (List.mem_of_mem_drop hx), fun d H6 ks R s6 nd hLD hks hsz => ?_⟩
  obtain ⟨L, D, F, M, Z, hDR, hLen⟩ := drawn_len' C n12 hks hsz
  have hD := hLen K H6 d hLD
  have s56 := s5.trans s6
  have s36 := s4.trans s56
  walk_at "st"
  refine Pm.w_newT (fun z hz => ?_)
  have s7 := same_new hz (.tup [.int n, .ref c, .ref d])
  refine q z c d _ ⟨n, cut, D⟩ (s13.trans (s36.trans s7)) ((s13.trans s36).free hz) ((s1.trans s2).free nc) ((s13.trans (s4.trans s5)).free nd) ⟨upd_same, ⟨cvs, (s36.trans s7) _ _ hc, prs_keep (keeps (s36.trans s7)) hpc⟩, LenD.dls (S := ⟨n, cut, D⟩) (hD.same s7) C n12⟩ ⟨n12, t, L, F, C, M, Z⟩ (fun p hp => ?_)
  obtain ⟨q0, hq0, rfl⟩ := C.ties.mp hp
  show szd (D q0.1 q0.2) 1024 128
  rw [hDR q0 hq0]
  exact hsz (castP q0) hp
end
section
variable {P : Program} {w : World} {K : PySem.W.Frag} {mg : Str → Option Value} {base : Heap}
theorem cutting_kept {n : Nat} {cut : List IP} {t : Tr} (C : Cutting n cut t) (n12 : n ≤ 12) : KeptOk n cut ∧ sortP (cut.map tied) = cut := by
  have n3 := C.n3
  have hw := C.w
  have bd : ∀ p ∈ cut, ∃ q, p = castP q ∧ q ∈ t.ropes 0 ∧ q ∈ t.all 0 ∧ q.1 < q.2 ∧ q.2 < n ∧ q.1 + 2 ≤ q.2 ∧ ¬ (q.1 = 0 ∧ q.2 = t.w) := fun p hp => by
    obtain ⟨q, hq, rfl⟩ := C.mem.mp hp
    have h1 := (ropes_bd hq).1
    have h2 := Tr.bd (Tr.inn_all h1)
    exact ⟨q, rfl, hq, Tr.inn_all h1, h2.2.1, by omega, Tr.inn_wide h1, (ropes_bd hq).2⟩
  have e1 : cut.map tied = cut := by
    conv => rhs; rw [← List.map_id cut]
    refine List.map_congr_left fun p hp => ?_
    obtain ⟨q, rfl, _, _, h1, _⟩ := bd p hp
    show tieOf (q.1 : Int) (q.2 : Int) = _
    rw [tie_lt (by omega)]
    rfl
  have e2 : sortP cut = cut := sortP_eq C.rise (List.Perm.refl _)
  rw [e1, e2]
  refine ⟨⟨⟨by omega, by omega⟩, by have := C.cut_len; omega, ?_⟩, rfl⟩
  rw [e1, e2]
  refine ⟨fun p hp => ?_, ?_⟩
  · obtain ⟨q, rfl, _, _, h1, h2, h3, h4⟩ := bd p hp
    show 0 ≤ (q.1 : Int) ∧ (q.2 : Int) < n ∧ 2 ≤ (q.2 : Int) - q.1 ∧ (q.2 : Int) - q.1 < (n : Int) - 1
    omega
  · have nd : cut.Nodup := C.perm.nodup_iff.mpr (List.pairwise_map.mpr ((Tr.ropes_nodup t 0).imp fun h z => h (castP_inj z)))
    refine List.Pairwise.imp_of_mem (fun {p q} hp hq ne => ⟨ne, fun cr => ?_⟩) nd
    obtain ⟨a, rfl, _, ha, a1, _⟩ := bd p hp
    obtain ⟨b, rfl, _, hb, b1, _⟩ := bd q hq
    rw [cross_iff (by show (a.1 : Int) < a.2; omega) (by show (b.1 : Int) < b.2; omega)] at cr
    have n1 := Tr.noncross ha hb
    have n2 := Tr.noncross hb ha
    simp only [castP] at cr
    omega
/-- the heap with a new instance -/
theorem made_same {H : Hp} {x dx C : Addr} (hx : H x = none) (hdx : H dx = none) (ne : dx ≠ x) : Same H (upd (upd H dx (.own x)) x (.ins C dx [])) ∧ Keeps (upd (upd H dx (.own x)) x (.ins C dx [])) H := by
  constructor
  · intro b o e
    rw [upd_ne (ne_of_none e hx), upd_ne (ne_of_none e hdx)]
    exact e
  · intro b xs e
    by_cases z : b = x
    · rw [z, upd_same] at e; cases e
    · rw [upd_ne z] at e
      by_cases z2 : b = dx
      · rw [z2, upd_same] at e; cases e
      · rw [upd_ne z2] at e; exact e
end
section
open TL
variable {P : Program} {w : World} {K : PySem.W.Frag} {mg : Str → Option Value} {base : Heap}
def spFig : Sp := fun vs H Q _ => ∃ z : Str, vs = [.str z] ∧ z.length ≤ 1000000 ∧ Q (.int (fig z)) H
theorem digits_take {z : Str} {i c : Nat} (h : (tl z)[i]? = some c) (d : ∀ x ∈ (tl z).take i, 48 ≤ x ∧ x ≤ 57) (hc : 48 ≤ c ∧ c ≤ 57) : ∀ x ∈ (tl z).take (i + 1), 48 ≤ x ∧ x ≤ 57 := fun x hx => by
  rw [take_snoc h] at hx
  rcases List.mem_append.mp hx with m | m
  · exact d x m
  · rw [List.mem_singleton.mp m]; exact hc
theorem ok_whole_of (T : Tx P K mg base) : FnOk P w K mg base CX0 41 T.a_whole_of T.fd_whole_of (["word"]) spFig := by
  refine T.F_whole_of.ok sc_whole_of (fun vs H Q E h => ?_) (fun cdv A outer s H vs Q E hr h => ?_)
  · obtain ⟨z, rfl, _⟩ := h
    rfl
  obtain ⟨z, rfl, hz, q⟩ := h
  have sz : z.length ≤ sizeLine := size_ok (by omega)
  refine ⟨_, (pss_cons (ps_if (PW.pt (pw_or (pt_cmpR op_eq (pv 0) (pe_str) (nomark _)) (pw_or1 (pt_cmpR op_gt (pe_callB c_lenS (by rfl) T.m_len PySem.boot_len (pa_cons (pv 0) pa_nil)) (pe_glob (by rfl) T.g_MOST_FIGURES T.r_MOST_FIGURES) (nomark _))))) (pss_one (ps_ret (pe_un un_neg (pe_int)))) pss_nil)
      (pss_cons (ps_for PassesOwn.never rfl (pi_str (pv 0)) (pg_name (i := 1) sc_whole_of.nd rfl (.inl rfl)) (pss_one (ps_if (pt_cmpR o_ninC (pv 1) (pe_glob (by rfl) T.g_FIGURES T.r_FIGURES) (by rfl)) (pss_one (ps_ret (pe_un un_neg (pe_int)))) pss_nil)))
      (pss_cons (ps_if (PW.pt (pw_and (pt_cmpR op_eq (pe_ix ix_str (pv 0) (pe_int) (fun _ _ => rfl)) (pe_str) (nomark _)) (pw_and1 (pt_cmpR op_gt (pe_callB c_lenS (by rfl) T.m_len PySem.boot_len (pa_cons (pv 0) pa_nil)) (pe_int) (nomark _))))) (pss_one (ps_ret (pe_un un_neg (pe_int)))) pss_nil)
      (pss_one (ps_ret (pe_callTy c_intS (by rfl) T.m_int (by decide +kernel) (pa_cons (pv 0) pa_nil))))))), ?_⟩
  walk_at "st"
  refine Pm.w_ite (fun e => ?_) (fun e => ?_)
  · walk_at "st"
    rw [fig_no (.inl (len_zero.mp e))] at q
    exact q
  rw [len_zero] at e
  walk_at "st"
  refine Pm.w_lenS sz ?_
  walk_at "st"
  refine Pm.w_ite (fun e2 => ?_) (fun e2 => ?_)
  · walk_at "st"
    rw [fig_no (.inr (.inl (by omega)))] at q
    exact q
  walk_at "st"
  refine Pm.w_forS (fun i σ H' => ∃ x, σ = [some (.str z), x] ∧ H' = H ∧ ∀ x ∈ (tl z).take i, 48 ≤ x ∧ x ≤ 57) ⟨_, rfl, rfl, by rw [List.take_zero]; exact fun x h => nomatch h⟩ ?_ ?_
  · rintro i c σ H' hc ⟨x, rfl, rfl, hd⟩
    walk_at "st"
    refine Pm.w_ninC ?_
    walk_at "st"
    refine Pm.w_iteN (fun n => ?_) (fun y => ?_)
    · walk_at "st"
      rw [fig_no (.inr (.inr (.inl fun a => n (figures_mem.mpr (a c (List.mem_of_getElem? hc))))))] at q
      exact q
    · walk_at "st"
      exact ⟨_, rfl, rfl, digits_take hc hd (figures_mem.mp y)⟩
  · rintro σ H' ⟨x, rfl, rfl, hd⟩
    rw [List.take_length] at hd
    have ne : tl z ≠ [] := fun y => e ((len0_tl z).mpr y)
    obtain ⟨c, r, ez⟩ : ∃ c r, tl z = c :: r := by
      cases ez : tl z with
      | nil => exact absurd ez ne
      | cons c r => exact ⟨c, r, rfl⟩
    have hh : (tl z).head? = some c := by rw [ez]; rfl
    walk_at "st"
    refine Pm.w_ixS sz (str_head hh) ?_
    walk_at "st"
    rw [show decide ((⟨#[c]⟩ : Str) = ("0" : Str)) = decide (c = 48) from decide_eq_decide.mpr (one_eq (d := 48))]
    have last : ¬ (c = 48 ∧ 1 < z.length) → rIntS [.str z] H' Q := fun n => by
      refine Pm.w_intS (PySem.intText_digits hd ne (by omega)) (by omega) ?_
      rw [fig_yes (by
        rintro (y | y | y | y)
        · exact e y
        · omega
        · exact y hd
        · rw [hh] at y
          exact n ⟨by simpa using y.1, y.2⟩)] at q
      exact q
    refine Pm.w_ite (fun e3 => ?_) (fun e3 => ?_)
    · walk_at "st"
      refine Pm.w_lenS sz ?_
      walk_at "st"
      refine Pm.w_ite (fun e4 => ?_) (fun e4 => ?_)
      · walk_at "st"
        rw [fig_no (.inr (.inr (.inr ⟨by rw [hh, e3], by omega⟩)))] at q
        exact q
      · walk_at "st"
        exact last fun y => e4 (by have := y.2; omega)
    · walk_at "st"
      exact last fun y => e3 y.1
end
section
open TL
variable {P : Program} {w : World} {K : PySem.W.Frag} {mg : Str → Option Value} {base : Heap}
def spPartText (K : PySem.W.Frag) : Sp := fun vs H Q _ => ∃ (t : Addr) (p : IP), vs = [.ref t] ∧ FrV K H (.ref t) p ∧ p.1.natAbs.log2 < 1920 ∧ p.2.natAbs.log2 < 1920 ∧ (partStr p).length ≤ 1000000 ∧ Q (.str (partStr p)) H
theorem ok_part_text (T : Tx P K mg base) : FnOk P w K mg base CX0 41 T.a_part_text T.fd_part_text (["one"]) (spPartText K) := by
  refine T.F_part_text.ok sc_part_text (fun vs H Q E h => ?_) (fun cdv A outer s H vs Q E hr h => ?_)
  · obtain ⟨t, p, rfl, _⟩ := h
    rfl
  obtain ⟨t, p, rfl, ht, h1, h2, hl, q⟩ := h
  unfold partStr at hl
  rw [len_app, len_app] at hl
  refine ⟨_, (pss_one (ps_ret (pe_op o_catS (pe_op o_catS (pe_callTy c_strI (by rfl) T.m_str (by decide +kernel) (pa_cons (pe_ix (ix_tupK (K := K)) (pv 0) (pe_int) (fun _ _ => rfl)) pa_nil)) (pe_str)) (pe_callTy c_strI (by rfl) T.m_str (by decide +kernel) (pa_cons (pe_ix (ix_tupK (K := K)) (pv 0) (pe_int) (fun _ _ => rfl)) pa_nil))))), ?_⟩
  walk_at "st"
  refine Pm.w_ixT ht.tup (atI2 _ _).1 ?_
  walk_at "st"
  refine Pm.w_strI h1 ?_
  walk_at "st"
  refine Pm.w_catS (size_ok (by omega)) ?_
  walk_at "st"
  refine Pm.w_ixT ht.tup (atI2 _ _).2 ?_
  walk_at "st"
  refine Pm.w_strI h2 ?_
  refine Pm.w_catS (size_ok (by rw [len_app]; omega)) ?_
  exact q
def spPartRead (K : PySem.W.Frag) (C : Addr) : Sp := fun vs H Q E => ∃ z : Str, vs = [.str z] ∧ z.length ≤ 1000000 ∧ (partOf z = none → ∀ H', Same H H' → E (.ref C) none H') ∧ (∀ p, partOf z = some p → ∀ (t : Addr) (H' : Hp), Same H H' → H t = none → H' t = some (.tup [.int p.1, .int p.2]) → Q (.ref t) H')
theorem ok_part_read (T : Tx P K mg base) : FnOk P w K mg base (L2N.CX P w) 43 T.a_part_read T.fd_part_read (["line"]) (spPartRead K T.c_NoFraction) := by
  refine T.F_part_read.okXN sc_part_read (fun vs H Q E h => ?_) (fun cdv A outer s H vs Q E hr h => ?_)
  · obtain ⟨z, rfl, _⟩ := h
    rfl
  obtain ⟨z, rfl, hz, hE, q⟩ := h
  have sz : z.length ≤ sizeLine := size_ok (by omega)
  refine ⟨_, (pss_cons (ps_set (i := 1) sc_part_read.nd rfl (.inl rfl) (pe_cmpR op_eq (pe_slice sl_str (pv 0) po_none (po_some (pe_int))) (pe_str) (nomark _)))
      (pss_cons (ps_set (i := 2) sc_part_read.nd rfl (.inl rfl) (pv 0))
      (C8.pss_cut (ps_if (pt_val (pv 1)) (pss_one (ps_set (i := 2) sc_part_read.nd rfl (.inl rfl) (pe_slice sl_str (pv 0) (po_some (pe_int)) po_none))) pss_nil)
      (pss_cons (ps_set (i := 3) sc_part_read.nd rfl (.inl rfl) (k_bm (K := K) (pe_bm PySem.F.plainAttrs_str PySem.F.slot_str_split PySem.F.type_str_split mt_splitS (pv 2) (pa_cons (pe_str) pa_nil))))
      (pss_cons (ps_if (pt_cmpR op_ne (pe_callB (c_len (K := K)) (by rfl) T.m_len PySem.boot_len (pa_cons (pv 3) pa_nil)) (pe_int) (nomark _)) (pss_one (L2N.ps_raise rfl (L2N.takes_of rfl rfl rfl rfl) (L2N.pmk_own PySem.F.excBase_ValueError T.x_NoFraction T.g_NoFraction T.k_NoFraction (raises_own T.b_NoFraction T.t_NoFraction) rfl))) pss_nil)
      (pss_cons (ps_set (i := 4) sc_part_read.nd rfl (.inl rfl) (pe_call (ok_whole_of T) (hr.mono (by decide)) (by rfl) T.g_whole_of T.F_whole_of.kp T.b_whole_of .nil pass0 (pa_cons (pe_ix (ix_listK (K := K)) (pv 3) (pe_int) (fun _ _ => rfl)) pa_nil)))
      (pss_cons (ps_set (i := 5) sc_part_read.nd rfl (.inl rfl) (pe_call (ok_whole_of T) (hr.mono (by decide)) (by rfl) T.g_whole_of T.F_whole_of.kp T.b_whole_of .nil pass0 (pa_cons (pe_ix (ix_listK (K := K)) (pv 3) (pe_int) (fun _ _ => rfl)) pa_nil)))
      (pss_cons (ps_if (PW.pt (pw_or (pt_cmpR op_lt (pv 4) (pe_int) (nomark _)) (pw_or (pt_cmpR op_lt (pv 5) (pe_int) (nomark _)) (pw_or1 (pt_cmpR op_ne (pe_call (ok_measure T) (hr.mono (by decide)) (by rfl) T.g_measure T.F_measure.kp T.b_measure .nil pass0 (pa_cons (pv 4) (pa_cons (pv 5) pa_nil))) (pe_int) (nomark _)))))) (pss_one (L2N.ps_raise rfl (L2N.takes_of rfl rfl rfl rfl) (L2N.pmk_own PySem.F.excBase_ValueError T.x_NoFraction T.g_NoFraction T.k_NoFraction (raises_own T.b_NoFraction T.t_NoFraction) rfl))) pss_nil)
      (pss_cons (ps_if (PW.pt (pw_and (pt_val (pv 1)) (pw_and1 (pt_cmpR op_eq (pv 4) (pe_int) (nomark _))))) (pss_one (L2N.ps_raise rfl (L2N.takes_of rfl rfl rfl rfl) (L2N.pmk_own PySem.F.excBase_ValueError T.x_NoFraction T.g_NoFraction T.k_NoFraction (raises_own T.b_NoFraction T.t_NoFraction) rfl))) pss_nil)
      (C8.pss_cut (ps_if (pt_val (pv 1)) (pss_one (ps_set (i := 4) sc_part_read.nd rfl (.inl rfl) (pe_un un_neg (pv 4)))) pss_nil)
      (pss_one (ps_ret (pe_tup (pa_cons (pv 4) (pa_cons (pv 5) pa_nil))))))))))))))), ?_⟩
  walk_at "st"
  refine Pm.w_slS sz ?_
  walk_at "st"
  have hd : decide (cutS z none (some 1) = ("-" : Str)) = decide (dash z) := rfl
  rw [hd]
  refine Pm.w_cut (fun σ' H' => σ' = [some (.str z), some (.bl (decide (dash z))), some (.str (restOf z)), none, none, none] ∧ H' = H) ?_ ?_
  · walk_at "st"
    refine Pm.w_ite (fun e => ?_) (fun e => ?_)
    · walk_at "st"
      refine Pm.w_slS sz ?_
      refine ⟨?_, rfl⟩
      unfold restOf
      rw [if_pos e]
      rfl
    · walk_at "st"
      refine ⟨?_, rfl⟩
      unfold restOf
      rw [if_neg e]
      rfl
  rintro σ H' ⟨rfl, rfl⟩
  have rl := rest_len z
  unfold partOf at hE q
  generalize restOf z = rz at hE q rl ⊢
  generalize decide (dash z) = d at hE q ⊢
  walk_at "st"
  refine ⟨rfl, ?_⟩
  walk_at "st"
  refine Pm.w_split (by decide +kernel) (by rw [sizeLine_eq]; omega) (fun l hl => ?_)
  have wl : ∀ x ∈ Txt.split rz ("/" : Str), x.length ≤ 1000000 := fun x hx => Nat.le_trans (split_piece hx) (by omega)
  generalize Txt.split rz ("/" : Str) = ws at hE q wl ⊢
  have s1 := same_new hl (.lst (ws.map V.str))
  have f1 : (upd H' l (.lst (ws.map V.str))) l = some (.lst (ws.map V.str)) := upd_same
  generalize upd H' l (.lst (ws.map V.str)) = H1 at s1 f1 ⊢
  walk_at "st"
  refine Pm.w_lenL (SqL.of f1) ?_
  rw [List.length_map]
  walk_at "st"
  refine Pm.w_iteN (fun e => ?_) (fun e => ?_)
  · refine hE ?_ _ s1
    match ws, e with
    | [], _ => rfl
    | [_], _ => rfl
    | [a, b], e => exact absurd rfl e
    | _ :: _ :: _ :: _, _ => rfl
  have hw : ∃ a b, ws = [a, b] := by
    match ws, e with
    | [a, b], _ => exact ⟨a, b, rfl⟩
    | [], e => exact absurd e (by simp)
    | [_], e => exact absurd e (by simp)
    | _ :: _ :: _ :: _, e => exact absurd e (by simp only [List.length_cons]; omega)
  obtain ⟨a, b, rfl⟩ := hw
  rw [partTwo_ab] at hE q
  have la := wl a (by simp)
  have lb := wl b (by simp)
  walk_at "st"
  refine Pm.w_ixL (SqL.of f1) (v := .str a) rfl ?_
  walk_at "st"
  refine ⟨a, rfl, la, ?_⟩
  walk_at "st"
  refine Pm.w_ixL (SqL.of f1) (v := .str b) rfl ?_
  walk_at "st"
  refine ⟨b, rfl, lb, ?_⟩
  generalize fig a = x at hE q ⊢
  generalize fig b = y at hE q ⊢
  walk_at "st"
  refine Pm.w_ite (fun c1 => ?_) (fun c1 => ?_)
  · exact hE (if_pos (.inl c1)) _ s1
  walk_at "st"
  refine Pm.w_ite (fun c2 => ?_) (fun c2 => ?_)
  · exact hE (if_pos (.inr (.inl c2))) _ s1
  walk_at "st"
  refine ⟨x, y, rfl, ?_⟩
  walk_at "st"
  refine Pm.w_iteN (fun c3 => ?_) (fun c3 => ?_)
  · exact hE (if_pos (.inr (.inr (.inl (by omega))))) _ s1
  have c3 : Int.gcd x y = 1 := by omega
  walk_at "st"
  have fin : ∀ {Q2 : VK} (v : Int), v = (if d = true then -x else x) → ¬ (d = true ∧ x = 0) → (∀ (t : Addr) (H9 : Hp), Same H' H9 → H' t = none → H9 t = some (.tup [.int v, .int y]) → Q2 (.ref t) H9) → TupK Q2 [.int v, .int y] H1 := fun v _ _ h => Pm.w_newT (fun t ht => h t _ (s1.trans (same_new ht _)) (s1.free ht) upd_same)
  have q' : ¬ (d = true ∧ x = 0) → ∀ (t : Addr) (H9 : Hp), Same H' H9 → H' t = none → H9 t = some (.tup [.int (if d = true then -x else x), .int y]) → Q (.ref t) H9 := fun n t H9 a1 a2 a3 => q _ (if_neg (by rintro (h | h | h | h); exact c1 h; exact c2 h; exact h c3; exact n h)) t H9 a1 a2 a3
  have cc : ∀ h4 : ¬ (d = true ∧ x = 0), C8.tCut (tIfS (tB (tVar 1)) (tAsg (tUn (rU fun i => V.int (-i)) (tVar 4)) (gName 4)) tNext) (tRet (tTup (tCons (tVar 4) (tCons (tVar 5) tNil)))) ⟨fun _ H' => Q .non H', Q, fun _ _ => False, fun _ _ => False⟩ [some (.str z), some (.bl d), some (.str rz), some (.ref l), some (.int x), some (.int y)] H1 := by
    intro h4
    refine Pm.w_cut (fun σ' H' => σ' = [some (.str z), some (.bl d), some (.str rz), some (.ref l), some (.int (if d = true then -x else x)), some (.int y)] ∧ H' = H1) ?_ ?_
    · cases d with
      | true =>
        walk_at "st"
        exact ⟨rfl, rfl⟩
      | false =>
        walk_at "st"
        exact ⟨rfl, rfl⟩
    · rintro σ H9 ⟨rfl, rfl⟩
      walk_at "st"
      exact fin _ rfl h4 (q' h4)
  cases d with
  | true =>
    walk_at "st"
    refine Pm.w_ite (fun c4 => ?_) (fun c4 => ?_)
    · exact hE (if_pos (.inr (.inr (.inr ⟨rfl, c4⟩)))) _ s1
    exact cc (fun h => c4 h.2)
  | false =>
    walk_at "st"
    exact cc (fun h => nomatch h.1)
end
section
open TL
variable {P : Program} {w : World} {K : PySem.W.Frag} {mg : Str → Option Value} {base : Heap}
/-- the lengths of a state's ties have at most so many bits -/
def TieW (S : Ms) (b : Nat) : Prop := ∀ k ∈ tiesL S.n S.cut, rb (S.D k.1.toNat k.2.toNat) b
def sheetOf (S : Ms) : Str := sheetS S.n (tiesL S.n S.cut) (fun k => rp (S.D k.1.toNat k.2.toNat))
theorem ten580 : (2 : Nat) ^ 1900 < 10 ^ 580 := by decide +kernel
theorem il_len {i : Int} (h : i.natAbs < 2 ^ 1900) : (ilL i).length ≤ 581 := by
  have := istr_len (i := i) (k := 580) (by decide) (Nat.lt_trans h ten580)
  rw [len_tl] at this
  exact this
theorem il_len2 {i : Int} (h : i.natAbs < 100) : (ilL i).length ≤ 3 := by
  have := istr_len (i := i) (k := 2) (by decide) h
  rw [len_tl] at this
  exact this
theorem row_len {k p : IP} (h1 : k.1.natAbs < 100) (h2 : k.2.natAbs < 100) (h3 : p.1.natAbs < 2 ^ 1900) (h4 : p.2.natAbs < 2 ^ 1900) : (rowL k p).length ≤ 1200 := by
  have a1 := il_len2 h1
  have a2 := il_len2 h2
  have a3 := il_len h3
  have a4 := il_len h4
  unfold rowL parL
  simp only [List.length_append, List.length_cons]
  omega
theorem part_len {p : IP} (h3 : p.1.natAbs < 2 ^ 1900) (h4 : p.2.natAbs < 2 ^ 1900) : (partStr p).length ≤ 1163 := by
  have a3 := il_len h3
  have a4 := il_len h4
  rw [len_tl, tl_part]
  unfold parL
  simp only [List.length_append, List.length_cons]
  omega
theorem log1900 {n : Nat} (h : n < 2 ^ 1900) : n.log2 < 1920 := Nat.lt_of_lt_of_le (log2_lt h (by decide)) (by decide)
theorem tieW_rp {S : Ms} {b : Nat} (h : TieW S b) (hb : b ≤ 1900) {k : IP} (hk : k ∈ tiesL S.n S.cut) : (rp (S.D k.1.toNat k.2.toNat)).1.natAbs < 2 ^ 1900 ∧ (rp (S.D k.1.toNat k.2.toNat)).2.natAbs < 2 ^ 1900 := by
  have h1 := (h k hk).mono hb
  exact ⟨h1.1, rb_den h1⟩
def spMeadText (K : PySem.W.Frag) (C : Addr) : Sp := fun vs H Q _ => ∃ (p : Addr) (H0 Hs : Hp) (S : Ms) (P A : List (Deed × Ms)) (t : Tr), vs = [.ref p] ∧ MeadAt K C H0 Hs H p S P A ∧ Cutting S.n S.cut t ∧ S.n ≤ 12 ∧ TieW S 1900 ∧ (sheetOf S).length ≤ 1000000 ∧ ∀ H', Same H H' → Q (.str (sheetOf S)) H'
theorem take_flat {α β : Type} {l : List α} {i : Nat} {x : α} (f : α → List β) (h : l[i]? = some x) : (l.take (i + 1)).flatMap f = (l.take i).flatMap f ++ f x := by
  rw [take_snoc h, List.flatMap_append]
  simp
theorem ok_mead_text (T : Tx P K mg base) : FnOk P w K mg base CX0 43 T.a_mead_text T.fd_mead_text (["mead"]) (spMeadText K T.c_Mead) := by
  refine T.F_mead_text.ok sc_mead_text (fun vs H Q E h => ?_) (fun cdv A outer s H vs Q E hr h => ?_)
  · obtain ⟨p, H0, Hs, S, P, A, t, rfl, _⟩ := h
    rfl
  obtain ⟨p, H0, Hs, S, P, A, t, rfl, M, C, n12, tw, hsl, q⟩ := h
  have lm : ∀ {q : Addr} {H0 Hs H : Hp} {S : Ms} {P A : List (Deed × Ms)} {m : Str} {R : V → Hp → Prop}, MeadAt K T.c_Mead H0 Hs H q S P A → (m == "cut") = false → (m == "many") = false → (m == "sized") = false → (m == "past") = false → (m == "ahead") = false → R (.ref q) H → MethK T.c_Mead m R (.ref q) H := by
    intro q H0 Hs H S P A m R M e1 e2 e3 e4 e5 h
    obtain ⟨dx', lp', la', cc, dc, vs', us', q0, q1, q2, q3, q4, q5, q6, hp', _⟩ := M.ex
    exact w_methAt hp' (mf_no _ _ _ _ _ e1 e2 e3 e4 e5) h
  have n3 := C.n3
  have tl' := C.ties_len
  have hn := tl_nat S.n
  have hnl : (Str.ofString (toString (S.n : Int))).length ≤ 3 := istr_len (k := 2) (by decide) (by omega)
  refine ⟨_, (pss_cons (ps_set (i := 1) sc_mead_text.nd rfl (.inl rfl) (pe_meth0 (pv 0) T.cl_Mead T.M_Mead_lengths (ok_Mead_lengths T) (hr.mono (by decide)) T.b_Mead_lengths .nil pass0 ))
      (pss_cons (ps_set (i := 2) sc_mead_text.nd rfl (.inl rfl) (pe_op o_catS (pe_op o_catS (pe_str) (pe_callTy c_strI (by rfl) T.m_str (by decide +kernel) (pa_cons (pe_meth0 (pv 0) T.cl_Mead T.M_Mead_posts (ok_Mead_posts T) (hr.mono (by decide)) T.b_Mead_posts .nil pass0 ) pa_nil))) (pe_str)))
      (pss_cons (ps_for PassesOwn.never rfl (k_il (K := K) (pi_list (pe_callB (cr_sortKT rfl) (by rfl) T.m_sorted (by decide +kernel) (pa_cons (k_bm0 (K := K) (pe_bm0 PySem.F.plainAttrs_dict PySem.F.slot_dict_keys PySem.F.type_dict_keys mt_keysT (pv 1))) pa_nil)))) (k_gt (K := K) (pg_tup (by rfl) (pgs_cons (pg_name (i := 3) sc_mead_text.nd rfl (.inl rfl)) (pgs_cons (pg_name (i := 4) sc_mead_text.nd rfl (.inl rfl)) pgs_nil)))) (pss_one (ps_set (i := 2) sc_mead_text.nd rfl (.inl rfl) (pe_op o_catS (pe_op o_catS (pe_op o_catS (pe_op o_catS (pe_op o_catS (pe_op o_catS (pv 2) (pe_callTy c_strI (by rfl) T.m_str (by decide +kernel) (pa_cons (pv 3) pa_nil))) (pe_str)) (pe_callTy c_strI (by rfl) T.m_str (by decide +kernel) (pa_cons (pv 4) pa_nil))) (pe_str)) (pe_call (ok_part_text T) (hr.mono (by decide)) (by rfl) T.g_part_text T.F_part_text.kp T.b_part_text .nil pass0 (pa_cons (pe_dget (hu_of hr) (pv 1) (pe_tup (pa_cons (pv 3) (pa_cons (pv 4) pa_nil))) (fun _ _ => rfl)) pa_nil))) (pe_str)))))
      (pss_one (ps_ret (pe_op o_catS (pv 2) (pe_str))))))), ?_⟩
  walk_at "st"
  refine lm M (by decide +kernel) (by decide +kernel) (by decide +kernel) (by decide +kernel) (by decide +kernel) ?_
  walk_at "st"
  refine ⟨p, H0, Hs, S, P, A, rfl, M, fun g H1 s1 ng hg => ?_⟩
  obtain ⟨ks, hL, hks, sm, kl⟩ := id hg
  have eks : sortP ks = tiesL S.n S.cut := by
    refine sortP_eq (sortP_rising _) ?_
    exact (List.perm_ext_iff_of_nodup C.ties_nodup hL.nd).mpr fun x => (hks x).symm
  obtain ⟨H0a, Hsa, ga, _, Ma, fa⟩ := M.grow s1
  walk_at "st"
  refine lm Ma (by decide +kernel) (by decide +kernel) (by decide +kernel) (by decide +kernel) (by decide +kernel) ?_
  walk_at "st"
  refine ⟨p, H0a, Hsa, S, P, A, rfl, Ma, ?_⟩
  walk_at "st"
  refine Pm.w_strI (by exact log1900 (Nat.lt_of_lt_of_le (show (S.n : Int).natAbs < 2 ^ 4 by omega) (Nat.pow_le_pow_right (by decide) (by decide)))) ?_
  refine Pm.w_catS (size_ok (by rw [show ("mead " : Str).length = 5 by decide +kernel]; omega)) ?_
  walk_at "st"
  refine Pm.w_catS (size_ok (by rw [len_app, show ("mead " : Str).length = 5 by decide +kernel, show ("\n" : Str).length = 1 by decide +kernel]; omega)) ?_
  obtain ⟨z0, ez0⟩ : ∃ z0, z0 = ("mead " : Str) ++ Str.ofString (toString (S.n : Int)) ++ ("\n" : Str) := ⟨_, rfl⟩
  rw [← ez0]
  have hz0 : tl z0 = headL S.n ++ [10] := by
    rw [ez0, tl_append, tl_append, show tl ("mead " : Str) = [109, 101, 97, 100, 32] by decide +kernel, show tl ("\n" : Str) = [10] by decide +kernel]
    rfl
  have lz0 : z0.length ≤ 20 := by
    rw [ez0, len_app, len_app, show ("mead " : Str).length = 5 by decide +kernel, show ("\n" : Str).length = 1 by decide +kernel]
    omega
  clear ez0
  walk_at "st"
  refine ⟨.inr (.inr (.inl ⟨rfl, .inr ⟨_, hL.ex.choose_spec.1⟩⟩)), ?_⟩
  refine w_ldKeys hL (fun kv hkv => ?_)
  have s2 := same_new hkv (keysO kv g)
  have f2 : (upd H1 kv (keysO kv g)) kv = some (keysO kv g) := upd_same
  generalize upd H1 kv (keysO kv g) = H2 at s2 f2 ⊢
  walk_at "st"
  refine w_ldSortKeys (hL.same s2) f2 (fun ys l hl hys => ?_)
  rw [eks] at hys
  have yl := hys.length
  have s3 := same_new hl (.lst ys)
  have f3 : (upd H2 l (.lst ys)) l = some (.lst ys) := upd_same
  have hys3 := prs_keep (keeps s3) hys
  generalize upd H2 l (.lst ys) = H3 at s3 f3 hys3 ⊢
  have s13 := s1.trans (s2.trans s3)
  have hL3 := hL.same (s2.trans s3)
  refine Pm.w_rdL (SqL.of f3) ?_
  refine Pm.w_forL (xs := ys) (fun i σ H4 => ∃ (z : Str) (x y : Option V), σ = [some (.ref p), some (.ref g), some (.str z), x, y] ∧ Same H3 H4 ∧ tl z = headL S.n ++ [10] ++ ((tiesL S.n S.cut).take i).flatMap (fun k => rowL k (rp (S.D k.1.toNat k.2.toNat)) ++ [10]) ∧ z.length ≤ 20 + 1300 * i) ⟨z0, _, _, rfl, Same.refl _, by rw [hz0]; simp, by omega⟩ (fun i σ H4 _ ⟨_, _, _, _, s, _⟩ => SqL.of (s _ _ f3)) ?_ ?_
  · rintro i v σ H4 hi ⟨z, x, y, rfl, s4, hz, lz⟩
    obtain ⟨k, hk, hv⟩ := hys3.get hi
    obtain ⟨b, rfl, hb⟩ := id (hv.keep (keeps s4))
    have ilt : i < ys.length := (List.getElem?_eq_some_iff.mp hi).1
    have mk := List.mem_of_getElem? hk
    have kb := (sm k ((hks k).mpr mk))
    have kb1 : k.1.natAbs < 100 := by have := kb.1; omega
    have kb2 : k.2.natAbs < 100 := by have := kb.2; omega
    obtain ⟨w1, w2⟩ := tieW_rp tw (Nat.le_refl _) mk
    have lr := row_len kb1 kb2 w1 w2
    have lp := part_len w1 w2
    have le : z.length ≤ 30000 := by omega
    have l1 : (Str.ofString (toString k.1)).length ≤ 3 := istr_len (k := 2) (by decide) kb1
    have l2 : (Str.ofString (toString k.2)).length ≤ 3 := istr_len (k := 2) (by decide) kb2
    have lb : (" " : Str).length = 1 := by decide +kernel
    have ln : ("\n" : Str).length = 1 := by decide +kernel
    have small : ∀ {i : Int}, i.natAbs < 100 → i.natAbs.log2 < 1920 := fun h => log1900 (Nat.lt_of_lt_of_le (Nat.lt_of_lt_of_le h (show 100 ≤ 2 ^ 7 by decide)) (Nat.pow_le_pow_right (by decide) (by decide)))
    walk_at "st"
    refine Pm.w_gtup (SqT.of hb) rfl ?_
    walk_at "st"
    refine Pm.w_strI (small kb1) ?_
    refine Pm.w_catS (size_ok (by omega)) ?_
    walk_at "st"
    refine Pm.w_catS (size_ok (by rw [len_app, lb]; omega)) ?_
    walk_at "st"
    refine Pm.w_strI (small kb2) ?_
    refine Pm.w_catS (size_ok (by rw [len_app, len_app, lb]; omega)) ?_
    walk_at "st"
    refine Pm.w_catS (size_ok (by rw [len_app, len_app, len_app, lb]; omega)) ?_
    walk_at "st"
    refine Pm.w_newT (fun kt hkt => ?_)
    have s5 := same_new hkt (.tup [.int k.1, .int k.2])
    have hk5 : Pr (upd H4 kt (.tup [.int k.1, .int k.2])) (.ref kt) k := ⟨kt, rfl, upd_same⟩
    refine w_ldGet (hL3.same (s4.trans s5)) hk5 ((hks k).mpr mk) (fun u hu => ?_)
    walk_at "st"
    refine ⟨u, _, rfl, hu, log1900 w1, log1900 w2, by omega, ?_⟩
    refine Pm.w_catS (size_ok (by rw [len_app, len_app, len_app, len_app, lb]; omega)) ?_
    walk_at "st"
    refine Pm.w_catS (size_ok (by rw [len_app, len_app, len_app, len_app, len_app, lb, ln]; omega)) ?_
    refine ⟨_, _, _, rfl, s4.trans s5, ?_, ?_⟩
    · rw [take_flat _ hk, tl_append, tl_append, tl_append, tl_append, tl_append, tl_append, hz, tl_part, show tl (" " : Str) = [32] by decide +kernel, show tl ("\n" : Str) = [10] by decide +kernel]
      unfold rowL ilL
      simp only [List.append_assoc, List.cons_append, List.nil_append]
    · simp only [len_app]
      omega
  · rintro σ H4 ⟨z, x, y, rfl, s4, hz, lz⟩
    rw [yl, List.take_length] at hz
    walk_at "st"
    refine Pm.w_catS (size_ok (by rw [show ("end\n" : Str).length = 4 by decide +kernel]; omega)) ?_
    rw [show z ++ ("end\n" : Str) = sheetOf S from ext_tl (by
      rw [tl_append, hz, show tl ("end\n" : Str) = [101, 110, 100, 10] by decide +kernel]
      unfold sheetOf
      rw [tl_sheet]
      unfold sheetL linesL
      rw [List.flatMap_cons, List.flatMap_append, List.flatMap_map]
      simp)]
    exact q _ (s13.trans s4)
theorem flat_len {α : Type} {f : α → List Nat} {B : Nat} : ∀ {l : List α}, (∀ x ∈ l, (f x).length ≤ B) → (l.flatMap f).length ≤ l.length * B
  | [], _ => Nat.zero_le _
  | x :: l, h => by
    rw [List.flatMap_cons, List.length_append, List.length_cons, Nat.succ_mul]
    have h1 := h x List.mem_cons_self
    have h2 := flat_len (f := f) (l := l) fun y hy => h y (List.mem_cons_of_mem _ hy)
    omega
theorem sheet_len {S : Ms} {t : Tr} (C : Cutting S.n S.cut t) (n12 : S.n ≤ 12) (tw : TieW S 1900) : (sheetOf S).length ≤ 40000 := by
  have tl' := C.ties_len
  have n3 := C.n3
  have hh : (headL S.n).length ≤ 10 := by
    unfold headL
    have := il_len2 (i := (S.n : Int)) (by omega)
    rw [List.length_append]
    simp only [List.length_cons, List.length_nil]
    omega
  rw [len_tl]
  unfold sheetOf
  rw [tl_sheet]
  unfold sheetL
  have h := flat_len (f := fun l : List Nat => l ++ [10]) (B := 1201) (l := linesL S.n (tiesL S.n S.cut) fun k => rp (S.D k.1.toNat k.2.toNat)) fun l hl => by
    rw [List.length_append, List.length_singleton]
    unfold linesL at hl
    rcases List.mem_cons.mp hl with rfl | hl
    · omega
    · rcases List.mem_append.mp hl with hl | hl
      · obtain ⟨k, hk, rfl⟩ := List.mem_map.mp hl
        obtain ⟨w1, w2⟩ := tieW_rp tw (Nat.le_refl _) hk
        have sk := small_tie' C n12 hk
        have := row_len (k := k) (by have := sk.1; omega) (by have := sk.2; omega) w1 w2
        simp only
        omega
      · rw [List.mem_singleton.mp hl]
        simp
  refine Nat.le_trans h ?_
  unfold linesL
  rw [List.length_cons, List.length_append, List.length_map, List.length_singleton]
  omega
/-- the ropes among the ties -/
theorem ties_ropes {S : Ms} {t : Tr} (C : Cutting S.n S.cut t) : (tiesL S.n S.cut).filter (fun k => !decide (k ∈ sidesL S.n)) = S.cut := by
  have hw := C.w
  have n3 := C.n3
  refine rising_eq ?_ C.rise ?_
  · exact (sortP_rising _).sublist List.filter_sublist
  · refine (List.perm_ext_iff_of_nodup (C.ties_nodup.sublist List.filter_sublist) (C.perm.nodup_iff.mpr (List.pairwise_map.mpr ((Tr.ropes_nodup t 0).imp fun h z => h (castP_inj z))))).mpr fun x => ?_
    rw [List.mem_filter, mem_ties]
    have side : x ∈ sidesL S.n ↔ x ∈ sides0 S.n := by unfold sidesL; exact mem_sortP
    simp only [Bool.not_eq_true', decide_eq_false_iff_not, side]
    constructor
    · rintro ⟨h | h, n⟩
      · exact absurd h n
      · exact h
    · intro h
      refine ⟨.inr h, fun z => ?_⟩
      obtain ⟨q, hq, rfl⟩ := C.mem.mp h
      have h1 := (ropes_bd hq)
      have h3 := Tr.inn_wide h1.1
      rcases (mem_sides0 (by omega)).mp z with ⟨k, _, e⟩ | e
      · have := castP_inj e
        have e1 := congrArg Prod.fst this
        have e2 := congrArg Prod.snd this
        simp only at e1 e2
        omega
      · have := castP_inj e
        have e1 := congrArg Prod.fst this
        have e2 := congrArg Prod.snd this
        simp only at e1 e2
        exact h1.2 ⟨e1, by omega⟩
end
section
open TL
variable {P : Program} {w : World} {K : PySem.W.Frag} {mg : Str → Option Value} {base : Heap}
/-- what a row tells -/
def rowOf (z : Str) : Option (IP × IP) :=
  match Txt.split z (" " : Str) with
  | [a, b, c] => if fig a < 0 ∨ fig b < 0 then none else (partOf c).map fun p => ((fig a, fig b), p)
  | _ => none
def spRowX (K : PySem.W.Frag) (C : Addr) : Sp := fun vs H Q E => ∃ z : Str, vs = [.str z] ∧ z.length ≤ 1000000 ∧ (rowOf z = none → ∀ H', Same H H' → E (.ref C) none H') ∧
  (∀ k p, rowOf z = some (k, p) → ∀ (t kt u : Addr) (H' : Hp), Same H H' → H' t = some (.tup [.ref kt, .ref u]) → Pr H' (.ref kt) k → FrV K H' (.ref u) p → Q (.ref t) H')
theorem ok_tie_row (T : Tx P K mg base) : FnOk P w K mg base (L2.CX P w) 44 T.a_tie_row T.fd_tie_row (["line"]) (spRowX K T.c_BadSheet) := by
  refine T.F_tie_row.okX sc_tie_row (fun vs H Q E h => ?_) (fun cdv A outer s H vs Q E hr h => ?_)
  · obtain ⟨z, rfl, _⟩ := h
    rfl
  obtain ⟨z, rfl, zl, hE, q⟩ := h
  refine ⟨_, (pss_cons (ps_set (i := 1) sc_tie_row.nd rfl (.inl rfl) (k_bm (K := K) (pe_bm PySem.F.plainAttrs_str PySem.F.slot_str_split PySem.F.type_str_split mt_splitS (pv 0) (pa_cons (pe_str) pa_nil))))
      (pss_cons (ps_if (pt_cmpR op_ne (pe_callB (c_len (K := K)) (by rfl) T.m_len PySem.boot_len (pa_cons (pv 1) pa_nil)) (pe_int) (nomark _)) (pss_one (ps_raise rfl (takes_of rfl rfl rfl rfl) (pmk_own PySem.F.excBase_ValueError T.x_BadSheet T.g_BadSheet T.k_BadSheet (raises_own T.b_BadSheet T.t_BadSheet) rfl))) pss_nil)
      (pss_cons (ps_set (i := 2) sc_tie_row.nd rfl (.inl rfl) (pe_call (ok_whole_of T) (hr.mono (by decide)) (by rfl) T.g_whole_of T.F_whole_of.kp T.b_whole_of .nil pass0 (pa_cons (pe_ix (ix_listK (K := K)) (pv 1) (pe_int) (fun _ _ => rfl)) pa_nil)))
      (pss_cons (ps_set (i := 3) sc_tie_row.nd rfl (.inl rfl) (pe_call (ok_whole_of T) (hr.mono (by decide)) (by rfl) T.g_whole_of T.F_whole_of.kp T.b_whole_of .nil pass0 (pa_cons (pe_ix (ix_listK (K := K)) (pv 1) (pe_int) (fun _ _ => rfl)) pa_nil)))
      (pss_cons (ps_if (PW.pt (pw_or (pt_cmpR op_lt (pv 2) (pe_int) (nomark _)) (pw_or1 (pt_cmpR op_lt (pv 3) (pe_int) (nomark _))))) (pss_one (ps_raise rfl (takes_of rfl rfl rfl rfl) (pmk_own PySem.F.excBase_ValueError T.x_BadSheet T.g_BadSheet T.k_BadSheet (raises_own T.b_BadSheet T.t_BadSheet) rfl))) pss_nil)
      (pss_cons (L2H.ps_try_onlyX rfl rfl ⟨rfl, by decide, .inl T.g_NoFraction⟩ (fun hd => L2H.passesAt_of rfl hd) (takes_of rfl rfl rfl rfl) (fun W pn xe tk _ _ => (pss_one (ps_set (i := 4) sc_tie_row.nd rfl (.inl rfl) (by exact (pe_callS (ok_part_read T) (hr.mono (by decide)) (by rfl) T.g_part_read T.F_part_read.kp T.b_part_read (fun q => L2N.passAt tk q) (by exact (pa_cons (pe_ix (ix_listK (K := K)) (pv 1) (pe_int) (fun _ _ => rfl)) pa_nil))))))) (fun a oe cls d pn _ _ tkS hot => (pss_one (L2H.ps_raiseHN hot tkS (pmk_own5 PySem.F.excBase_ValueError T.x_BadSheet T.g_BadSheet T.k_BadSheet (raises_own T.b_BadSheet T.t_BadSheet) rfl)))))
      (pss_one (ps_ret (pe_tup (pa_cons (pe_tup (pa_cons (pv 2) (pa_cons (pv 3) pa_nil))) (pa_cons (pv 4) pa_nil))))))))))), ?_⟩
  walk_at "st"
  refine ⟨rfl, ?_⟩
  walk_at "st"
  refine Pm.w_split (by decide +kernel) (by rw [sizeLine_eq]; omega) (fun l hl => ?_)
  have pl : ∀ x ∈ Txt.split z (" " : Str), x.length ≤ 1000000 := fun x hx => Nat.le_trans (split_piece hx) zl
  have s1 := same_new hl (.lst ((Txt.split z (" " : Str)).map V.str))
  have g1 : (upd H l (.lst ((Txt.split z (" " : Str)).map V.str))) l = some (.lst ((Txt.split z (" " : Str)).map V.str)) := upd_same
  generalize upd H l (.lst ((Txt.split z (" " : Str)).map V.str)) = H1 at s1 g1 ⊢
  unfold rowOf at hE q
  generalize Txt.split z (" " : Str) = ws at *
  walk_at "st"
  refine Pm.w_lenL (SqL.of g1) ?_
  rw [List.length_map]
  walk_at "st"
  refine Pm.w_iteN (fun z3 => ?_) (fun z3 => ?_)
  · walk_at "st"
    refine hE ?_ _ s1
    match ws, z3 with
    | [], _ => rfl
    | [_], _ => rfl
    | [_, _], _ => rfl
    | [_, _, _], z => exact absurd rfl z
    | _ :: _ :: _ :: _ :: _, _ => rfl
  obtain ⟨a, b, c, rfl⟩ : ∃ a b c, ws = [a, b, c] := by
    match ws, z3 with
    | [a, b, c], _ => exact ⟨a, b, c, rfl⟩
    | [], z => exact absurd z (by decide)
    | [_], z => exact absurd z (by simp)
    | [_, _], z => exact absurd z (by simp)
    | _ :: _ :: _ :: _ :: r, z => exact absurd z (by simp only [List.length_cons]; omega)
  have la := pl a List.mem_cons_self
  have lb := pl b (List.mem_cons_of_mem _ List.mem_cons_self)
  have lc := pl c (List.mem_cons_of_mem _ (List.mem_cons_of_mem _ List.mem_cons_self))
  walk_at "st"
  refine Pm.w_ixL (SqL.of g1) (v := .str a) rfl ?_
  walk_at "st"
  refine ⟨_, rfl, by omega, ?_⟩
  walk_at "st"
  refine Pm.w_ixL (SqL.of g1) (v := .str b) rfl ?_
  walk_at "st"
  refine ⟨_, rfl, by omega, ?_⟩
  walk_at "st"
  refine Pm.w_ite (fun e1 => ?_) (fun e1 => ?_)
  · rw [if_pos rfl]
    exact hE (if_pos (.inl e1)) _ s1
  walk_at "st"
  refine Pm.w_ite (fun e2 => ?_) (fun e2 => ?_)
  · exact hE (if_pos (.inr e2)) _ s1
  have ne : ¬ (fig a < 0 ∨ fig b < 0) := fun z => z.elim e1 e2
  simp only [if_neg ne] at hE q
  walk_at "st"
  refine Pm.w_ixL (SqL.of g1) (v := .str c) rfl ?_
  walk_at "st"
  refine ⟨_, rfl, by omega, fun hno H2 s2 => ?_, fun p' hp' u H2 s2 nu hu => ?_⟩
  · refine ⟨true, T.exm_NoFraction_NoFraction, fun _ x hx => ?_, fun z => Bool.noConfusion z⟩
    walk_at "st"
    exact hE (by rw [hno]; rfl) _ (s1.trans s2)
  have q := q (fig a, fig b) p' (by rw [hp']; rfl)
  walk_at "st"
  refine Pm.w_newT (fun kt hkt => ?_)
  have s3 := same_new hkt (.tup [.int (fig a), .int (fig b)])
  walk_at "st"
  refine Pm.w_newT (fun t ht => ?_)
  have s4 := same_new ht (.tup [.ref kt, .ref u])
  exact q t kt u _ (s1.trans (s2.trans (s3.trans s4))) upd_same ⟨kt, rfl, s4 _ _ upd_same⟩ ⟨u, rfl, .inl ((s3.trans s4) _ _ hu)⟩
/-- a state that a sheet may tell -/
def GoodS (S : Ms) : Prop := (∃ t, Cutting S.n S.cut t) ∧ S.n ≤ 12 ∧ ∀ k ∈ tiesL S.n S.cut, 0 < S.D k.1.toNat k.2.toNat ∧ (S.D k.1.toNat k.2.toNat).num.natAbs < 10 ^ 400 ∧ ((S.D k.1.toNat k.2.toNat).den : Int).natAbs < 10 ^ 400
theorem big400 : (10 : Nat) ^ 400 < 2 ^ 1900 := by decide +kernel
theorem GoodS.tw {S : Ms} (h : GoodS S) : TieW S 1900 := fun k hk => by
  obtain ⟨_, h1, h2⟩ := h.2.2 k hk
  exact ⟨Nat.lt_trans h1 big400, by have := Nat.lt_trans h2 big400; omega⟩
theorem row_back {k p : IP} (k1 : 0 ≤ k.1) (k2 : 0 ≤ k.2) (kb1 : k.1.natAbs < 100) (kb2 : k.2.natAbs < 100) (p2 : 0 < p.2) (pg : Int.gcd p.1 p.2 = 1) (b1 : p.1.natAbs < 10 ^ 400) (b2 : p.2.natAbs < 10 ^ 400) : rowOf ⟨(rowL k p).toArray⟩ = some (k, p) := by
  have f1 : fig (Str.ofString (toString k.1)) = k.1 := by
    have e : k.1 = ((k.1.natAbs : Nat) : Int) := by omega
    rw [e]
    exact fig_nat (Nat.le_trans (numL_le (k := 2) (by decide) (by omega)) (by decide))
  have f2 : fig (Str.ofString (toString k.2)) = k.2 := by
    have e : k.2 = ((k.2.natAbs : Nat) : Int) := by omega
    rw [e]
    exact fig_nat (Nat.le_trans (numL_le (k := 2) (by decide) (by omega)) (by decide))
  have es : Txt.split ⟨(rowL k p).toArray⟩ (" " : Str) = [Str.ofString (toString k.1), Str.ofString (toString k.2), partStr p] := split_row k p
  have pb := part_back p2 pg (numL_le (by decide) b1) (numL_le (by decide) b2)
  unfold rowOf
  rw [es]
  simp only [f1, f2, pb]
  rw [if_neg (by omega)]
  rfl
theorem init_good {C C1 C2 x dx r d : Addr} {vs : List V} {S : Ms} {t : Tr} {H0 H : Hp} {Q : VK} {E : XK} (hS : GoodS S) (C0 : Cutting S.n S.cut t) (ev : vs = [.ref x, .int S.n, .ref r, .ref d]) (hx : H x = some (.ins C dx [])) (s0 : Same H0 H) (x0 : H0 x = none) (k0 : Keeps H H0) (hr : PLt H r S.cut) (hd : DLs K H d S) (q : ∀ H0' Hs' H', Same H0 H0' → MeadAt K C H0' Hs' H' x S [] [] → Q .non H') : spInit K C C1 C2 vs H Q E := by
  obtain ⟨_, n12, pos⟩ := hS
  obtain ⟨kp, ec⟩ := cutting_kept C0 n12
  obtain ⟨ks, h1, h2, h3, h4⟩ := hd
  have cl := C0.cut_len
  have sz : SzOk S.n S.cut ks (fun k => rp (S.D k.1.toNat k.2.toNat)) := ⟨h2, fun p hp => lenOk_rp'.mpr (pos p ((h2 p).mp hp)).1⟩
  refine ⟨x, r, d, dx, S.n, S.cut, ks, _, H0, ev, hx, s0, x0, k0, hr, by omega, h1, fun z => absurd kp z, fun _ => ⟨S.n, t, rfl, n12, by rw [ec]; exact C0, fun z => absurd (by rw [ec]; exact sz) z, fun _ => ⟨S, rfl, ec.symm, fun k _ => rfl, q⟩⟩⟩
theorem partOf_lt {z : Str} {p : IP} (h : partOf z = some p) : p.1.natAbs < 10 ^ 400 ∧ p.2.natAbs < 10 ^ 400 := by
  unfold partOf at h
  generalize decide (dash z) = d at h
  match Txt.split (restOf z) ("/" : Str), h with
  | [a, b], h =>
    rw [partTwo_ab] at h
    by_cases c : fig a < 0 ∨ fig b < 1 ∨ Int.gcd (fig a) (fig b) ≠ 1 ∨ (d = true ∧ fig a = 0)
    · rw [if_pos c] at h; cases h
    · rw [if_neg c] at h
      cases h
      have h1 := fig_lt a
      have h2 := fig_lt b
      have e : ((10 ^ 400 : Nat) : Int) = (10 : Int) ^ 400 := by rw [Int.natCast_pow]; rfl
      rw [← e] at h1 h2
      have c1 : ¬ fig a < 0 := fun z => c (.inl z)
      have c2 : ¬ fig b < 1 := fun z => c (.inr (.inl z))
      generalize (10 : Nat) ^ 400 = big at h1 h2 ⊢
      refine ⟨?_, by omega⟩
      simp only
      split <;> omega
theorem row_lt {z : Str} {k p : IP} (h : rowOf z = some (k, p)) : p.1.natAbs < 10 ^ 400 ∧ p.2.natAbs < 10 ^ 400 := by
  unfold rowOf at h
  match Txt.split z (" " : Str), h with
  | [a, b, c], h =>
    dsimp only at h
    by_cases e : fig a < 0 ∨ fig b < 0
    · rw [if_pos e] at h; cases h
    · rw [if_neg e] at h
      cases hp : partOf c with
      | none => rw [hp] at h; cases h
      | some q =>
        rw [hp] at h
        obtain ⟨_, rfl⟩ := Prod.mk.inj (Option.some.inj h)
        exact partOf_lt hp
theorem rp_back {p : IP} (h : partOk p) : rp (Rat.divInt p.1 p.2) = p := by
  obtain ⟨h1, h2⟩ := h
  have d := div_pos_num (a := p.1) (b := p.2) h1
  rw [h2] at d
  unfold rp
  exact Prod.ext (by rw [← d.1]; exact Int.ediv_one _) (by rw [← d.2]; exact Int.ediv_one _)
theorem exm_any1 {K : PySem.W.Frag} {c a b : Value} {v : Bool} (h1 : PySem.W.exmOne K c a = some true) (h2 : PySem.W.exmOne K c b = some v) : PySem.W.exmAny K c [a, b] = some true := by
  simp [PySem.W.exmAny, h1, h2]
theorem exm_any2 {K : PySem.W.Frag} {c a b : Value} {v : Bool} (h1 : PySem.W.exmOne K c a = some v) (h2 : PySem.W.exmOne K c b = some true) : PySem.W.exmAny K c [a, b] = some true := by
  simp [PySem.W.exmAny, h1, h2]
def spReadX (K : PySem.W.Frag) (C C1 : Addr) : Sp := fun vs H Q E => ∃ z : Str, vs = [.str z] ∧ z.length ≤ 300000 ∧ (((¬ ∃ S, GoodS S ∧ z = sheetOf S) ∧ ∀ H', E (.ref C1) none H') ∨
  ∃ S : Ms, GoodS S ∧ z = sheetOf S ∧ ∀ (p : Addr) (H0' Hs' H' : Hp), Same H H0' → MeadAt K C H0' Hs' H' p S [] [] → Q (.ref p) H')
theorem ok_mead_read (T : Tx P K mg base) : FnOk P w K mg base (L2.CX P w) 48 T.a_mead_read T.fd_mead_read (["text"]) (spReadX K T.c_Mead T.c_BadSheet) := by
  refine T.F_mead_read.okX sc_mead_read (fun vs H Q E h => ?_) (fun cdv A outer s H vs Q E hr h => ?_)
  · obtain ⟨z, rfl, _⟩ := h
    rfl
  obtain ⟨z, rfl, zl, ⟨hno, hE⟩ | ⟨S, hS, rfl, q⟩⟩ := h
  · refine ⟨_, (pss_cons (ps_set (i := 1) sc_mead_read.nd rfl (.inl rfl) (k_bm (K := K) (pe_bm PySem.F.plainAttrs_str PySem.F.slot_str_split PySem.F.type_str_split mt_splitS (pv 0) (pa_cons (pe_str) pa_nil))))
      (pss_cons (ps_if (PW.pt (pw_or (pt_cmpR op_lt (pe_callB (c_len (K := K)) (by rfl) T.m_len PySem.boot_len (pa_cons (pv 1) pa_nil)) (pe_int) (nomark _)) (pw_or (pt_cmpR op_ne (pe_ix (ix_listK (K := K)) (pv 1) (pe_un un_neg (pe_int)) (fun _ _ => rfl)) (pe_str) (nomark _)) (pw_or (pt_cmpR op_ne (pe_ix (ix_listK (K := K)) (pv 1) (pe_un un_neg (pe_int)) (fun _ _ => rfl)) (pe_str) (nomark _)) (pw_or1 (pt_cmpR op_ne (pe_slice sl_str (pe_ix (ix_listK (K := K)) (pv 1) (pe_int) (fun _ _ => rfl)) po_none (po_some (pe_int))) (pe_str) (nomark _))))))) (pss_one (ps_raise rfl (takes_of rfl rfl rfl rfl) (pmk_own PySem.F.excBase_ValueError T.x_BadSheet T.g_BadSheet T.k_BadSheet (raises_own T.b_BadSheet T.t_BadSheet) rfl))) pss_nil)
      (pss_cons (ps_set (i := 2) sc_mead_read.nd rfl (.inl rfl) (pe_call (ok_whole_of T) (hr.mono (by decide)) (by rfl) T.g_whole_of T.F_whole_of.kp T.b_whole_of .nil pass0 (pa_cons (pe_slice sl_str (pe_ix (ix_listK (K := K)) (pv 1) (pe_int) (fun _ _ => rfl)) (po_some (pe_int)) po_none) pa_nil)))
      (pss_cons (ps_set (i := 3) sc_mead_read.nd rfl (.inl rfl) (pe_dnewT))
      (pss_cons (ps_set (i := 4) sc_mead_read.nd rfl (.inl rfl) (pe_lst pa_nil))
      (pss_cons (ps_if (PW.pt (pw_or (pt_cmpR op_lt (pv 2) (pe_int) (nomark _)) (pw_or1 (pt_cmpR op_gt (pv 2) (pe_int) (nomark _))))) (pss_one (ps_raise rfl (takes_of rfl rfl rfl rfl) (pmk_own PySem.F.excBase_ValueError T.x_BadSheet T.g_BadSheet T.k_BadSheet (raises_own T.b_BadSheet T.t_BadSheet) rfl))) pss_nil)
      (pss_cons (ps_for (passes_of rfl) rfl (k_il (K := K) (pi_list (pe_slice (sl_listK (K := K)) (pv 1) (po_some (pe_int)) (po_some (pe_un un_neg (pe_int)))))) (pg_name (i := 5) sc_mead_read.nd rfl (.inl rfl)) (pss_cons (ps_asg (pe_call (ok_tie_row T) (hr.mono (by decide)) (by rfl) T.g_tie_row T.F_tie_row.kp T.b_tie_row .nil (passes_call (takes_of rfl rfl rfl rfl) (fun _ _ _ _ h => h)) (pa_cons (pv 5) pa_nil)) (k_gt (K := K) (pg_tup (by rfl) (pgs_cons (pg_name (i := 6) sc_mead_read.nd rfl (.inl rfl)) (pgs_cons (pg_name (i := 7) sc_mead_read.nd rfl (.inl rfl)) pgs_nil)))))
      (pss_cons (ps_if (pt_cmp (pc_din (hu_of hr) (pv 6) (pv 3))) (pss_one (ps_raise rfl (takes_of rfl rfl rfl rfl) (pmk_own PySem.F.excBase_ValueError T.x_BadSheet T.g_BadSheet T.k_BadSheet (raises_own T.b_BadSheet T.t_BadSheet) rfl))) pss_nil)
      (pss_cons (ps_dput (hu_of hr) (pv 3) (pv 6) (pv 7) rfl)
      (pss_one (ps_if (pt_cmpR (op_notInDK (K := K) hr.u65) (pv 6) (pe_call (ok_sides T) (hr.mono (by decide)) (by rfl) T.g_sides T.F_sides.kp T.b_sides .nil pass0 (pa_cons (pv 2) pa_nil)) (by rfl)) (pss_one (ps_expr (k_bm (K := K) (pe_bm PySem.F.plainAttrs_list PySem.F.slot_list_append PySem.F.type_list_append mt_append (pv 4) (pa_cons (pv 6) pa_nil))))) pss_nil))))))
      (pss_cons (ps_try_tupX rfl rfl ⟨rfl, by decide, .inl T.g_NoCutting⟩ ⟨rfl, by decide, .inl T.g_BadLength⟩ (fun hd => L2H.passesAt_of rfl hd) (takes_of rfl rfl rfl rfl) (fun W pn xe tk _ => (pss_one (ps_set (i := 8) sc_mead_read.nd rfl (.inl rfl) (by exact (pe_makeS T.mk_Mead (ok_Mead___init__ T) (hr.mono (by decide)) (by rfl) T.g_Mead T.b_Mead___init__ (fun q => L2N.passAt tk q) (by exact (pa_cons (pv 2) (pa_cons (pv 4) (pa_cons (pv 3) pa_nil))))))))) (fun a oe cls d pn _ _ tkS hot => (pss_one (L2H.ps_raiseHN hot tkS (pmk_own5 PySem.F.excBase_ValueError T.x_BadSheet T.g_BadSheet T.k_BadSheet (raises_own T.b_BadSheet T.t_BadSheet) rfl)))))
      (pss_cons (ps_if (pt_cmpR op_ne (pe_call (ok_mead_text T) (hr.mono (by decide)) (by rfl) T.g_mead_text T.F_mead_text.kp T.b_mead_text .nil pass0 (pa_cons (pv 8) pa_nil)) (pv 0) (nomark _)) (pss_one (ps_raise rfl (takes_of rfl rfl rfl rfl) (pmk_own PySem.F.excBase_ValueError T.x_BadSheet T.g_BadSheet T.k_BadSheet (raises_own T.b_BadSheet T.t_BadSheet) rfl))) pss_nil)
      (pss_one (ps_ret (pv 8)))))))))))), ?_⟩
    walk_at "st"
    refine ⟨rfl, ?_⟩
    walk_at "st"
    refine Pm.w_split (by decide +kernel) (by rw [sizeLine_eq]; omega) (fun l hl => ?_)
    have pl : ∀ x ∈ Txt.split z ("\n" : Str), x.length ≤ 1000000 := fun x hx => Nat.le_trans (split_piece hx) (by omega)
    have wm : (Txt.split z ("\n" : Str)).length ≤ z.length + 1 := split_many
    have s1 := same_new hl (.lst ((Txt.split z ("\n" : Str)).map V.str))
    have f1 : (upd H l (.lst ((Txt.split z ("\n" : Str)).map V.str))) l = some (.lst ((Txt.split z ("\n" : Str)).map V.str)) := upd_same
    generalize upd H l (.lst ((Txt.split z ("\n" : Str)).map V.str)) = H1 at s1 f1 ⊢
    generalize Txt.split z ("\n" : Str) = ws at pl wm f1
    walk_at "st"
    refine Pm.w_lenL (SqL.of f1) ?_
    rw [List.length_map]
    walk_at "st"
    refine Pm.w_ite (fun e1 => ?_) (fun e1 => ?_)
    · rw [if_pos rfl]
      exact hE _
    obtain ⟨hd, rows, y2, y1, rfl⟩ : ∃ hd rows y2 y1, ws = hd :: (rows ++ [y2, y1]) := by
      match ws, e1 with
      | [], e => exact absurd (by decide) e
      | hd :: r, e =>
        have hr : 2 ≤ r.length := by
          rw [List.length_cons] at e
          omega
        refine ⟨hd, r.take (r.length - 2), r[r.length - 2], r[r.length - 1], ?_⟩
        congr 1
        refine List.ext_getElem? fun j => ?_
        by_cases c : j < r.length - 2
        · rw [List.getElem?_append_left (by rw [List.length_take]; omega), List.getElem?_take_of_lt c]
        · rw [List.getElem?_append_right (by rw [List.length_take]; omega), List.length_take, Nat.min_eq_left (by omega)]
          rcases (show j = r.length - 2 ∨ j = r.length - 1 ∨ r.length ≤ j by omega) with e | e | e
          · rw [e, Nat.sub_self, List.getElem?_eq_getElem (by omega)]
            rfl
          · rw [e, show r.length - 1 - (r.length - 2) = 1 by omega, List.getElem?_eq_getElem (by omega)]
            rfl
          · rw [List.getElem?_eq_none (by omega), List.getElem?_eq_none (by simp only [List.length_cons, List.length_nil]; omega)]
    have hdl := pl hd List.mem_cons_self
    have i1 : atI ((hd :: (rows ++ [y2, y1])).map V.str) (-1) = some (.str y1) := by
      rw [show (hd :: (rows ++ [y2, y1])).map V.str = (V.str hd :: (rows.map V.str ++ [.str y2])) ++ [.str y1] by simp]
      exact atI_last _ _
    have i2 : atI ((hd :: (rows ++ [y2, y1])).map V.str) (-2) = some (.str y2) := by
      rw [show (hd :: (rows ++ [y2, y1])).map V.str = (V.str hd :: rows.map V.str) ++ [.str y2, .str y1] by simp]
      exact atI_last2 _ _ _
    have i3 : atI ((hd :: (rows ++ [y2, y1])).map V.str) 0 = some (.str hd) := by
      rw [List.map_cons]
      exact atI_nat (j := 0) rfl
    have i4 : cutV ((hd :: (rows ++ [y2, y1])).map V.str) (some 1) (some (-2)) = rows.map V.str := by
      rw [show (hd :: (rows ++ [y2, y1])).map V.str = V.str hd :: (rows.map V.str ++ [.str y2, .str y1]) by simp]
      exact cut_inner _ _ _ _
    have prow : ∀ x ∈ rows, x.length ≤ 1000000 := fun x hx => pl x (List.mem_cons_of_mem _ (List.mem_append_left _ hx))
    have rowl : rows.length ≤ 300001 := by
      rw [List.length_cons, List.length_append] at wm
      omega
    generalize ((hd :: (rows ++ [y2, y1])).map V.str) = lst at i1 i2 i3 i4 f1
    walk_at "st"
    refine Pm.w_ixL (SqL.of f1) i1 ?_
    walk_at "st"
    refine Pm.w_iteN (fun e2 => ?_) (fun e2 => ?_)
    · rw [if_pos rfl]
      exact hE _
    walk_at "st"
    refine Pm.w_ixL (SqL.of f1) i2 ?_
    walk_at "st"
    refine Pm.w_iteN (fun e3 => ?_) (fun e3 => ?_)
    · rw [if_pos rfl]
      exact hE _
    walk_at "st"
    refine Pm.w_ixL (SqL.of f1) i3 ?_
    walk_at "st"
    refine Pm.w_slS (size_ok (by omega)) ?_
    walk_at "st"
    refine Pm.w_iteN (fun e4 => ?_) (fun e4 => ?_)
    · exact hE _
    walk_at "st"
    refine Pm.w_ixL (SqL.of f1) i3 ?_
    walk_at "st"
    refine Pm.w_slS (size_ok (by omega)) ?_
    walk_at "st"
    refine ⟨_, rfl, by have := len_cut hd (some 5) none; omega, ?_⟩
    generalize fig (cutS hd (some 5) none) = n
    walk_at "st"
    refine Pm.w_dnewT (fun g hg => ?_)
    have s2 := same_new hg (.dT [])
    have f2 : (upd H1 g (.dT [])) g = some (.dT []) := upd_same
    have f12 := s2 _ _ f1
    generalize upd H1 g (.dT []) = H2 at s2 f2 f12 ⊢
    walk_at "st"
    refine Pm.w_newL (fun r hr' => ?_)
    have s3 := same_new hr' (.lst [])
    have f3 : (upd H2 r (.lst [])) r = some (.lst []) := upd_same
    have f13 := s3 _ _ f12
    have f23 := s3 _ _ f2
    have ngr : g ≠ r := ne_of_none f2 hr'
    generalize upd H2 r (.lst []) = H3 at s3 f3 f13 f23 ⊢
    have s13 := s1.trans (s2.trans s3)
    walk_at "st"
    refine Pm.w_ite (fun e5 => ?_) (fun e5 => ?_)
    · rw [if_pos rfl]
      exact hE _
    walk_at "st"
    refine Pm.w_ite (fun e6 => ?_) (fun e6 => ?_)
    · exact hE _
    obtain ⟨nn, rfl⟩ : ∃ nn : Nat, n = nn := ⟨n.toNat, by omega⟩
    walk_at "st"
    refine Pm.w_slL (SqL.of f13) (fun l2 hl2 => ?_)
    rw [i4]
    have s4 := same_new hl2 (.lst (rows.map V.str))
    have f4 : (upd H3 l2 (.lst (rows.map V.str))) l2 = some (.lst (rows.map V.str)) := upd_same
    have f34 := s4 _ _ f3
    have f24 := s4 _ _ f23
    have nl2g : l2 ≠ g := (ne_of_none f23 hl2).symm
    have nl2r : l2 ≠ r := (ne_of_none f3 hl2).symm
    have s14 : Same H (upd H3 l2 (.lst (rows.map V.str))) := s13.trans s4
    have g0 : H g = none := s1.free hg
    have r0 : H r = none := (s1.trans s2).free hr'
    generalize upd H3 l2 (.lst (rows.map V.str)) = H4 at s4 f4 f34 f24 s14 ⊢
    refine Pm.w_rdL (SqL.of f4) ?_
    refine Pm.w_forL (xs := rows.map V.str) (fun i σ H5 => ∃ (x y w : Option V) (ks ps : List IP) (LL : IP → IP), σ = [some (.str z), some (.ref l), some (.int nn), some (.ref g), some (.ref r), x, y, w, none] ∧ Same H H5 ∧ H5 l2 = some (.lst (rows.map V.str)) ∧ LD K H5 g ks LL ∧ ks.length ≤ i ∧ (∀ k ∈ ks, (LL k).1.natAbs < 10 ^ 400 ∧ (LL k).2.natAbs < 10 ^ 400) ∧ PLt H5 r ps ∧ ps.length ≤ i) ⟨_, _, _, [], [], fun k => k, rfl, s14, f4, ld_nil f24 _, Nat.le_refl _, fun k hk => absurd hk List.not_mem_nil, ⟨[], f34, trivial⟩, Nat.le_refl _⟩ (fun i σ H5 _ ⟨_, _, _, _, _, _, _, _, f5, _⟩ => SqL.of f5) ?_ ?_
    · rintro i v σ H5 hi ⟨x, y, w9, ks, ps, LL, rfl, s5, f5, hL5, kl, hLb, hr5, psl⟩
      rw [List.getElem?_map] at hi
      obtain ⟨rw9, hk, rfl⟩ := Option.map_eq_some_iff.mp hi
      have ilt : i < rows.length := (List.getElem?_eq_some_iff.mp hk).1
      walk_at "st"
      refine ⟨_, rfl, prow _ (List.mem_of_getElem? hk), fun _ H6 s6 => hE _, fun k p hrow t9 kt u H6 s6 ht9 hkt hu => ?_⟩
      have hL6 := hL5.same s6
      have hr6 := hr5.same s6
      have pb := row_lt hrow
      walk_at "st"
      refine Pm.w_gtup (SqT.of ht9) rfl ?_
      walk_at "st"
      refine w_ldIn hL6 hkt ?_
      walk_at "st"
      refine Pm.w_ite (fun ein => ?_) (fun ein => ?_)
      · exact hE _
      walk_at "st"
      obtain ⟨_, es6, hge, _⟩ := id hL6
      refine w_ldPut hL6 hkt hu (by omega) (fun es7 hL7 k7 => ?_)
      have sH7 : Same H (upd H6 g (.dT es7)) := same_but g0 (s5.trans s6)
      have f7 : (upd H6 g (.dT es7)) l2 = some (.lst (rows.map V.str)) := by rw [upd_ne nl2g]; exact s6 _ _ f5
      have hr7 : PLt (upd H6 g (.dT es7)) r ps := by
        obtain ⟨wv, w1, w2⟩ := hr6
        exact ⟨wv, by rw [upd_ne (fun z => ngr z.symm)]; exact w1, prs_keep k7 w2⟩
      have hkt7 : Pr (upd H6 g (.dT es7)) (.ref kt) k := hkt.keep k7
      rw [putk_new ein] at hL7
      have kl7 : (ks ++ [k]).length ≤ i + 1 := by rw [List.length_append, List.length_singleton]; omega
      have hLb7 : ∀ j ∈ ks ++ [k], (updF LL k p j).1.natAbs < 10 ^ 400 ∧ (updF LL k p j).2.natAbs < 10 ^ 400 := fun j hj => by
        by_cases e : j = k
        · rw [e, updF_same]
          exact pb
        · rw [updF_ne e]
          rcases List.mem_append.mp hj with h | h
          · exact hLb j h
          · exact absurd (List.mem_singleton.mp h) e
      generalize upd H6 g (.dT es7) = H7 at sH7 f7 hr7 hkt7 hL7 ⊢
      generalize hLL7 : updF LL k p = LL7 at hL7 hLb7
      walk_at "st"
      refine ⟨nn, rfl, by omega, by omega, fun sl8 H8 ws8 s8 nsl hsl hps => ?_⟩
      walk_at "st"
      refine Pm.w_ninPL (hkt7.keep (keeps s8)) (SqL.of hsl) hps ?_
      walk_at "st"
      refine Pm.w_iteN (fun nin => ?_) (fun isin => ?_)
      · obtain ⟨wv, w1, w2⟩ := hr7.same s8
        have wl := w2.length
        walk_at "st"
        refine ⟨.inl ⟨rfl, _, SqL.of w1⟩, ?_⟩
        walk_at "st"
        refine Pm.w_append w1 (size_lt (by omega)) ?_
        have k9 := keeps_lst (ys := wv ++ [.ref kt]) w1
        refine ⟨_, _, _, _, ps ++ [k], LL7, rfl, same_but r0 (sH7.trans s8), by rw [upd_ne nl2r]; exact s8 _ _ f7, (hL7.same s8).keep (o := .tup []) k9 (upd_ne ngr), kl7, hLb7, ?_, by rw [List.length_append, List.length_singleton]; omega⟩
        exact ⟨_, upd_same, (prs_keep k9 w2).snoc ((hkt7.keep (keeps s8)).keep k9)⟩
      · walk_at "st"
        exact ⟨_, _, _, _, ps, LL7, rfl, sH7.trans s8, s8 _ _ f7, hL7.same s8, kl7, hLb7, hr7.same s8, by omega⟩
    · rintro σ H5 ⟨x, y, w9, ks, ps, LL, rfl, s5, f5, hL5, kl, hLb, hr5, psl⟩
      rw [List.length_map] at kl psl
      walk_at "st"
      intro p dx np ndx nex
      obtain ⟨sm, km⟩ := made_same (C := T.c_Mead) np ndx nex
      have out1 : PySem.W.exmAny K (.ref T.c_NoCutting) [.ref T.c_NoCutting, .ref T.c_BadLength] = some true := exm_any1 T.exm_NoCutting_NoCutting T.exm_NoCutting_BadLength
      have out2 : PySem.W.exmAny K (.ref T.c_BadLength) [.ref T.c_NoCutting, .ref T.c_BadLength] = some true := exm_any2 T.exm_BadLength_NoCutting T.exm_BadLength_BadLength
      refine ⟨p, r, g, dx, nn, ps, ks, LL, H5, rfl, upd_same, sm, np, km, hr5.same sm, by omega, hL5.same sm, fun nk H' => ?_, fun kp => ?_⟩
      · exact ⟨out1, fun x hx => hE _⟩
      obtain ⟨n', t, en, n12, C⟩ := kept_tree kp
      have en : nn = n' := by omega
      subst en
      refine ⟨nn, t, rfl, n12, C, fun nz H' => ⟨out2, fun x hx => hE _⟩, fun sz => ?_⟩
      generalize hcc : sortP (ps.map tied) = cc at C sz ⊢
      have lv : ∀ k ∈ tiesL nn cc, LL k = rp (Rat.divInt (LL k).1 (LL k).2) ∧ ((k.1.toNat : Int), (k.2.toNat : Int)) = k ∧ 0 < Rat.divInt (LL k).1 (LL k).2 ∧ k ∈ ks := fun k hk => by
        have m := (sz.1 k).mpr hk
        have lo := sz.2 k m
        have e := rp_back lo.1
        obtain ⟨q0, hq0, rfl⟩ := C.ties.mp hk
        refine ⟨e.symm, rfl, lenOk_rp'.mp (by rw [e]; exact lo), m⟩
      refine ⟨⟨nn, cc, fun i j => Rat.divInt (LL ((i : Int), (j : Int))).1 (LL ((i : Int), (j : Int))).2⟩, rfl, rfl, fun k hk => ?_, fun H0' Hs' H6 g6 M6 => ?_⟩
      · show LL k = rp (Rat.divInt (LL ((k.1.toNat : Int), (k.2.toNat : Int))).1 (LL ((k.1.toNat : Int), (k.2.toNat : Int))).2)
        rw [(lv k hk).2.1]
        exact (lv k hk).1
      obtain ⟨S, hS⟩ : ∃ S : Ms, S = ⟨nn, cc, fun i j => Rat.divInt (LL ((i : Int), (j : Int))).1 (LL ((i : Int), (j : Int))).2⟩ := ⟨_, rfl⟩
      rw [← hS] at M6
      have SD : ∀ k ∈ tiesL nn cc, S.D k.1.toNat k.2.toNat = Rat.divInt (LL k).1 (LL k).2 := fun k hk => by
        rw [hS]
        show Rat.divInt (LL ((k.1.toNat : Int), (k.2.toNat : Int))).1 (LL ((k.1.toNat : Int), (k.2.toNat : Int))).2 = _
        rw [(lv k hk).2.1]
      have Sn : S.n = nn := by rw [hS]
      have Sc : S.cut = cc := by rw [hS]
      have good : GoodS S := by
        refine ⟨⟨t, by rw [Sn, Sc]; exact C⟩, by rw [Sn]; exact n12, fun k hk => ?_⟩
        rw [Sn, Sc] at hk
        obtain ⟨v1, v2, v3, v4⟩ := lv k hk
        have b := hLb k v4
        rw [SD k hk]
        rw [v1] at b
        exact ⟨v3, b⟩
      have C' : Cutting S.n S.cut t := by rw [Sn, Sc]; exact C
      have tw9 := good.tw
      have sl := sheet_len C' (by rw [Sn]; exact n12) tw9
      refine ⟨rfl, ?_⟩
      walk_at "st"
      refine ⟨p, H0', Hs', S, _, _, t, rfl, M6, C', by rw [Sn]; exact n12, tw9, by omega, fun H7 s7 => ?_⟩
      walk_at "st"
      refine Pm.w_iteN (fun _ => ?_) (fun e9 => ?_)
      · exact hE _
      · exact absurd ⟨S, good, e9.symm⟩ hno
  obtain ⟨⟨t, C⟩, n12, _⟩ := id hS
  have n3 := C.n3
  have hw := C.w
  have tw9 := hS.tw
  have sl := sheet_len C n12 tw9
  have tll := C.ties_len
  obtain ⟨LL, hLL⟩ : ∃ LL : IP → IP, LL = fun k : IP => rp (S.D k.1.toNat k.2.toNat) := ⟨_, rfl⟩
  obtain ⟨rows, hrows⟩ : ∃ rows : List Str, rows = (tiesL S.n S.cut).map fun k => (⟨(rowL k (LL k)).toArray⟩ : Str) := ⟨_, rfl⟩
  obtain ⟨hd, hhd⟩ : ∃ hd : Str, hd = ⟨(headL S.n).toArray⟩ := ⟨_, rfl⟩
  have es : Txt.split (sheetOf S) ("\n" : Str) = hd :: (rows ++ [("end" : Str), ("" : Str)]) := by
    have e0 : Txt.split (sheetOf S) ("\n" : Str) = _ := split_sheet S.n (tiesL S.n S.cut) (fun k => rp (S.D k.1.toNat k.2.toNat))
    rw [e0, hrows, hhd, hLL]
    unfold linesL
    rw [List.cons_append, List.map_cons, List.map_append, List.map_append, List.map_map, List.append_assoc]
    rfl
  have hhl : tl hd = headL S.n := by rw [hhd]
  have hdl : hd.length ≤ 10 := by
    rw [len_tl, hhl]
    unfold headL
    have := il_len2 (i := (S.n : Int)) (by omega)
    rw [List.length_append]
    simp only [List.length_cons, List.length_nil]
    omega
  have c1 : cutS hd none (some 5) = ("mead " : Str) := by
    refine ext_tl ?_
    rw [tl_cut, hhl, show tl ("mead " : Str) = [109, 101, 97, 100, 32] by decide +kernel]
    have hl5 : 5 ≤ hd.length := by rw [len_tl, hhl]; unfold headL; simp
    rw [show HT.sIx hd.length 0 none = 0 from rfl, show HT.sIx hd.length hd.length (some 5) = 5 by unfold HT.sIx; simp only; rw [if_neg (by decide)]; omega]
    unfold headL
    simp
  have c2 : cutS hd (some 5) none = Str.ofString (toString (S.n : Int)) := by
    refine ext_tl ?_
    rw [tl_cut, hhl]
    have hl5 : 5 ≤ hd.length := by rw [len_tl, hhl]; unfold headL; simp
    have hle : (headL S.n).length = hd.length := by rw [len_tl, hhl]
    rw [show HT.sIx hd.length hd.length none = hd.length from rfl, show HT.sIx hd.length 0 (some 5) = 5 by unfold HT.sIx; simp only; rw [if_neg (by decide)]; omega]
    rw [List.take_of_length_le (by rw [List.length_drop]; omega)]
    unfold headL
    rfl
  have fn : fig (Str.ofString (toString (S.n : Int))) = S.n := fig_nat (Nat.le_trans (numL_le (k := 2) (by decide) (by omega)) (by decide))
  have snl : (Str.ofString (toString (S.n : Int))).length ≤ 3 := istr_len (k := 2) (by decide) (by omega)
  have rl : rows.length = (tiesL S.n S.cut).length := by rw [hrows, List.length_map]
  have i1 : atI ((hd :: (rows ++ [("end" : Str), ("" : Str)])).map V.str) (-1) = some (.str ("" : Str)) := by
    rw [show (hd :: (rows ++ [("end" : Str), ("" : Str)])).map V.str = (V.str hd :: (rows.map V.str ++ [.str ("end" : Str)])) ++ [.str ("" : Str)] by simp]
    exact atI_last _ _
  have i2 : atI ((hd :: (rows ++ [("end" : Str), ("" : Str)])).map V.str) (-2) = some (.str ("end" : Str)) := by
    rw [show (hd :: (rows ++ [("end" : Str), ("" : Str)])).map V.str = (V.str hd :: rows.map V.str) ++ [.str ("end" : Str), .str ("" : Str)] by simp]
    exact atI_last2 _ _ _
  have i3 : atI ((hd :: (rows ++ [("end" : Str), ("" : Str)])).map V.str) 0 = some (.str hd) := by
    rw [List.map_cons]
    exact atI_nat (j := 0) rfl
  have i4 : cutV ((hd :: (rows ++ [("end" : Str), ("" : Str)])).map V.str) (some 1) (some (-2)) = rows.map V.str := by
    rw [show (hd :: (rows ++ [("end" : Str), ("" : Str)])).map V.str = V.str hd :: (rows.map V.str ++ [.str ("end" : Str), .str ("" : Str)]) by simp]
    exact cut_inner _ _ _ _
  have i5 : ((hd :: (rows ++ [("end" : Str), ("" : Str)])).map V.str).length = rows.length + 3 := by simp
  refine ⟨_, (pss_cons (ps_set (i := 1) sc_mead_read.nd rfl (.inl rfl) (k_bm (K := K) (pe_bm PySem.F.plainAttrs_str PySem.F.slot_str_split PySem.F.type_str_split mt_splitS (pv 0) (pa_cons (pe_str) pa_nil))))
      (pss_cons (ps_if (PW.pt (pw_or (pt_cmpR op_lt (pe_callB (c_len (K := K)) (by rfl) T.m_len PySem.boot_len (pa_cons (pv 1) pa_nil)) (pe_int) (nomark _)) (pw_or (pt_cmpR op_ne (pe_ix (ix_listK (K := K)) (pv 1) (pe_un un_neg (pe_int)) (fun _ _ => rfl)) (pe_str) (nomark _)) (pw_or (pt_cmpR op_ne (pe_ix (ix_listK (K := K)) (pv 1) (pe_un un_neg (pe_int)) (fun _ _ => rfl)) (pe_str) (nomark _)) (pw_or1 (pt_cmpR op_ne (pe_slice sl_str (pe_ix (ix_listK (K := K)) (pv 1) (pe_int) (fun _ _ => rfl)) po_none (po_some (pe_int))) (pe_str) (nomark _))))))) (pss_one (ps_raise rfl (takes_of rfl rfl rfl rfl) (pmk_own PySem.F.excBase_ValueError T.x_BadSheet T.g_BadSheet T.k_BadSheet (raises_own T.b_BadSheet T.t_BadSheet) rfl))) pss_nil)
      (pss_cons (ps_set (i := 2) sc_mead_read.nd rfl (.inl rfl) (pe_call (ok_whole_of T) (hr.mono (by decide)) (by rfl) T.g_whole_of T.F_whole_of.kp T.b_whole_of .nil pass0 (pa_cons (pe_slice sl_str (pe_ix (ix_listK (K := K)) (pv 1) (pe_int) (fun _ _ => rfl)) (po_some (pe_int)) po_none) pa_nil)))
      (pss_cons (ps_set (i := 3) sc_mead_read.nd rfl (.inl rfl) (pe_dnewT))
      (pss_cons (ps_set (i := 4) sc_mead_read.nd rfl (.inl rfl) (pe_lst pa_nil))
      (pss_cons (ps_if (PW.pt (pw_or (pt_cmpR op_lt (pv 2) (pe_int) (nomark _)) (pw_or1 (pt_cmpR op_gt (pv 2) (pe_int) (nomark _))))) (pss_one (ps_raise rfl (takes_of rfl rfl rfl rfl) (pmk_own PySem.F.excBase_ValueError T.x_BadSheet T.g_BadSheet T.k_BadSheet (raises_own T.b_BadSheet T.t_BadSheet) rfl))) pss_nil)
      (pss_cons (ps_for (passes_of rfl) rfl (k_il (K := K) (pi_list (pe_slice (sl_listK (K := K)) (pv 1) (po_some (pe_int)) (po_some (pe_un un_neg (pe_int)))))) (pg_name (i := 5) sc_mead_read.nd rfl (.inl rfl)) (pss_cons (ps_asg (pe_call (ok_tie_row T) (hr.mono (by decide)) (by rfl) T.g_tie_row T.F_tie_row.kp T.b_tie_row .nil (passes_call (takes_of rfl rfl rfl rfl) (fun _ _ _ _ h => h)) (pa_cons (pv 5) pa_nil)) (k_gt (K := K) (pg_tup (by rfl) (pgs_cons (pg_name (i := 6) sc_mead_read.nd rfl (.inl rfl)) (pgs_cons (pg_name (i := 7) sc_mead_read.nd rfl (.inl rfl)) pgs_nil)))))
      (pss_cons (ps_if (pt_cmp (pc_din (hu_of hr) (pv 6) (pv 3))) (pss_one (ps_raise rfl (takes_of rfl rfl rfl rfl) (pmk_own PySem.F.excBase_ValueError T.x_BadSheet T.g_BadSheet T.k_BadSheet (raises_own T.b_BadSheet T.t_BadSheet) rfl))) pss_nil)
      (pss_cons (ps_dput (hu_of hr) (pv 3) (pv 6) (pv 7) rfl)
      (pss_one (ps_if (pt_cmpR (op_notInDK (K := K) hr.u65) (pv 6) (pe_call (ok_sides T) (hr.mono (by decide)) (by rfl) T.g_sides T.F_sides.kp T.b_sides .nil pass0 (pa_cons (pv 2) pa_nil)) (by rfl)) (pss_one (ps_expr (k_bm (K := K) (pe_bm PySem.F.plainAttrs_list PySem.F.slot_list_append PySem.F.type_list_append mt_append (pv 4) (pa_cons (pv 6) pa_nil))))) pss_nil))))))
      (pss_cons (ps_try_tupX rfl rfl ⟨rfl, by decide, .inl T.g_NoCutting⟩ ⟨rfl, by decide, .inl T.g_BadLength⟩ (fun hd => L2H.passesAt_of rfl hd) (takes_of rfl rfl rfl rfl) (fun W pn xe tk _ => (pss_one (ps_set (i := 8) sc_mead_read.nd rfl (.inl rfl) (by exact (pe_makeS T.mk_Mead (ok_Mead___init__ T) (hr.mono (by decide)) (by rfl) T.g_Mead T.b_Mead___init__ (fun q => L2N.passAt tk q) (by exact (pa_cons (pv 2) (pa_cons (pv 4) (pa_cons (pv 3) pa_nil))))))))) (fun a oe cls d pn _ _ tkS hot => (pss_one (L2H.ps_raiseHN hot tkS (pmk_own5 PySem.F.excBase_ValueError T.x_BadSheet T.g_BadSheet T.k_BadSheet (raises_own T.b_BadSheet T.t_BadSheet) rfl)))))
      (pss_cons (ps_if (pt_cmpR op_ne (pe_call (ok_mead_text T) (hr.mono (by decide)) (by rfl) T.g_mead_text T.F_mead_text.kp T.b_mead_text .nil pass0 (pa_cons (pv 8) pa_nil)) (pv 0) (nomark _)) (pss_one (ps_raise rfl (takes_of rfl rfl rfl rfl) (pmk_own PySem.F.excBase_ValueError T.x_BadSheet T.g_BadSheet T.k_BadSheet (raises_own T.b_BadSheet T.t_BadSheet) rfl))) pss_nil)
      (pss_one (ps_ret (pv 8)))))))))))), ?_⟩
  walk_at "st"
  refine ⟨rfl, ?_⟩
  walk_at "st"
  refine Pm.w_split (by decide +kernel) (by rw [sizeLine_eq]; omega) (fun l hl => ?_)
  rw [es]
  generalize ((hd :: (rows ++ [("end" : Str), ("" : Str)])).map V.str) = lst at i1 i2 i3 i4 i5 ⊢
  have s1 := same_new hl (.lst lst)
  have f1 : (upd H l (.lst lst)) l = some (.lst lst) := upd_same
  generalize upd H l (.lst lst) = H1 at s1 f1 ⊢
  walk_at "st"
  refine Pm.w_lenL (SqL.of f1) ?_
  walk_at "st"
  rw [decide_eq_false (show ¬ ((lst.length : Int) < 3) by omega)]
  walk_at "st"
  refine Pm.w_ixL (SqL.of f1) i1 ?_
  walk_at "st"
  rw [decide_eq_true rfl]
  walk_at "st"
  refine Pm.w_ixL (SqL.of f1) i2 ?_
  walk_at "st"
  rw [decide_eq_true rfl]
  walk_at "st"
  refine Pm.w_ixL (SqL.of f1) i3 ?_
  walk_at "st"
  refine Pm.w_slS (size_ok (by omega)) ?_
  rw [c1]
  walk_at "st"
  rw [decide_eq_true rfl]
  walk_at "st"
  refine Pm.w_ixL (SqL.of f1) i3 ?_
  walk_at "st"
  refine Pm.w_slS (size_ok (by omega)) ?_
  rw [c2]
  walk_at "st"
  refine ⟨_, rfl, by omega, ?_⟩
  rw [fn]
  walk_at "st"
  refine Pm.w_dnewT (fun g hg => ?_)
  have s2 := same_new hg (.dT [])
  have f2 : (upd H1 g (.dT [])) g = some (.dT []) := upd_same
  have f12 := s2 _ _ f1
  generalize upd H1 g (.dT []) = H2 at s2 f2 f12 ⊢
  walk_at "st"
  refine Pm.w_newL (fun r hr' => ?_)
  have s3 := same_new hr' (.lst [])
  have f3 : (upd H2 r (.lst [])) r = some (.lst []) := upd_same
  have f13 := s3 _ _ f12
  have f23 := s3 _ _ f2
  have ngr : g ≠ r := ne_of_none f2 hr'
  generalize upd H2 r (.lst []) = H3 at s3 f3 f13 f23 ⊢
  walk_at "st"
  rw [decide_eq_false (show ¬ ((S.n : Int) < 3) by omega)]
  walk_at "st"
  rw [decide_eq_false (show ¬ ((S.n : Int) > 12) by omega)]
  walk_at "st"
  refine Pm.w_slL (SqL.of f13) (fun l2 hl2 => ?_)
  rw [i4]
  have s4 := same_new hl2 (.lst (rows.map V.str))
  have f4 : (upd H3 l2 (.lst (rows.map V.str))) l2 = some (.lst (rows.map V.str)) := upd_same
  have f34 := s4 _ _ f3
  have f24 := s4 _ _ f23
  have nl2g : l2 ≠ g := (ne_of_none f23 hl2).symm
  have nl2r : l2 ≠ r := (ne_of_none f3 hl2).symm
  have s14 : Same H (upd H3 l2 (.lst (rows.map V.str))) := s1.trans (s2.trans (s3.trans s4))
  have g0 : H g = none := s1.free hg
  have r0 : H r = none := (s1.trans s2).free hr'
  generalize upd H3 l2 (.lst (rows.map V.str)) = H4 at s4 f4 f34 f24 s14 ⊢
  refine Pm.w_rdL (SqL.of f4) ?_
  refine Pm.w_forL (xs := rows.map V.str) (fun i σ H5 => ∃ x y z : Option V, σ = [some (.str (sheetOf S)), some (.ref l), some (.int S.n), some (.ref g), some (.ref r), x, y, z, none] ∧ Same H H5 ∧ H5 l2 = some (.lst (rows.map V.str)) ∧ LD K H5 g ((tiesL S.n S.cut).take i) LL ∧ PLt H5 r (((tiesL S.n S.cut).take i).filter fun k => !decide (k ∈ sidesL S.n))) ⟨_, _, _, rfl, s14, f4, by rw [List.take_zero]; exact ld_nil f24 _, by rw [List.take_zero]; exact ⟨[], f34, trivial⟩⟩ (fun i σ H5 _ ⟨_, _, _, _, _, h, _⟩ => SqL.of h) ?_ ?_
  · rintro i v σ H5 hi ⟨x, y, z, rfl, s5, f5, hL5, hr5⟩
    rw [hrows, List.map_map, List.getElem?_map] at hi
    obtain ⟨k, hk, rfl⟩ := Option.map_eq_some_iff.mp hi
    have mk := List.mem_of_getElem? hk
    have ilt : i < (tiesL S.n S.cut).length := (List.getElem?_eq_some_iff.mp hk).1
    have sk := small_tie' C n12 mk
    have kb : 0 ≤ k.1 ∧ k.1 < k.2 := by
      obtain ⟨q0, hq0, rfl⟩ := C.ties.mp mk
      have := Tr.bd hq0
      show (0 : Int) ≤ (q0.1 : Int) ∧ (q0.1 : Int) < (q0.2 : Int)
      omega
    have wk := hS.2.2 k mk
    have eLL : LL k = rp (S.D k.1.toNat k.2.toNat) := by rw [hLL]
    have dnz := (S.D k.1.toNat k.2.toNat).den_nz
    walk_at "st"
    have rback : rowOf ⟨(rowL k (LL k)).toArray⟩ = some (k, LL k) := row_back kb.1 (by omega) (by have := sk.1; omega) (by have := sk.2; omega) (by rw [eLL]; show (0 : Int) < ((S.D k.1.toNat k.2.toNat).den : Int); omega) (by rw [eLL]; exact (S.D k.1.toNat k.2.toNat).reduced) (by rw [eLL]; exact wk.2.1) (by rw [eLL]; exact wk.2.2)
    have rll : (⟨(rowL k (LL k)).toArray⟩ : Str).length ≤ 1200 := by
      rw [len_tl]
      exact row_len (by have := sk.1; omega) (by have := sk.2; omega) (by rw [eLL]; exact (tieW_rp tw9 (Nat.le_refl _) mk).1) (by rw [eLL]; exact (tieW_rp tw9 (Nat.le_refl _) mk).2)
    refine ⟨⟨(rowL k (LL k)).toArray⟩, rfl, Nat.le_trans rll (by decide), fun hno => absurd (rback.symm.trans hno) (fun z => nomatch z), fun k' p' hr9 t9 kt u H6 s6 ht9 hkt hu => ?_⟩
    rw [rback] at hr9
    obtain ⟨rfl, rfl⟩ := Prod.mk.inj (Option.some.inj hr9)
    have hL6 := hL5.same s6
    have hr6 := hr5.same s6
    have knot : k ∉ (tiesL S.n S.cut).take i := fun z => by
      have e1 : ((tiesL S.n S.cut).take (i + 1)).Nodup := C.ties_nodup.sublist (List.take_sublist _ _)
      rw [take_snoc hk, List.nodup_append] at e1
      exact e1.2.2 k z k List.mem_cons_self rfl
    walk_at "st"
    refine Pm.w_gtup (SqT.of ht9) rfl ?_
    walk_at "st"
    refine w_ldIn hL6 hkt ?_
    rw [decide_eq_false knot]
    walk_at "st"
    obtain ⟨_, es6, hge, _⟩ := id hL6
    refine w_ldPut hL6 hkt hu (by rw [List.length_take]; omega) (fun es7 hL7 k7 => ?_)
    have sH7 : Same H (upd H6 g (.dT es7)) := same_but g0 (s5.trans s6)
    have f7 : (upd H6 g (.dT es7)) l2 = some (.lst (rows.map V.str)) := by rw [upd_ne nl2g]; exact s6 _ _ f5
    have hr7 : PLt (upd H6 g (.dT es7)) r (((tiesL S.n S.cut).take i).filter fun k => !decide (k ∈ sidesL S.n)) := by
      obtain ⟨wv, w1, w2⟩ := hr6
      exact ⟨wv, by rw [upd_ne (fun z => ngr z.symm)]; exact w1, prs_keep k7 w2⟩
    have hkt7 : Pr (upd H6 g (.dT es7)) (.ref kt) k := hkt.keep k7
    rw [putk_new knot, ← take_snoc hk] at hL7
    have hL7 : LD K (upd H6 g (.dT es7)) g ((tiesL S.n S.cut).take (i + 1)) LL := hL7.congr fun j hj => by
      by_cases e : j = k
      · rw [e, updF_same]
      · rw [updF_ne e]
    generalize upd H6 g (.dT es7) = H7 at sH7 f7 hr7 hkt7 hL7 ⊢
    walk_at "st"
    refine ⟨S.n, rfl, by omega, by omega, fun sl8 H8 ws8 s8 nsl hsl hps => ?_⟩
    walk_at "st"
    refine Pm.w_ninPL (hkt7.keep (keeps s8)) (SqL.of hsl) hps ?_
    walk_at "st"
    refine Pm.w_iteN (fun nin => ?_) (fun isin => ?_)
    · obtain ⟨wv, w1, w2⟩ := hr7.same s8
      have wl := w2.length
      walk_at "st"
      refine ⟨.inl ⟨rfl, _, SqL.of w1⟩, ?_⟩
      walk_at "st"
      refine Pm.w_append w1 (size_lt (by have := List.length_filter_le (fun k => !decide (k ∈ sidesL S.n)) ((tiesL S.n S.cut).take i); rw [List.length_take] at this; omega)) ?_
      have k9 := keeps_lst (ys := wv ++ [.ref kt]) w1
      refine ⟨_, _, _, rfl, same_but r0 (sH7.trans s8), by rw [upd_ne nl2r]; exact s8 _ _ f7, (hL7.same s8).keep (o := .tup []) k9 (upd_ne ngr), ?_⟩
      rw [take_snoc hk, List.filter_append, List.filter_cons_of_pos (by simpa using nin)]
      exact ⟨_, upd_same, (prs_keep k9 w2).snoc ((hkt7.keep (keeps s8)).keep k9)⟩
    · walk_at "st"
      refine ⟨_, _, _, rfl, sH7.trans s8, s8 _ _ f7, hL7.same s8, ?_⟩
      rw [take_snoc hk, List.filter_append, List.filter_cons_of_neg (by simpa using isin), List.filter_nil, List.append_nil]
      exact hr7.same s8
  · rintro σ H5 ⟨x, y, z, rfl, s5, f5, hL5, hr5⟩
    rw [List.length_map, rl, List.take_length] at hL5 hr5
    rw [ties_ropes C] at hr5
    walk_at "st"
    intro p dx np ndx nex
    obtain ⟨sm, km⟩ := made_same (C := T.c_Mead) np ndx nex
    have hDL : DLs K H5 g S := ⟨_, by rw [hLL] at hL5; exact hL5, fun _ => Iff.rfl, fun p hp => small_tie' C n12 hp, by omega⟩
    refine init_good hS C rfl upd_same sm np km (hr5.same sm) (hDL.same sm) (fun H0' Hs' H6 g6 M6 => ⟨rfl, ?_⟩)
    walk_at "st"
    refine ⟨p, H0', Hs', S, _, _, t, rfl, M6, C, n12, tw9, by omega, fun H7 s7 => ?_⟩
    obtain ⟨H0a, Hsa, ga, _, Ma, fa⟩ := M6.grow s7
    walk_at "st"
    rw [decide_eq_true rfl]
    walk_at "st"
    exact q p H0a Hsa H7 (s5.trans (g6.trans ga)) Ma
end
section
open TL
variable {P : Program} {w : World} {K : PySem.W.Frag} {mg : Str → Option Value} {base : Heap}
theorem ok_law_fig (T : Tx P K mg base) : FnOk P w K mg base CX0 41 T.a_law_fig T.fd_law_fig (["_law_word"]) spFig := by
  refine T.F_law_fig.ok sc_law_fig (fun vs H Q E h => ?_) (fun cdv A outer s H vs Q E hr h => ?_)
  · obtain ⟨z, rfl, _⟩ := h
    rfl
  obtain ⟨z, rfl, hz, q⟩ := h
  have sz : z.length ≤ sizeLine := size_ok (by omega)
  refine ⟨_, (pss_cons (ps_if (PW.pt (pw_or (pt_cmpR op_eq (pv 0) (pe_str) (nomark _)) (pw_or (pt_cmpR op_gt (pe_callB c_lenS (by rfl) T.m_len PySem.boot_len (pa_cons (pv 0) pa_nil)) (pe_int) (nomark _)) (pw_or1 (PW.pt (pw_and (pt_cmpR op_gt (pe_callB c_lenS (by rfl) T.m_len PySem.boot_len (pa_cons (pv 0) pa_nil)) (pe_int) (nomark _)) (pw_and1 (pt_cmpR op_eq (pe_ix ix_str (pv 0) (pe_int) (fun _ _ => rfl)) (pe_str) (nomark _))))))))) (pss_one (ps_ret (pe_un un_neg (pe_int)))) pss_nil)
      (pss_cons (ps_for PassesOwn.never rfl (pi_str (pv 0)) (pg_name (i := 1) sc_law_fig.nd rfl (.inl rfl)) (pss_one (ps_if (pt_cmpR o_ninC (pv 1) (pe_str) (by rfl)) (pss_one (ps_ret (pe_un un_neg (pe_int)))) pss_nil)))
      (pss_one (ps_ret (pe_callTy c_intS (by rfl) T.m_int (by decide +kernel) (pa_cons (pv 0) pa_nil)))))), ?_⟩
  walk_at "st"
  refine Pm.w_ite (fun e => ?_) (fun e => ?_)
  · rw [if_pos rfl]
    walk_at "st"
    rw [fig_no (.inl (len_zero.mp e))] at q
    exact q
  rw [len_zero] at e
  walk_at "st"
  refine Pm.w_lenS sz ?_
  walk_at "st"
  refine Pm.w_ite (fun e2 => ?_) (fun e2 => ?_)
  · rw [if_pos rfl]
    walk_at "st"
    rw [fig_no (.inr (.inl (by omega)))] at q
    exact q
  have ne : tl z ≠ [] := fun y => e ((len0_tl z).mpr y)
  obtain ⟨c, r, ez⟩ : ∃ c r, tl z = c :: r := by
    cases ez : tl z with
    | nil => exact absurd ez ne
    | cons c r => exact ⟨c, r, rfl⟩
  have hh : (tl z).head? = some c := by rw [ez]; rfl
  walk_at "st"
  refine Pm.w_lenS sz ?_
  walk_at "st"
  refine Pm.w_ite (fun e3 => ?_) (fun e3 => ?_)
  · walk_at "st"
    refine Pm.w_ixS sz (str_head hh) ?_
    walk_at "st"
    rw [show decide ((⟨#[c]⟩ : Str) = ("0" : Str)) = decide (c = 48) from decide_eq_decide.mpr (one_eq (d := 48))]
    refine Pm.w_ite (fun e4 => ?_) (fun e4 => ?_)
    · walk_at "st"
      rw [fig_no (.inr (.inr (.inr ⟨by rw [hh, e4], by omega⟩)))] at q
      exact q
    · have n : ¬ (c = 48 ∧ 1 < z.length) := fun y => e4 y.1
      walk_at "st"
      refine Pm.w_forS (fun i σ H' => ∃ x, σ = [some (.str z), x] ∧ H' = H ∧ ∀ x ∈ (tl z).take i, 48 ≤ x ∧ x ≤ 57) ⟨_, rfl, rfl, by rw [List.take_zero]; exact fun x h => nomatch h⟩ ?_ ?_
      · rintro i c2 σ H' hc ⟨x, rfl, rfl, hd⟩
        walk_at "st"
        refine Pm.w_ninC ?_
        walk_at "st"
        refine Pm.w_iteN (fun n2 => ?_) (fun y => ?_)
        · walk_at "st"
          rw [fig_no (.inr (.inr (.inl fun a => n2 (figures_mem.mpr (a c2 (List.mem_of_getElem? hc))))))] at q
          exact q
        · walk_at "st"
          exact ⟨_, rfl, rfl, digits_take hc hd (figures_mem.mp y)⟩
      · rintro σ H' ⟨x, rfl, rfl, hd⟩
        rw [List.take_length] at hd
        walk_at "st"
        refine Pm.w_intS (PySem.intText_digits hd ne (by omega)) (by omega) ?_
        rw [fig_yes (by
          rintro (y | y | y | y)
          · exact e y
          · omega
          · exact y hd
          · rw [hh] at y
            exact n ⟨by simpa using y.1, y.2⟩)] at q
        exact q
  · have n : ¬ (c = 48 ∧ 1 < z.length) := fun y => e3 (by have := y.2; omega)
    walk_at "st"
    refine Pm.w_forS (fun i σ H' => ∃ x, σ = [some (.str z), x] ∧ H' = H ∧ ∀ x ∈ (tl z).take i, 48 ≤ x ∧ x ≤ 57) ⟨_, rfl, rfl, by rw [List.take_zero]; exact fun x h => nomatch h⟩ ?_ ?_
    · rintro i c2 σ H' hc ⟨x, rfl, rfl, hd⟩
      walk_at "st"
      refine Pm.w_ninC ?_
      walk_at "st"
      refine Pm.w_iteN (fun n2 => ?_) (fun y => ?_)
      · walk_at "st"
        rw [fig_no (.inr (.inr (.inl fun a => n2 (figures_mem.mpr (a c2 (List.mem_of_getElem? hc))))))] at q
        exact q
      · walk_at "st"
        exact ⟨_, rfl, rfl, digits_take hc hd (figures_mem.mp y)⟩
    · rintro σ H' ⟨x, rfl, rfl, hd⟩
      rw [List.take_length] at hd
      walk_at "st"
      refine Pm.w_intS (PySem.intText_digits hd ne (by omega)) (by omega) ?_
      rw [fig_yes (by
        rintro (y | y | y | y)
        · exact e y
        · omega
        · exact y hd
        · rw [hh] at y
          exact n ⟨by simpa using y.1, y.2⟩)] at q
      exact q
theorem spl_head {S : List Nat} : ∀ (l : List Nat) (k : Nat) (acc : List Nat), ∃ p rest, spl S k acc l = p :: rest ∧ acc <+: p
  | [], k, acc => ⟨acc, [], spl_nil .., List.prefix_rfl⟩
  | c :: r, 0, acc => by
    cases hp : pre S (c :: r) with
    | true => exact ⟨acc, _, spl_hit hp, List.prefix_rfl⟩
    | false =>
      obtain ⟨p, rest, h1, h2⟩ := spl_head (S := S) r 0 (acc ++ [c])
      exact ⟨p, rest, by rw [spl_miss hp]; exact h1, (List.prefix_append _ _).trans h2⟩
  | c :: r, k + 1, acc => spl_head r k acc
theorem part_neg {d : Bool} {ws : List Str} {q : IP} (h : partTwo d ws = some q) : (d = true → q.1 < 1) ∧ ∃ a b, ws = [a, b] ∧ 1 ≤ fig b ∧ 0 ≤ fig a ∧ Int.gcd (fig a) (fig b) = 1 ∧ q = (if d = true then -fig a else fig a, fig b) := by
  match ws, h with
  | [a, b], h =>
    rw [partTwo_ab] at h
    by_cases c : fig a < 0 ∨ fig b < 1 ∨ Int.gcd (fig a) (fig b) ≠ 1 ∨ (d = true ∧ fig a = 0)
    · rw [if_pos c] at h; cases h
    · rw [if_neg c] at h
      have h := (Option.some.inj h).symm
      have c1 : ¬ fig a < 0 := fun z => c (.inl z)
      have c2 : ¬ fig b < 1 := fun z => c (.inr (.inl z))
      have c3 : Int.gcd (fig a) (fig b) = 1 := Classical.byContradiction fun z => c (.inr (.inr (.inl z)))
      refine ⟨fun hd => ?_, a, b, rfl, by omega, by omega, c3, h⟩
      rw [h, if_pos hd]
      simp only
      omega
theorem rest_no {z : Str} (h : ¬ dash z) : restOf z = z := if_neg h
theorem part_no {z : Str} {q : IP} (hq : partOf z = some q) (h : ∀ a b, Txt.split z ("/" : Str) ≠ [a, b]) : q.1 < 1 := by
  obtain ⟨h1, a, b, e, _⟩ := part_neg hq
  by_cases d : dash z
  · exact h1 (decide_eq_true d)
  · rw [rest_no d] at e
    exact absurd e (h a b)
theorem part_pos {z a b : Str} (e : Txt.split z ("/" : Str) = [a, b]) : ∀ q, partOf z = some q → 1 ≤ q.1 → fig a = q.1 ∧ fig b = q.2 ∧ 1 ≤ fig a ∧ 1 ≤ fig b ∧ Int.gcd (fig a) (fig b) = 1 := fun q hq h1 => by
  obtain ⟨hd, a', b', e', g1, g2, g3, g4⟩ := part_neg hq
  by_cases d : dash z
  · have := hd (decide_eq_true d)
    omega
  · rw [rest_no d, e] at e'
    obtain ⟨rfl, rfl, _⟩ : a = a' ∧ b = b' ∧ True := by
      injection e' with e1 e2
      injection e2 with e2 _
      exact ⟨e1, e2, trivial⟩
    rw [decide_eq_false d] at g4
    simp only [Bool.false_eq_true, if_false] at g4
    rw [g4] at h1 ⊢
    exact ⟨rfl, rfl, h1, g1, g3⟩
theorem part_dash {z a b : Str} (e : Txt.split z ("/" : Str) = [a, b]) (hd : dash z) : fig a = -1 := by
  have h := split_spl z ("/" : Str) (by decide +kernel) (kind_ok (by decide +kernel))
  rw [e] at h
  have h45 := dash_iff.mp hd
  cases ez : tl z with
  | nil => rw [ez] at h45; cases h45
  | cons c r =>
    rw [ez] at h45 h
    have ec : c = 45 := by simpa using h45
    subst ec
    have hs : tl ("/" : Str) = [47] := by decide +kernel
    rw [hs, spl_miss (by rfl)] at h
    obtain ⟨p, rest, h1, h2⟩ := spl_head (S := [47]) r 0 ([] ++ [45])
    rw [h1] at h
    injection h with h3 h4
    refine fig_no (.inr (.inr (.inl fun al => ?_)))
    obtain ⟨m, hm⟩ := h2
    have := al 45 (by rw [h3, ← hm]; simp)
    omega
theorem part_is {z a b : Str} (e : Txt.split z ("/" : Str) = [a, b]) (h1 : 1 ≤ fig a) (h2 : 1 ≤ fig b) (h3 : Int.gcd (fig a) (fig b) = 1) : partOf z = some (fig a, fig b) := by
  have d : ¬ dash z := fun d => by
    have := part_dash e d
    omega
  unfold partOf
  rw [rest_no d, e, decide_eq_false d, partTwo_ab, if_neg (by
    rintro (z | z | z | z)
    · omega
    · omega
    · exact z h3
    · exact Bool.noConfusion z.1)]
  rfl
def spPartOf (K : PySem.W.Frag) : Sp := fun vs H Q _ => ∃ z : Str, vs = [.str z] ∧ z.length ≤ 1000000 ∧ ∀ (t : Addr) (H' : Hp) (p : IP), Same H H' → H t = none → H' t = some (.tup [.int p.1, .int p.2]) → (p.1 < 1 ∧ (∀ q, partOf z = some q → q.1 < 1) ∨ 0 < p.1 ∧ partOf z = some p) → Q (.ref t) H'
theorem ok_law_part_of (T : Tx P K mg base) : FnOk P w K mg base CX0 43 T.a_law_part_of T.fd_law_part_of (["_law_word"]) (spPartOf K) := by
  refine T.F_law_part_of.ok sc_law_part_of (fun vs H Q E h => ?_) (fun cdv A outer s H vs Q E hr h => ?_)
  · obtain ⟨z, rfl, _⟩ := h
    rfl
  obtain ⟨z, rfl, hz, q⟩ := h
  refine ⟨_, (pss_cons (ps_set (i := 1) sc_law_part_of.nd rfl (.inl rfl) (k_bm (K := K) (pe_bm PySem.F.plainAttrs_str PySem.F.slot_str_split PySem.F.type_str_split mt_splitS (pv 0) (pa_cons (pe_str) pa_nil))))
      (pss_cons (ps_if (pt_cmpR op_ne (pe_callB (c_len (K := K)) (by rfl) T.m_len PySem.boot_len (pa_cons (pv 1) pa_nil)) (pe_int) (nomark _)) (pss_one (ps_ret (pe_tup (pa_cons (pe_int) (pa_cons (pe_int) pa_nil))))) pss_nil)
      (pss_cons (ps_set (i := 2) sc_law_part_of.nd rfl (.inl rfl) (pe_call (ok_law_fig T) (hr.mono (by decide)) (by rfl) T.g_law_fig T.F_law_fig.kp T.b_law_fig .nil pass0 (pa_cons (pe_ix (ix_listK (K := K)) (pv 1) (pe_int) (fun _ _ => rfl)) pa_nil)))
      (pss_cons (ps_set (i := 3) sc_law_part_of.nd rfl (.inl rfl) (pe_call (ok_law_fig T) (hr.mono (by decide)) (by rfl) T.g_law_fig T.F_law_fig.kp T.b_law_fig .nil pass0 (pa_cons (pe_ix (ix_listK (K := K)) (pv 1) (pe_int) (fun _ _ => rfl)) pa_nil)))
      (pss_cons (ps_if (PW.pt (pw_or (pt_cmpR op_lt (pv 2) (pe_int) (nomark _)) (pw_or (pt_cmpR op_lt (pv 3) (pe_int) (nomark _)) (pw_or1 (pt_cmpR (op_neDK (K := K) hr.units) (pe_call (ok_law_low T) (hr.mono (by decide)) (by rfl) T.g_law_low T.F_law_low.kp T.b_law_low .nil pass0 (pa_cons (pv 2) (pa_cons (pv 3) pa_nil))) (pe_tup (pa_cons (pv 2) (pa_cons (pv 3) pa_nil))) (nomark _)))))) (pss_one (ps_ret (pe_tup (pa_cons (pe_int) (pa_cons (pe_int) pa_nil))))) pss_nil)
      (pss_one (ps_ret (pe_tup (pa_cons (pv 2) (pa_cons (pv 3) pa_nil)))))))))), ?_⟩
  walk_at "st"
  refine ⟨rfl, ?_⟩
  walk_at "st"
  refine Pm.w_split (by decide +kernel) (by rw [sizeLine_eq]; omega) (fun l hl => ?_)
  have wl : ∀ x ∈ Txt.split z ("/" : Str), x.length ≤ 1000000 := fun x hx => Nat.le_trans (split_piece hx) (by omega)
  have s1 := same_new hl (.lst ((Txt.split z ("/" : Str)).map V.str))
  have f1 : (upd H l (.lst ((Txt.split z ("/" : Str)).map V.str))) l = some (.lst ((Txt.split z ("/" : Str)).map V.str)) := upd_same
  generalize upd H l (.lst ((Txt.split z ("/" : Str)).map V.str)) = H1 at s1 f1 ⊢
  walk_at "st"
  refine Pm.w_lenL (SqL.of f1) ?_
  rw [List.length_map]
  walk_at "st"
  refine Pm.w_iteN (fun e1 => ?_) (fun e1 => ?_)
  · walk_at "st"
    refine Pm.w_newT (fun t ht => ?_)
    refine q t _ (0, 1) (s1.trans (same_new ht _)) (s1.free ht) upd_same (.inl ⟨by decide, fun q0 hq => ?_⟩)
    exact part_no hq fun a b e => e1 (by rw [e]; rfl)
  obtain ⟨a, b, eab⟩ : ∃ a b, Txt.split z ("/" : Str) = [a, b] := by
    match Txt.split z ("/" : Str), e1 with
    | [a, b], _ => exact ⟨a, b, rfl⟩
    | [], e => exact absurd e (by decide)
    | [_], e => exact absurd e (by simp)
    | _ :: _ :: _ :: r, e => exact absurd e (by simp only [List.length_cons]; omega)
  rw [eab] at f1 wl
  have la := wl a List.mem_cons_self
  have lb := wl b (List.mem_cons_of_mem _ List.mem_cons_self)
  have pz := part_pos eab
  walk_at "st"
  refine Pm.w_ixL (SqL.of f1) (v := .str a) rfl ?_
  walk_at "st"
  refine ⟨_, rfl, la, ?_⟩
  walk_at "st"
  refine Pm.w_ixL (SqL.of f1) (v := .str b) rfl ?_
  walk_at "st"
  refine ⟨_, rfl, lb, ?_⟩
  walk_at "st"
  refine Pm.w_ite (fun e2 => ?_) (fun e2 => ?_)
  · rw [if_pos rfl]
    walk_at "st"
    refine Pm.w_newT (fun t ht => ?_)
    exact q t _ (0, 1) (s1.trans (same_new ht _)) (s1.free ht) upd_same (.inl ⟨by decide, fun q0 hq => by
      have := (pz q0 hq)
      by_cases c : q0.1 < 1
      · exact c
      · have := this (by omega)
        omega⟩)
  walk_at "st"
  refine Pm.w_ite (fun e3 => ?_) (fun e3 => ?_)
  · rw [if_pos rfl]
    walk_at "st"
    refine Pm.w_newT (fun t ht => ?_)
    exact q t _ (0, 1) (s1.trans (same_new ht _)) (s1.free ht) upd_same (.inl ⟨by decide, fun q0 hq => by
      have := (pz q0 hq)
      by_cases c : q0.1 < 1
      · exact c
      · have := this (by omega)
        omega⟩)
  walk_at "st"
  refine ⟨_, _, 1330, rfl, by omega, fig_bits, by decide, fun t1 H2 s2 nt1 ht1 => ?_⟩
  walk_at "st"
  refine Pm.w_newT (fun t2 ht2 => ?_)
  have s3 := same_new ht2 (.tup [.int (fig a), .int (fig b)])
  have fr1 : FrV K (upd H2 t2 (.tup [.int (fig a), .int (fig b)])) (.ref t1) (rp (Rat.divInt (fig a) (fig b))) := ⟨t1, rfl, .inl (s3 _ _ ht1)⟩
  have fr2 : FrV K (upd H2 t2 (.tup [.int (fig a), .int (fig b)])) (.ref t2) (fig a, fig b) := ⟨t2, rfl, .inl upd_same⟩
  refine w_neFr fr1 fr2 ?_
  have s12 := s1.trans (s2.trans s3)
  walk_at "st"
  refine Pm.w_iteN (fun e4 => ?_) (fun e4 => ?_)
  · walk_at "st"
    refine Pm.w_newT (fun t ht => ?_)
    exact q t _ (0, 1) (s12.trans (same_new ht _)) (s12.free ht) upd_same (.inl ⟨by decide, fun q0 hq => by
      by_cases c : q0.1 < 1
      · exact c
      · obtain ⟨_, _, _, g1, g2⟩ := pz q0 hq (by omega)
        exact absurd (rp_back (p := (fig a, fig b)) ⟨by show 0 < fig b; omega, g2⟩) e4⟩)
  · walk_at "st"
    refine Pm.w_newT (fun t ht => ?_)
    have d := div_pos_num (a := fig a) (b := fig b) (by omega)
    have g : Int.gcd (fig a) (fig b) = 1 := by
      have r := (Rat.divInt (fig a) (fig b)).reduced
      have e5 := congrArg Prod.fst e4
      have e6 := congrArg Prod.snd e4
      unfold rp at e5 e6
      simp only at e5 e6
      unfold Nat.Coprime at r
      have e7 : (fig a).natAbs = (Rat.divInt (fig a) (fig b)).num.natAbs := congrArg Int.natAbs e5.symm
      have e8 : (fig b).natAbs = (Rat.divInt (fig a) (fig b)).den := by omega
      unfold Int.gcd
      rw [e7, e8]
      exact r
    exact q t _ (fig a, fig b) (s12.trans (same_new ht _)) (s12.free ht) upd_same (.inr ⟨by show 0 < fig a; omega, part_is eab (by omega) (by omega) g⟩)
end
section
open TL
variable {P : Program} {w : World} {K : PySem.W.Frag} {mg : Str → Option Value} {base : Heap}
theorem part_text {z : Str} {p : IP} (h : partOf z = some p) (h1 : 0 < p.1) : z = partStr p := by
  obtain ⟨hd, a, b, e, g1, g2, g3, g4⟩ := part_neg h
  have d : ¬ dash z := fun d => by
    have := hd (decide_eq_true d)
    omega
  rw [rest_no d] at e
  rw [decide_eq_false d] at g4
  simp only [Bool.false_eq_true, if_false] at g4
  have ea := fig_back g2
  have eb := fig_back (x := b) (by omega)
  have j := split_back (z := z) (c := 47)
  have e : Txt.split z ⟨#[47]⟩ = [a, b] := e
  rw [e] at j
  have j : tl a ++ ([47] ++ tl b) = tl z := j
  refine ext_tl ?_
  rw [← j, tl_part, g4]
  unfold parL ilL
  simp only
  rw [← ea, ← eb]
  rfl
theorem row_text {z : Str} {k p : IP} (h : rowOf z = some (k, p)) (h1 : 0 < p.1) : tl z = rowL k p ∧ 0 ≤ k.1 ∧ 0 ≤ k.2 := by
  have j := split_back (z := z) (c := 32)
  unfold rowOf at h
  have e0 : Txt.split z (" " : Str) = Txt.split z ⟨#[32]⟩ := rfl
  rw [e0] at h
  match hw : Txt.split z ⟨#[32]⟩, h with
  | [a, b, c], h =>
    rw [hw] at j
    dsimp only at h
    by_cases e : fig a < 0 ∨ fig b < 0
    · rw [if_pos e] at h; cases h
    · rw [if_neg e] at h
      cases hp : partOf c with
      | none => rw [hp] at h; cases h
      | some q =>
        rw [hp] at h
        obtain ⟨rfl, rfl⟩ := Prod.mk.inj (Option.some.inj h)
        have ha : 0 ≤ fig a := by omega
        have hb : 0 ≤ fig b := by omega
        have ea := fig_back ha
        have eb := fig_back hb
        have ec := part_text hp h1
        refine ⟨?_, ha, hb⟩
        have j : tl a ++ ([32] ++ (tl b ++ ([32] ++ tl c))) = tl z := j
        rw [← j, ec, tl_part]
        unfold rowL ilL
        simp only
        rw [← ea, ← eb]
        simp
end
section
variable {P : Program} {w : World} {K : PySem.W.Frag} {mg : Str → Option Value} {base : Heap}
theorem ok_law_cross (T : Tx P K mg base) : FnOk P w K mg base CX0 41 T.a_law_cross T.fd_law_cross ["_law_one", "_law_other"] (spCross K) := by
  refine T.F_law_cross.ok sc_law_cross (fun vs H Q E h => ?_) (fun cdv A outer s H vs Q E hr h => ?_)
  · obtain ⟨t, u, a, b, c, d, rfl, _⟩ := h
    rfl
  obtain ⟨t, u, a, b, c, d, rfl, h1, h2, q⟩ := h
  refine ⟨_, (pss_cons (ps_for PassesOwn.never rfl (k_it (K := K) (pi_tup (pv 1))) (pg_name (i := 2) sc_law_cross.nd rfl (.inl rfl)) (pss_one (ps_if (pt_cmpR (op_in_seqK (K := K)) (pv 2) (pv 0) (by rfl)) (pss_one (ps_ret (pe_bl))) pss_nil)))
      (pss_cons (ps_set (i := 3) sc_law_cross.nd rfl (.inl rfl) (pe_callB (c_min rfl) (by rfl) T.m_min (by decide +kernel) (pa_cons (pe_ix (ix_tupK (K := K)) (pv 0) (pe_int) (fun _ _ => rfl)) (pa_cons (pe_ix (ix_tupK (K := K)) (pv 0) (pe_int) (fun _ _ => rfl)) pa_nil))))
      (pss_cons (ps_set (i := 4) sc_law_cross.nd rfl (.inl rfl) (pe_callB (c_max rfl) (by rfl) T.m_max (by decide +kernel) (pa_cons (pe_ix (ix_tupK (K := K)) (pv 0) (pe_int) (fun _ _ => rfl)) (pa_cons (pe_ix (ix_tupK (K := K)) (pv 0) (pe_int) (fun _ _ => rfl)) pa_nil))))
      (pss_one (ps_ret (pe_cmpR op_ne (pe_chain op_lt op_lt (pv 3) (pe_ix (ix_tupK (K := K)) (pv 1) (pe_int) (fun _ _ => rfl)) (pv 4)) (pe_chain op_lt op_lt (pv 3) (pe_ix (ix_tupK (K := K)) (pv 1) (pe_int) (fun _ _ => rfl)) (pv 4)) (nomark _))))))), ?_⟩
  walk_at "st"
  refine Pm.w_rdT h2 ?_
  refine Pm.w_forT (xs := [.int c, .int d]) (fun i σ H' => ∃ x4, σ = [some (.ref t), some (.ref u), x4, none, none] ∧ H' = H ∧ (1 ≤ i → c ≠ min a b ∧ c ≠ max a b) ∧ (2 ≤ i → d ≠ min a b ∧ d ≠ max a b)) ?_ ?_ ?_ ?_
  · exact ⟨_, rfl, rfl, fun h => absurd h (by omega), fun h => absurd h (by omega)⟩
  · rintro i σ H' _ ⟨x4, rfl, rfl, _⟩
    exact h2
  · rintro i x σ H' hx ⟨x4, rfl, rfl, i1, i2⟩
    match i, hx with
    | 0, hx =>
      cases hx
      walk_at "st"
      refine Pm.w_inInts (ns := [a, b]) (.inr h1) ?_
      walk_at "st"
      refine Pm.w_ite (fun e => ?_) (fun e => ?_)
      · walk_at "st"
        rw [cross_no (by rcases mem2.mp e with z | z; exact .inl z; exact .inr (.inl z))] at q
        exact q
      · walk_at "st"
        have e := mt mem2.mpr e
        exact ⟨_, rfl, rfl, fun _ => ⟨fun z => e (.inl z), fun z => e (.inr z)⟩, fun h => absurd h (by omega)⟩
    | 1, hx =>
      cases hx
      walk_at "st"
      refine Pm.w_inInts (ns := [a, b]) (.inr h1) ?_
      walk_at "st"
      refine Pm.w_ite (fun e => ?_) (fun e => ?_)
      · walk_at "st"
        rw [cross_no (by rcases mem2.mp e with z | z; exact .inr (.inr (.inl z)); exact .inr (.inr (.inr z)))] at q
        exact q
      · walk_at "st"
        have e := mt mem2.mpr e
        exact ⟨_, rfl, rfl, fun _ => i1 (by omega), fun _ => ⟨fun z => e (.inl z), fun z => e (.inr z)⟩⟩
    | i + 2, hx => simp at hx
  · rintro σ H' ⟨x4, rfl, rfl, i1, i2⟩
    have j1 := i1 (by show 1 ≤ 2; decide)
    have j2 := i2 (by show 2 ≤ 2; decide)
    have ne := And.intro j1.1 (And.intro j1.2 j2)
    walk_at "st"
    refine Pm.w_ixT h1 (atI2 _ _).1 ?_
    walk_at "st"
    refine Pm.w_ixT h1 (atI2 _ _).2 ?_
    walk_at "st"
    refine Pm.w_ixT h1 (atI2 _ _).1 ?_
    walk_at "st"
    refine Pm.w_ixT h1 (atI2 _ _).2 ?_
    walk_at "st"
    refine Pm.w_ixT h2 (atI2 _ _).1 ?_
    walk_at "st"
    refine Pm.w_ite (fun e1 => ?_) (fun e1 => ?_) <;>
    · walk_at "st"
      refine Pm.w_ixT h2 (atI2 _ _).2 ?_
      walk_at "st"
      refine Pm.w_ite (fun e3 => ?_) (fun e3 => ?_) <;>
      · walk_at "st"
        rw [cross_is (a := a) (b := b) ne (by simp [e1]) (by simp [e3])]
        exact q
end
section
variable {P : Program} {w : World} {K : PySem.W.Frag} {mg : Str → Option Value} {base : Heap}
/-- what the law asks of each rope -/
def wideR (n : Int) (p : IP) : Prop := 0 ≤ p.1 ∧ p.2 < n ∧ 2 ≤ p.2 - p.1
structure FitL (n : Int) (l : List IP) : Prop where
  ok : ∀ p ∈ l, wideR n p
  pw : l.Pairwise fun p q => ¬ crossP p.1 p.2 q.1 q.2
theorem fit_nil (n : Int) : FitL n [] := ⟨fun _ h => absurd h List.not_mem_nil, List.Pairwise.nil⟩
theorem fit_snoc {n : Int} {l : List IP} {x : IP} : FitL n (l ++ [x]) ↔ FitL n l ∧ wideR n x ∧ ∀ p ∈ l, ¬ crossP p.1 p.2 x.1 x.2 := by
  constructor
  · rintro ⟨h1, h2⟩
    have h2 := List.pairwise_append.mp h2
    exact ⟨⟨fun p hp => h1 p (List.mem_append_left _ hp), h2.1⟩, h1 x (List.mem_append_right _ (List.mem_singleton.mpr rfl)), fun p hp => h2.2.2 p hp x (List.mem_singleton.mpr rfl)⟩
  · rintro ⟨⟨h1, h2⟩, h3, h4⟩
    refine ⟨fun p hp => ?_, List.pairwise_append.mpr ⟨h2, List.pairwise_singleton _ _, fun a ha b hb => ?_⟩⟩
    · rcases List.mem_append.mp hp with h | h
      · exact h1 p h
      · rw [List.mem_singleton.mp h]; exact h3
    · rw [List.mem_singleton.mp hb]; exact h4 a ha
theorem fit_take {n : Int} {l : List IP} {k : Nat} (h : FitL n l) : FitL n (l.take k) := ⟨fun p hp => h.ok p (List.mem_of_mem_take hp), h.pw.sublist (List.take_sublist k l)⟩
def spFitsRing : Sp := fun vs H Q _ => ∃ (n : Int) (r : Addr) (ps : List IP), vs = [.int n, .ref r] ∧ PLt H r ps ∧ ps.length ≤ 300001 ∧ ∀ (b : Bool) (H' : Hp), Same H H' → (b = true ↔ (ps.length : Int) = n - 3 ∧ FitL n ps) → Q (.bl b) H'
theorem ok_law_fits_ring (T : Tx P K mg base) : FnOk P w K mg base CX0 43 T.a_law_fits_ring T.fd_law_fits_ring (["_law_n", "_law_ropes_here"]) spFitsRing := by
  refine T.F_law_fits_ring.ok sc_law_fits_ring (fun vs H Q E h => ?_) (fun cdv A outer s H vs Q E hr h => ?_)
  · obtain ⟨n, r, ps, rfl, _⟩ := h
    rfl
  obtain ⟨n, r, ps, rfl, ⟨ys, hc2, hy2⟩, pl, q⟩ := h
  have clen : ys.length = ps.length := hy2.length
  have no : ∀ {H' : Hp}, Same H H' → ¬ ((ps.length : Int) = n - 3 ∧ FitL n ps) → Q (.bl false) H' := fun s z => q false _ s ⟨fun y => Bool.noConfusion y, fun y => absurd y z⟩
  refine ⟨_, (pss_cons (ps_if (pt_cmpR op_ne (pe_callB (c_len (K := K)) (by rfl) T.m_len PySem.boot_len (pa_cons (pv 1) pa_nil)) (pe_op op_sub (pv 0) (pe_int)) (nomark _)) (pss_one (ps_ret (pe_bl))) pss_nil)
      (pss_cons (ps_for PassesOwn.never rfl (pi_range1 (by rfl) T.m_range (pa_cons (pe_callB (c_len (K := K)) (by rfl) T.m_len PySem.boot_len (pa_cons (pv 1) pa_nil)) pa_nil)) (pg_name (i := 2) sc_law_fits_ring.nd rfl (.inl rfl)) (pss_cons (ps_asg (pe_ix (ix_listK (K := K)) (pv 1) (pv 2) (fun _ _ => rfl)) (k_gt (K := K) (pg_tup (by rfl) (pgs_cons (pg_name (i := 3) sc_law_fits_ring.nd rfl (.inl rfl)) (pgs_cons (pg_name (i := 4) sc_law_fits_ring.nd rfl (.inl rfl)) pgs_nil)))))
      (pss_cons (ps_if (PW.pt (pw_or (pt_cmpR op_lt (pv 3) (pe_int) (nomark _)) (pw_or (pt_cmpR op_ge (pv 4) (pv 0) (nomark _)) (pw_or1 (pt_cmpR op_lt (pe_op op_sub (pv 4) (pv 3)) (pe_int) (nomark _)))))) (pss_one (ps_ret (pe_bl))) pss_nil)
      (pss_one (ps_for PassesOwn.never rfl (k_il (K := K) (pi_list (pe_slice (sl_listK (K := K)) (pv 1) po_none (po_some (pv 2))))) (pg_name (i := 5) sc_law_fits_ring.nd rfl (.inl rfl)) (pss_one (ps_if (pt_val (pe_call (ok_law_cross T) (hr.mono (by decide)) (by rfl) T.g_law_cross T.F_law_cross.kp T.b_law_cross .nil pass0 (pa_cons (pv 5) (pa_cons (pe_ix (ix_listK (K := K)) (pv 1) (pv 2) (fun _ _ => rfl)) pa_nil)))) (pss_one (ps_ret (pe_bl))) pss_nil)))))))
      (pss_one (ps_ret (pe_bl))))), ?_⟩
  walk_at "st"
  refine Pm.w_lenL (SqL.of hc2) ?_
  walk_at "st"
  refine Pm.w_iteN (fun e => ?_) (fun e => ?_)
  · walk_at "st"
    exact no (Same.refl _) fun z => e (by rw [clen]; exact z.1)
  walk_at "st"
  refine Pm.w_lenL (SqL.of hc2) ?_
  walk_at "st"
  rw [Int.toNat_natCast]
  refine Pm.w_forR (fun i σ H3 => ∃ x1 x2 x3 x4, σ = [some (.int n), some (.ref r), x1, x2, x3, x4] ∧ Same H H3 ∧ FitL n (ps.take i)) ⟨_, _, _, _, rfl, Same.refl _, by rw [List.take_zero]; exact fit_nil n⟩ ?_ ?_
  · rintro i σ H3 hi ⟨x1, x2, x3, x4, rfl, s3, hg⟩
    obtain ⟨p, hp, t, et, ht⟩ := hy2.get (List.getElem?_eq_getElem hi)
    have hat : atI ys (0 + (i : Int)) = some (.ref t) := by rw [Int.zero_add]; exact atI_nat (by rw [List.getElem?_eq_getElem hi, et])
    have cH3 := s3 _ _ hc2
    have ht3 := s3 _ _ ht
    have tak : ps.take (i + 1) = ps.take i ++ [p] := by rw [List.take_add_one, hp] <;> rfl
    have bad : (¬ wideR n p ∨ ∃ p' ∈ ps.take i, crossP p'.1 p'.2 p.1 p.2) → ¬ ((ps.length : Int) = n - 3 ∧ FitL n ps) := fun z k => by
      have g := fit_take (k := i + 1) k.2
      rw [tak, fit_snoc] at g
      rcases z with z | ⟨p', h1, h2⟩
      · exact z g.2.1
      · exact g.2.2 p' h1 h2
    walk_at "st"
    refine Pm.w_ixL (SqL.of cH3) hat ?_
    refine Pm.w_gtup (SqT.of ht3) rfl ?_
    walk_at "st"
    refine Pm.w_ite (fun e1 => ?_) (fun e1 => ?_)
    · rw [if_pos rfl]
      walk_at "st"
      exact no s3 (bad (.inl fun z => by unfold wideR at z; omega))
    walk_at "st"
    refine Pm.w_ite (fun e2 => ?_) (fun e2 => ?_)
    · rw [if_pos rfl]
      walk_at "st"
      exact no s3 (bad (.inl fun z => by unfold wideR at z; omega))
    walk_at "st"
    refine Pm.w_ite (fun e3 => ?_) (fun e3 => ?_)
    · walk_at "st"
      exact no s3 (bad (.inl fun z => by unfold wideR at z; omega))
    have wd : wideR n p := ⟨by omega, by omega, by omega⟩
    walk_at "st"
    refine Pm.w_slL (SqL.of cH3) (fun g hg' => ?_)
    have s4 := s3.trans (same_new hg' (.lst (cutV ys none (some (0 + (i : Int))))))
    have es : cutV ys none (some (0 + (i : Int))) = ys.take i := by rw [cut_take (by omega) (by omega), show (0 + (i : Int)).toNat = i by omega]
    rw [es] at s4 ⊢
    have pt := (prs_keep (keeps s4) hy2).take i
    refine Pm.w_rdL (SqL.of upd_same) ?_
    refine Pm.w_forL (xs := ys.take i) (fun j σ H5 => ∃ z, σ = [some (.int n), some (.ref r), some (.int (0 + (i : Int))), some (.int p.1), some (.int p.2), z] ∧ H5 = upd H3 g (.lst (ys.take i)) ∧ ∀ p' ∈ (ps.take i).take j, ¬ crossP p'.1 p'.2 p.1 p.2) ?_ ?_ ?_ ?_
    · exact ⟨_, rfl, rfl, fun p' hp' => by rw [List.take_zero] at hp'; exact absurd hp' List.not_mem_nil⟩
    · rintro j σ H5 _ ⟨z, _, e5, _⟩
      rw [e5]; exact SqL.of upd_same
    · rintro j x' σ H5 hx ⟨z, rfl, rfl, hok⟩
      obtain ⟨p', hp', t', rfl, ht'⟩ := pt.get hx
      have mp' : p' ∈ ps.take i := List.mem_of_getElem? hp'
      have cH5 := s4 _ _ hc2
      have tak2 : (ps.take i).take (j + 1) = (ps.take i).take j ++ [p'] := by rw [List.take_add_one, hp'] <;> rfl
      walk_at "st"
      refine Pm.w_ixL (SqL.of cH5) hat ?_
      walk_at "st"
      refine ⟨t', t, p'.1, p'.2, p.1, p.2, rfl, SqT.of ht', SqT.of (s4 _ _ ht), ?_⟩
      walk_at "st"
      refine Pm.w_ite (fun e4 => ?_) (fun e4 => ?_)
      · walk_at "st"
        exact no s4 (bad (.inr ⟨p', mp', e4⟩))
      walk_at "st"
      refine ⟨_, rfl, rfl, fun p2 hp2 => ?_⟩
      rw [tak2] at hp2
      rcases List.mem_append.mp hp2 with h | h
      · exact hok p2 h
      · rw [List.mem_singleton.mp h]; exact e4
    · rintro σ H5 ⟨z, rfl, rfl, hok⟩
      rw [List.take_of_length_le (l := ps.take i) (by rw [List.length_take, List.length_take, clen]; exact Nat.le_refl _)] at hok
      refine ⟨_, _, _, _, rfl, s4, ?_⟩
      rw [tak, fit_snoc]
      exact ⟨hg, wd, hok⟩
  · rintro σ H3 ⟨x1, x2, x3, x4, rfl, s3, hg⟩
    rw [clen, List.take_length] at hg
    walk_at "st"
    refine q true _ s3 ⟨fun _ => ⟨?_, hg⟩, fun _ => rfl⟩
    rw [clen] at e
    exact e
end
section
open TL
variable {P : Program} {w : World} {K : PySem.W.Frag} {mg : Str → Option Value} {base : Heap}
/-- ties told by a sheet: rising, as many as a cutting's, the ropes among them fit -/
theorem marks_ties {nn : Nat} {marks cut : List IP} (n3 : 3 ≤ nn) (n12 : nn ≤ 12) (rise : Rising marks) (nd : marks.Nodup) (len : marks.length = 2 * nn - 3) (ec : cut = marks.filter fun k => !decide (k ∈ sidesL nn)) (flen : (cut.length : Int) = nn - 3) (fit : FitL nn cut) :
    ∃ t, Cutting nn cut t ∧ marks = tiesL nn cut := by
  have ndc : cut.Nodup := by rw [ec]; exact nd.sublist List.filter_sublist
  have rc : Rising cut := by rw [ec]; exact rise.sublist List.filter_sublist
  have nos : ∀ p ∈ cut, p ∉ sidesL nn := fun p hp => by
    rw [ec] at hp
    have := (List.mem_filter.mp hp).2
    simpa using this
  have side : ∀ x : IP, x ∈ sidesL nn ↔ x ∈ sides0 nn := fun x => by unfold sidesL; exact mem_sortP
  have et : cut.map tied = cut := by
    conv => rhs; rw [← List.map_id cut]
    refine List.map_congr_left fun p hp => ?_
    have := fit.ok p hp
    unfold wideR at this
    show tieOf p.1 p.2 = p
    rw [tie_lt (by omega)]
  have kp : KeptOk nn cut := by
    refine (kept_iff nn cut).mpr ⟨⟨by omega, by omega⟩, flen, ?_⟩
    rw [et]
    refine ⟨fun p hp => ?_, List.Pairwise.imp_of_mem (fun {p q} hp hq z => ?_) (ndc.and fit.pw)⟩
    · have w := fit.ok p hp
      unfold wideR at w
      have ns := nos p hp
      rw [side] at ns
      refine ⟨w.1, w.2.1, w.2.2, ?_⟩
      have : p ≠ (0, (nn : Int) - 1) := fun z => ns (by rw [z]; unfold sides0; exact List.mem_append_right _ (List.mem_singleton.mpr rfl))
      by_cases c : p.2 - p.1 < (nn : Int) - 1
      · exact c
      · exact absurd (Prod.ext (by show p.1 = 0; omega) (by show p.2 = (nn : Int) - 1; omega)) this
    · exact ⟨z.1, z.2⟩
  obtain ⟨n', t, en, _, C⟩ := kept_tree kp
  have en : nn = n' := by omega
  subst en
  rw [et, sortP_eq rc (List.Perm.refl _)] at C
  refine ⟨t, C, ?_⟩
  have sub : ∀ x ∈ marks, x ∈ tiesL nn cut := fun x hx => by
    by_cases c : x ∈ sidesL nn
    · exact mem_ties.mpr (.inl ((side x).mp c))
    · refine mem_ties.mpr (.inr ?_)
      rw [ec]
      exact List.mem_filter.mpr ⟨hx, by simpa using c⟩
  have back := sub_full nd sub (by rw [C.ties_len, len]; exact Nat.le_refl _)
  exact rising_eq rise (sortP_rising _) ((List.perm_ext_iff_of_nodup nd C.ties_nodup).mpr fun x => ⟨sub x, back x⟩)
end
section
open TL
variable {P : Program} {w : World} {K : PySem.W.Frag} {mg : Str → Option Value} {base : Heap}
theorem rows_text : ∀ {rows : List Str} {kps : List (IP × IP)}, rows.map rowOf = kps.map some → (∀ q ∈ kps, 0 < q.2.1) → rows.map tl = kps.map fun q => rowL q.1 q.2
  | [], [], _, _ => rfl
  | r :: rows, q :: kps, h, pos => by
    injection h with h1 h2
    rw [List.map_cons, List.map_cons, rows_text h2 fun x hx => pos x (List.mem_cons_of_mem _ hx), (row_text h1 (pos q List.mem_cons_self)).1]
theorem row_good {z : Str} {k p : IP} (h : rowOf z = some (k, p)) : partOk p := by
  unfold rowOf at h
  match Txt.split z (" " : Str), h with
  | [a, b, c], h =>
    dsimp only at h
    by_cases e : fig a < 0 ∨ fig b < 0
    · rw [if_pos e] at h; cases h
    · rw [if_neg e] at h
      cases hp : partOf c with
      | none => rw [hp] at h; cases h
      | some q =>
        rw [hp] at h
        obtain ⟨_, rfl⟩ := Prod.mk.inj (Option.some.inj h)
        exact ⟨(partOf_good hp).1, (partOf_good hp).2.1⟩
/-- the value at a key -/
def atKey (kps : List (IP × IP)) (k : IP) : IP := ((kps.find? fun q => decide (q.1 = k)).map (·.2)).getD (1, 1)
theorem atKey_mem : ∀ {kps : List (IP × IP)}, (kps.map (·.1)).Nodup → ∀ q ∈ kps, atKey kps q.1 = q.2
  | q0 :: kps, nd, q, hq => by
    have nd : (q0.1 :: kps.map (·.1)).Nodup := nd
    rw [List.nodup_cons] at nd
    unfold atKey
    by_cases c : q0.1 = q.1
    · rw [List.find?_cons_of_pos (by simpa using c)]
      rcases List.mem_cons.mp hq with rfl | h
      · rfl
      · exact absurd (List.mem_map.mpr ⟨q, h, c.symm⟩) nd.1
    · rw [List.find?_cons_of_neg (by simpa using c)]
      rcases List.mem_cons.mp hq with rfl | h
      · exact absurd rfl c
      · exact atKey_mem nd.2 q h
theorem sheet_made {z hd : Str} {rows : List Str} {nn : Nat} {kps : List (IP × IP)} {cut : List IP} (es : Txt.split z ("\n" : Str) = hd :: (rows ++ [("end" : Str), ("" : Str)])) (h5 : cutS hd none (some 5) = ("mead " : Str)) (hf : fig (cutS hd (some 5) none) = nn) (n3 : 3 ≤ nn) (n12 : nn ≤ 12)
    (hr : rows.map rowOf = kps.map some) (pos : ∀ q ∈ kps, 0 < q.2.1) (rise : Rising (kps.map (·.1))) (nd : (kps.map (·.1)).Nodup) (len : kps.length = 2 * nn - 3) (ec : cut = (kps.map (·.1)).filter fun k => !decide (k ∈ sidesL nn)) (flen : (cut.length : Int) = nn - 3) (fit : FitL nn cut) : ∃ S, GoodS S ∧ z = sheetOf S := by
  obtain ⟨t, C, em⟩ := marks_ties n3 n12 rise nd (by rw [List.length_map]; exact len) ec flen fit
  have got : ∀ q ∈ kps, ∃ row ∈ rows, rowOf row = some q := fun q hq => by
    have : some q ∈ rows.map rowOf := by rw [hr]; exact List.mem_map.mpr ⟨q, hq, rfl⟩
    obtain ⟨row, h1, h2⟩ := List.mem_map.mp this
    exact ⟨row, h1, h2⟩
  have rt := rows_text hr pos
  have of : ∀ k ∈ tiesL nn cut, ∃ q ∈ kps, q.1 = k := fun k hk => by
    rw [← em] at hk
    obtain ⟨q, h1, h2⟩ := List.mem_map.mp hk
    exact ⟨q, h1, h2⟩
  have val : ∀ q ∈ kps, Rat.divInt (atKey kps ((q.1.1.toNat : Int), (q.1.2.toNat : Int))).1 (atKey kps ((q.1.1.toNat : Int), (q.1.2.toNat : Int))).2 = Rat.divInt q.2.1 q.2.2 := fun q hq => by
    obtain ⟨row, _, h2⟩ := got q hq
    obtain ⟨_, k1, k2⟩ := row_text h2 (pos q hq)
    rw [show ((q.1.1.toNat : Int), (q.1.2.toNat : Int)) = q.1 from Prod.ext (by show (q.1.1.toNat : Int) = q.1.1; omega) (by show (q.1.2.toNat : Int) = q.1.2; omega), atKey_mem nd q hq]
  have rpv : ∀ q ∈ kps, rp (Rat.divInt q.2.1 q.2.2) = q.2 := fun q hq => by
    obtain ⟨row, _, h2⟩ := got q hq
    exact rp_back (row_good (k := q.1) (p := q.2) h2)
  refine ⟨⟨nn, cut, fun i j => Rat.divInt (atKey kps ((i : Int), (j : Int))).1 (atKey kps ((i : Int), (j : Int))).2⟩, ⟨⟨t, C⟩, n12, fun k hk => ?_⟩, ?_⟩
  · obtain ⟨q, hq, rfl⟩ := of k hk
    obtain ⟨row, _, h2⟩ := got q hq
    have lt := row_lt (k := q.1) (p := q.2) h2
    have e := rpv q hq
    show 0 < Rat.divInt (atKey kps ((q.1.1.toNat : Int), (q.1.2.toNat : Int))).1 (atKey kps ((q.1.1.toNat : Int), (q.1.2.toNat : Int))).2 ∧ _
    dsimp only
    rw [val q hq]
    rw [← e] at lt
    exact ⟨lenOk_rp'.mp (by rw [e]; exact ⟨row_good (k := q.1) (p := q.2) h2, pos q hq⟩), lt⟩
  · have j := split_back (z := z) (c := 10)
    have es : Txt.split z ⟨#[10]⟩ = hd :: (rows ++ [("end" : Str), ("" : Str)]) := es
    rw [es] at j
    have c1 : tl hd = headL nn := by
      have l5 : 5 ≤ hd.length := by
        have := len_cut hd none (some 5)
        rw [h5, show ("mead " : Str).length = 5 by decide +kernel] at this
        exact this
      have a := congrArg tl h5
      have b := congrArg tl (fig_back (x := cutS hd (some 5) none) (by rw [hf]; omega))
      rw [hf] at b
      rw [tl_cut, show HT.sIx hd.length 0 none = 0 from rfl, show HT.sIx hd.length hd.length (some 5) = 5 by unfold HT.sIx; simp only; rw [if_neg (by decide)]; omega, show tl ("mead " : Str) = [109, 101, 97, 100, 32] by decide +kernel] at a
      rw [tl_cut, show HT.sIx hd.length hd.length none = hd.length from rfl, show HT.sIx hd.length 0 (some 5) = 5 by unfold HT.sIx; simp only; rw [if_neg (by decide)]; omega] at b
      rw [List.drop_zero] at a
      rw [List.take_of_length_le (by rw [List.length_drop, len_tl]; exact Nat.le_refl _)] at b
      show tl hd = [109, 101, 97, 100, 32] ++ tl (Str.ofString (toString (nn : Int)))
      rw [← a, ← b]
      exact (List.take_append_drop 5 (tl hd)).symm
    refine ext_tl ?_
    unfold sheetOf
    rw [tl_sheet, ← j]
    unfold sheetL linesL
    rw [List.map_cons, List.map_append, rt, c1, show ([("end" : Str), ("" : Str)] : List Str).map tl = [[101, 110, 100]] ++ [[]] by decide +kernel, ← List.append_assoc, ← List.cons_append, join_lines]
    congr 2
    rw [← em, List.map_map]
    congr 1
    refine List.map_congr_left fun q hq => ?_
    show rowL q.1 q.2 = rowL q.1 (rp (Rat.divInt (atKey kps ((q.1.1.toNat : Int), (q.1.2.toNat : Int))).1 (atKey kps ((q.1.1.toNat : Int), (q.1.2.toNat : Int))).2))
    rw [val q hq, rpv q hq]
end
section
open TL
variable {P : Program} {w : World} {K : PySem.W.Frag} {mg : Str → Option Value} {base : Heap}
theorem leB_pair (p q : IP) : ND.leB (.t [.i p.1, .i p.2]) (.t [.i q.1, .i q.2]) = lexLe p q := by
  rw [leB_tcons, leB_tcons, leB_tnil, leB_i, leB_i]
  unfold lexLe
  by_cases c : p.1 = q.1
  · rw [if_pos (cmp_i_eq _ _ |>.mpr c)]
    by_cases d : p.2 = q.2
    · rw [if_pos (cmp_i_eq _ _ |>.mpr d)]
      exact (decide_eq_true (.inr ⟨c, by omega⟩)).symm
    · rw [if_neg (fun z => d (cmp_i_eq _ _ |>.mp z))]
      exact decide_eq_decide.mpr (by omega)
  · rw [if_neg (fun z => c (cmp_i_eq _ _ |>.mp z))]
    exact decide_eq_decide.mpr (by omega)
theorem w_geP {K : PySem.W.Frag} {H : Hp} {Q : VK} {x y : V} {p q : IP} (hx : Pr H x p) (hy : Pr H y q) (h : Q (.bl (lexLe q p)) H) : rGeN K x y H Q := by
  refine ⟨.t [.i p.1, .i p.2], .t [.i q.1, .i q.2], dp_pr hx, dp_pr hy, by simp [ND.hom, ND.homL], Nat.le_of_ble_eq_true rfl, ?_⟩
  rw [← leB_pair] at h
  exact h
theorem same_rise {ks : List IP} {k : IP} (h : Rising ks) (nd : ks.Nodup) (l : ∀ x, ks.getLast? = some x → lexLe k x = false) : Rising (ks ++ [k]) ∧ (ks ++ [k]).Nodup := by
  have lt : ∀ x ∈ ks, lexLe k x = false := by
    rcases List.eq_nil_or_concat ks with rfl | ⟨r, y, rfl⟩
    · exact fun x hx => absurd hx List.not_mem_nil
    · rw [List.concat_eq_append] at h l ⊢
      have ly := l y (by simp)
      intro x hx
      rcases List.mem_append.mp hx with m | m
      · have le := (List.pairwise_append.mp h).2.2 x m y (by simp)
        cases e : lexLe k x with
        | false => rfl
        | true =>
          have := lexLe_trans _ _ _ e le
          rw [ly] at this
          exact Bool.noConfusion this
      · rw [List.mem_singleton.mp m]; exact ly
  have le : ∀ x ∈ ks, lexLe x k = true := fun x hx => by
    have t := lexLe_total x k
    rw [lt x hx, Bool.or_false] at t
    exact t
  refine ⟨List.pairwise_append.mpr ⟨h, List.pairwise_singleton _ _, fun a ha b hb => by rw [List.mem_singleton.mp hb]; exact le a ha⟩, ?_⟩
  rw [List.nodup_append]
  refine ⟨nd, by simp, fun a ha b hb => ?_⟩
  rw [List.mem_singleton.mp hb]
  rintro rfl
  have := lt a ha
  rw [show lexLe a a = true from lexLe_iff.mpr (.inr ⟨rfl, Int.le_refl _⟩)] at this
  exact Bool.noConfusion this
/-- what a row tells, by its words -/
theorem rowOf_of {z a b c : Str} {p : IP} (e : Txt.split z (" " : Str) = [a, b, c]) (h1 : ¬ fig a < 0) (h2 : ¬ fig b < 0) (h3 : partOf c = some p) : rowOf z = some ((fig a, fig b), p) := by
  unfold rowOf
  rw [e]
  dsimp only
  rw [if_neg (by omega), h3]
  rfl
theorem row_words {z : Str} {k p : IP} (h : rowOf z = some (k, p)) : ∃ a b c, Txt.split z (" " : Str) = [a, b, c] ∧ fig a = k.1 ∧ fig b = k.2 ∧ 0 ≤ fig a ∧ 0 ≤ fig b ∧ partOf c = some p := by
  unfold rowOf at h
  match hw : Txt.split z (" " : Str), h with
  | [a, b, c], h =>
    dsimp only at h
    by_cases e : fig a < 0 ∨ fig b < 0
    · rw [if_pos e] at h; cases h
    · rw [if_neg e] at h
      cases hp : partOf c with
      | none => rw [hp] at h; cases h
      | some q =>
        rw [hp] at h
        obtain ⟨rfl, rfl⟩ := Prod.mk.inj (Option.some.inj h)
        exact ⟨a, b, c, rfl, rfl, rfl, by omega, by omega, hp⟩
/-- a state's three things -/
def spUnsheet (K : PySem.W.Frag) : Sp := fun vs H Q _ => ∃ z : Str, vs = [.str z] ∧ z.length ≤ 300000 ∧ (((¬ ∃ S, GoodS S ∧ z = sheetOf S) ∧ ∀ H', Same H H' → Q .non H') ∨
  ∃ S : Ms, GoodS S ∧ z = sheetOf S ∧ ∀ (t c d : Addr) (H' : Hp), Same H H' → StA K H' t c d S → Q (.ref t) H')
theorem lines3 {ws : List Str} (e : ¬ ws.length < 3) : ∃ hd rows y2 y1, ws = hd :: (rows ++ [y2, y1]) := by
  match ws, e with
  | [], e => exact absurd (by decide) e
  | hd :: r, e =>
    have hr : 2 ≤ r.length := by
      rw [List.length_cons] at e
      omega
    refine ⟨hd, r.take (r.length - 2), r[r.length - 2], r[r.length - 1], ?_⟩
    congr 1
    refine List.ext_getElem? fun j => ?_
    by_cases c : j < r.length - 2
    · rw [List.getElem?_append_left (by rw [List.length_take]; omega), List.getElem?_take_of_lt c]
    · rw [List.getElem?_append_right (by rw [List.length_take]; omega), List.length_take, Nat.min_eq_left (by omega)]
      rcases (show j = r.length - 2 ∨ j = r.length - 1 ∨ r.length ≤ j by omega) with e | e | e
      · rw [e, Nat.sub_self, List.getElem?_eq_getElem (by omega)]
        rfl
      · rw [e, show r.length - 1 - (r.length - 2) = 1 by omega, List.getElem?_eq_getElem (by omega)]
        rfl
      · rw [List.getElem?_eq_none (by omega), List.getElem?_eq_none (by simp only [List.length_cons, List.length_nil]; omega)]
theorem ok_law_unsheet (T : Tx P K mg base) : FnOk P w K mg base CX0 44 T.a_law_unsheet T.fd_law_unsheet (["_law_text"]) (spUnsheet K) := by
  refine T.F_law_unsheet.ok sc_law_unsheet (fun vs H Q E h => ?_) (fun cdv A outer s H vs Q E hr h => ?_)
  · obtain ⟨z, rfl, _⟩ := h
    rfl
  obtain ⟨z, rfl, zl, ⟨hno, q⟩ | ⟨S, hS, rfl, q⟩⟩ := h
  · refine ⟨_, (pss_cons (ps_set (i := 1) sc_law_unsheet.nd rfl (.inl rfl) (k_bm (K := K) (pe_bm PySem.F.plainAttrs_str PySem.F.slot_str_split PySem.F.type_str_split mt_splitS (pv 0) (pa_cons (pe_str) pa_nil))))
      (pss_cons (ps_if (PW.pt (pw_or (pt_cmpR op_lt (pe_callB (c_len (K := K)) (by rfl) T.m_len PySem.boot_len (pa_cons (pv 1) pa_nil)) (pe_int) (nomark _)) (pw_or (pt_cmpR op_ne (pe_ix (ix_listK (K := K)) (pv 1) (pe_un un_neg (pe_int)) (fun _ _ => rfl)) (pe_str) (nomark _)) (pw_or (pt_cmpR op_ne (pe_ix (ix_listK (K := K)) (pv 1) (pe_un un_neg (pe_int)) (fun _ _ => rfl)) (pe_str) (nomark _)) (pw_or1 (pt_cmpR op_ne (pe_slice sl_str (pe_ix (ix_listK (K := K)) (pv 1) (pe_int) (fun _ _ => rfl)) po_none (po_some (pe_int))) (pe_str) (nomark _))))))) (pss_one (ps_ret (pe_non))) pss_nil)
      (pss_cons (ps_set (i := 2) sc_law_unsheet.nd rfl (.inr rfl) (pe_call (ok_law_fig T) (hr.mono (by decide)) (by rfl) T.g_law_fig T.F_law_fig.kp T.b_law_fig .nil pass0 (pa_cons (pe_slice sl_str (pe_ix (ix_listK (K := K)) (pv 1) (pe_int) (fun _ _ => rfl)) (po_some (pe_int)) po_none) pa_nil)))
      (pss_cons (ps_if (PW.pt (pw_or (pt_cmpR op_lt (pv 2) (pe_int) (nomark _)) (pw_or1 (pt_cmpR op_gt (pv 2) (pe_int) (nomark _))))) (pss_one (ps_ret (pe_non))) pss_nil)
      (pss_cons (ps_set (i := 3) sc_law_unsheet.nd rfl (.inl rfl) (pe_lst pa_nil))
      (pss_cons (ps_set (i := 4) sc_law_unsheet.nd rfl (.inl rfl) (pe_dnewT))
      (pss_cons (ps_for PassesOwn.never rfl (k_il (K := K) (pi_list (pe_slice (sl_listK (K := K)) (pv 1) (po_some (pe_int)) (po_some (pe_un un_neg (pe_int)))))) (pg_name (i := 5) sc_law_unsheet.nd rfl (.inl rfl)) (pss_cons (ps_set (i := 6) sc_law_unsheet.nd rfl (.inl rfl) (k_bm (K := K) (pe_bm PySem.F.plainAttrs_str PySem.F.slot_str_split PySem.F.type_str_split mt_splitS (pv 5) (pa_cons (pe_str) pa_nil))))
      (pss_cons (ps_if (PW.pt (pw_or (pt_cmpR op_ne (pe_callB (c_len (K := K)) (by rfl) T.m_len PySem.boot_len (pa_cons (pv 6) pa_nil)) (pe_int) (nomark _)) (pw_or (pt_cmpR op_lt (pe_call (ok_law_fig T) (hr.mono (by decide)) (by rfl) T.g_law_fig T.F_law_fig.kp T.b_law_fig .nil pass0 (pa_cons (pe_ix (ix_listK (K := K)) (pv 6) (pe_int) (fun _ _ => rfl)) pa_nil)) (pe_int) (nomark _)) (pw_or1 (pt_cmpR op_lt (pe_call (ok_law_fig T) (hr.mono (by decide)) (by rfl) T.g_law_fig T.F_law_fig.kp T.b_law_fig .nil pass0 (pa_cons (pe_ix (ix_listK (K := K)) (pv 6) (pe_int) (fun _ _ => rfl)) pa_nil)) (pe_int) (nomark _)))))) (pss_one (ps_ret (pe_non))) pss_nil)
      (pss_cons (ps_set (i := 7) sc_law_unsheet.nd rfl (.inl rfl) (pe_tup (pa_cons (pe_call (ok_law_fig T) (hr.mono (by decide)) (by rfl) T.g_law_fig T.F_law_fig.kp T.b_law_fig .nil pass0 (pa_cons (pe_ix (ix_listK (K := K)) (pv 6) (pe_int) (fun _ _ => rfl)) pa_nil)) (pa_cons (pe_call (ok_law_fig T) (hr.mono (by decide)) (by rfl) T.g_law_fig T.F_law_fig.kp T.b_law_fig .nil pass0 (pa_cons (pe_ix (ix_listK (K := K)) (pv 6) (pe_int) (fun _ _ => rfl)) pa_nil)) pa_nil))))
      (pss_cons (ps_dput (hu_of hr) (pv 4) (pv 7) (pe_call (ok_law_part_of T) (hr.mono (by decide)) (by rfl) T.g_law_part_of T.F_law_part_of.kp T.b_law_part_of .nil pass0 (pa_cons (pe_ix (ix_listK (K := K)) (pv 6) (pe_int) (fun _ _ => rfl)) pa_nil)) rfl)
      (C8.pss_cut (ps_if (PW.pt (pw_or (pt_cmpR op_lt (pe_ix (ix_tupK (K := K)) (pe_dget (hu_of hr) (pv 4) (pv 7) (fun _ _ => rfl)) (pe_int) (fun _ _ => rfl)) (pe_int) (nomark _)) (pw_or1 (PW.pt (pw_and (pt_cmpR op_gt (pe_callB (c_len (K := K)) (by rfl) T.m_len PySem.boot_len (pa_cons (pv 3) pa_nil)) (pe_int) (nomark _)) (pw_and1 (pt_cmpR (op_geN (K := K) hr.u40) (pe_ix (ix_listK (K := K)) (pv 3) (pe_un un_neg (pe_int)) (fun _ _ => rfl)) (pv 7) (nomark _)))))))) (pss_one (ps_ret (pe_non))) pss_nil)
      (pss_one (ps_expr (k_bm (K := K) (pe_bm PySem.F.plainAttrs_list PySem.F.slot_list_append PySem.F.type_list_append mt_append (pv 3) (pa_cons (pv 7) pa_nil)))))))))))
      (pss_cons (ps_setLc (i := 8) (own := [("_law_tie", 7)]) (g := gName 7) rfl sc_law_unsheet.nd rfl rfl (sw_true rfl rfl rfl (by decide +kernel)) (k_il (K := K) (pi_list (pv 3))) (blkOk_by (N := N_law_unsheet) (sc := defScope s_law_unsheet) (by decide +kernel)) (fun _ _ _ _ _ => (pg_name (i := 7) sc_law_unsheet.nd rfl (.inl rfl))) (fun _ _ _ _ _ => (pts_one (pt_cmpR (op_notInDK (K := K) hr.u65) (pv 7) (pe_call (ok_law_sides T) (hr.mono (by decide)) (by rfl) T.g_law_sides T.F_law_sides.kp T.b_law_sides .nil pass0 (pa_cons (pv 2) pa_nil)) (by rfl)))) (fun _ _ _ _ _ => (pv 7)))
      (pss_cons (ps_if (PW.pt (pw_or (pt_cmpR op_ne (pe_callB (c_len (K := K)) (by rfl) T.m_len PySem.boot_len (pa_cons (pv 3) pa_nil)) (pe_op op_sub (pe_op op_mul (pe_int) (pv 2)) (pe_int)) (nomark _)) (pw_or1 (pt_not (pt_val (pe_call (ok_law_fits_ring T) (hr.mono (by decide)) (by rfl) T.g_law_fits_ring T.F_law_fits_ring.kp T.b_law_fits_ring .nil pass0 (pa_cons (pv 2) (pa_cons (pv 8) pa_nil)))))))) (pss_one (ps_ret (pe_non))) pss_nil)
      (pss_one (ps_ret (pe_tup (pa_cons (pv 2) (pa_cons (pv 8) (pa_cons (pv 4) pa_nil))))))))))))))), ?_⟩
    walk_at "st"
    refine ⟨rfl, ?_⟩
    walk_at "st"
    refine Pm.w_split (by decide +kernel) (by rw [sizeLine_eq]; omega) (fun l hl => ?_)
    have pl : ∀ x ∈ Txt.split z ("\n" : Str), x.length ≤ 1000000 := fun x hx => Nat.le_trans (split_piece hx) (by omega)
    have wm : (Txt.split z ("\n" : Str)).length ≤ z.length + 1 := split_many
    have s1 := same_new hl (.lst ((Txt.split z ("\n" : Str)).map V.str))
    have f1 : (upd H l (.lst ((Txt.split z ("\n" : Str)).map V.str))) l = some (.lst ((Txt.split z ("\n" : Str)).map V.str)) := upd_same
    generalize upd H l (.lst ((Txt.split z ("\n" : Str)).map V.str)) = H1 at s1 f1 ⊢
    generalize hws : Txt.split z ("\n" : Str) = ws at pl wm f1
    walk_at "st"
    refine Pm.w_lenL (SqL.of f1) ?_
    rw [List.length_map]
    walk_at "st"
    refine Pm.w_ite (fun e1 => ?_) (fun e1 => ?_)
    · rw [if_pos rfl]
      exact q _ s1
    obtain ⟨hd, rows, y2, y1, rfl⟩ := lines3 (ws := ws) (by omega)
    have hdl := pl hd List.mem_cons_self
    have i1 : atI ((hd :: (rows ++ [y2, y1])).map V.str) (-1) = some (.str y1) := by
      rw [show (hd :: (rows ++ [y2, y1])).map V.str = (V.str hd :: (rows.map V.str ++ [.str y2])) ++ [.str y1] by simp]
      exact atI_last _ _
    have i2 : atI ((hd :: (rows ++ [y2, y1])).map V.str) (-2) = some (.str y2) := by
      rw [show (hd :: (rows ++ [y2, y1])).map V.str = (V.str hd :: rows.map V.str) ++ [.str y2, .str y1] by simp]
      exact atI_last2 _ _ _
    have i3 : atI ((hd :: (rows ++ [y2, y1])).map V.str) 0 = some (.str hd) := by
      rw [List.map_cons]
      exact atI_nat (j := 0) rfl
    have i4 : cutV ((hd :: (rows ++ [y2, y1])).map V.str) (some 1) (some (-2)) = rows.map V.str := by
      rw [show (hd :: (rows ++ [y2, y1])).map V.str = V.str hd :: (rows.map V.str ++ [.str y2, .str y1]) by simp]
      exact cut_inner _ _ _ _
    have prow : ∀ x ∈ rows, x.length ≤ 1000000 := fun x hx => pl x (List.mem_cons_of_mem _ (List.mem_append_left _ hx))
    have rowl : rows.length ≤ 300001 := by
      rw [List.length_cons, List.length_append] at wm
      omega
    generalize ((hd :: (rows ++ [y2, y1])).map V.str) = lst at i1 i2 i3 i4 f1
    walk_at "st"
    refine Pm.w_ixL (SqL.of f1) i1 ?_
    walk_at "st"
    refine Pm.w_iteN (fun e2 => ?_) (fun e2 => ?_)
    · rw [if_pos rfl]
      exact q _ s1
    walk_at "st"
    refine Pm.w_ixL (SqL.of f1) i2 ?_
    walk_at "st"
    refine Pm.w_iteN (fun e3 => ?_) (fun e3 => ?_)
    · rw [if_pos rfl]
      exact q _ s1
    walk_at "st"
    refine Pm.w_ixL (SqL.of f1) i3 ?_
    walk_at "st"
    refine Pm.w_slS (size_ok (by omega)) ?_
    walk_at "st"
    refine Pm.w_iteN (fun e4 => ?_) (fun e4 => ?_)
    · exact q _ s1
    walk_at "st"
    refine Pm.w_ixL (SqL.of f1) i3 ?_
    walk_at "st"
    refine Pm.w_slS (size_ok (by omega)) ?_
    walk_at "st"
    refine ⟨_, rfl, by have := len_cut hd (some 5) none; omega, ?_⟩
    generalize hfn : fig (cutS hd (some 5) none) = n
    walk_at "st"
    refine Pm.w_ite (fun e5 => ?_) (fun e5 => ?_)
    · rw [if_pos rfl]
      exact q _ s1
    walk_at "st"
    refine Pm.w_ite (fun e6 => ?_) (fun e6 => ?_)
    · exact q _ s1
    obtain ⟨nn, rfl⟩ : ∃ nn : Nat, n = nn := ⟨n.toNat, by omega⟩
    walk_at "st"
    refine Pm.w_newL (fun m hm => ?_)
    have s2 := same_new hm (.lst [])
    have f2 : (upd H1 m (.lst [])) m = some (.lst []) := upd_same
    have f12 := s2 _ _ f1
    generalize upd H1 m (.lst []) = H2 at s2 f2 f12 ⊢
    walk_at "st"
    refine Pm.w_dnewT (fun g hg => ?_)
    have s3 := same_new hg (.dT [])
    have f3 : (upd H2 g (.dT [])) g = some (.dT []) := upd_same
    have f13 := s3 _ _ f12
    have f23 := s3 _ _ f2
    have nmg : m ≠ g := ne_of_none f2 hg
    generalize upd H2 g (.dT []) = H3 at s3 f3 f13 f23 ⊢
    have s13 := s1.trans (s2.trans s3)
    walk_at "st"
    refine Pm.w_slL (SqL.of f13) (fun l2 hl2 => ?_)
    rw [i4]
    have s4 := same_new hl2 (.lst (rows.map V.str))
    have f4 : (upd H3 l2 (.lst (rows.map V.str))) l2 = some (.lst (rows.map V.str)) := upd_same
    have f34 := s4 _ _ f3
    have f24 := s4 _ _ f23
    have nl2g : l2 ≠ g := (ne_of_none f3 hl2).symm
    have nl2m : l2 ≠ m := (ne_of_none f23 hl2).symm
    have s14 : Same H (upd H3 l2 (.lst (rows.map V.str))) := s13.trans s4
    have m0 : H m = none := s1.free hm
    have g0 : H g = none := (s1.trans s2).free hg
    generalize upd H3 l2 (.lst (rows.map V.str)) = H4 at s4 f4 f34 f24 s14 ⊢
    refine Pm.w_rdL (SqL.of f4) ?_
    refine Pm.w_forL (xs := rows.map V.str) (fun i σ H5 => ∃ (x y w : Option V) (kps : List (IP × IP)) (LL : IP → IP), σ = [some (.str z), some (.ref l), some (.int nn), some (.ref m), some (.ref g), x, y, w, none] ∧ Same H H5 ∧ H5 l2 = some (.lst (rows.map V.str)) ∧ (rows.take i).map rowOf = kps.map some ∧ (∀ q ∈ kps, 0 < q.2.1) ∧ Rising (kps.map (·.1)) ∧ (kps.map (·.1)).Nodup ∧ LD K H5 g (kps.map (·.1)) LL ∧ PLt H5 m (kps.map (·.1))) ⟨_, _, _, [], fun k => k, rfl, s14, f4, by rw [List.take_zero]; rfl, fun q hq => absurd hq List.not_mem_nil, List.Pairwise.nil, List.nodup_nil, ld_nil f34 _, ⟨[], f24, trivial⟩⟩ (fun i σ H5 _ ⟨_, _, _, _, _, _, _, f5, _⟩ => SqL.of f5) ?_ ?_
    · rintro i v σ H5 hi ⟨x, y, w9, kps, LL, rfl, s5, f5, hk, pos, rise, nd, hL5, hm5⟩
      rw [List.getElem?_map] at hi
      obtain ⟨row, hrow, rfl⟩ := Option.map_eq_some_iff.mp hi
      have mrow := List.mem_of_getElem? hrow
      have rl := prow row mrow
      have ilt : i < rows.length := (List.getElem?_eq_some_iff.mp hrow).1
      have kl : kps.length ≤ i := by
        have := congrArg List.length hk
        rw [List.length_map, List.length_map, List.length_take] at this
        omega
      walk_at "st"
      refine ⟨rfl, ?_⟩
      walk_at "st"
      refine Pm.w_split (by decide +kernel) (by rw [sizeLine_eq]; omega) (fun l6 hl6 => ?_)
      have pl6 : ∀ x ∈ Txt.split row (" " : Str), x.length ≤ 1000000 := fun x hx => Nat.le_trans (split_piece hx) rl
      have s6 := same_new hl6 (.lst ((Txt.split row (" " : Str)).map V.str))
      have f6 : (upd H5 l6 (.lst ((Txt.split row (" " : Str)).map V.str))) l6 = some (.lst ((Txt.split row (" " : Str)).map V.str)) := upd_same
      generalize upd H5 l6 (.lst ((Txt.split row (" " : Str)).map V.str)) = H6 at s6 f6 ⊢
      have s56 := s5.trans s6
      walk_at "st"
      refine Pm.w_lenL (SqL.of f6) ?_
      rw [List.length_map]
      walk_at "st"
      refine Pm.w_iteN (fun z3 => ?_) (fun z3 => ?_)
      · rw [if_pos rfl]
        walk_at "st"
        exact q _ s56
      obtain ⟨a, b, c, eabc⟩ : ∃ a b c, Txt.split row (" " : Str) = [a, b, c] := by
        match Txt.split row (" " : Str), z3 with
        | [a, b, c], _ => exact ⟨a, b, c, rfl⟩
        | [], z => exact absurd z (by decide)
        | [_], z => exact absurd z (by simp)
        | [_, _], z => exact absurd z (by simp)
        | _ :: _ :: _ :: _ :: r, z => exact absurd z (by simp only [List.length_cons]; omega)
      rw [eabc] at f6 pl6
      have la := pl6 a List.mem_cons_self
      have lb := pl6 b (List.mem_cons_of_mem _ List.mem_cons_self)
      have lc := pl6 c (List.mem_cons_of_mem _ (List.mem_cons_of_mem _ List.mem_cons_self))
      walk_at "st"
      refine Pm.w_ixL (SqL.of f6) (v := .str a) rfl ?_
      walk_at "st"
      refine ⟨_, rfl, by omega, ?_⟩
      walk_at "st"
      refine Pm.w_ite (fun e1 => ?_) (fun e1 => ?_)
      · rw [if_pos rfl]
        walk_at "st"
        exact q _ s56
      walk_at "st"
      refine Pm.w_ixL (SqL.of f6) (v := .str b) rfl ?_
      walk_at "st"
      refine ⟨_, rfl, by omega, ?_⟩
      walk_at "st"
      refine Pm.w_ite (fun e2 => ?_) (fun e2 => ?_)
      · walk_at "st"
        exact q _ s56
      walk_at "st"
      refine Pm.w_ixL (SqL.of f6) (v := .str a) rfl ?_
      walk_at "st"
      refine ⟨_, rfl, by omega, ?_⟩
      walk_at "st"
      refine Pm.w_ixL (SqL.of f6) (v := .str b) rfl ?_
      walk_at "st"
      refine ⟨_, rfl, by omega, ?_⟩
      walk_at "st"
      refine Pm.w_newT (fun kt hkt => ?_)
      obtain ⟨k, hkk⟩ : ∃ k : IP, k = (fig a, fig b) := ⟨_, rfl⟩
      have s7 := same_new hkt (.tup [.int (fig a), .int (fig b)])
      have hk7 : Pr (upd H6 kt (.tup [.int (fig a), .int (fig b)])) (.ref kt) k := ⟨kt, rfl, by rw [hkk]; exact upd_same⟩
      have f67 := s7 _ _ f6
      generalize upd H6 kt (.tup [.int (fig a), .int (fig b)]) = H7 at s7 hk7 f67 ⊢
      walk_at "st"
      refine Pm.w_ixL (SqL.of f67) (v := .str c) rfl ?_
      walk_at "st"
      refine ⟨_, rfl, by omega, fun u H8 p s8 nu hu hp => ?_⟩
      have s58 := s56.trans (s7.trans s8)
      have s68 := s6.trans (s7.trans s8)
      have hL8 := hL5.same s68
      have hm8 := hm5.same s68
      have hk8 := hk7.keep (keeps s8)
      walk_at "st"
      obtain ⟨_, es8, hge, _⟩ := id hL8
      refine w_ldPut hL8 hk8 ⟨u, rfl, .inl hu⟩ (by rw [List.length_map]; omega) (fun es9 hL9 k9 => ?_)
      have s59 : Same H (upd H8 g (.dT es9)) := same_but g0 s58
      have f9 : (upd H8 g (.dT es9)) l2 = some (.lst (rows.map V.str)) := by rw [upd_ne nl2g]; exact s68 _ _ f5
      have hk9 : Pr (upd H8 g (.dT es9)) (.ref kt) k := hk8.keep k9
      have hm9 : PLt (upd H8 g (.dT es9)) m (kps.map (·.1)) := by
        obtain ⟨wv, w1, w2⟩ := hm8
        exact ⟨wv, by rw [upd_ne nmg]; exact w1, prs_keep k9 w2⟩
      generalize upd H8 g (.dT es9) = H9 at s59 f9 hk9 hm9 hL9 ⊢
      have kin : k ∈ putk (kps.map (·.1)) k := mem_putk.mpr (.inr rfl)
      obtain ⟨wv, w1, w2⟩ := id hm9
      have wl := w2.length
      rw [List.length_map] at wl
      have at1 : ∀ x, (kps.map (·.1)).getLast? = some x → ∃ t, atI wv (-1) = some (.ref t) ∧ Pr H9 (.ref t) x := fun x hx => by
        rw [List.getLast?_eq_getElem?] at hx
        obtain ⟨t', ht', hpt⟩ : ∃ v, wv[(kps.map (·.1)).length - 1]? = some v ∧ Pr H9 v x := by
          have lt := (List.getElem?_eq_some_iff.mp hx).1
          rw [List.length_map] at lt
          obtain ⟨x', hx', hp'⟩ := w2.get (i := (kps.map (·.1)).length - 1) (List.getElem?_eq_getElem (by rw [List.length_map]; omega))
          rw [hx] at hx'
          cases hx'
          exact ⟨_, List.getElem?_eq_getElem (by rw [List.length_map]; omega), hp'⟩
        obtain ⟨t, rfl, ht⟩ := hpt
        refine ⟨t, ?_, t, rfl, ht⟩
        have lt := (List.getElem?_eq_some_iff.mp hx).1
        rw [List.length_map] at lt ht'
        unfold atI ixN
        rw [if_neg (by decide), if_pos (by omega)]
        show wv[_]? = _
        rw [show (-1 + ((wv.length : Nat) : Int)).toNat = kps.length - 1 by omega]
        exact ht'
      walk_at "st"
      refine Pm.w_cut (fun σ' H' => σ' = [some (.str z), some (.ref l), some (.int nn), some (.ref m), some (.ref g), some (.str row), some (.ref l6), some (.ref kt), none] ∧ H' = H9 ∧ 0 < p.1 ∧ ∀ x, (kps.map (·.1)).getLast? = some x → lexLe k x = false) ?_ ?_
      · walk_at "st"
        refine w_ldGet hL9 hk9 kin (fun u2 hu2 => ?_)
        rw [updF_same] at hu2
        walk_at "st"
        refine Pm.w_ixT hu2.tup (atI2 _ _).1 ?_
        walk_at "st"
        refine Pm.w_ite (fun e3 => ?_) (fun e3 => ?_)
        · rw [if_pos rfl]
          walk_at "st"
          exact q _ s59
        walk_at "st"
        refine Pm.w_lenL (SqL.of w1) ?_
        walk_at "st"
        refine Pm.w_ite (fun e4 => ?_) (fun e4 => ?_)
        · cases gl : (kps.map (·.1)).getLast? with
          | none =>
            rw [List.getLast?_eq_none_iff] at gl
            have := congrArg List.length gl
            rw [List.length_map, List.length_nil] at this
            omega
          | some x =>
            obtain ⟨t, e5, hpt⟩ := at1 x gl
            walk_at "st"
            refine Pm.w_ixL (SqL.of w1) e5 ?_
            walk_at "st"
            refine w_geP hpt hk9 ?_
            cases e6 : lexLe k x with
            | true =>
              walk_at "st"
              exact q _ s59
            | false =>
              walk_at "st"
              refine ⟨rfl, rfl, by omega, fun y hy => ?_⟩
              cases hy
              exact e6
        · walk_at "st"
          refine ⟨rfl, rfl, by omega, fun y hy => ?_⟩
          have lt := (List.getElem?_eq_some_iff.mp (by rw [List.getLast?_eq_getElem?] at hy; exact hy)).1
          rw [List.length_map] at lt
          omega
      · rintro σ' H' ⟨rfl, rfl, p1, lst⟩
        have pof : partOf c = some p := by
          rcases hp with h | h
          · omega
          · exact h.2
        have rof : rowOf row = some (k, p) := by rw [hkk]; exact rowOf_of eabc e1 e2 pof
        obtain ⟨rise', nd'⟩ := same_rise rise nd lst
        have knew : k ∉ kps.map (·.1) := fun z => by
          rw [List.nodup_append] at nd'
          exact nd'.2.2 k z k (by simp) rfl
        rw [putk_new knew] at hL9
        have e9 : (kps ++ [(k, p)]).map (·.1) = kps.map (·.1) ++ [k] := by rw [List.map_append]; rfl
        walk_at "st"
        refine ⟨.inl ⟨rfl, _, SqL.of w1⟩, ?_⟩
        walk_at "st"
        refine Pm.w_append w1 (size_lt (by omega)) ?_
        have k9 := keeps_lst (ys := wv ++ [.ref kt]) w1
        refine ⟨_, _, _, kps ++ [(k, p)], updF LL k p, rfl, same_but m0 s59, by rw [upd_ne nl2m]; exact f9, ?_, ?_, by rw [e9]; exact rise', by rw [e9]; exact nd', ?_, ?_⟩
        · rw [take_snoc hrow, List.map_append, hk, List.map_append]
          show _ ++ [rowOf row] = _
          rw [rof]
          rfl
        · intro q0 hq0
          rcases List.mem_append.mp hq0 with h | h
          · exact pos q0 h
          · rw [List.mem_singleton.mp h]; exact p1
        · rw [e9]
          exact hL9.keep (o := .tup []) k9 (upd_ne (fun z => nmg z.symm))
        · rw [e9]
          exact ⟨_, upd_same, (prs_keep k9 w2).snoc (hk9.keep k9)⟩
    · rintro σ H5 ⟨x, y, w9, kps, LL, rfl, s5, f5, hk, pos, rise, nd, hL5, hm5⟩
      rw [List.length_map, List.take_length] at hk
      have kl : kps.length = rows.length := by
        have := congrArg List.length hk
        rw [List.length_map, List.length_map] at this
        exact this.symm
      obtain ⟨wv, w1, w2⟩ := id hm5
      have wl := w2.length
      rw [List.length_map] at wl
      walk_at "st"
      refine Pm.w_rdL (SqL.of w1) ?_
      refine Pm.w_lcLf (R := Pr) pr_mono (S := Pr) pr_mono (SqL.of w1) w2 id (fun k => !decide (k ∈ sides0 nn)) (by rw [List.length_map]; omega) (fun D x p H6 Nx hD hm6 hs s6 put skip => ?_) (fun D H6 ws hD s6 hd6 ha => ?_)
      · walk_at "st"
        refine ⟨nn, rfl, by omega, by omega, fun sl8 H8 ws8 s8 nsl hsl hps => ?_⟩
        walk_at "st"
        refine Pm.w_ninPL (hs.keep (keeps s8)) (SqL.of hsl) hps ?_
        walk_at "st"
        refine Pm.w_iteN (fun nin => ?_) (fun isin => ?_)
        · walk_at "st"
          exact put _ _ (by simpa using nin) s8 (hs.keep (keeps s8))
        · exact skip _ (by simpa using isin) s8
      · rw [List.map_id] at ha
        have hm6 := hm5.same s6
        obtain ⟨wv6, w16, w26⟩ := id hm6
        have wl6 := w26.length
        rw [List.length_map] at wl6
        have hal := ha.length
        walk_at "st"
        refine Pm.w_lenL (SqL.of w16) ?_
        walk_at "st"
        refine Pm.w_iteN (fun e7 => ?_) (fun e7 => ?_)
        · rw [if_pos rfl]
          walk_at "st"
          exact q _ (s5.trans s6)
        walk_at "st"
        refine ⟨nn, D, _, rfl, ⟨ws, hd6, ha⟩, by have := List.length_filter_le (fun k => !decide (k ∈ sides0 nn)) (kps.map (·.1)); rw [List.length_map] at this; omega, fun bb H7 s7 hbb => ?_⟩
        cases bb with
        | false =>
          walk_at "st"
          exact q _ ((s5.trans s6).trans s7)
        | true =>
          obtain ⟨b1, b2⟩ := hbb.mp rfl
          have y2e : y2 = ("end" : Str) := e3
          have y1e : y1 = ("" : Str) := e2
          subst y2e y1e
          exact absurd (sheet_made (kps := kps) hws e4 hfn (by omega) (by omega) hk pos rise nd (by omega) rfl (by rw [show (fun k => !decide (k ∈ sidesL nn)) = fun k => !decide (k ∈ sides0 nn) from funext fun k => by rw [decide_eq_decide.mpr (show k ∈ sidesL nn ↔ k ∈ sides0 nn from by unfold sidesL; exact mem_sortP)]]; exact b1) (by rw [show (fun k => !decide (k ∈ sidesL nn)) = fun k => !decide (k ∈ sides0 nn) from funext fun k => by rw [decide_eq_decide.mpr (show k ∈ sidesL nn ↔ k ∈ sides0 nn from by unfold sidesL; exact mem_sortP)]]; exact b2)) hno
  obtain ⟨⟨t, C⟩, n12, _⟩ := id hS
  have n3 := C.n3
  have hw := C.w
  have tw9 := hS.tw
  have sl := sheet_len C n12 tw9
  have tll := C.ties_len
  obtain ⟨LL, hLL⟩ : ∃ LL : IP → IP, LL = fun k : IP => rp (S.D k.1.toNat k.2.toNat) := ⟨_, rfl⟩
  obtain ⟨rows, hrows⟩ : ∃ rows : List Str, rows = (tiesL S.n S.cut).map fun k => (⟨(rowL k (LL k)).toArray⟩ : Str) := ⟨_, rfl⟩
  obtain ⟨hd, hhd⟩ : ∃ hd : Str, hd = ⟨(headL S.n).toArray⟩ := ⟨_, rfl⟩
  have es : Txt.split (sheetOf S) ("\n" : Str) = hd :: (rows ++ [("end" : Str), ("" : Str)]) := by
    have e0 : Txt.split (sheetOf S) ("\n" : Str) = _ := split_sheet S.n (tiesL S.n S.cut) (fun k => rp (S.D k.1.toNat k.2.toNat))
    rw [e0, hrows, hhd, hLL]
    unfold linesL
    rw [List.cons_append, List.map_cons, List.map_append, List.map_append, List.map_map, List.append_assoc]
    rfl
  have hhl : tl hd = headL S.n := by rw [hhd]
  have hdl : hd.length ≤ 10 := by
    rw [len_tl, hhl]
    unfold headL
    have := il_len2 (i := (S.n : Int)) (by omega)
    rw [List.length_append]
    simp only [List.length_cons, List.length_nil]
    omega
  have c1 : cutS hd none (some 5) = ("mead " : Str) := by
    refine ext_tl ?_
    rw [tl_cut, hhl, show tl ("mead " : Str) = [109, 101, 97, 100, 32] by decide +kernel]
    have hl5 : 5 ≤ hd.length := by rw [len_tl, hhl]; unfold headL; simp
    rw [show HT.sIx hd.length 0 none = 0 from rfl, show HT.sIx hd.length hd.length (some 5) = 5 by unfold HT.sIx; simp only; rw [if_neg (by decide)]; omega]
    unfold headL
    simp
  have c2 : cutS hd (some 5) none = Str.ofString (toString (S.n : Int)) := by
    refine ext_tl ?_
    rw [tl_cut, hhl]
    have hl5 : 5 ≤ hd.length := by rw [len_tl, hhl]; unfold headL; simp
    have hle : (headL S.n).length = hd.length := by rw [len_tl, hhl]
    rw [show HT.sIx hd.length hd.length none = hd.length from rfl, show HT.sIx hd.length 0 (some 5) = 5 by unfold HT.sIx; simp only; rw [if_neg (by decide)]; omega]
    rw [List.take_of_length_le (by rw [List.length_drop]; omega)]
    unfold headL
    rfl
  have fn : fig (Str.ofString (toString (S.n : Int))) = S.n := fig_nat (Nat.le_trans (numL_le (k := 2) (by decide) (by omega)) (by decide))
  have snl : (Str.ofString (toString (S.n : Int))).length ≤ 3 := istr_len (k := 2) (by decide) (by omega)
  have rl : rows.length = (tiesL S.n S.cut).length := by rw [hrows, List.length_map]
  have i1 : atI ((hd :: (rows ++ [("end" : Str), ("" : Str)])).map V.str) (-1) = some (.str ("" : Str)) := by
    rw [show (hd :: (rows ++ [("end" : Str), ("" : Str)])).map V.str = (V.str hd :: (rows.map V.str ++ [.str ("end" : Str)])) ++ [.str ("" : Str)] by simp]
    exact atI_last _ _
  have i2 : atI ((hd :: (rows ++ [("end" : Str), ("" : Str)])).map V.str) (-2) = some (.str ("end" : Str)) := by
    rw [show (hd :: (rows ++ [("end" : Str), ("" : Str)])).map V.str = (V.str hd :: rows.map V.str) ++ [.str ("end" : Str), .str ("" : Str)] by simp]
    exact atI_last2 _ _ _
  have i3 : atI ((hd :: (rows ++ [("end" : Str), ("" : Str)])).map V.str) 0 = some (.str hd) := by
    rw [List.map_cons]
    exact atI_nat (j := 0) rfl
  have i4 : cutV ((hd :: (rows ++ [("end" : Str), ("" : Str)])).map V.str) (some 1) (some (-2)) = rows.map V.str := by
    rw [show (hd :: (rows ++ [("end" : Str), ("" : Str)])).map V.str = V.str hd :: (rows.map V.str ++ [.str ("end" : Str), .str ("" : Str)]) by simp]
    exact cut_inner _ _ _ _
  have i5 : ((hd :: (rows ++ [("end" : Str), ("" : Str)])).map V.str).length = rows.length + 3 := by simp
  have s0m : ∀ k : IP, decide (k ∈ sidesL S.n) = decide (k ∈ sides0 S.n) := fun k => decide_eq_decide.mpr (by unfold sidesL; exact mem_sortP)
  obtain ⟨kp, _⟩ := cutting_kept C n12
  have kp2 := (kept_iff _ _).mp kp
  have et : S.cut.map tied = S.cut := by
    conv => rhs; rw [← List.map_id S.cut]
    refine List.map_congr_left fun p hp => ?_
    obtain ⟨q0, hq0, rfl⟩ := C.ties.mp (mem_ties.mpr (.inr hp))
    have := Tr.bd hq0
    exact tie_lt (by show (q0.1 : Int) < (q0.2 : Int); omega)
  rw [et] at kp2
  have fit : FitL S.n S.cut := ⟨fun p hp => by have := kp2.2.2.ok p hp; exact ⟨this.1, this.2.1, this.2.2.1⟩, kp2.2.2.pw.imp fun h => h.2⟩
  refine ⟨_, (pss_cons (ps_set (i := 1) sc_law_unsheet.nd rfl (.inl rfl) (k_bm (K := K) (pe_bm PySem.F.plainAttrs_str PySem.F.slot_str_split PySem.F.type_str_split mt_splitS (pv 0) (pa_cons (pe_str) pa_nil))))
      (pss_cons (ps_if (PW.pt (pw_or (pt_cmpR op_lt (pe_callB (c_len (K := K)) (by rfl) T.m_len PySem.boot_len (pa_cons (pv 1) pa_nil)) (pe_int) (nomark _)) (pw_or (pt_cmpR op_ne (pe_ix (ix_listK (K := K)) (pv 1) (pe_un un_neg (pe_int)) (fun _ _ => rfl)) (pe_str) (nomark _)) (pw_or (pt_cmpR op_ne (pe_ix (ix_listK (K := K)) (pv 1) (pe_un un_neg (pe_int)) (fun _ _ => rfl)) (pe_str) (nomark _)) (pw_or1 (pt_cmpR op_ne (pe_slice sl_str (pe_ix (ix_listK (K := K)) (pv 1) (pe_int) (fun _ _ => rfl)) po_none (po_some (pe_int))) (pe_str) (nomark _))))))) (pss_one (ps_ret (pe_non))) pss_nil)
      (pss_cons (ps_set (i := 2) sc_law_unsheet.nd rfl (.inr rfl) (pe_call (ok_law_fig T) (hr.mono (by decide)) (by rfl) T.g_law_fig T.F_law_fig.kp T.b_law_fig .nil pass0 (pa_cons (pe_slice sl_str (pe_ix (ix_listK (K := K)) (pv 1) (pe_int) (fun _ _ => rfl)) (po_some (pe_int)) po_none) pa_nil)))
      (pss_cons (ps_if (PW.pt (pw_or (pt_cmpR op_lt (pv 2) (pe_int) (nomark _)) (pw_or1 (pt_cmpR op_gt (pv 2) (pe_int) (nomark _))))) (pss_one (ps_ret (pe_non))) pss_nil)
      (pss_cons (ps_set (i := 3) sc_law_unsheet.nd rfl (.inl rfl) (pe_lst pa_nil))
      (pss_cons (ps_set (i := 4) sc_law_unsheet.nd rfl (.inl rfl) (pe_dnewT))
      (pss_cons (ps_for PassesOwn.never rfl (k_il (K := K) (pi_list (pe_slice (sl_listK (K := K)) (pv 1) (po_some (pe_int)) (po_some (pe_un un_neg (pe_int)))))) (pg_name (i := 5) sc_law_unsheet.nd rfl (.inl rfl)) (pss_cons (ps_set (i := 6) sc_law_unsheet.nd rfl (.inl rfl) (k_bm (K := K) (pe_bm PySem.F.plainAttrs_str PySem.F.slot_str_split PySem.F.type_str_split mt_splitS (pv 5) (pa_cons (pe_str) pa_nil))))
      (pss_cons (ps_if (PW.pt (pw_or (pt_cmpR op_ne (pe_callB (c_len (K := K)) (by rfl) T.m_len PySem.boot_len (pa_cons (pv 6) pa_nil)) (pe_int) (nomark _)) (pw_or (pt_cmpR op_lt (pe_call (ok_law_fig T) (hr.mono (by decide)) (by rfl) T.g_law_fig T.F_law_fig.kp T.b_law_fig .nil pass0 (pa_cons (pe_ix (ix_listK (K := K)) (pv 6) (pe_int) (fun _ _ => rfl)) pa_nil)) (pe_int) (nomark _)) (pw_or1 (pt_cmpR op_lt (pe_call (ok_law_fig T) (hr.mono (by decide)) (by rfl) T.g_law_fig T.F_law_fig.kp T.b_law_fig .nil pass0 (pa_cons (pe_ix (ix_listK (K := K)) (pv 6) (pe_int) (fun _ _ => rfl)) pa_nil)) (pe_int) (nomark _)))))) (pss_one (ps_ret (pe_non))) pss_nil)
      (pss_cons (ps_set (i := 7) sc_law_unsheet.nd rfl (.inl rfl) (pe_tup (pa_cons (pe_call (ok_law_fig T) (hr.mono (by decide)) (by rfl) T.g_law_fig T.F_law_fig.kp T.b_law_fig .nil pass0 (pa_cons (pe_ix (ix_listK (K := K)) (pv 6) (pe_int) (fun _ _ => rfl)) pa_nil)) (pa_cons (pe_call (ok_law_fig T) (hr.mono (by decide)) (by rfl) T.g_law_fig T.F_law_fig.kp T.b_law_fig .nil pass0 (pa_cons (pe_ix (ix_listK (K := K)) (pv 6) (pe_int) (fun _ _ => rfl)) pa_nil)) pa_nil))))
      (pss_cons (ps_dput (hu_of hr) (pv 4) (pv 7) (pe_call (ok_law_part_of T) (hr.mono (by decide)) (by rfl) T.g_law_part_of T.F_law_part_of.kp T.b_law_part_of .nil pass0 (pa_cons (pe_ix (ix_listK (K := K)) (pv 6) (pe_int) (fun _ _ => rfl)) pa_nil)) rfl)
      (C8.pss_cut (ps_if (PW.pt (pw_or (pt_cmpR op_lt (pe_ix (ix_tupK (K := K)) (pe_dget (hu_of hr) (pv 4) (pv 7) (fun _ _ => rfl)) (pe_int) (fun _ _ => rfl)) (pe_int) (nomark _)) (pw_or1 (PW.pt (pw_and (pt_cmpR op_gt (pe_callB (c_len (K := K)) (by rfl) T.m_len PySem.boot_len (pa_cons (pv 3) pa_nil)) (pe_int) (nomark _)) (pw_and1 (pt_cmpR (op_geN (K := K) hr.u40) (pe_ix (ix_listK (K := K)) (pv 3) (pe_un un_neg (pe_int)) (fun _ _ => rfl)) (pv 7) (nomark _)))))))) (pss_one (ps_ret (pe_non))) pss_nil)
      (pss_one (ps_expr (k_bm (K := K) (pe_bm PySem.F.plainAttrs_list PySem.F.slot_list_append PySem.F.type_list_append mt_append (pv 3) (pa_cons (pv 7) pa_nil)))))))))))
      (pss_cons (ps_setLc (i := 8) (own := [("_law_tie", 7)]) (g := gName 7) rfl sc_law_unsheet.nd rfl rfl (sw_true rfl rfl rfl (by decide +kernel)) (k_il (K := K) (pi_list (pv 3))) (blkOk_by (N := N_law_unsheet) (sc := defScope s_law_unsheet) (by decide +kernel)) (fun _ _ _ _ _ => (pg_name (i := 7) sc_law_unsheet.nd rfl (.inl rfl))) (fun _ _ _ _ _ => (pts_one (pt_cmpR (op_notInDK (K := K) hr.u65) (pv 7) (pe_call (ok_law_sides T) (hr.mono (by decide)) (by rfl) T.g_law_sides T.F_law_sides.kp T.b_law_sides .nil pass0 (pa_cons (pv 2) pa_nil)) (by rfl)))) (fun _ _ _ _ _ => (pv 7)))
      (pss_cons (ps_if (PW.pt (pw_or (pt_cmpR op_ne (pe_callB (c_len (K := K)) (by rfl) T.m_len PySem.boot_len (pa_cons (pv 3) pa_nil)) (pe_op op_sub (pe_op op_mul (pe_int) (pv 2)) (pe_int)) (nomark _)) (pw_or1 (pt_not (pt_val (pe_call (ok_law_fits_ring T) (hr.mono (by decide)) (by rfl) T.g_law_fits_ring T.F_law_fits_ring.kp T.b_law_fits_ring .nil pass0 (pa_cons (pv 2) (pa_cons (pv 8) pa_nil)))))))) (pss_one (ps_ret (pe_non))) pss_nil)
      (pss_one (ps_ret (pe_tup (pa_cons (pv 2) (pa_cons (pv 8) (pa_cons (pv 4) pa_nil))))))))))))))), ?_⟩
  walk_at "st"
  refine ⟨rfl, ?_⟩
  walk_at "st"
  refine Pm.w_split (by decide +kernel) (by rw [sizeLine_eq]; omega) (fun l hl => ?_)
  rw [es]
  generalize ((hd :: (rows ++ [("end" : Str), ("" : Str)])).map V.str) = lst at i1 i2 i3 i4 i5 ⊢
  have s1 := same_new hl (.lst lst)
  have f1 : (upd H l (.lst lst)) l = some (.lst lst) := upd_same
  generalize upd H l (.lst lst) = H1 at s1 f1 ⊢
  walk_at "st"
  refine Pm.w_lenL (SqL.of f1) ?_
  walk_at "st"
  rw [decide_eq_false (show ¬ ((lst.length : Int) < 3) by omega)]
  walk_at "st"
  refine Pm.w_ixL (SqL.of f1) i1 ?_
  walk_at "st"
  rw [decide_eq_true rfl]
  walk_at "st"
  refine Pm.w_ixL (SqL.of f1) i2 ?_
  walk_at "st"
  rw [decide_eq_true rfl]
  walk_at "st"
  refine Pm.w_ixL (SqL.of f1) i3 ?_
  walk_at "st"
  refine Pm.w_slS (size_ok (by omega)) ?_
  rw [c1]
  walk_at "st"
  rw [decide_eq_true rfl]
  walk_at "st"
  refine Pm.w_ixL (SqL.of f1) i3 ?_
  walk_at "st"
  refine Pm.w_slS (size_ok (by omega)) ?_
  rw [c2]
  walk_at "st"
  refine ⟨_, rfl, by omega, ?_⟩
  rw [fn]
  walk_at "st"
  rw [decide_eq_false (show ¬ ((S.n : Int) < 3) by omega)]
  walk_at "st"
  rw [decide_eq_false (show ¬ ((12 : Int) < S.n) by omega)]
  walk_at "st"
  refine Pm.w_newL (fun m hm => ?_)
  have s2 := same_new hm (.lst [])
  have f2 : (upd H1 m (.lst [])) m = some (.lst []) := upd_same
  have f12 := s2 _ _ f1
  generalize upd H1 m (.lst []) = H2 at s2 f2 f12 ⊢
  walk_at "st"
  refine Pm.w_dnewT (fun g hg => ?_)
  have s3 := same_new hg (.dT [])
  have f3 : (upd H2 g (.dT [])) g = some (.dT []) := upd_same
  have f13 := s3 _ _ f12
  have f23 := s3 _ _ f2
  have nmg : m ≠ g := ne_of_none f2 hg
  generalize upd H2 g (.dT []) = H3 at s3 f3 f13 f23 ⊢
  walk_at "st"
  refine Pm.w_slL (SqL.of f13) (fun l2 hl2 => ?_)
  rw [i4]
  have s4 := same_new hl2 (.lst (rows.map V.str))
  have f4 : (upd H3 l2 (.lst (rows.map V.str))) l2 = some (.lst (rows.map V.str)) := upd_same
  have f34 := s4 _ _ f3
  have f24 := s4 _ _ f23
  have nl2g : l2 ≠ g := (ne_of_none f3 hl2).symm
  have nl2m : l2 ≠ m := (ne_of_none f23 hl2).symm
  have s14 : Same H (upd H3 l2 (.lst (rows.map V.str))) := s1.trans (s2.trans (s3.trans s4))
  have m0 : H m = none := s1.free hm
  have g0 : H g = none := (s1.trans s2).free hg
  generalize upd H3 l2 (.lst (rows.map V.str)) = H4 at s4 f4 f34 f24 s14 ⊢
  refine Pm.w_rdL (SqL.of f4) ?_
  refine Pm.w_forL (xs := rows.map V.str) (fun i σ H5 => ∃ x y u : Option V, σ = [some (.str (sheetOf S)), some (.ref l), some (.int S.n), some (.ref m), some (.ref g), x, y, u, none] ∧ Same H H5 ∧ H5 l2 = some (.lst (rows.map V.str)) ∧ LD K H5 g ((tiesL S.n S.cut).take i) LL ∧ PLt H5 m ((tiesL S.n S.cut).take i)) ⟨_, _, _, rfl, s14, f4, by rw [List.take_zero]; exact ld_nil f34 _, by rw [List.take_zero]; exact ⟨[], f24, trivial⟩⟩ (fun i σ H5 _ ⟨_, _, _, _, _, h, _⟩ => SqL.of h) ?_ ?_
  · rintro i v σ H5 hi ⟨x, y, u9, rfl, s5, f5, hL5, hm5⟩
    rw [hrows, List.map_map, List.getElem?_map] at hi
    obtain ⟨k, hk, hvv⟩ := Option.map_eq_some_iff.mp hi
    obtain rfl : V.str ⟨(rowL k (LL k)).toArray⟩ = v := hvv
    have mk := List.mem_of_getElem? hk
    have ilt : i < (tiesL S.n S.cut).length := (List.getElem?_eq_some_iff.mp hk).1
    have sk := small_tie' C n12 mk
    have kb : 0 ≤ k.1 ∧ k.1 < k.2 := by
      obtain ⟨q0, hq0, rfl⟩ := C.ties.mp mk
      have := Tr.bd hq0
      show (0 : Int) ≤ (q0.1 : Int) ∧ (q0.1 : Int) < (q0.2 : Int)
      omega
    have wk := hS.2.2 k mk
    have eLL : LL k = rp (S.D k.1.toNat k.2.toNat) := by rw [hLL]
    have dnz := (S.D k.1.toNat k.2.toNat).den_nz
    have rback : rowOf ⟨(rowL k (LL k)).toArray⟩ = some (k, LL k) := row_back kb.1 (by omega) (by have := sk.1; omega) (by have := sk.2; omega) (by rw [eLL]; show (0 : Int) < ((S.D k.1.toNat k.2.toNat).den : Int); omega) (by rw [eLL]; exact (S.D k.1.toNat k.2.toNat).reduced) (by rw [eLL]; exact wk.2.1) (by rw [eLL]; exact wk.2.2)
    have rll : (⟨(rowL k (LL k)).toArray⟩ : Str).length ≤ 1200 := by
      rw [len_tl]
      exact row_len (by have := sk.1; omega) (by have := sk.2; omega) (by rw [eLL]; exact (tieW_rp tw9 (Nat.le_refl _) mk).1) (by rw [eLL]; exact (tieW_rp tw9 (Nat.le_refl _) mk).2)
    have LLp : 0 < (LL k).1 := by
      rw [eLL]
      exact (lenOk_rp'.mpr wk.1).2
    obtain ⟨a, b, c, eabc, ea, eb, ga, gb, gc⟩ := row_words rback
    have knot : k ∉ (tiesL S.n S.cut).take i := fun z => by
      have e1 : ((tiesL S.n S.cut).take (i + 1)).Nodup := C.ties_nodup.sublist (List.take_sublist _ _)
      rw [take_snoc hk, List.nodup_append] at e1
      exact e1.2.2 k z k List.mem_cons_self rfl
    generalize (⟨(rowL k (LL k)).toArray⟩ : Str) = row at rback rll eabc
    walk_at "st"
    refine ⟨rfl, ?_⟩
    walk_at "st"
    refine Pm.w_split (by decide +kernel) (by rw [sizeLine_eq]; omega) (fun l6 hl6 => ?_)
    have pl6 : ∀ x ∈ Txt.split row (" " : Str), x.length ≤ 1200 := fun x hx => Nat.le_trans (split_piece hx) rll
    rw [eabc] at pl6 ⊢
    have s6 := same_new hl6 (.lst ([a, b, c].map V.str))
    have f6 : (upd H5 l6 (.lst ([a, b, c].map V.str))) l6 = some (.lst ([a, b, c].map V.str)) := upd_same
    generalize upd H5 l6 (.lst ([a, b, c].map V.str)) = H6 at s6 f6 ⊢
    have s56 := s5.trans s6
    have la := pl6 a List.mem_cons_self
    have lb := pl6 b (List.mem_cons_of_mem _ List.mem_cons_self)
    have lc := pl6 c (List.mem_cons_of_mem _ (List.mem_cons_of_mem _ List.mem_cons_self))
    walk_at "st"
    refine Pm.w_lenL (SqL.of f6) ?_
    walk_at "st"
    rw [decide_eq_true (show ((([a, b, c].map V.str).length : Nat) : Int) = 3 from rfl)]
    walk_at "st"
    refine Pm.w_ixL (SqL.of f6) (v := .str a) rfl ?_
    walk_at "st"
    refine ⟨_, rfl, by omega, ?_⟩
    walk_at "st"
    rw [decide_eq_false (show ¬ fig a < 0 by omega)]
    walk_at "st"
    refine Pm.w_ixL (SqL.of f6) (v := .str b) rfl ?_
    walk_at "st"
    refine ⟨_, rfl, by omega, ?_⟩
    walk_at "st"
    rw [decide_eq_false (show ¬ fig b < 0 by omega)]
    walk_at "st"
    refine Pm.w_ixL (SqL.of f6) (v := .str a) rfl ?_
    walk_at "st"
    refine ⟨_, rfl, by omega, ?_⟩
    walk_at "st"
    refine Pm.w_ixL (SqL.of f6) (v := .str b) rfl ?_
    walk_at "st"
    refine ⟨_, rfl, by omega, ?_⟩
    walk_at "st"
    rw [ea, eb]
    refine Pm.w_newT (fun kt hkt => ?_)
    have s7 := same_new hkt (.tup [.int k.1, .int k.2])
    have hk7 : Pr (upd H6 kt (.tup [.int k.1, .int k.2])) (.ref kt) k := ⟨kt, rfl, upd_same⟩
    have f67 := s7 _ _ f6
    generalize upd H6 kt (.tup [.int k.1, .int k.2]) = H7 at s7 hk7 f67 ⊢
    walk_at "st"
    refine Pm.w_ixL (SqL.of f67) (v := .str c) rfl ?_
    walk_at "st"
    refine ⟨_, rfl, by omega, fun u H8 p s8 nu hu hp => ?_⟩
    have ep : p = LL k := by
      rcases hp with h | h
      · have := h.2 _ gc
        omega
      · exact Option.some.inj (h.2.symm.trans gc)
    subst ep
    have s58 := s56.trans (s7.trans s8)
    have s68 := s6.trans (s7.trans s8)
    have hL8 := hL5.same s68
    have hm8 := hm5.same s68
    have hk8 := hk7.keep (keeps s8)
    walk_at "st"
    obtain ⟨_, es8, hge, _⟩ := id hL8
    refine w_ldPut hL8 hk8 ⟨u, rfl, .inl hu⟩ (by rw [List.length_take]; omega) (fun es9 hL9 k9 => ?_)
    have s59 : Same H (upd H8 g (.dT es9)) := same_but g0 s58
    have f9 : (upd H8 g (.dT es9)) l2 = some (.lst (rows.map V.str)) := by rw [upd_ne nl2g]; exact s68 _ _ f5
    have hk9 : Pr (upd H8 g (.dT es9)) (.ref kt) k := hk8.keep k9
    have hm9 : PLt (upd H8 g (.dT es9)) m ((tiesL S.n S.cut).take i) := by
      obtain ⟨wv, w1, w2⟩ := hm8
      exact ⟨wv, by rw [upd_ne nmg]; exact w1, prs_keep k9 w2⟩
    rw [putk_new knot, ← take_snoc hk] at hL9
    have hL9 : LD K (upd H8 g (.dT es9)) g ((tiesL S.n S.cut).take (i + 1)) LL := hL9.congr fun j hj => by
      by_cases e : j = k
      · rw [e, updF_same]
      · rw [updF_ne e]
    generalize upd H8 g (.dT es9) = H9 at s59 f9 hk9 hm9 hL9 ⊢
    obtain ⟨wv, w1, w2⟩ := id hm9
    have wl := w2.length
    rw [List.length_take] at wl
    have kin : k ∈ (tiesL S.n S.cut).take (i + 1) := by rw [take_snoc hk]; exact List.mem_append_right _ (List.mem_singleton.mpr rfl)
    walk_at "st"
    refine Pm.w_cut (fun σ' H' => σ' = [some (.str (sheetOf S)), some (.ref l), some (.int S.n), some (.ref m), some (.ref g), some (.str row), some (.ref l6), some (.ref kt), none] ∧ H' = H9) ?_ ?_
    · walk_at "st"
      refine w_ldGet hL9 hk9 kin (fun u2 hu2 => ?_)
      walk_at "st"
      refine Pm.w_ixT hu2.tup (atI2 _ _).1 ?_
      walk_at "st"
      rw [decide_eq_false (show ¬ (LL k).1 < 1 by omega)]
      walk_at "st"
      refine Pm.w_lenL (SqL.of w1) ?_
      walk_at "st"
      refine Pm.w_ite (fun e4 => ?_) (fun e4 => ?_)
      · have hx : ((tiesL S.n S.cut).take i)[i - 1]? = some ((tiesL S.n S.cut)[i - 1]'(by omega)) := by
          rw [List.getElem?_take_of_lt (by omega)]
          exact List.getElem?_eq_getElem _
        obtain ⟨v9, hv9, hp9⟩ : ∃ v, wv[i - 1]? = some v ∧ Pr H9 v ((tiesL S.n S.cut)[i - 1]'(by omega)) := by
          obtain ⟨x', hx', hp'⟩ := w2.get (i := i - 1) (List.getElem?_eq_getElem (by omega))
          rw [hx] at hx'
          cases hx'
          exact ⟨_, List.getElem?_eq_getElem (by omega), hp'⟩
        obtain ⟨t9, rfl, ht9⟩ := hp9
        walk_at "st"
        refine Pm.w_ixL (SqL.of w1) (v := .ref t9) ?_ ?_
        · unfold atI ixN
          rw [if_neg (by decide), if_pos (by omega)]
          show wv[_]? = _
          rw [show (-1 + ((wv.length : Nat) : Int)).toNat = i - 1 by omega]
          exact hv9
        walk_at "st"
        refine w_geP ⟨t9, rfl, ht9⟩ hk9 ?_
        have ek : k = (tiesL S.n S.cut)[i] := (Option.some.inj ((List.getElem?_eq_getElem ilt).symm.trans hk)).symm
        have lef : lexLe k ((tiesL S.n S.cut)[i - 1]'(by omega)) = false := by
          have r := List.pairwise_iff_getElem.mp (sortP_rising (sides0 S.n ++ S.cut)) (i - 1) i
          have r : lexLe ((tiesL S.n S.cut)[i - 1]'(by omega)) ((tiesL S.n S.cut)[i]) = true := r (by show i - 1 < (tiesL S.n S.cut).length; omega) ilt (by omega)
          have nd := List.pairwise_iff_getElem.mp C.ties_nodup (i - 1) i (by omega) ilt (by omega)
          cases e : lexLe k ((tiesL S.n S.cut)[i - 1]'(by omega)) with
          | false => rfl
          | true =>
            rw [ek] at e
            exact absurd (lexLe_anti r e) nd
        rw [lef]
        walk_at "st"
        exact ⟨rfl, rfl⟩
      · walk_at "st"
        exact ⟨rfl, rfl⟩
    · rintro σ' H' ⟨rfl, rfl⟩
      walk_at "st"
      refine ⟨.inl ⟨rfl, _, SqL.of w1⟩, ?_⟩
      walk_at "st"
      refine Pm.w_append w1 (size_lt (by omega)) ?_
      have k9 := keeps_lst (ys := wv ++ [.ref kt]) w1
      refine ⟨_, _, _, rfl, same_but m0 s59, by rw [upd_ne nl2m]; exact f9, hL9.keep (o := .tup []) k9 (upd_ne (fun z => nmg z.symm)), ?_⟩
      rw [take_snoc hk]
      exact ⟨_, upd_same, (prs_keep k9 w2).snoc (hk9.keep k9)⟩
  · rintro σ H5 ⟨x, y, u9, rfl, s5, f5, hL5, hm5⟩
    rw [List.length_map, rl, List.take_length] at hL5 hm5
    have hDL : DLs K H5 g S := ⟨_, by rw [hLL] at hL5; exact hL5, fun _ => Iff.rfl, fun p hp => small_tie' C n12 hp, by omega⟩
    obtain ⟨wv, w1, w2⟩ := id hm5
    have wl := w2.length
    walk_at "st"
    refine Pm.w_rdL (SqL.of w1) ?_
    refine Pm.w_lcLf (R := Pr) pr_mono (S := Pr) pr_mono (SqL.of w1) w2 id (fun k => !decide (k ∈ sides0 S.n)) (by omega) (fun D x p H6 Nx hD hm6 hs s6 put skip => ?_) (fun D H6 ws hD s6 hd6 ha => ?_)
    · walk_at "st"
      refine ⟨S.n, rfl, by omega, by omega, fun sl8 H8 ws8 s8 nsl hsl hps => ?_⟩
      walk_at "st"
      refine Pm.w_ninPL (hs.keep (keeps s8)) (SqL.of hsl) hps ?_
      walk_at "st"
      refine Pm.w_iteN (fun nin => ?_) (fun isin => ?_)
      · walk_at "st"
        exact put _ _ (by simpa using nin) s8 (hs.keep (keeps s8))
      · exact skip _ (by simpa using isin) s8
    · rw [List.map_id, show (fun k => !decide (k ∈ sides0 S.n)) = fun k => !decide (k ∈ sidesL S.n) from funext fun k => by rw [s0m], ties_ropes C] at ha
      have hm6 := hm5.same s6
      obtain ⟨wv6, w16, w26⟩ := id hm6
      have wl6 := w26.length
      have clen := C.cut_len
      walk_at "st"
      refine Pm.w_lenL (SqL.of w16) ?_
      walk_at "st"
      rw [decide_eq_true (show (wv6.length : Int) = 2 * (S.n : Int) - 3 by omega)]
      walk_at "st"
      refine ⟨S.n, D, _, rfl, ⟨ws, hd6, ha⟩, by omega, fun bb H7 s7 hbb => ?_⟩
      have ebb : bb = true := hbb.mpr ⟨by omega, fit⟩
      subst ebb
      walk_at "st"
      refine Pm.w_newT (fun t9 ht9 => ?_)
      have s9 := same_new ht9 (.tup [.int S.n, .ref D, .ref g])
      have s69 := s6.trans (s7.trans s9)
      exact q t9 D g _ (s5.trans s69) ⟨upd_same, PLt.same ⟨ws, hd6, ha⟩ (s7.trans s9), hDL.same s69⟩
end
section
open TL
variable {P : Program} {w : World} {K : PySem.W.Frag} {mg : Str → Option Value} {base : Heap}
def spLSheet (K : PySem.W.Frag) : Sp := fun vs H Q _ => ∃ (z c d : Addr) (S : Ms) (t : Tr), vs = [.ref z] ∧ StA K H z c d S ∧ Cutting S.n S.cut t ∧ S.n ≤ 12 ∧ TieW S 1900 ∧ ∀ H', Same H H' → Q (.str (sheetOf S)) H'
theorem ok_law_sheet (T : Tx P K mg base) : FnOk P w K mg base CX0 43 T.a_law_sheet T.fd_law_sheet (["_law_state"]) (spLSheet K) := by
  refine T.F_law_sheet.ok sc_law_sheet (fun vs H Q E h => ?_) (fun cdv A outer s H vs Q E hr h => ?_)
  · obtain ⟨z, c, d, S, t, rfl, _⟩ := h
    rfl
  obtain ⟨z, c, d, S, t, rfl, hst, C, n12, tw, q⟩ := h
  have n3 := C.n3
  have tl' := C.ties_len
  have cl := C.cut_len
  have hsl := sheet_len C n12 tw
  have hnl : (Str.ofString (toString (S.n : Int))).length ≤ 3 := istr_len (k := 2) (by decide) (by omega)
  obtain ⟨ks, hL, hks, sm, kl⟩ := id hst.2.2
  refine ⟨_, (pss_cons (ps_set (i := 1) sc_law_sheet.nd rfl (.inl rfl) (pe_op o_catS (pe_op o_catS (pe_str) (pe_callTy c_strI (by rfl) T.m_str (by decide +kernel) (pa_cons (pe_ix (ix_tupK (K := K)) (pv 0) (pe_int) (fun _ _ => rfl)) pa_nil))) (pe_str)))
      (pss_cons (ps_for PassesOwn.never rfl (k_il (K := K) (pi_list (pe_call (ok_law_ties T) (hr.mono (by decide)) (by rfl) T.g_law_ties T.F_law_ties.kp T.b_law_ties .nil pass0 (pa_cons (pe_ix (ix_tupK (K := K)) (pv 0) (pe_int) (fun _ _ => rfl)) (pa_cons (pe_ix (ix_tupK (K := K)) (pv 0) (pe_int) (fun _ _ => rfl)) pa_nil))))) (k_gt (K := K) (pg_tup (by rfl) (pgs_cons (pg_name (i := 2) sc_law_sheet.nd rfl (.inl rfl)) (pgs_cons (pg_name (i := 3) sc_law_sheet.nd rfl (.inl rfl)) pgs_nil)))) (pss_cons (ps_asg (pe_dget (hu_of hr) (pe_ix (ix_tupK (K := K)) (pv 0) (pe_int) (fun _ _ => rfl)) (pe_tup (pa_cons (pv 2) (pa_cons (pv 3) pa_nil))) (fun _ _ => rfl)) (k_gt (K := K) (pg_tup (by rfl) (pgs_cons (pg_name (i := 4) sc_law_sheet.nd rfl (.inl rfl)) (pgs_cons (pg_name (i := 5) sc_law_sheet.nd rfl (.inl rfl)) pgs_nil)))))
      (pss_one (ps_set (i := 1) sc_law_sheet.nd rfl (.inl rfl) (pe_op o_catS (pe_op o_catS (pe_op o_catS (pe_op o_catS (pe_op o_catS (pe_op o_catS (pe_op o_catS (pe_op o_catS (pv 1) (pe_callTy c_strI (by rfl) T.m_str (by decide +kernel) (pa_cons (pv 2) pa_nil))) (pe_str)) (pe_callTy c_strI (by rfl) T.m_str (by decide +kernel) (pa_cons (pv 3) pa_nil))) (pe_str)) (pe_callTy c_strI (by rfl) T.m_str (by decide +kernel) (pa_cons (pv 4) pa_nil))) (pe_str)) (pe_callTy c_strI (by rfl) T.m_str (by decide +kernel) (pa_cons (pv 5) pa_nil))) (pe_str))))))
      (pss_one (ps_ret (pe_op o_catS (pv 1) (pe_str)))))), ?_⟩
  walk_at "st"
  refine Pm.w_ixT (SqT.of hst.1) rfl ?_
  walk_at "st"
  refine Pm.w_strI (by exact log1900 (Nat.lt_of_lt_of_le (show (S.n : Int).natAbs < 2 ^ 4 by omega) (Nat.pow_le_pow_right (by decide) (by decide)))) ?_
  refine Pm.w_catS (size_ok (by rw [show ("mead " : Str).length = 5 by decide +kernel]; omega)) ?_
  walk_at "st"
  refine Pm.w_catS (size_ok (by rw [len_app, show ("mead " : Str).length = 5 by decide +kernel, show ("\n" : Str).length = 1 by decide +kernel]; omega)) ?_
  obtain ⟨z0, ez0⟩ : ∃ z0, z0 = ("mead " : Str) ++ Str.ofString (toString (S.n : Int)) ++ ("\n" : Str) := ⟨_, rfl⟩
  rw [← ez0]
  have hz0 : tl z0 = headL S.n ++ [10] := by
    rw [ez0, tl_append, tl_append, show tl ("mead " : Str) = [109, 101, 97, 100, 32] by decide +kernel, show tl ("\n" : Str) = [10] by decide +kernel]
    rfl
  have lz0 : z0.length ≤ 20 := by
    rw [ez0, len_app, len_app, show ("mead " : Str).length = 5 by decide +kernel, show ("\n" : Str).length = 1 by decide +kernel]
    omega
  clear ez0
  walk_at "st"
  refine Pm.w_ixT (SqT.of hst.1) rfl ?_
  walk_at "st"
  refine Pm.w_ixT (SqT.of hst.1) rfl ?_
  walk_at "st"
  refine ⟨S.n, c, S.cut, rfl, by omega, by omega, hst.2.1, by omega, fun l H3 ys s3 nl f3 hys3 => ?_⟩
  have yl := hys3.length
  have hL3 := hL.same s3
  have hst3 := hst.same s3
  walk_at "st"
  refine Pm.w_rdL (SqL.of f3) ?_
  refine Pm.w_forL (xs := ys) (fun i σ H4 => ∃ (y : Str) (x1 x2 x3 x4 : Option V), σ = [some (.ref z), some (.str y), x1, x2, x3, x4] ∧ Same H3 H4 ∧ tl y = headL S.n ++ [10] ++ ((tiesL S.n S.cut).take i).flatMap (fun k => rowL k (rp (S.D k.1.toNat k.2.toNat)) ++ [10]) ∧ y.length ≤ 20 + 1300 * i) ⟨z0, _, _, _, _, rfl, Same.refl _, by rw [hz0]; simp, by omega⟩ (fun i σ H4 _ ⟨_, _, _, _, _, _, s, _⟩ => SqL.of (s _ _ f3)) ?_ ?_
  · rintro i v σ H4 hi ⟨y, x1, x2, x3, x4, rfl, s4, hz, lz⟩
    obtain ⟨k, hk, hv⟩ := hys3.get hi
    obtain ⟨b, rfl, hb⟩ := id (hv.keep (keeps s4))
    have ilt : i < ys.length := (List.getElem?_eq_some_iff.mp hi).1
    have mk := List.mem_of_getElem? hk
    have kb := (sm k ((hks k).mpr mk))
    have kb1 : k.1.natAbs < 100 := by have := kb.1; omega
    have kb2 : k.2.natAbs < 100 := by have := kb.2; omega
    obtain ⟨w1, w2⟩ := tieW_rp tw (Nat.le_refl _) mk
    have lr := row_len kb1 kb2 w1 w2
    have l3 := il_len w1
    have l4 := il_len w2
    have le : y.length ≤ 30000 := by omega
    have l1 : (Str.ofString (toString k.1)).length ≤ 3 := istr_len (k := 2) (by decide) kb1
    have l2 : (Str.ofString (toString k.2)).length ≤ 3 := istr_len (k := 2) (by decide) kb2
    have lb : (" " : Str).length = 1 := by decide +kernel
    have ln : ("\n" : Str).length = 1 := by decide +kernel
    have lo : ("/" : Str).length = 1 := by decide +kernel
    have small : ∀ {i : Int}, i.natAbs < 100 → i.natAbs.log2 < 1920 := fun h => log1900 (Nat.lt_of_lt_of_le (Nat.lt_of_lt_of_le h (show 100 ≤ 2 ^ 7 by decide)) (Nat.pow_le_pow_right (by decide) (by decide)))
    generalize hp : rp (S.D k.1.toNat k.2.toNat) = p at w1 w2 lr l3 l4
    have l3' : (Str.ofString (toString p.1)).length ≤ 581 := by rw [len_tl]; exact l3
    have l4' : (Str.ofString (toString p.2)).length ≤ 581 := by rw [len_tl]; exact l4
    walk_at "st"
    refine Pm.w_gtup (SqT.of hb) rfl ?_
    walk_at "st"
    refine Pm.w_ixT (SqT.of (s4 _ _ hst3.1)) rfl ?_
    walk_at "st"
    refine Pm.w_newT (fun kt hkt => ?_)
    have s5 := same_new hkt (.tup [.int k.1, .int k.2])
    have hk5 : Pr (upd H4 kt (.tup [.int k.1, .int k.2])) (.ref kt) k := ⟨kt, rfl, upd_same⟩
    refine w_ldGet (hL3.same (s4.trans s5)) hk5 ((hks k).mpr mk) (fun u hu => ?_)
    rw [hp] at hu
    refine Pm.w_gtup hu.tup rfl ?_
    walk_at "st"
    refine Pm.w_strI (small kb1) ?_
    refine Pm.w_catS (size_ok (by omega)) ?_
    walk_at "st"
    refine Pm.w_catS (size_ok (by rw [len_app, lb]; omega)) ?_
    walk_at "st"
    refine Pm.w_strI (small kb2) ?_
    refine Pm.w_catS (size_ok (by rw [len_app, len_app, lb]; omega)) ?_
    walk_at "st"
    refine Pm.w_catS (size_ok (by rw [len_app, len_app, len_app, lb]; omega)) ?_
    walk_at "st"
    refine Pm.w_strI (log1900 w1) ?_
    refine Pm.w_catS (size_ok (by rw [len_app, len_app, len_app, len_app, lb]; omega)) ?_
    walk_at "st"
    refine Pm.w_catS (size_ok (by rw [len_app, len_app, len_app, len_app, len_app, lb, lo]; omega)) ?_
    walk_at "st"
    refine Pm.w_strI (log1900 w2) ?_
    refine Pm.w_catS (size_ok (by rw [len_app, len_app, len_app, len_app, len_app, len_app, lb, lo]; omega)) ?_
    walk_at "st"
    refine Pm.w_catS (size_ok (by rw [len_app, len_app, len_app, len_app, len_app, len_app, len_app, lb, lo, ln]; omega)) ?_
    refine ⟨_, _, _, _, _, rfl, s4.trans s5, ?_, ?_⟩
    · rw [take_flat _ hk]
      rw [hp]
      simp only [tl_append]
      rw [hz, show tl (" " : Str) = [32] by decide +kernel, show tl ("\n" : Str) = [10] by decide +kernel, show tl ("/" : Str) = [47] by decide +kernel]
      unfold rowL parL ilL
      simp only [List.append_assoc, List.cons_append, List.nil_append]
    · simp only [len_app]
      omega
  · rintro σ H4 ⟨y, x1, x2, x3, x4, rfl, s4, hz, lz⟩
    rw [yl, List.take_length] at hz
    walk_at "st"
    refine Pm.w_catS (size_ok (by rw [show ("end\n" : Str).length = 4 by decide +kernel]; omega)) ?_
    rw [show y ++ ("end\n" : Str) = sheetOf S from ext_tl (by
      rw [tl_append, hz, show tl ("end\n" : Str) = [101, 110, 100, 10] by decide +kernel]
      unfold sheetOf
      rw [tl_sheet]
      unfold sheetL linesL
      rw [List.flatMap_cons, List.flatMap_append, List.flatMap_map]
      simp)]
    exact q _ (s3.trans s4)
end
section
open TL
variable {P : Program} {w : World} {K : PySem.W.Frag} {mg : Str → Option Value} {base : Heap}
theorem atI_str {z : Str} {i : Int} (h0 : 0 ≤ i) (h1 : i < z.length) : ∃ c, atI z.cps.toList i = some c := by
  obtain ⟨n, rfl⟩ : ∃ n : Nat, i = n := ⟨i.toNat, by omega⟩
  have e : z.length = z.cps.toList.length := len_tl z
  exact ⟨z.cps.toList[n]'(by omega), atI_nat (List.getElem?_eq_getElem _)⟩
theorem cut_lo (z : Str) (k : Nat) : (cutS z none (some (k : Int))).length = min k z.length := by
  rw [len_tl, tl_cut, List.length_take, List.length_drop, show HT.sIx z.length 0 none = 0 from rfl, show HT.sIx z.length z.length (some (k : Int)) = min k z.length by unfold HT.sIx; simp only; rw [if_neg (by omega)]; omega, len_tl]
  omega
theorem cut_hi (z : Str) (k : Nat) : (cutS z (some (k : Int)) none).length = z.length - k := by
  rw [len_tl, tl_cut, List.length_take, List.length_drop, show HT.sIx z.length z.length none = z.length from rfl, show HT.sIx z.length 0 (some (k : Int)) = min k z.length by unfold HT.sIx; simp only; rw [if_neg (by omega)]; omega, len_tl]
  omega
def spSigns (K : PySem.W.Frag) : Sp := fun vs H Q _ => ∃ (z : Str) (r : Addr) (row : List Int), vs = [.str z, .ref r] ∧ SqL K H r (row.map V.int) ∧ 4 ≤ row.length ∧ z.length ≤ 100000 ∧ ∀ y : Str, y.length ≤ 100001 → Q (.str y) H
theorem ok_law_signs (T : Tx P K mg base) : FnOk P w K mg base CX0 41 T.a_law_signs T.fd_law_signs (["_law_text", "_law_row"]) (spSigns K) := by
  refine T.F_law_signs.ok sc_law_signs (fun vs H Q E h => ?_) (fun cdv A outer s H vs Q E hr h => ?_)
  · obtain ⟨z, r, row, rfl, _⟩ := h
    rfl
  obtain ⟨z, r, row, rfl, hR, hrow, zl, q⟩ := h
  refine ⟨_, (pss_cons (ps_set (i := 2) sc_law_signs.nd rfl (.inl rfl) (pe_op op_mod (pe_ix (ix_listK (K := K)) (pv 1) (pe_int) (fun _ _ => rfl)) (pe_op op_add (pe_callB c_lenS (by rfl) T.m_len PySem.boot_len (pa_cons (pv 0) pa_nil)) (pe_int))))
      (pss_cons (ps_set (i := 3) sc_law_signs.nd rfl (.inl rfl) (pe_ix ix_str (pe_str) (pe_op op_mod (pe_ix (ix_listK (K := K)) (pv 1) (pe_int) (fun _ _ => rfl)) (pe_int)) (fun _ _ => rfl)))
      (pss_cons (ps_set (i := 4) sc_law_signs.nd rfl (.inl rfl) (pe_op op_mod (pe_ix (ix_listK (K := K)) (pv 1) (pe_int) (fun _ _ => rfl)) (pe_int)))
      (pss_cons (ps_if (pt_cmpR op_eq (pv 4) (pe_int) (nomark _)) (pss_one (ps_ret (pe_op o_catS (pe_op o_catS (pe_slice sl_str (pv 0) po_none (po_some (pv 2))) (pv 3)) (pe_slice sl_str (pv 0) (po_some (pv 2)) po_none)))) pss_nil)
      (pss_cons (ps_if (pt_cmpR op_eq (pv 4) (pe_int) (nomark _)) (pss_one (ps_ret (pe_op o_catS (pe_op o_catS (pe_slice sl_str (pv 0) po_none (po_some (pv 2))) (pv 3)) (pe_slice sl_str (pv 0) (po_some (pe_op op_add (pv 2) (pe_int))) po_none)))) pss_nil)
      (pss_one (ps_ret (pe_op o_catS (pe_slice sl_str (pv 0) po_none (po_some (pv 2))) (pe_slice sl_str (pv 0) (po_some (pe_op op_add (pv 2) (pe_int))) po_none))))))))), ?_⟩
  walk_at "st"
  refine Pm.w_ixL hR (atI_int (by omega) (by omega)) ?_
  walk_at "st"
  refine Pm.w_lenS (size_ok (by omega)) ?_
  walk_at "st"
  obtain ⟨k, hk, kl⟩ : ∃ k : Nat, row.getD (1 : Int).toNat 0 % ((z.length : Int) + 1) = k ∧ k ≤ z.length := ⟨(row.getD (1 : Int).toNat 0 % ((z.length : Int) + 1)).toNat, by have := Int.emod_nonneg (row.getD (1 : Int).toNat 0) (show ((z.length : Int) + 1) ≠ 0 by omega); omega, by have := Int.emod_lt_of_pos (row.getD (1 : Int).toNat 0) (show 0 < (z.length : Int) + 1 by omega); omega⟩
  rw [hk]
  refine Pm.w_ixL hR (atI_int (by omega) (by omega)) ?_
  walk_at "st"
  have l15 : ("0123459 /-\nmd._" : Str).length = 15 := by decide +kernel
  obtain ⟨c, hc⟩ := atI_str (z := ("0123459 /-\nmd._" : Str)) (i := row.getD (2 : Int).toNat 0 % 15) (by omega) (by rw [l15]; omega)
  refine Pm.w_ixS (size_ok (by rw [l15]; omega)) hc ?_
  walk_at "st"
  refine Pm.w_ixL hR (atI_int (by omega) (by omega)) ?_
  walk_at "st"
  have l1 : (⟨#[c]⟩ : Str).length = 1 := rfl
  have c1 := cut_lo z k
  have c2 := cut_hi z k
  have c3 := cut_hi z (k + 1)
  rw [show ((k + 1 : Nat) : Int) = (k : Int) + 1 from rfl] at c3
  generalize row.getD (3 : Int).toNat 0 % 3 = x3
  refine Pm.w_ite (fun e => ?_) (fun e => ?_)
  · walk_at "st"
    refine Pm.w_slS (size_ok (by omega)) ?_
    walk_at "st"
    refine Pm.w_catS (size_ok (by omega)) ?_
    walk_at "st"
    refine Pm.w_slS (size_ok (by omega)) ?_
    refine Pm.w_catS (size_ok (by rw [len_app]; omega)) ?_
    exact q _ (by rw [len_app, len_app]; omega)
  walk_at "st"
  refine Pm.w_ite (fun e2 => ?_) (fun e2 => ?_)
  · walk_at "st"
    refine Pm.w_slS (size_ok (by omega)) ?_
    walk_at "st"
    refine Pm.w_catS (size_ok (by omega)) ?_
    walk_at "st"
    refine Pm.w_slS (size_ok (by omega)) ?_
    refine Pm.w_catS (size_ok (by rw [len_app]; omega)) ?_
    exact q _ (by rw [len_app, len_app]; omega)
  walk_at "st"
  refine Pm.w_slS (size_ok (by omega)) ?_
  walk_at "st"
  refine Pm.w_slS (size_ok (by omega)) ?_
  refine Pm.w_catS (size_ok (by omega)) ?_
  exact q _ (by rw [len_app]; omega)
/-- a list of texts of at most so many signs -/
theorem allS_map {B : Nat} : ∀ {ws : List Str}, (∀ x ∈ ws, x.length ≤ B) → AllS B (ws.map V.str)
  | [], _ => trivial
  | x :: ws, h => ⟨⟨x, rfl, h x List.mem_cons_self⟩, allS_map fun y hy => h y (List.mem_cons_of_mem _ hy)⟩
theorem allS_iff {B : Nat} : ∀ {xs : List V}, AllS B xs ↔ ∀ v ∈ xs, ∃ z : Str, v = .str z ∧ z.length ≤ B
  | [] => ⟨fun _ v h => absurd h List.not_mem_nil, fun _ => trivial⟩
  | x :: xs => by
    constructor
    · rintro ⟨h1, h2⟩ v hv
      rcases List.mem_cons.mp hv with rfl | h
      · exact h1
      · exact allS_iff.mp h2 v h
    · exact fun h => ⟨h x List.mem_cons_self, allS_iff.mpr fun v hv => h v (List.mem_cons_of_mem _ hv)⟩
theorem allS_cut {B : Nat} {xs : List V} (h : AllS B xs) (lo hi : Option Int) : AllS B (cutV xs lo hi) := allS_iff.mpr fun v hv => allS_iff.mp h v (List.mem_of_mem_drop (List.mem_of_mem_take hv))
theorem cutV_len (xs : List V) (lo hi : Option Int) : (cutV xs lo hi).length ≤ xs.length := by
  unfold cutV
  rw [List.length_take, List.length_drop]
  omega
theorem allS_set {B : Nat} {xs : List V} (h : AllS B xs) (i : Nat) {z : Str} (hz : z.length ≤ B) : AllS B (xs.set i (.str z)) := allS_iff.mpr fun v hv => by
  rcases List.mem_or_eq_of_mem_set hv with m | m
  · exact allS_iff.mp h v m
  · exact ⟨z, m, hz⟩
theorem allS_strs {B : Nat} : ∀ {xs : List V}, AllS B xs → ∃ ys : List Str, xs = ys.map V.str ∧ (∀ y ∈ ys, y.length ≤ B) ∧ (ys.map (·.length)).sum ≤ ys.length * B
  | [], _ => ⟨[], rfl, fun y h => absurd h List.not_mem_nil, by simp⟩
  | x :: xs, ⟨⟨z, e, l⟩, h⟩ => by
    obtain ⟨ys, e2, h2, h3⟩ := allS_strs h
    refine ⟨z :: ys, by rw [e, e2]; rfl, fun y hy => ?_, ?_⟩
    · rcases List.mem_cons.mp hy with rfl | m
      · exact l
      · exact h2 y m
    · rw [List.map_cons, List.sum_cons, List.length_cons, Nat.add_mul, Nat.one_mul]
      omega
theorem join_len (a : Str) (ys : List Str) : (Txt.join a ys).length ≤ (ys.map (·.length)).sum + ys.length * a.length := by
  show (Builtin.Str.glued a ys).length ≤ _
  rw [PySem.size_glued]
  have : (ys.length - 1) * a.length ≤ ys.length * a.length := Nat.mul_le_mul_right _ (by omega)
  omega
/-- the state between the six changes -/
def LnV (z : Str) (r : Addr) (n i k : Nat) (wy : Int) (fr : Str) (H : Hp) (N : Nat) (j : Int) (σ : L2.St) (H' : Hp) : Prop := ∃ (L : Addr) (ys : List V), σ = [some (V.str z), some (.ref r), some (.int n), some (.ref L), some (.int i), some (.int k), some (.int wy), some (.str fr)] ∧ Same H H' ∧ H' L = some (.lst ys) ∧ H L = none ∧ AllS 1200 ys ∧ ys.length ≤ 60 ∧ (j ≤ wy → ys.length = N)
def spLines (K : PySem.W.Frag) : Sp := fun vs H Q _ => ∃ (S : Ms) (t : Tr) (r : Addr) (row : List Int), vs = [.str (sheetOf S), .ref r, .int S.n] ∧ Cutting S.n S.cut t ∧ S.n ≤ 12 ∧ TieW S 1900 ∧ SqL K H r (row.map V.int) ∧ 6 ≤ row.length ∧ ∀ (y : Str) (H' : Hp), Same H H' → y.length ≤ 100000 → Q (.str y) H'
theorem ok_law_lines (T : Tx P K mg base) : FnOk P w K mg base CX0 41 T.a_law_lines T.fd_law_lines (["_law_text", "_law_row", "_law_n"]) (spLines K) := by
  refine T.F_law_lines.ok sc_law_lines (fun vs H Q E h => ?_) (fun cdv A outer s H vs Q E hr h => ?_)
  · obtain ⟨S, t, r, row, rfl, _⟩ := h
    rfl
  obtain ⟨S, t, r, row, rfl, C, n12, tw, hR, hrow, q⟩ := h
  have n3 := C.n3
  have tl' := C.ties_len
  have hsl := sheet_len C n12 tw
  refine ⟨_, (pss_cons (ps_set (i := 3) sc_law_lines.nd rfl (.inl rfl) (k_bm (K := K) (pe_bm PySem.F.plainAttrs_str PySem.F.slot_str_split PySem.F.type_str_split mt_splitS (pv 0) (pa_cons (pe_str) pa_nil))))
      (pss_cons (ps_set (i := 4) sc_law_lines.nd rfl (.inl rfl) (pe_op op_mod (pe_ix (ix_listK (K := K)) (pv 1) (pe_int) (fun _ _ => rfl)) (pe_op op_sub (pe_callB (c_len (K := K)) (by rfl) T.m_len PySem.boot_len (pa_cons (pv 3) pa_nil)) (pe_int))))
      (pss_cons (ps_set (i := 5) sc_law_lines.nd rfl (.inl rfl) (pe_op op_mod (pe_ix (ix_listK (K := K)) (pv 1) (pe_int) (fun _ _ => rfl)) (pe_op op_sub (pe_callB (c_len (K := K)) (by rfl) T.m_len PySem.boot_len (pa_cons (pv 3) pa_nil)) (pe_int))))
      (pss_cons (ps_set (i := 6) sc_law_lines.nd rfl (.inl rfl) (pe_op op_mod (pe_ix (ix_listK (K := K)) (pv 1) (pe_int) (fun _ _ => rfl)) (pe_int)))
      (pss_cons (ps_set (i := 7) sc_law_lines.nd rfl (.inl rfl) (pe_op o_catS (pe_op o_catS (pe_op o_catS (pe_callTy c_strI (by rfl) T.m_str (by decide +kernel) (pa_cons (pe_op op_mod (pe_ix (ix_listK (K := K)) (pv 1) (pe_int) (fun _ _ => rfl)) (pe_op op_add (pv 2) (pe_int))) pa_nil)) (pe_str)) (pe_callTy c_strI (by rfl) T.m_str (by decide +kernel) (pa_cons (pe_op op_mod (pe_ix (ix_listK (K := K)) (pv 1) (pe_int) (fun _ _ => rfl)) (pe_op op_add (pv 2) (pe_int))) pa_nil))) (pe_str)))
      (C8.pss_cut (ps_if (pt_cmpR op_eq (pv 6) (pe_int) (nomark _)) (pss_one (ps_asg (pe_tup (pa_cons (pe_ix (ix_listK (K := K)) (pv 3) (pv 5) (fun _ _ => rfl)) (pa_cons (pe_ix (ix_listK (K := K)) (pv 3) (pv 4) (fun _ _ => rfl)) pa_nil))) (k_gt (K := K) (pg_tup (by rfl) (pgs_cons (pg_sub (pv 3) (pv 4) set_list) (pgs_cons (pg_sub (pv 3) (pv 5) set_list) pgs_nil)))))) pss_nil)
      (C8.pss_cut (ps_if (pt_cmpR op_eq (pv 6) (pe_int) (nomark _)) (pss_one (ps_set (i := 3) sc_law_lines.nd rfl (.inl rfl) (pe_op op_cat (pe_slice (sl_listK (K := K)) (pv 3) po_none (po_some (pv 4))) (pe_slice (sl_listK (K := K)) (pv 3) (po_some (pe_op op_add (pv 4) (pe_int))) po_none)))) pss_nil)
      (C8.pss_cut (ps_if (pt_cmpR op_eq (pv 6) (pe_int) (nomark _)) (pss_one (ps_set (i := 3) sc_law_lines.nd rfl (.inl rfl) (pe_op op_cat (pe_op op_cat (pe_slice (sl_listK (K := K)) (pv 3) po_none (po_some (pv 4))) (pe_lst (pa_cons (pe_ix (ix_listK (K := K)) (pv 3) (pv 5) (fun _ _ => rfl)) pa_nil))) (pe_slice (sl_listK (K := K)) (pv 3) (po_some (pv 4)) po_none)))) pss_nil)
      (C8.pss_cut (ps_if (pt_cmpR op_eq (pv 6) (pe_int) (nomark _)) (pss_one (ps_set (i := 3) sc_law_lines.nd rfl (.inl rfl) (pe_op op_cat (pe_op op_cat (pe_slice (sl_listK (K := K)) (pv 3) po_none (po_some (pv 4))) (pe_lst (pa_cons (pv 7) pa_nil))) (pe_slice (sl_listK (K := K)) (pv 3) (po_some (pe_op op_add (pv 4) (pe_int))) po_none)))) pss_nil)
      (C8.pss_cut (ps_if (pt_cmpR op_eq (pv 6) (pe_int) (nomark _)) (pss_one (ps_set (i := 3) sc_law_lines.nd rfl (.inl rfl) (pe_op op_cat (pe_op op_cat (pe_slice (sl_listK (K := K)) (pv 3) po_none (po_some (pv 4))) (pe_lst (pa_cons (pv 7) pa_nil))) (pe_slice (sl_listK (K := K)) (pv 3) (po_some (pv 4)) po_none)))) pss_nil)
      (C8.pss_cut (ps_if (pt_cmpR op_eq (pv 6) (pe_int) (nomark _)) (pss_one (ps_asg (pe_op o_catS (pe_str) (pe_callTy c_strI (by rfl) T.m_str (by decide +kernel) (pa_cons (pe_op op_mod (pe_ix (ix_listK (K := K)) (pv 1) (pe_int) (fun _ _ => rfl)) (pe_int)) pa_nil))) (pg_sub (pv 3) (pe_int) set_list))) pss_nil)
      (pss_one (ps_ret (k_bm (K := K) (pe_bm PySem.F.plainAttrs_str PySem.F.slot_str_join PySem.F.type_str_join (mt_joinK (K := K)) (pe_str) (pa_cons (pv 3) pa_nil)))))))))))))))), ?_⟩
  walk_at "st"
  refine ⟨rfl, ?_⟩
  walk_at "st"
  refine Pm.w_split (by decide +kernel) (by rw [sizeLine_eq]; omega) (fun l hl => ?_)
  have wfacts : (Txt.split (sheetOf S) ("\n" : Str)).length = 2 * S.n ∧ ∀ x ∈ Txt.split (sheetOf S) ("\n" : Str), x.length ≤ 1200 := by
    have e0 : Txt.split (sheetOf S) ("\n" : Str) = _ := split_sheet S.n (tiesL S.n S.cut) (fun k => rp (S.D k.1.toNat k.2.toNat))
    rw [e0]
    refine ⟨?_, fun x hx => ?_⟩
    · unfold linesL
      simp only [List.length_map, List.length_append, List.length_cons, List.length_nil]
      omega
    · obtain ⟨l, hl, rfl⟩ := List.mem_map.mp hx
      show l.length ≤ 1200
      rcases List.mem_append.mp hl with h | h
      · unfold linesL at h
        rcases List.mem_cons.mp h with rfl | h
        · unfold headL
          have := il_len2 (i := (S.n : Int)) (by omega)
          simp only [List.length_append, List.length_cons, List.length_nil]
          omega
        · rcases List.mem_append.mp h with h | h
          · obtain ⟨k, hk, rfl⟩ := List.mem_map.mp h
            have sk := small_tie' C n12 hk
            exact row_len (by have := sk.1; omega) (by have := sk.2; omega) (tieW_rp tw (Nat.le_refl _) hk).1 (tieW_rp tw (Nat.le_refl _) hk).2
          · rw [List.mem_singleton.mp h]; decide
      · rw [List.mem_singleton.mp h]; decide
  obtain ⟨wl, wb⟩ := wfacts
  have al := allS_map wb
  have s1 := same_new hl (.lst ((Txt.split (sheetOf S) ("\n" : Str)).map V.str))
  have f1 : (upd H l (.lst ((Txt.split (sheetOf S) ("\n" : Str)).map V.str))) l = some (.lst ((Txt.split (sheetOf S) ("\n" : Str)).map V.str)) := upd_same
  have vl : ((Txt.split (sheetOf S) ("\n" : Str)).map V.str).length = 2 * S.n := by rw [List.length_map]; exact wl
  generalize upd H l (.lst ((Txt.split (sheetOf S) ("\n" : Str)).map V.str)) = H1 at s1 f1 ⊢
  generalize (Txt.split (sheetOf S) ("\n" : Str)).map V.str = vs at al f1 vl
  have hR1 := s1.seq hR
  walk_at "st"
  refine Pm.w_ixL hR1 (atI_int (by omega) (by omega)) ?_
  walk_at "st"
  refine Pm.w_lenL (SqL.of f1) ?_
  walk_at "st"
  obtain ⟨i, hi, il⟩ : ∃ i : Nat, row.getD (1 : Int).toNat 0 % ((vs.length : Int) - 1) = i ∧ i + 1 < vs.length := ⟨(row.getD (1 : Int).toNat 0 % ((vs.length : Int) - 1)).toNat, by have := Int.emod_nonneg (row.getD (1 : Int).toNat 0) (show ((vs.length : Int) - 1) ≠ 0 by omega); omega, by have := Int.emod_lt_of_pos (row.getD (1 : Int).toNat 0) (show 0 < (vs.length : Int) - 1 by omega); have := Int.emod_nonneg (row.getD (1 : Int).toNat 0) (show ((vs.length : Int) - 1) ≠ 0 by omega); omega⟩
  rw [hi]
  refine Pm.w_ixL hR1 (atI_int (by omega) (by omega)) ?_
  walk_at "st"
  refine Pm.w_lenL (SqL.of f1) ?_
  walk_at "st"
  obtain ⟨k, hk, kl⟩ : ∃ i : Nat, row.getD (2 : Int).toNat 0 % ((vs.length : Int) - 1) = i ∧ i + 1 < vs.length := ⟨(row.getD (2 : Int).toNat 0 % ((vs.length : Int) - 1)).toNat, by have := Int.emod_nonneg (row.getD (2 : Int).toNat 0) (show ((vs.length : Int) - 1) ≠ 0 by omega); omega, by have := Int.emod_lt_of_pos (row.getD (2 : Int).toNat 0) (show 0 < (vs.length : Int) - 1 by omega); have := Int.emod_nonneg (row.getD (2 : Int).toNat 0) (show ((vs.length : Int) - 1) ≠ 0 by omega); omega⟩
  rw [hk]
  refine Pm.w_ixL hR1 (atI_int (by omega) (by omega)) ?_
  walk_at "st"
  generalize row.getD (3 : Int).toNat 0 % 6 = wy
  refine Pm.w_ixL hR1 (atI_int (by omega) (by omega)) ?_
  walk_at "st"
  have sml : ∀ x : Int, (x % ((S.n : Int) + 2)).natAbs < 100 := fun x => by
    have := Int.emod_nonneg x (show ((S.n : Int) + 2) ≠ 0 by omega)
    have := Int.emod_lt_of_pos x (show 0 < (S.n : Int) + 2 by omega)
    omega
  have small : ∀ {i : Int}, i.natAbs < 100 → i.natAbs.log2 < 1920 := fun h => log1900 (Nat.lt_of_lt_of_le (Nat.lt_of_lt_of_le h (show 100 ≤ 2 ^ 7 by decide)) (Nat.pow_le_pow_right (by decide) (by decide)))
  have lb : (" " : Str).length = 1 := by decide +kernel
  have l3 : (" 3/2" : Str).length = 4 := by decide +kernel
  have lm : ("mead " : Str).length = 5 := by decide +kernel
  have sl : ∀ {i : Int}, i.natAbs < 100 → (Str.ofString (toString i)).length ≤ 3 := fun h => istr_len (k := 2) (by decide) h
  have r4 := sml (row.getD (4 : Int).toNat 0)
  have r5 := sml (row.getD (5 : Int).toNat 0)
  have e4 := sl r4
  have e5 := sl r5
  refine Pm.w_strI (small r4) ?_
  walk_at "st"
  refine Pm.w_catS (size_ok (by omega)) ?_
  walk_at "st"
  refine Pm.w_ixL hR1 (atI_int (by omega) (by omega)) ?_
  walk_at "st"
  refine Pm.w_strI (small r5) ?_
  refine Pm.w_catS (size_ok (by rw [len_app]; omega)) ?_
  walk_at "st"
  refine Pm.w_catS (size_ok (by rw [len_app, len_app]; omega)) ?_
  obtain ⟨fr, hfr⟩ : ∃ fr : Str, fr = Str.ofString (toString (row.getD (4 : Int).toNat 0 % ((S.n : Int) + 2))) ++ (" " : Str) ++ Str.ofString (toString (row.getD (5 : Int).toNat 0 % ((S.n : Int) + 2))) ++ (" 3/2" : Str) := ⟨_, rfl⟩
  have frl : fr.length ≤ 1200 := by rw [hfr, len_app, len_app, len_app]; omega
  rw [← hfr]
  clear hfr
  have N60 : vs.length ≤ 24 := by omega
  have N6 : 6 ≤ vs.length := by omega
  generalize hN : vs.length = N at il kl N60 N6
  have yl : vs.length ≤ 60 := by omega
  walk_at "st"
  refine Pm.w_cut (LnV (sheetOf S) r S.n i k wy fr H N 1) ?_ ?_
  · walk_at "st"
    refine Pm.w_ite (fun e => ?_) (fun e => ?_)
    · obtain ⟨zi, ei, hzi⟩ := al.get (i := i) (by omega)
      obtain ⟨zk, ek, hzk⟩ := al.get (i := k) (by omega)
      walk_at "st"
      refine Pm.w_ixL (SqL.of f1) (atI_nat ek) ?_
      walk_at "st"
      refine Pm.w_ixL (SqL.of f1) (atI_nat ei) ?_
      walk_at "st"
      refine Pm.w_newT (fun t0 ht0 => ?_)
      have s2 := same_new ht0 (.tup [.str zk, .str zi])
      walk_at "st"
      refine Pm.w_gtup (SqT.of upd_same) rfl ?_
      walk_at "st"
      refine Pm.w_setL (s2 _ _ f1) (by omega) (by omega) ?_
      walk_at "st"
      refine Pm.w_setL upd_same (by omega) (by rw [List.length_set]; omega) ?_
      walk_at "st"
      refine ⟨l, _, rfl, same_but hl (same_but hl (s1.trans s2)), upd_same, hl, allS_set (allS_set al _ hzk) _ hzi, by rw [List.length_set, List.length_set]; exact yl, fun _ => by rw [List.length_set, List.length_set]; exact hN⟩
    · walk_at "st"
      exact ⟨l, vs, rfl, s1, f1, hl, al, yl, fun h => hN⟩
  clear hi hk
  clear f1 s1 hR1 vl al yl hN wl
  clear vs
  rintro σ1 H1' ⟨L, ys, rfl, s1, f1, h0, al, yl, yN⟩
  walk_at "st"
  refine Pm.w_cut (LnV (sheetOf S) r S.n i k wy fr H N 2) ?_ ?_
  · walk_at "st"
    refine Pm.w_ite (fun e => ?_) (fun e => ?_)
    · have yN := yN (by omega)
      have c1 := cutV_len ys none (some (i : Int))
      have c2 := cutV_len ys (some ((i : Int) + 1)) none
      walk_at "st"
      refine Pm.w_slL (SqL.of f1) (fun p1 hp1 => ?_)
      have s2 := same_new hp1 (.lst (cutV ys none (some (i : Int))))
      walk_at "st"
      refine Pm.w_slL (SqL.of (s2 _ _ f1)) (fun p2 hp2 => ?_)
      have s3 := same_new hp2 (.lst (cutV ys (some ((i : Int) + 1)) none))
      refine Pm.w_cat (s3 _ _ upd_same) upd_same (size_ok (by omega)) (fun p3 hp3 => ?_)
      have s4 := same_new hp3 (.lst (cutV ys none (some (i : Int)) ++ cutV ys (some ((i : Int) + 1)) none))
      have s13 := s1.trans (s2.trans s3)
      refine ⟨p3, _, rfl, s13.trans s4, upd_same, s13.free hp3, (allS_cut al _ _).app (allS_cut al _ _), by rw [List.length_append]; omega, fun h => absurd h (by omega)⟩
    · walk_at "st"
      exact ⟨L, ys, rfl, s1, f1, h0, al, yl, fun h => yN (by omega)⟩
  clear f1 s1 h0 al yl yN
  clear ys
  rintro σ1 H1' ⟨L, ys, rfl, s1, f1, h0, al, yl, yN⟩
  walk_at "st"
  refine Pm.w_cut (LnV (sheetOf S) r S.n i k wy fr H N 3) ?_ ?_
  · walk_at "st"
    refine Pm.w_ite (fun e => ?_) (fun e => ?_)
    · have yN := yN (by omega)
      have c1 := cutV_len ys none (some (i : Int))
      have c2 := cutV_len ys (some (i : Int)) none
      obtain ⟨zk, ek, hzk⟩ := al.get (i := k) (by omega)
      walk_at "st"
      refine Pm.w_slL (SqL.of f1) (fun p1 hp1 => ?_)
      have s2 := same_new hp1 (.lst (cutV ys none (some (i : Int))))
      walk_at "st"
      refine Pm.w_ixL (SqL.of (s2 _ _ f1)) (atI_nat ek) ?_
      walk_at "st"
      refine Pm.w_newL (fun p4 hp4 => ?_)
      have s5 := same_new hp4 (.lst [.str zk])
      refine Pm.w_cat (s5 _ _ upd_same) upd_same (size_ok (by rw [List.length_singleton]; omega)) (fun p5 hp5 => ?_)
      have s6 := same_new hp5 (.lst (cutV ys none (some (i : Int)) ++ [.str zk]))
      have s26 := s2.trans (s5.trans s6)
      walk_at "st"
      refine Pm.w_slL (SqL.of (s26 _ _ f1)) (fun p2 hp2 => ?_)
      have s3 := same_new hp2 (.lst (cutV ys (some (i : Int)) none))
      refine Pm.w_cat (s3 _ _ upd_same) upd_same (size_ok (by rw [List.length_append, List.length_singleton]; omega)) (fun p3 hp3 => ?_)
      have s4 := same_new hp3 (.lst (cutV ys none (some (i : Int)) ++ [.str zk] ++ cutV ys (some (i : Int)) none))
      have s13 := s1.trans (s26.trans s3)
      refine ⟨p3, _, rfl, s13.trans s4, upd_same, s13.free hp3, ((allS_cut al _ _).app (allS_iff.mpr fun v hv => ⟨zk, List.mem_singleton.mp hv, by assumption⟩)).app (allS_cut al _ _), by rw [List.length_append, List.length_append, List.length_singleton]; omega, fun h => absurd h (by omega)⟩
    · walk_at "st"
      exact ⟨L, ys, rfl, s1, f1, h0, al, yl, fun h => yN (by omega)⟩
  clear f1 s1 h0 al yl yN
  clear ys
  rintro σ1 H1' ⟨L, ys, rfl, s1, f1, h0, al, yl, yN⟩
  walk_at "st"
  refine Pm.w_cut (LnV (sheetOf S) r S.n i k wy fr H N 4) ?_ ?_
  · walk_at "st"
    refine Pm.w_ite (fun e => ?_) (fun e => ?_)
    · have yN := yN (by omega)
      have c1 := cutV_len ys none (some (i : Int))
      have c2 := cutV_len ys (some ((i : Int) + 1)) none
      walk_at "st"
      refine Pm.w_slL (SqL.of f1) (fun p1 hp1 => ?_)
      have s2 := same_new hp1 (.lst (cutV ys none (some (i : Int))))
      walk_at "st"
      refine Pm.w_newL (fun p4 hp4 => ?_)
      have s5 := same_new hp4 (.lst [.str fr])
      refine Pm.w_cat (s5 _ _ upd_same) upd_same (size_ok (by rw [List.length_singleton]; omega)) (fun p5 hp5 => ?_)
      have s6 := same_new hp5 (.lst (cutV ys none (some (i : Int)) ++ [.str fr]))
      have s26 := s2.trans (s5.trans s6)
      walk_at "st"
      refine Pm.w_slL (SqL.of (s26 _ _ f1)) (fun p2 hp2 => ?_)
      have s3 := same_new hp2 (.lst (cutV ys (some ((i : Int) + 1)) none))
      refine Pm.w_cat (s3 _ _ upd_same) upd_same (size_ok (by rw [List.length_append, List.length_singleton]; omega)) (fun p3 hp3 => ?_)
      have s4 := same_new hp3 (.lst (cutV ys none (some (i : Int)) ++ [.str fr] ++ cutV ys (some ((i : Int) + 1)) none))
      have s13 := s1.trans (s26.trans s3)
      refine ⟨p3, _, rfl, s13.trans s4, upd_same, s13.free hp3, ((allS_cut al _ _).app (allS_iff.mpr fun v hv => ⟨fr, List.mem_singleton.mp hv, by assumption⟩)).app (allS_cut al _ _), by rw [List.length_append, List.length_append, List.length_singleton]; omega, fun h => absurd h (by omega)⟩
    · walk_at "st"
      exact ⟨L, ys, rfl, s1, f1, h0, al, yl, fun h => yN (by omega)⟩
  clear f1 s1 h0 al yl yN
  clear ys
  rintro σ1 H1' ⟨L, ys, rfl, s1, f1, h0, al, yl, yN⟩
  walk_at "st"
  refine Pm.w_cut (LnV (sheetOf S) r S.n i k wy fr H N 5) ?_ ?_
  · walk_at "st"
    refine Pm.w_ite (fun e => ?_) (fun e => ?_)
    · have yN := yN (by omega)
      have c1 := cutV_len ys none (some (i : Int))
      have c2 := cutV_len ys (some (i : Int)) none
      walk_at "st"
      refine Pm.w_slL (SqL.of f1) (fun p1 hp1 => ?_)
      have s2 := same_new hp1 (.lst (cutV ys none (some (i : Int))))
      walk_at "st"
      refine Pm.w_newL (fun p4 hp4 => ?_)
      have s5 := same_new hp4 (.lst [.str fr])
      refine Pm.w_cat (s5 _ _ upd_same) upd_same (size_ok (by rw [List.length_singleton]; omega)) (fun p5 hp5 => ?_)
      have s6 := same_new hp5 (.lst (cutV ys none (some (i : Int)) ++ [.str fr]))
      have s26 := s2.trans (s5.trans s6)
      walk_at "st"
      refine Pm.w_slL (SqL.of (s26 _ _ f1)) (fun p2 hp2 => ?_)
      have s3 := same_new hp2 (.lst (cutV ys (some (i : Int)) none))
      refine Pm.w_cat (s3 _ _ upd_same) upd_same (size_ok (by rw [List.length_append, List.length_singleton]; omega)) (fun p3 hp3 => ?_)
      have s4 := same_new hp3 (.lst (cutV ys none (some (i : Int)) ++ [.str fr] ++ cutV ys (some (i : Int)) none))
      have s13 := s1.trans (s26.trans s3)
      refine ⟨p3, _, rfl, s13.trans s4, upd_same, s13.free hp3, ((allS_cut al _ _).app (allS_iff.mpr fun v hv => ⟨fr, List.mem_singleton.mp hv, by assumption⟩)).app (allS_cut al _ _), by rw [List.length_append, List.length_append, List.length_singleton]; omega, fun h => absurd h (by omega)⟩
    · walk_at "st"
      exact ⟨L, ys, rfl, s1, f1, h0, al, yl, fun h => yN (by omega)⟩
  clear f1 s1 h0 al yl yN
  clear ys
  rintro σ1 H1' ⟨L, ys, rfl, s1, f1, h0, al, yl, yN⟩
  walk_at "st"
  refine Pm.w_cut (LnV (sheetOf S) r S.n i k wy fr H N 6) ?_ ?_
  · walk_at "st"
    refine Pm.w_ite (fun e => ?_) (fun e => ?_)
    · have yN := yN (by omega)
      have b16 : (row.getD (4 : Int).toNat 0 % 16).natAbs < 100 := by omega
      have l16 := sl b16
      walk_at "st"
      refine Pm.w_ixL (s1.seq hR) (atI_int (by omega) (by omega)) ?_
      walk_at "st"
      refine Pm.w_strI (small b16) ?_
      refine Pm.w_catS (size_ok (by omega)) ?_
      walk_at "st"
      refine Pm.w_setL f1 (by decide) (by omega) ?_
      exact ⟨L, _, rfl, same_but h0 s1, upd_same, h0, allS_set al _ (by rw [len_app]; omega), by rw [List.length_set]; exact yl, fun h => absurd h (by omega)⟩
    · walk_at "st"
      exact ⟨L, ys, rfl, s1, f1, h0, al, yl, fun h => yN (by omega)⟩
  clear f1 s1 h0 al yl yN
  clear ys
  rintro σ1 H1' ⟨L, ys, rfl, s1, f1, h0, al, yl, yN⟩
  obtain ⟨ts, rfl, tb, tsum⟩ := allS_strs al
  rw [List.length_map] at yl
  have jl := join_len ("\n" : Str) ts
  rw [show ("\n" : Str).length = 1 by decide +kernel] at jl
  have m1 : ts.length * 1200 ≤ 60 * 1200 := Nat.mul_le_mul_right _ yl
  walk_at "st"
  refine ⟨rfl, ?_⟩
  walk_at "st"
  refine Pm.w_join (SqL.of f1) (by rw [show ("\n" : Str).length = 1 by decide +kernel]; omega) ?_
  exact q _ _ s1 (by omega)
/-- how many blanks a sheet has -/
theorem sheet_blanks {S : Ms} {t : Tr} (C : Cutting S.n S.cut t) (n12 : S.n ≤ 12) : (tl (sheetOf S)).count 32 ≤ 43 := by
  have tl' := C.ties_len
  have z : ∀ i : Int, (ilL i).count 32 = 0 := fun i => List.count_eq_zero_of_not_mem (il_free (by decide) (by decide))
  have zp : ∀ p : IP, (parL p).count 32 = 0 := fun p => List.count_eq_zero_of_not_mem (par_free p).2
  unfold sheetOf
  rw [tl_sheet]
  unfold sheetL linesL
  rw [List.flatMap_cons, List.flatMap_append, List.flatMap_map, List.count_append (a := 32) (l₁ := headL S.n ++ [10])]
  have e1 : (headL S.n ++ [10]).count 32 = 1 := by
    unfold headL
    rw [List.count_append, List.count_append, z]
    decide
  have e2 : (tiesL S.n S.cut).map (List.count 32 ∘ fun k => rowL k (rp (S.D k.1.toNat k.2.toNat)) ++ [10]) = (tiesL S.n S.cut).map fun _ => 2 := List.map_congr_left fun k _ => by
    show (rowL k (rp (S.D k.1.toNat k.2.toNat)) ++ [10]).count 32 = 2
    unfold rowL
    rw [List.count_append, List.count_append, List.count_cons, List.count_append, List.count_cons, z, z, zp]
    decide
  have e3 : ([[101, 110, 100]].flatMap fun l : List Nat => l ++ [10]).count 32 = 0 := by decide
  rw [e1, List.count_append, e3, List.count_flatMap, e2, List.map_const', List.sum_replicate_nat, tl']
  omega
theorem room3 {a b c A B C M : Nat} (h1 : a ≤ A) (h2 : b ≤ B) (h3 : c ≤ C) (h : A + B * C ≤ M) : a + b * c ≤ M := Nat.le_trans (Nat.add_le_add h1 (Nat.mul_le_mul h2 h3)) h
def spOdd (K : PySem.W.Frag) : Sp := fun vs H Q _ => ∃ (S : Ms) (t : Tr) (r : Addr) (row : List Int), vs = [.str (sheetOf S), .ref r] ∧ Cutting S.n S.cut t ∧ S.n ≤ 12 ∧ TieW S 1900 ∧ SqL K H r (row.map V.int) ∧ 2 ≤ row.length ∧ ∀ (y : Str) (H' : Hp), Same H H' → y.length ≤ 300000 → Q (.str y) H'
local macro_rules | `(tactic| walk_at "s1") => `(tactic| with_reducible refine Pm.w_repC ?_)
local macro_rules | `(tactic| walk_at "s1") => `(tactic| with_reducible refine Pm.w_repA ?_)
local macro_rules | `(tactic| walk_at "s1") => `(tactic| with_reducible refine Pm.w_repA1 ?_)
theorem ok_law_odd (T : Tx P K mg base) : FnOk P w K mg base CX0 41 T.a_law_odd T.fd_law_odd (["_law_text", "_law_row"]) (spOdd K) := by
  refine T.F_law_odd.ok sc_law_odd (fun vs H Q E h => ?_) (fun cdv A outer s H vs Q E hr h => ?_)
  · obtain ⟨S, t, r, row, rfl, _⟩ := h
    rfl
  obtain ⟨S, t, r, row, rfl, C, n12, tw, hR, hrow, q⟩ := h
  have hsl := sheet_len C n12 tw
  have hbl := sheet_blanks C n12
  generalize sheetOf S = z at hsl hbl ⊢
  have l1 : ("1" : Str).length = 1 := by decide +kernel
  have ln : ("\n" : Str).length = 1 := by decide +kernel
  have le4 : ("end\n" : Str).length = 4 := by decide +kernel
  have le0 : ("" : Str).length = 0 := by decide +kernel
  have lm3 : ("mead 3\nend\n" : Str).length = 11 := by decide +kernel
  have lm0 : ("mead 0" : Str).length = 6 := by decide +kernel
  have lE : ("End" : Str).length = 3 := by decide +kernel
  have lbn : (" \n" : Str).length = 2 := by decide +kernel
  have l1o : ("1/" : Str).length = 2 := by decide +kernel
  have l10 : ("1_0/" : Str).length = 4 := by decide +kernel
  have l010 : ("0 1 0" : Str).length = 5 := by decide +kernel
  have lm : ("mead " : Str).length = 5 := by decide +kernel
  have l12 : ("1 2 " : Str).length = 4 := by decide +kernel
  have oc5 : occs z ("mead " : Str) ≤ 43 := Nat.le_trans (occs_le (c := 32) (by decide +kernel)) hbl
  have oc4 : occs z ("1 2 " : Str) ≤ 43 := Nat.le_trans (occs_le (c := 32) (by decide +kernel)) hbl
  have oc01 : occs z ("0 1 " : Str) ≤ 43 := Nat.le_trans (occs_le (c := 32) (by decide +kernel)) hbl
  have ocz : ∀ y : Str, occs z y ≤ 40001 := fun y => Nat.le_trans (StrLaws.occ_length_le z y 0 z.length (z.length + 1)) (by omega)
  have oce := ocz ("end" : Str)
  have ocn := ocz ("\n" : Str)
  have oco := ocz ("/" : Str)
  have oc1 := ocz ("1/" : Str)
  refine ⟨_, (pss_bin (i := 2) sc_law_odd.nd rfl (.inl rfl) op_mulS (pe_int)
      (psst_cons (PST.of (ps_set (i := 3) sc_law_odd.nd rfl (.inl rfl) (pe_lst (pa_cons (pe_op o_catS (pv 0) (pe_str)) (pa_cons (pe_op o_catS (pv 0) (pe_str)) (pa_cons (pe_op o_catS (pe_str) (pv 0)) (pa_cons (pe_slice sl_str (pv 0) po_none (po_some (pe_un un_neg (pe_int)))) (pa_cons (pe_str) (pa_cons (pe_str) (pa_cons (pe_str) (pa_cons (pe_op o_catS (pv 0) (pv 0)) pa_nil)))))))))))
      (psst_cons (pst_set (i := 3) sc_law_odd.nd rfl (.inl rfl) (CwR.pet_op op_cat (CwR.PET.of (pv 3)) (pet_lst (pat_cons (pet_repC (pv 0) (by decide +kernel)) (pat_cons (pet_repC (pv 0) (by decide +kernel)) (pat_cons (pet_repC (pv 0) (by decide +kernel)) pat_nil))))))
      (psst_cons (pst_set (i := 3) sc_law_odd.nd rfl (.inl rfl) (CwR.pet_op op_cat (CwR.PET.of (pv 3)) (pet_lst (pat_cons (pet_repC (pv 0) (by decide +kernel)) (pat_cons (pet_repA (pv 0) (pv 2) (by decide +kernel)) (pat_cons (pet_repC (pv 0) (by decide +kernel)) pat_nil))))))
      (psst_cons (pst_set (i := 3) sc_law_odd.nd rfl (.inl rfl) (CwR.pet_op op_cat (CwR.PET.of (pv 3)) (pet_lst (pat_cons (pet_repA (pv 0) (pe_op op_mulS (pe_str) (pe_int)) (by decide +kernel)) (pat_cons (pet_repA (pv 0) (pe_op op_mulS (pe_str) (pe_int)) (by decide +kernel)) pat_nil)))))
      (CwR.psst_one (CwR.pst_ret (pet_ix (ix_listK (K := K)) (CwR.pet_op op_cat (CwR.PET.of (pv 3)) (pet_lst (pat_cons (pet_repC (pv 0) (by decide +kernel)) pat_nil))) (pe_op op_mod (pe_ix (ix_listK (K := K)) (pv 1) (pe_int) (fun _ _ => rfl)) (pe_int)) (fun _ _ => rfl))))))))), ?_⟩
  walk_at "st"
  refine Pm.w_mulS ⟨by decide +kernel, by decide +kernel, by decide +kernel⟩ ?_
  obtain ⟨lg, hlg⟩ : ∃ lg, lg = PySem.Txt.mul ("1" : Str) 399 := ⟨_, rfl⟩
  have lgl : lg.length = 399 := by rw [hlg, len_mul_eq _ (by decide), l1]; rfl
  rw [← hlg]
  clear hlg
  walk_at "st"
  refine Pm.w_catS (size_ok (by omega)) ?_
  walk_at "st"
  refine Pm.w_catS (size_ok (by omega)) ?_
  walk_at "st"
  refine Pm.w_catS (size_ok (by omega)) ?_
  walk_at "st"
  refine Pm.w_slS (size_ok (by omega)) ?_
  have lcut := len_cut z none (some (-1))
  walk_at "st"
  refine Pm.w_catS (size_ok (by omega)) ?_
  walk_at "st"
  refine w_newLS (B := 300000) (k := 8) ⟨⟨_, rfl, by rw [len_app]; omega⟩, ⟨_, rfl, by rw [len_app]; omega⟩, ⟨_, rfl, by rw [len_app]; omega⟩, ⟨_, rfl, by omega⟩, ⟨_, rfl, by rw [le0]; omega⟩, ⟨_, rfl, by omega⟩, ⟨_, rfl, by rw [lm3]; omega⟩, ⟨_, rfl, by rw [len_app]; omega⟩, trivial⟩ rfl (fun p1 ys1 hp1 ha1 hl1 => ?_)
  have s1 := same_new hp1 (.lst ys1)
  have f1 : (upd H p1 (.lst ys1)) p1 = some (.lst ys1) := upd_same
  generalize upd H p1 (.lst ys1) = H1 at s1 f1 ⊢
  -- the second row
  walk_at "st"
  refine Pm.w_repC1 (room3 hsl oc5 (Nat.le_of_eq lm0) (by decide)) ?_
  walk_at "st"
  refine Pm.w_repC1 (room3 hsl oce (Nat.le_of_eq lE) (by decide)) ?_
  walk_at "st"
  refine Pm.w_repC1 (room3 hsl ocn (Nat.le_of_eq lbn) (by decide)) ?_
  walk_at "st"
  refine w_newLS (B := 300000) (k := 3) ⟨⟨_, rfl, Nat.le_trans (rep_len _ _ _) (room3 hsl oc5 (Nat.le_of_eq lm0) (by decide))⟩, ⟨_, rfl, Nat.le_trans (rep_len _ _ _) (room3 hsl oce (Nat.le_of_eq lE) (by decide))⟩, ⟨_, rfl, Nat.le_trans (rep_len _ _ _) (room3 hsl ocn (Nat.le_of_eq lbn) (by decide))⟩, trivial⟩ rfl (fun p2 ys2 hp2 ha2 hl2 => ?_)
  have s2 := same_new hp2 (.lst ys2)
  have f12 := s2 _ _ f1
  refine Pm.w_cat f12 upd_same (size_ok (by omega)) (fun p3 hp3 => ?_)
  have s3 := same_new hp3 (.lst (ys1 ++ ys2))
  have f3 : (upd (upd H1 p2 (.lst ys2)) p3 (.lst (ys1 ++ ys2))) p3 = some (.lst (ys1 ++ ys2)) := upd_same
  have s13 := s1.trans (s2.trans s3)
  have a3 := ha1.app ha2
  have l3 : (ys1 ++ ys2).length = 11 := by rw [List.length_append]; omega
  generalize upd (upd H1 p2 (.lst ys2)) p3 (.lst (ys1 ++ ys2)) = H3 at s13 f3 ⊢
  clear s2 s3 f12 s1 f1 hp1 hp2 hp3 ha1 ha2 hl1 hl2
  generalize ys1 ++ ys2 = y3 at f3 a3 l3 ⊢
  walk_at "st"
  refine Pm.w_repC1 (room3 hsl oco (Nat.le_of_eq l1o) (by decide)) ?_
  walk_at "st"
  refine Pm.w_repB  (by omega) (by omega) (by rw [sizeLine_eq]; omega) (room3 hsl oc4 (show _ ≤ 5005 by omega) (by decide)) ?_
  walk_at "st"
  refine Pm.w_repC1 (room3 hsl oc01 (Nat.le_of_eq l010) (by decide)) ?_
  walk_at "st"
  refine w_newLS (B := 300000) (k := 3) ⟨⟨_, rfl, Nat.le_trans (rep_len _ _ _) (room3 hsl oco (Nat.le_of_eq l1o) (by decide))⟩, ⟨_, rfl, Nat.le_trans (rep_len _ _ _) (room3 hsl oc4 (show _ ≤ 5005 by rw [len_app]; omega) (by decide))⟩, ⟨_, rfl, Nat.le_trans (rep_len _ _ _) (room3 hsl oc01 (Nat.le_of_eq l010) (by decide))⟩, trivial⟩ rfl (fun p4 ys4 hp4 ha4 hl4 => ?_)
  have s4 := same_new hp4 (.lst ys4)
  have f34 := s4 _ _ f3
  refine Pm.w_cat f34 upd_same (size_ok (by omega)) (fun p5 hp5 => ?_)
  have s5 := same_new hp5 (.lst (y3 ++ ys4))
  have f5 : (upd (upd H3 p4 (.lst ys4)) p5 (.lst (y3 ++ ys4))) p5 = some (.lst (y3 ++ ys4)) := upd_same
  have s15 := s13.trans (s4.trans s5)
  have a5 := a3.app ha4
  have l5 : (y3 ++ ys4).length = 14 := by rw [List.length_append]; omega
  generalize upd (upd H3 p4 (.lst ys4)) p5 (.lst (y3 ++ ys4)) = H5 at s15 f5 ⊢
  clear s4 s5 f34 s13 f3 hp4 hp5 a3 ha4 l3 hl4
  generalize y3 ++ ys4 = y5 at f5 a5 l5 ⊢
  walk_at "st"
  refine Pm.w_mulS ⟨by decide +kernel, by decide +kernel, by decide +kernel⟩ ?_
  obtain ⟨m5, hm5⟩ : ∃ m, m = PySem.Txt.mul ("1" : Str) 5000 := ⟨_, rfl⟩
  have m5l : m5.length = 5000 := by rw [hm5, len_mul_eq _ (by decide), l1]; rfl
  rw [← hm5]
  clear hm5
  refine Pm.w_repB  (by omega) (by omega) (by rw [sizeLine_eq]; omega) (room3 hsl oc5 (show _ ≤ 5005 by omega) (by decide)) ?_
  walk_at "st"
  refine Pm.w_mulS ⟨by decide +kernel, by decide +kernel, by decide +kernel⟩ ?_
  obtain ⟨m6, hm6⟩ : ∃ m, m = PySem.Txt.mul ("1" : Str) 5000 := ⟨_, rfl⟩
  have m6l : m6.length = 5000 := by rw [hm6, len_mul_eq _ (by decide), l1]; rfl
  rw [← hm6]
  clear hm6
  refine Pm.w_repB  (by omega) (by omega) (by rw [sizeLine_eq]; omega) (room3 hsl oc4 (show _ ≤ 5005 by omega) (by decide)) ?_
  walk_at "st"
  refine w_newLS (B := 300000) (k := 2) ⟨⟨_, rfl, Nat.le_trans (rep_len _ _ _) (room3 hsl oc5 (show _ ≤ 5005 by rw [len_app]; omega) (by decide))⟩, ⟨_, rfl, Nat.le_trans (rep_len _ _ _) (room3 hsl oc4 (show _ ≤ 5005 by rw [len_app]; omega) (by decide))⟩, trivial⟩ rfl (fun p6 ys6 hp6 ha6 hl6 => ?_)
  have s6 := same_new hp6 (.lst ys6)
  have f56 := s6 _ _ f5
  refine Pm.w_cat f56 upd_same (size_ok (by omega)) (fun p7 hp7 => ?_)
  have s7 := same_new hp7 (.lst (y5 ++ ys6))
  have f7 : (upd (upd H5 p6 (.lst ys6)) p7 (.lst (y5 ++ ys6))) p7 = some (.lst (y5 ++ ys6)) := upd_same
  have s17 := s15.trans (s6.trans s7)
  have a7 := a5.app ha6
  have l7 : (y5 ++ ys6).length = 16 := by rw [List.length_append]; omega
  generalize upd (upd H5 p6 (.lst ys6)) p7 (.lst (y5 ++ ys6)) = H7 at s17 f7 ⊢
  clear s6 s7 f56 s15 f5 hp6 hp7 a5 ha6 l5 hl6
  generalize y5 ++ ys6 = y7 at f7 a7 l7 ⊢
  walk_at "st"
  refine Pm.w_repC1 (room3 hsl oc1 (Nat.le_of_eq l10) (by decide)) ?_
  walk_at "st"
  refine w_newLS (B := 300000) (k := 1) ⟨⟨_, rfl, Nat.le_trans (rep_len _ _ _) (room3 hsl oc1 (Nat.le_of_eq l10) (by decide))⟩, trivial⟩ rfl (fun p8 ys8 hp8 ha8 hl8 => ?_)
  have s8 := same_new hp8 (.lst ys8)
  have f78 := s8 _ _ f7
  refine Pm.w_cat f78 upd_same (size_ok (by omega)) (fun p9 hp9 => ?_)
  have s9 := same_new hp9 (.lst (y7 ++ ys8))
  have s19 := s17.trans (s8.trans s9)
  have a9 := a7.app ha8
  have l9 : (y7 ++ ys8).length = 17 := by rw [List.length_append]; omega
  walk_at "st"
  refine Pm.w_ixL (s19.seq hR) (atI_int (by omega) (by omega)) ?_
  walk_at "st"
  obtain ⟨k, hk, kl⟩ : ∃ k : Nat, row.getD (1 : Int).toNat 0 % 17 = k ∧ k < 17 := ⟨(row.getD (1 : Int).toNat 0 % 17).toNat, by omega, by omega⟩
  rw [hk]
  obtain ⟨y, ey, hy⟩ := a9.get (i := k) (by omega)
  refine Pm.w_ixL (SqL.of upd_same) (atI_nat ey) ?_
  exact q y _ s19 hy
end
section
open TL
variable {P : Program} {w : World} {K : PySem.W.Frag} {mg : Str → Option Value} {base : Heap}
def spIsAt47 (K : PySem.W.Frag) (C : Addr) : Sp := fun vs H Q _ => ∃ (p z c d : Addr) (H0 Hs : Hp) (S : Ms) (P A : List (Deed × Ms)), vs = [.ref p, .ref z] ∧ MeadAt K C H0 Hs H p S P A ∧ StA K H0 z c d S ∧ TieW S 1900 ∧ ∀ H', Same H H' → Q (.bl true) H'
theorem ok_law_is_at47 (T : Tx P K mg base) : FnOk P w K mg base CX0 44 T.a_law_is_at T.fd_law_is_at (["_law_mead", "_law_state"]) (spIsAt47 K T.c_Mead) := by
  refine T.F_law_is_at.ok sc_law_is_at (fun vs H Q E h => ?_) (fun cdv A outer s H vs Q E hr h => ?_)
  · obtain ⟨p, z, c, d, H0, Hs, S, P, A, rfl, _⟩ := h
    rfl
  obtain ⟨p, z, c0, d0, H0, Hs, S, P, A, rfl, M, hst, tw, q⟩ := h
  obtain ⟨hz, hc0, hd0⟩ := id hst
  obtain ⟨dx, lp, la, c, d, vs, us, p0, l0, a0, ps, ls, as, nla, hp, hlp, hla, hc, hd, hP, hA⟩ := M.ex
  have lno : ∀ {k : Str}, (k == "cut") = false → (k == "many") = false → (k == "sized") = false → (k == "past") = false → (k == "ahead") = false → (mf (.ref c) (.int S.n) (.ref d) (.ref lp) (.ref la)).lookup k = none := fun h1 h2 h3 h4 h5 => mf_no _ _ _ _ _ h1 h2 h3 h4 h5
  refine ⟨_, (pss_cons (ps_set (i := 2) sc_law_is_at.nd rfl (.inl rfl) (pe_meth0 (pv 0) T.cl_Mead T.M_Mead_posts (ok_Mead_posts T) (hr.mono (by decide)) T.b_Mead_posts .nil pass0 ))
      (pss_cons (ps_if (PW.pt (pw_or (pt_not (pt_val (pe_call (ok_law_whole T) (hr.mono (by decide)) (by rfl) T.g_law_whole T.F_law_whole.kp T.b_law_whole .nil pass0 (pa_cons (pv 2) pa_nil)))) (pw_or1 (pt_cmpR op_ne (pv 2) (pe_ix (ix_tupK (K := K)) (pv 1) (pe_int) (fun _ _ => rfl)) (nomark _))))) (pss_one (ps_ret (pe_bl))) pss_nil)
      (pss_cons (ps_set (i := 3) sc_law_is_at.nd rfl (.inl rfl) (pe_meth0 (pv 0) T.cl_Mead T.M_Mead_ropes (ok_Mead_ropes T) (hr.mono (by decide)) T.b_Mead_ropes .nil pass0 ))
      (pss_cons (ps_if (PW.pt (pw_or (pt_not (pt_val (pe_call (ok_law_list T) (hr.mono (by decide)) (by rfl) T.g_law_list T.F_law_list.kp T.b_law_list .nil pass0 (pa_cons (pv 3) (pa_cons (pe_int) pa_nil))))) (pw_or1 (pt_cmpR (op_neDK (K := K) hr.units) (pv 3) (pe_ix (ix_tupK (K := K)) (pv 1) (pe_int) (fun _ _ => rfl)) (nomark _))))) (pss_one (ps_ret (pe_bl))) pss_nil)
      (pss_one (ps_ret (pe_call (ok_law_dict T) (hr.mono (by decide)) (by rfl) T.g_law_dict T.F_law_dict.kp T.b_law_dict .nil pass0 (pa_cons (pe_meth0 (pv 0) T.cl_Mead T.M_Mead_lengths (ok_Mead_lengths T) (hr.mono (by decide)) T.b_Mead_lengths .nil pass0 ) (pa_cons (pe_ix (ix_tupK (K := K)) (pv 1) (pe_int) (fun _ _ => rfl)) pa_nil))))))))), ?_⟩
  walk_at "st"
  refine w_methAt hp (lno (by decide +kernel) (by decide +kernel) (by decide +kernel) (by decide +kernel) (by decide +kernel)) ?_
  walk_at "st"
  refine ⟨p, H0, Hs, S, P, A, rfl, M, ?_⟩
  walk_at "st"
  refine ⟨_, rfl, ?_⟩
  walk_at "st"
  refine Pm.w_ixT (SqT.of (M.s0 _ _ hz)) rfl ?_
  walk_at "st"
  refine Pm.w_iteN (fun z => absurd rfl z) (fun _ => ?_)
  walk_at "st"
  refine w_methAt hp (lno (by decide +kernel) (by decide +kernel) (by decide +kernel) (by decide +kernel) (by decide +kernel)) ?_
  walk_at "st"
  refine ⟨p, H0, Hs, S, P, A, rfl, M, fun l H1 s1 nl hl => ?_⟩
  obtain ⟨lv, hlv, hplv⟩ := id hl
  obtain ⟨cv, hcv, hpcv⟩ := (hc0.same M.s0).same s1
  walk_at "st"
  refine ⟨l, lv, 2, rfl, SqL.of hlv, fun x hx => ?_, ?_⟩
  · obtain ⟨pp, _, u, rfl, hu⟩ := hplv.mem hx
    exact ⟨u, [pp.1, pp.2], rfl, SqT.of hu, rfl⟩
  walk_at "st"
  refine Pm.w_ixT (SqT.of (s1 _ _ (M.s0 _ _ hz))) rfl ?_
  refine Pm.w_nePL (SqL.of hlv) hplv (SqL.of hcv) hpcv ?_
  walk_at "st"
  refine Pm.w_iteN (fun z => absurd rfl z) (fun _ => ?_)
  walk_at "st"
  obtain ⟨H0', Hs', g1, g2, M1, f1⟩ := M.grow s1
  have hp1 := s1 _ _ hp
  refine w_methAt hp1 (lno (by decide +kernel) (by decide +kernel) (by decide +kernel) (by decide +kernel) (by decide +kernel)) ?_
  walk_at "st"
  refine ⟨p, H0', Hs', S, P, A, rfl, M1, fun g H2 s2 ng hg => ?_⟩
  have s12 := s1.trans s2
  walk_at "st"
  refine Pm.w_ixT (SqT.of (s12 _ _ (M.s0 _ _ hz))) rfl ?_
  walk_at "st"
  have hd1 := (hd0.same M.s0).same s1
  obtain ⟨kf, Lf, mf1, _, _⟩ := hg
  obtain ⟨kd, Ld1, md1, _, _⟩ := hd1
  have ne : g ≠ d0 := by
    obtain ⟨_, es, h1, _⟩ := id Ld1
    exact (ne_of_none h1 ng).symm
  refine ⟨g, d0, kf, kd, _, _, fun k => S.D k.1.toNat k.2.toNat, 1900, rfl, Lf, Ld1.same s2, ne, fun p => (mf1 p).trans (md1 p).symm, fun p hp => ⟨rfl, rfl, tw p ((md1 p).mp hp)⟩, by decide, fun H3 s3 => q _ (s12.trans s3)⟩
/-- figures of ones -/
theorem mem_fold {α : Type} (a : Array α) : ∀ (k : Nat) (b : Array α) (c : α), c ∈ ((List.replicate k a).foldl (· ++ ·) b).toList → c ∈ b.toList ∨ c ∈ a.toList
  | 0, b, c, h => .inl h
  | k + 1, b, c, h => by
    rw [List.replicate_succ, List.foldl_cons] at h
    rcases mem_fold a k (b ++ a) c h with m | m
    · rw [Array.toList_append] at m
      rcases List.mem_append.mp m with m | m
      · exact .inl m
      · exact .inr m
    · exact .inr m
theorem ones_all {n : Int} : ∀ c ∈ tl (PySem.Txt.mul ("1" : Str) n), c = 49 := by
  intro c hc
  have t1 : tl ("1" : Str) = [49] := by decide +kernel
  have h1 : ∀ c ∈ tl ("1" : Str), c = 49 := fun c hc => by rw [t1] at hc; exact List.mem_singleton.mp hc
  unfold PySem.Txt.mul at hc
  split at hc
  · exact absurd hc List.not_mem_nil
  · split at hc
    · exact h1 c hc
    · rcases mem_fold _ _ _ _ hc with m | m
      · exact absurd m List.not_mem_nil
      · exact h1 c m
theorem w_ones {H : Hp} {Q : VK} {n : Int} (h : n = 400 ∨ n = 401) (q : ∀ (a : Str) (N : Nat), a.length ≤ 401 → PySem.intText? a = some (N : Int) → N < 10 ^ 401 → Q (.str a) H) : rMulS (.str "1") (.int n) H Q := by
  have l1 : ("1" : Str).length = 1 := by decide +kernel
  have ok : MulOk ("1" : Str) n := by
    rcases h with rfl | rfl <;> exact ⟨by decide +kernel, by decide +kernel, by decide +kernel⟩
  refine Pm.w_mulS ok ?_
  have len : (PySem.Txt.mul ("1" : Str) n).length = n.toNat := by rw [len_mul_eq _ (by omega), l1, Nat.one_mul]
  have dig : ∀ c ∈ tl (PySem.Txt.mul ("1" : Str) n), 48 ≤ c ∧ c ≤ 57 := fun c hc => by rw [ones_all c hc]; decide
  have ne : tl (PySem.Txt.mul ("1" : Str) n) ≠ [] := fun z => by
    rw [len_tl, z] at len
    have : (0 : Nat) = n.toNat := len
    omega
  refine q _ (NumText.digitsVal (tl (PySem.Txt.mul ("1" : Str) n))) (by omega) (PySem.intText_digits dig ne (by omega)) ?_
  have h3 := digits_lt (tl (PySem.Txt.mul ("1" : Str) n)) 0 0 dig (by decide)
  rw [Nat.zero_add, ← len_tl] at h3
  exact Nat.lt_of_lt_of_le h3 (Nat.pow_le_pow_right (by decide) (by omega))
theorem ten401 : (10 : Nat) ^ 401 < 2 ^ 1900 := by decide +kernel
def spLaw (K : PySem.W.Frag) : Sp := fun vs H Q _ => ∃ (a : Addr) (ns : List Int), vs = [.ref a] ∧ SqL K H a (ns.map V.int) ∧ ns.length ≤ 63 ∧ ∀ H', Q (.bl true) H'
theorem ok_law (T : Tx P K mg base) : FnOk P w K mg base CX0 58 T.a_law T.fd_law ["_law_script"] (spLaw K) := by
  refine T.F_law.ok sc_law (fun vs H Q E h => ?_) (fun cdv A outer s H vs Q E hr h => ?_)
  · obtain ⟨a, ns, rfl, _⟩ := h
    rfl
  obtain ⟨sc, ns, rfl, hS, hl, q⟩ := h
  have lm : ∀ {q : Addr} {H0 Hs H : Hp} {S : Ms} {P A : List (Deed × Ms)} {m : Str} {R : V → Hp → Prop}, MeadAt K T.c_Mead H0 Hs H q S P A → (m == "cut") = false → (m == "many") = false → (m == "sized") = false → (m == "past") = false → (m == "ahead") = false → R (.ref q) H → MethK T.c_Mead m R (.ref q) H := by
    intro q H0 Hs H S P A m R M e1 e2 e3 e4 e5 h
    obtain ⟨dx', lp', la', cc, dc, vs', us', q0, q1, q2, q3, q4, q5, q6, hp', _⟩ := M.ex
    exact w_methAt hp' (mf_no _ _ _ _ _ e1 e2 e3 e4 e5) h
  refine ⟨_, (pss_cons (ps_set (i := 1) sc_law.nd rfl (.inl rfl) (pe_call (ok_law_flow T) (hr.mono (by decide)) (by rfl) T.g_law_flow T.F_law_flow.kp T.b_law_flow .nil pass0 (pa_cons (pv 0) (pa_cons (pe_int) pa_nil))))
      (pss_cons (ps_set (i := 2) sc_law.nd rfl (.inl rfl) (pe_call (ok_law_start T) (hr.mono (by decide)) (by rfl) T.g_law_start T.F_law_start.kp T.b_law_start .nil pass0 (pa_cons (pe_slice (sl_listK (K := K)) (pv 1) (po_some (pe_int)) po_none) pa_nil)))
      (C8.pss_cut (ps_if (pt_cmpR op_eq (pe_op op_mod (pe_ix (ix_listK (K := K)) (pv 1) (pe_int) (fun _ _ => rfl)) (pe_int)) (pe_int) (nomark _)) (pss_cons (ps_set (i := 3) sc_law.nd rfl (.inl rfl) (pe_ix (ix_listK (K := K)) (pe_call (ok_law_ties T) (hr.mono (by decide)) (by rfl) T.g_law_ties T.F_law_ties.kp T.b_law_ties .nil pass0 (pa_cons (pe_ix (ix_tupK (K := K)) (pv 2) (pe_int) (fun _ _ => rfl)) (pa_cons (pe_ix (ix_tupK (K := K)) (pv 2) (pe_int) (fun _ _ => rfl)) pa_nil))) (pe_op op_mod (pe_ix (ix_listK (K := K)) (pv 1) (pe_int) (fun _ _ => rfl)) (pe_op op_sub (pe_op op_mul (pe_int) (pe_ix (ix_tupK (K := K)) (pv 2) (pe_int) (fun _ _ => rfl))) (pe_int))) (fun _ _ => rfl)))
      (pss_one (ps_dput (hu_of hr) (pe_ix (ix_tupK (K := K)) (pv 2) (pe_int) (fun _ _ => rfl)) (pv 3) (pe_tup (pa_cons (pe_callTy c_intS (by rfl) T.m_int (by decide +kernel) (pa_cons (pe_op op_mulS (pe_str) (pe_op op_add (pe_int) (pe_op op_mod (pe_ix (ix_listK (K := K)) (pv 1) (pe_int) (fun _ _ => rfl)) (pe_int)))) pa_nil)) (pa_cons (pe_int) pa_nil))) rfl))) pss_nil)
      (pss_cons (ps_set (i := 4) sc_law.nd rfl (.inl rfl) (pe_call (ok_law_sheet T) (hr.mono (by decide)) (by rfl) T.g_law_sheet T.F_law_sheet.kp T.b_law_sheet .nil pass0 (pa_cons (pv 2) pa_nil)))
      (pss_cons (ps_set (i := 5) sc_law.nd rfl (.inl rfl) (pe_op op_mod (pe_op op_fdiv (pe_ix (ix_listK (K := K)) (pv 1) (pe_int) (fun _ _ => rfl)) (pe_int)) (pe_int)))
      (C8.pss_cut (ps_if (pt_cmpR op_eq (pv 5) (pe_int) (nomark _)) (pss_one (ps_set (i := 4) sc_law.nd rfl (.inl rfl) (pe_call (ok_law_signs T) (hr.mono (by decide)) (by rfl) T.g_law_signs T.F_law_signs.kp T.b_law_signs .nil pass0 (pa_cons (pv 4) (pa_cons (pv 1) pa_nil))))) pss_nil)
      (C8.pss_cut (ps_if (pt_cmpR op_eq (pv 5) (pe_int) (nomark _)) (pss_one (ps_set (i := 4) sc_law.nd rfl (.inl rfl) (pe_call (ok_law_lines T) (hr.mono (by decide)) (by rfl) T.g_law_lines T.F_law_lines.kp T.b_law_lines .nil pass0 (pa_cons (pv 4) (pa_cons (pv 1) (pa_cons (pe_ix (ix_tupK (K := K)) (pv 2) (pe_int) (fun _ _ => rfl)) pa_nil)))))) pss_nil)
      (C8.pss_cut (ps_if (pt_cmpR op_eq (pv 5) (pe_int) (nomark _)) (pss_one (ps_set (i := 4) sc_law.nd rfl (.inl rfl) (pe_call (ok_law_odd T) (hr.mono (by decide)) (by rfl) T.g_law_odd T.F_law_odd.kp T.b_law_odd .nil pass0 (pa_cons (pv 4) (pa_cons (pv 1) pa_nil))))) pss_nil)
      (pss_cons (ps_set (i := 6) sc_law.nd rfl (.inl rfl) (pe_call (ok_law_unsheet T) (hr.mono (by decide)) (by rfl) T.g_law_unsheet T.F_law_unsheet.kp T.b_law_unsheet .nil pass0 (pa_cons (pv 4) pa_nil)))
      (pss_cons (ps_try_as (i := 8) rfl rfl sc_law.nd rfl rfl ⟨rfl, by decide, .inl T.g_MeadError⟩ takes0 (fun W pn xe tk _ => (pss_one (ps_set (i := 7) sc_law.nd rfl (.inl rfl) (by exact (pe_callS (ok_mead_read T) (hr.mono (by decide)) (by rfl) T.g_mead_read T.F_mead_read.kp T.b_mead_read (fun q => passAt tk q) (by exact (pa_cons (pv 4) pa_nil))))))) (fun a oe cls d pn hz hf => (pss_one (ps_ret ((pe_and (pe_cmpR op_isNK (pv 6) (pe_non) (nomark _)) (pe_one (pe_callB (c_isX (K := K) hz hf) (by rfl) T.m_isinstance (by decide +kernel) (pa_cons (pv 8) (pa_cons (pe_glob (v := .ref T.c_BadSheet) (by rfl) T.g_BadSheet rfl) pa_nil))))))))))
      (pss_one (ps_ret ((pe_and (pe_cmpR op_notNK (pv 6) (pe_non) (nomark _)) (pe_and (pe_call (ok_law_is_at47 T) (hr.mono (by decide)) (by rfl) T.g_law_is_at T.F_law_is_at.kp T.b_law_is_at .nil pass0 (pa_cons (pv 7) (pa_cons (pv 6) pa_nil))) (pe_one (pe_cmpR (op_eqDK (K := K) hr.units) (pe_meth0 (pv 7) T.cl_Mead T.M_Mead_deeds (ok_Mead_deeds T) (hr.mono (by decide)) T.b_Mead_deeds .nil pass0 ) (pe_lst pa_nil) (nomark _)))))))))))))))))), ?_⟩
  walk_at "st"
  refine ⟨sc, ns, 56, rfl, hS, by decide, fun row H1 r hrow hb s1 nr hr1 => ?_⟩
  have hR : SqL K H1 r (row.map V.int) := SqL.of hr1
  walk_at "st"
  refine Pm.w_slL hR (fun p1 hp1 => ?_)
  rw [cut_drop (by decide) (by rw [List.length_map, hrow]; decide), ← List.map_drop]
  have s2 := same_new hp1 (.lst ((row.drop (10 : Int).toNat).map V.int))
  walk_at "st"
  refine ⟨p1, row.drop (10 : Int).toNat, rfl, SqL.of upd_same, by rw [List.length_drop, hrow]; decide, fun x hx => (hb x (List.mem_of_mem_drop hx)).1, fun z c d H3 S s3 nz nc nd hst ok tb => ?_⟩
  have s13 := s2.trans s3
  have n3 := ok.n3
  have n12 := ok.1
  obtain ⟨_, t, _, _, C, _⟩ := id ok
  have tll := C.ties_len
  have cl := C.cut_len
  have tw0 : TieW S 1900 := fun k hk => ⟨Nat.lt_of_le_of_lt (tb k hk).2.1 (Nat.lt_of_lt_of_le (show 1024 < 2 ^ 11 by decide) (Nat.pow_le_pow_right (by decide) (by decide))), Nat.lt_of_le_of_lt (tb k hk).2.2 (Nat.lt_of_lt_of_le (show 128 < 2 ^ 11 by decide) (Nat.pow_le_pow_right (by decide) (by decide)))⟩
  have hr3 := s13 _ _ hr1
  clear ok tb
  walk_at "st"
  refine Pm.w_cut (fun σ' H' => ∃ (x : Option V) (S' : Ms), σ' = [some (.ref sc), some (.ref r), some (.ref z), x, none, none, none, none, none] ∧ H' r = some (.lst (row.map V.int)) ∧ StA K H' z c d S' ∧ Cutting S'.n S'.cut t ∧ S'.n ≤ 12 ∧ TieW S' 1900) ?_ ?_
  · walk_at "st"
    refine Pm.w_ixL (SqL.of hr3) (atI_int (by omega) (by omega)) ?_
    walk_at "st"
    refine Pm.w_ite (fun e => ?_) (fun e => ?_)
    · walk_at "st"
      refine Pm.w_ixT (SqT.of hst.1) rfl ?_
      walk_at "st"
      refine Pm.w_ixT (SqT.of hst.1) rfl ?_
      walk_at "st"
      refine ⟨S.n, c, S.cut, rfl, by omega, by omega, hst.2.1, by omega, fun l H5 ys s5 nl f5 hys => ?_⟩
      have yl := hys.length
      have hst5 := hst.same s5
      have hr5 := s5 _ _ hr3
      walk_at "st"
      refine Pm.w_ixL (SqL.of hr5) (atI_int (by omega) (by omega)) ?_
      walk_at "st"
      refine Pm.w_ixT (SqT.of hst5.1) rfl ?_
      walk_at "st"
      obtain ⟨i, hi, il⟩ : ∃ i : Nat, row.getD (8 : Int).toNat 0 % (2 * (S.n : Int) - 3) = i ∧ i < ys.length := ⟨(row.getD (8 : Int).toNat 0 % (2 * (S.n : Int) - 3)).toNat, by have := Int.emod_nonneg (row.getD (8 : Int).toNat 0) (show (2 * (S.n : Int) - 3) ≠ 0 by omega); omega, by have := Int.emod_lt_of_pos (row.getD (8 : Int).toNat 0) (show 0 < 2 * (S.n : Int) - 3 by omega); have := Int.emod_nonneg (row.getD (8 : Int).toNat 0) (show (2 * (S.n : Int) - 3) ≠ 0 by omega); omega⟩
      rw [hi]
      obtain ⟨k, hk, tt, et, htt⟩ := hys.get (List.getElem?_eq_getElem il)
      have mk := List.mem_of_getElem? hk
      refine Pm.w_ixL (SqL.of f5) (atI_nat (by rw [List.getElem?_eq_getElem il, et])) ?_
      walk_at "st"
      refine Pm.w_ixL (SqL.of hr5) (atI_int (by omega) (by omega)) ?_
      walk_at "st"
      refine w_ones (by omega) (fun a N al aN Nl => ?_)
      walk_at "st"
      refine Pm.w_intS aN (by omega) ?_
      walk_at "st"
      refine Pm.w_newT (fun u hu => ?_)
      have s6 := same_new hu (.tup [.int N, .int 1])
      have hst6 := hst5.same s6
      obtain ⟨ks, hL, hks, sm, kl⟩ := id hst6.2.2
      have mks := (hks k).mpr mk
      walk_at "st"
      refine Pm.w_ixT (SqT.of hst6.1) rfl ?_
      walk_at "st"
      obtain ⟨_, es0, hge, _⟩ := id hL
      refine w_ldPut (p := ((N : Int), 1)) hL ⟨tt, rfl, s6 _ _ htt⟩ ⟨u, rfl, .inl upd_same⟩ (by omega) (fun es7 hL7 k7 => ?_)
      rw [putk_old mks] at hL7
      have ndl : ∀ (b : Addr) (o : HO), upd H5 u (.tup [.int N, .int 1]) b = some o → (∀ es, o ≠ .dT es) → upd (upd H5 u (.tup [.int N, .int 1])) d (.dT es7) b = some o := fun b o hb no => by
        rw [upd_ne (ne_of hb hge (no es0))]
        exact hb
      have kcast : ∀ {j : IP}, j ∈ tiesL S.n S.cut → ((j.1.toNat : Int), (j.2.toNat : Int)) = j := fun hj => by
        obtain ⟨q0, hq0, rfl⟩ := C.ties.mp hj
        rfl
      refine ⟨_, ⟨S.n, S.cut, fun i j => if ((i : Int), (j : Int)) = k then (N : Rat) else S.D i j⟩, rfl, ndl _ _ (s6 _ _ hr5) (fun es z => nomatch z), ⟨ndl _ _ hst6.1 (fun es z => nomatch z), ?_, ks, ?_, hks, sm, kl⟩, C, n12, ?_⟩
      · obtain ⟨cv, h1, h2⟩ := hst6.2.1
        exact ⟨cv, ndl _ _ h1 (fun es z => nomatch z), prs_keep k7 h2⟩
      · refine hL7.congr fun j hj => ?_
        show rp (if ((j.1.toNat : Int), (j.2.toNat : Int)) = k then (N : Rat) else S.D j.1.toNat j.2.toNat) = _
        rw [kcast ((hks j).mp hj)]
        by_cases c9 : j = k
        · rw [if_pos c9, c9, updF_same]
          rfl
        · rw [if_neg c9, updF_ne c9]
      · intro j hj
        show rb (if ((j.1.toNat : Int), (j.2.toNat : Int)) = k then (N : Rat) else S.D j.1.toNat j.2.toNat) 1900
        by_cases c9 : ((j.1.toNat : Int), (j.2.toNat : Int)) = k
        · rw [if_pos c9]
          exact ⟨by show ((N : Rat).num).natAbs < _; rw [Rat.num_natCast, Int.natAbs_natCast]; exact Nat.lt_trans Nl ten401, by show (N : Rat).den < _; rw [Rat.den_natCast]; exact Nat.one_lt_two_pow (by decide)⟩
        · rw [if_neg c9]
          exact tw0 j hj
    · walk_at "st"
      exact ⟨_, S, rfl, hr3, hst, C, n12, tw0⟩
  clear hst C n12 tw0 n3 tll cl
  rintro σ4 H4 ⟨x4, S, rfl, hr4, hst, C, n12, tw⟩
  have hsl := sheet_len C n12 tw
  walk_at "st"
  refine ⟨z, c, d, S, t, rfl, hst, C, n12, tw, fun H5 s5 => ?_⟩
  have hr5 := s5 _ _ hr4
  have hst5 := hst.same s5
  clear hst hr4
  walk_at "st"
  refine Pm.w_ixL (SqL.of hr5) (atI_int (by omega) (by omega)) ?_
  walk_at "st"
  generalize row.getD (0 : Int).toNat 0 / 8 % 4 = wy
  refine Pm.w_cut (fun σ' H' => ∃ y : Str, σ' = [some (.ref sc), some (.ref r), some (.ref z), x4, some (.str y), some (.int wy), none, none, none] ∧ H' = H5 ∧ y.length ≤ 300000 ∧ ((2 : Int) ≤ wy → y = sheetOf S)) ?_ ?_
  · walk_at "st"
    refine Pm.w_ite (fun e => ?_) (fun e => ?_)
    · walk_at "st"
      refine ⟨sheetOf S, r, row, rfl, SqL.of hr5, by omega, by omega, fun y hy => ?_⟩
      exact ⟨y, rfl, rfl, by omega, fun h => absurd h (by omega)⟩
    · walk_at "st"
      exact ⟨sheetOf S, rfl, rfl, by omega, fun _ => rfl⟩
  rintro σ6 H6 ⟨y6, rfl, rfl, l6, e6⟩
  walk_at "st"
  refine Pm.w_cut (fun σ' H' => ∃ y : Str, σ' = [some (.ref sc), some (.ref r), some (.ref z), x4, some (.str y), some (.int wy), none, none, none] ∧ H' r = some (.lst (row.map V.int)) ∧ y.length ≤ 300000 ∧ ((3 : Int) ≤ wy → y = sheetOf S)) ?_ ?_
  · walk_at "st"
    refine Pm.w_ite (fun e => ?_) (fun e => ?_)
    · rw [e6 (by omega)]
      walk_at "st"
      refine Pm.w_ixT (SqT.of hst5.1) rfl ?_
      walk_at "st"
      refine ⟨S, t, r, row, rfl, C, n12, tw, SqL.of hr5, by omega, fun y H7 s7 hy => ?_⟩
      exact ⟨y, rfl, s7 _ _ hr5, by omega, fun h => absurd h (by omega)⟩
    · walk_at "st"
      exact ⟨y6, rfl, hr5, l6, fun h => e6 (by omega)⟩
  clear hst5 hr5 s5 e6 l6
  rintro σ7 H7 ⟨y7, rfl, hr7, l7, e7⟩
  walk_at "st"
  refine Pm.w_cut (fun σ' H' => ∃ y : Str, σ' = [some (.ref sc), some (.ref r), some (.ref z), x4, some (.str y), some (.int wy), none, none, none] ∧ y.length ≤ 300000) ?_ ?_
  · walk_at "st"
    refine Pm.w_ite (fun e => ?_) (fun e => ?_)
    · rw [e7 (by omega)]
      walk_at "st"
      refine ⟨S, t, r, row, rfl, C, n12, tw, SqL.of hr7, by omega, fun y H8 s8 hy => ?_⟩
      exact ⟨y, rfl, hy⟩
    · walk_at "st"
      exact ⟨y7, rfl, l7⟩
  clear hr7 e7 l7 C tw n12 hsl
  rintro σ8 H8 ⟨y, rfl, ly⟩
  by_cases good : ∃ S, GoodS S ∧ y = sheetOf S
  · obtain ⟨S, hG, rfl⟩ := good
    obtain ⟨⟨t9, C⟩, n12, _⟩ := id hG
    walk_at "st"
    refine ⟨sheetOf S, rfl, ly, .inr ⟨S, hG, rfl, fun t2 c2 d2 H9 s9 hst => ?_⟩⟩
    walk_at "st"
    refine ⟨sheetOf S, rfl, ly, .inr ⟨S, hG, rfl, fun p H0 Hs HA gA M => ?_⟩⟩
    have hstA := hst.same gA
    walk_at "st"
    refine Pm.w_notN_ref ?_
    walk_at "st"
    refine ⟨p, t2, c2, d2, H0, Hs, S, [], [], rfl, M, hstA, hG.tw, fun HB sB => ?_⟩
    obtain ⟨H0b, Hsb, gb, _, Mb, fb⟩ := M.grow sB
    walk_at "st"
    refine lm Mb (by decide +kernel) (by decide +kernel) (by decide +kernel) (by decide +kernel) (by decide +kernel) ?_
    walk_at "st"
    refine ⟨p, _, _, S, _, _, rfl, Mb, by decide, fun l8 H8 w8 s8 nl8 hl8 hw8 => ?_⟩
    have e8 : w8 = [] := List.length_eq_zero_iff.mp hw8.length
    subst e8
    walk_at "st"
    refine Pm.w_newL (fun l9 hl9 => ?_)
    have s9 := same_new hl9 (.lst [])
    refine ⟨.list [], .list [], .lst (SqL.of (s9 _ _ hl8)) .nil, .lst (SqL.of upd_same) .nil, rfl, rfl, ?_⟩
    rw [show PyData.eqv (.list []) (.list []) = true by simp [PyData.eqv, PyData.eqvAll]]
    exact q _
  · walk_at "st"
    refine ⟨y, rfl, ly, .inl ⟨good, fun H9 s9 => ?_⟩⟩
    walk_at "st"
    refine ⟨y, rfl, ly, .inl ⟨good, fun HA => ?_⟩⟩
    refine ⟨true, T.exm_BadSheet_MeadError, fun _ x hx => ?_, fun z => Bool.noConfusion z⟩
    walk_at "st"
    refine Pm.w_isN_non ?_
    walk_at "st"
    refine Pm.w_isX T.exc_BadSheet (fun u r => r) T.kit_BadSheet_BadSheet ?_
    exact q _
end
def D_wall : He.FnD := ⟨("_wall", none), "_wall", "_wall", defArgs s_wall, defBody s_wall, defScope s_wall⟩
def D_tie_of : He.FnD := ⟨("tie_of", none), "tie_of", "tie_of", defArgs s_tie_of, defBody s_tie_of, defScope s_tie_of⟩
def D_crosses : He.FnD := ⟨("crosses", none), "crosses", "crosses", defArgs s_crosses, defBody s_crosses, defScope s_crosses⟩
def D_sides : He.FnD := ⟨("sides", none), "sides", "sides", defArgs s_sides, defBody s_sides, defScope s_sides⟩
def D_is_rope : He.FnD := ⟨("is_rope", none), "is_rope", "is_rope", defArgs s_is_rope, defBody s_is_rope, defScope s_is_rope⟩
def D_kept : He.FnD := ⟨("kept", none), "kept", "kept", defArgs s_kept, defBody s_kept, defScope s_kept⟩
def D_ties : He.FnD := ⟨("ties", none), "ties", "ties", defArgs s_ties, defBody s_ties, defScope s_ties⟩
def D_plots : He.FnD := ⟨("plots", none), "plots", "plots", defArgs s_plots, defBody s_plots, defScope s_plots⟩
def D_measure : He.FnD := ⟨("measure", none), "measure", "measure", defArgs s_measure, defBody s_measure, defScope s_measure⟩
def D_lowest : He.FnD := ⟨("lowest", none), "lowest", "lowest", defArgs s_lowest, defBody s_lowest, defScope s_lowest⟩
def D_plus : He.FnD := ⟨("plus", none), "plus", "plus", defArgs s_plus, defBody s_plus, defScope s_plus⟩
def D_less : He.FnD := ⟨("less", none), "less", "less", defArgs s_less, defBody s_less, defScope s_less⟩
def D_times : He.FnD := ⟨("times", none), "times", "times", defArgs s_times, defBody s_times, defScope s_times⟩
def D_over : He.FnD := ⟨("over", none), "over", "over", defArgs s_over, defBody s_over, defScope s_over⟩
def D_is_part : He.FnD := ⟨("is_part", none), "is_part", "is_part", defArgs s_is_part, defBody s_is_part, defScope s_is_part⟩
def D_is_length : He.FnD := ⟨("is_length", none), "is_length", "is_length", defArgs s_is_length, defBody s_is_length, defScope s_is_length⟩
def D_whole_of : He.FnD := ⟨("whole_of", none), "whole_of", "whole_of", defArgs s_whole_of, defBody s_whole_of, defScope s_whole_of⟩
def D_part_text : He.FnD := ⟨("part_text", none), "part_text", "part_text", defArgs s_part_text, defBody s_part_text, defScope s_part_text⟩
def D_part_read : He.FnD := ⟨("part_read", none), "part_read", "part_read", defArgs s_part_read, defBody s_part_read, defScope s_part_read⟩
def D_two_posts : He.FnD := ⟨("two_posts", none), "two_posts", "two_posts", defArgs s_two_posts, defBody s_two_posts, defScope s_two_posts⟩
def D_between : He.FnD := ⟨("between", none), "between", "between", defArgs s_between, defBody s_between, defScope s_between⟩
def D_spread : He.FnD := ⟨("spread", none), "spread", "spread", defArgs s_spread, defBody s_spread, defScope s_spread⟩
def D_pair_mixed : He.FnD := ⟨("pair_mixed", none), "pair_mixed", "pair_mixed", defArgs s_pair_mixed, defBody s_pair_mixed, defScope s_pair_mixed⟩
def D_third : He.FnD := ⟨("third", none), "third", "third", defArgs s_third, defBody s_third, defScope s_third⟩
def D_stands : He.FnD := ⟨("stands", none), "stands", "stands", defArgs s_stands, defBody s_stands, defScope s_stands⟩
def D_measured : He.FnD := ⟨("measured", none), "measured", "measured", defArgs s_measured, defBody s_measured, defScope s_measured⟩
def D_sized_by : He.FnD := ⟨("sized_by", none), "sized_by", "sized_by", defArgs s_sized_by, defBody s_sized_by, defScope s_sized_by⟩
def D_mead_text : He.FnD := ⟨("mead_text", none), "mead_text", "mead_text", defArgs s_mead_text, defBody s_mead_text, defScope s_mead_text⟩
def D_tie_row : He.FnD := ⟨("tie_row", none), "tie_row", "tie_row", defArgs s_tie_row, defBody s_tie_row, defScope s_tie_row⟩
def D_mead_read : He.FnD := ⟨("mead_read", none), "mead_read", "mead_read", defArgs s_mead_read, defBody s_mead_read, defScope s_mead_read⟩
def D_law_flow : He.FnD := ⟨("_law_flow", none), "_law_flow", "_law_flow", defArgs s_law_flow, defBody s_law_flow, defScope s_law_flow⟩
def D_law_whole : He.FnD := ⟨("_law_whole", none), "_law_whole", "_law_whole", defArgs s_law_whole, defBody s_law_whole, defScope s_law_whole⟩
def D_law_low : He.FnD := ⟨("_law_low", none), "_law_low", "_law_low", defArgs s_law_low, defBody s_law_low, defScope s_law_low⟩
def D_law_part : He.FnD := ⟨("_law_part", none), "_law_part", "_law_part", defArgs s_law_part, defBody s_law_part, defScope s_law_part⟩
def D_law_size : He.FnD := ⟨("_law_size", none), "_law_size", "_law_size", defArgs s_law_size, defBody s_law_size, defScope s_law_size⟩
def D_law_many : He.FnD := ⟨("_law_many", none), "_law_many", "_law_many", defArgs s_law_many, defBody s_law_many, defScope s_law_many⟩
def D_law_pair : He.FnD := ⟨("_law_pair", none), "_law_pair", "_law_pair", defArgs s_law_pair, defBody s_law_pair, defScope s_law_pair⟩
def D_law_ears : He.FnD := ⟨("_law_ears", none), "_law_ears", "_law_ears", defArgs s_law_ears, defBody s_law_ears, defScope s_law_ears⟩
def D_law_ropes : He.FnD := ⟨("_law_ropes", none), "_law_ropes", "_law_ropes", defArgs s_law_ropes, defBody s_law_ropes, defScope s_law_ropes⟩
def D_law_sides : He.FnD := ⟨("_law_sides", none), "_law_sides", "_law_sides", defArgs s_law_sides, defBody s_law_sides, defScope s_law_sides⟩
def D_law_ties : He.FnD := ⟨("_law_ties", none), "_law_ties", "_law_ties", defArgs s_law_ties, defBody s_law_ties, defScope s_law_ties⟩
def D_law_sized : He.FnD := ⟨("_law_sized", none), "_law_sized", "_law_sized", defArgs s_law_sized, defBody s_law_sized, defScope s_law_sized⟩
def D_law_cross : He.FnD := ⟨("_law_cross", none), "_law_cross", "_law_cross", defArgs s_law_cross, defBody s_law_cross, defScope s_law_cross⟩
def D_law_tuple : He.FnD := ⟨("_law_tuple", none), "_law_tuple", "_law_tuple", defArgs s_law_tuple, defBody s_law_tuple, defScope s_law_tuple⟩
def D_law_list : He.FnD := ⟨("_law_list", none), "_law_list", "_law_list", defArgs s_law_list, defBody s_law_list, defScope s_law_list⟩
def D_law_dict : He.FnD := ⟨("_law_dict", none), "_law_dict", "_law_dict", defArgs s_law_dict, defBody s_law_dict, defScope s_law_dict⟩
def D_law_is_at : He.FnD := ⟨("_law_is_at", none), "_law_is_at", "_law_is_at", defArgs s_law_is_at, defBody s_law_is_at, defScope s_law_is_at⟩
def D_law_start : He.FnD := ⟨("_law_start", none), "_law_start", "_law_start", defArgs s_law_start, defBody s_law_start, defScope s_law_start⟩
def D_law_fig : He.FnD := ⟨("_law_fig", none), "_law_fig", "_law_fig", defArgs s_law_fig, defBody s_law_fig, defScope s_law_fig⟩
def D_law_part_of : He.FnD := ⟨("_law_part_of", none), "_law_part_of", "_law_part_of", defArgs s_law_part_of, defBody s_law_part_of, defScope s_law_part_of⟩
def D_law_fits_ring : He.FnD := ⟨("_law_fits_ring", none), "_law_fits_ring", "_law_fits_ring", defArgs s_law_fits_ring, defBody s_law_fits_ring, defScope s_law_fits_ring⟩
def D_law_sheet : He.FnD := ⟨("_law_sheet", none), "_law_sheet", "_law_sheet", defArgs s_law_sheet, defBody s_law_sheet, defScope s_law_sheet⟩
def D_law_unsheet : He.FnD := ⟨("_law_unsheet", none), "_law_unsheet", "_law_unsheet", defArgs s_law_unsheet, defBody s_law_unsheet, defScope s_law_unsheet⟩
def D_law_signs : He.FnD := ⟨("_law_signs", none), "_law_signs", "_law_signs", defArgs s_law_signs, defBody s_law_signs, defScope s_law_signs⟩
def D_law_lines : He.FnD := ⟨("_law_lines", none), "_law_lines", "_law_lines", defArgs s_law_lines, defBody s_law_lines, defScope s_law_lines⟩
def D_law_odd : He.FnD := ⟨("_law_odd", none), "_law_odd", "_law_odd", defArgs s_law_odd, defBody s_law_odd, defScope s_law_odd⟩
def D_law : He.FnD := ⟨("law", none), "law", "law", defArgs s_law, defBody s_law, defScope s_law⟩
def D_Mead___init__ : He.FnD := ⟨("Mead", some "__init__"), "__init__", "Mead.__init__", defArgs s_Mead___init__, defBody s_Mead___init__, defScope s_Mead___init__⟩
def D_Mead_posts : He.FnD := ⟨("Mead", some "posts"), "posts", "Mead.posts", defArgs s_Mead_posts, defBody s_Mead_posts, defScope s_Mead_posts⟩
def D_Mead_ropes : He.FnD := ⟨("Mead", some "ropes"), "ropes", "Mead.ropes", defArgs s_Mead_ropes, defBody s_Mead_ropes, defScope s_Mead_ropes⟩
def D_Mead_lengths : He.FnD := ⟨("Mead", some "lengths"), "lengths", "Mead.lengths", defArgs s_Mead_lengths, defBody s_Mead_lengths, defScope s_Mead_lengths⟩
def D_Mead_deeds : He.FnD := ⟨("Mead", some "deeds"), "deeds", "Mead.deeds", defArgs s_Mead_deeds, defBody s_Mead_deeds, defScope s_Mead_deeds⟩
def D_Mead_length : He.FnD := ⟨("Mead", some "length"), "length", "Mead.length", defArgs s_Mead_length, defBody s_Mead_length, defScope s_Mead_length⟩
def D_Mead_state : He.FnD := ⟨("Mead", some "state"), "state", "Mead.state", defArgs s_Mead_state, defBody s_Mead_state, defScope s_Mead_state⟩
def D_Mead_stand_at : He.FnD := ⟨("Mead", some "stand_at"), "stand_at", "Mead.stand_at", defArgs s_Mead_stand_at, defBody s_Mead_stand_at, defScope s_Mead_stand_at⟩
def D_Mead_done : He.FnD := ⟨("Mead", some "done"), "done", "Mead.done", defArgs s_Mead_done, defBody s_Mead_done, defScope s_Mead_done⟩
def D_Mead_back : He.FnD := ⟨("Mead", some "back"), "back", "Mead.back", defArgs s_Mead_back, defBody s_Mead_back, defScope s_Mead_back⟩
def D_Mead_again : He.FnD := ⟨("Mead", some "again"), "again", "Mead.again", defArgs s_Mead_again, defBody s_Mead_again, defScope s_Mead_again⟩
def hfn : List He.FnD := [D_wall, D_tie_of, D_crosses, D_sides, D_is_rope, D_kept, D_ties, D_plots, D_measure, D_lowest, D_plus, D_less, D_times, D_over, D_is_part, D_is_length, D_whole_of, D_part_text, D_part_read, D_two_posts, D_between, D_spread, D_pair_mixed, D_third, D_stands, D_measured, D_sized_by, D_mead_text, D_tie_row, D_mead_read, D_law_flow, D_law_whole, D_law_low, D_law_part, D_law_size, D_law_many, D_law_pair, D_law_ears, D_law_ropes, D_law_sides, D_law_ties, D_law_sized, D_law_cross, D_law_tuple, D_law_list, D_law_dict, D_law_is_at, D_law_start, D_law_fig, D_law_part_of, D_law_fits_ring, D_law_sheet, D_law_unsheet, D_law_signs, D_law_lines, D_law_odd, D_law, D_Mead___init__, D_Mead_posts, D_Mead_ropes, D_Mead_lengths, D_Mead_deeds, D_Mead_length, D_Mead_state, D_Mead_stand_at, D_Mead_done, D_Mead_back, D_Mead_again]
def hfa0 : List He.Fa := [.glo "Mead",
  .cls "Mead",
  .glo "NoCutting",
  .exc "NoCutting",
  .glo "NoFraction",
  .exc "NoFraction",
  .glo "NoPost",
  .exc "NoPost",
  .glo "BadLength",
  .exc "BadLength",
  .glo "BadSheet",
  .exc "BadSheet",
  .glo "MeadError",
  .exc "MeadError",
  .glo "NoBack",
  .exc "NoBack",
  .keep "_wall",
  .glo "_wall",
  .keep "tie_of",
  .glo "tie_of",
  .keep "crosses",
  .glo "crosses",
  .keep "sides",
  .glo "sides",
  .keep "is_rope",
  .glo "is_rope",
  .keep "kept",
  .glo "kept",
  .keep "ties",
  .glo "ties",
  .keep "plots",
  .glo "plots",
  .keep "measure",
  .glo "measure",
  .keep "lowest",
  .glo "lowest",
  .keep "plus",
  .glo "plus",
  .keep "less",
  .glo "less",
  .keep "times",
  .glo "times",
  .keep "over",
  .glo "over",
  .keep "is_part",
  .glo "is_part",
  .keep "is_length",
  .glo "is_length",
  .keep "whole_of",
  .glo "whole_of",
  .keep "part_text",
  .glo "part_text",
  .keep "part_read",
  .glo "part_read",
  .keep "two_posts",
  .glo "two_posts",
  .keep "between",
  .glo "between",
  .keep "spread",
  .glo "spread",
  .keep "pair_mixed",
  .glo "pair_mixed",
  .keep "third",
  .glo "third",
  .keep "stands",
  .glo "stands",
  .keep "measured",
  .glo "measured",
  .keep "sized_by",
  .glo "sized_by",
  .keep "mead_text",
  .glo "mead_text",
  .keep "tie_row",
  .glo "tie_row",
  .keep "mead_read",
  .glo "mead_read",
  .keep "_law_flow",
  .glo "_law_flow",
  .keep "_law_whole",
  .glo "_law_whole",
  .keep "_law_low",
  .glo "_law_low",
  .keep "_law_part",
  .glo "_law_part",
  .keep "_law_size",
  .glo "_law_size",
  .keep "_law_many",
  .glo "_law_many",
  .keep "_law_pair",
  .glo "_law_pair",
  .keep "_law_ears",
  .glo "_law_ears",
  .keep "_law_ropes",
  .glo "_law_ropes",
  .keep "_law_sides",
  .glo "_law_sides",
  .keep "_law_ties",
  .glo "_law_ties",
  .keep "_law_sized",
  .glo "_law_sized",
  .keep "_law_cross",
  .glo "_law_cross",
  .keep "_law_tuple",
  .glo "_law_tuple",
  .keep "_law_list",
  .glo "_law_list",
  .keep "_law_dict",
  .glo "_law_dict",
  .keep "_law_is_at",
  .glo "_law_is_at",
  .keep "_law_start",
  .glo "_law_start",
  .keep "_law_fig",
  .glo "_law_fig",
  .keep "_law_part_of",
  .glo "_law_part_of",
  .keep "_law_fits_ring",
  .glo "_law_fits_ring",
  .keep "_law_sheet",
  .glo "_law_sheet"]
def hfa1 : List He.Fa := [.keep "_law_unsheet",
  .glo "_law_unsheet",
  .keep "_law_signs",
  .glo "_law_signs",
  .keep "_law_lines",
  .glo "_law_lines",
  .keep "_law_odd",
  .glo "_law_odd",
  .keep "law",
  .glo "law",
  .meth "Mead" "__init__",
  .meth "Mead" "posts",
  .meth "Mead" "ropes",
  .meth "Mead" "lengths",
  .meth "Mead" "deeds",
  .meth "Mead" "length",
  .meth "Mead" "state",
  .meth "Mead" "stand_at",
  .meth "Mead" "done",
  .meth "Mead" "back",
  .meth "Mead" "again",
  .free "min",
  .free "max",
  .free "sorted",
  .free "range",
  .free "len",
  .free "abs",
  .free "int",
  .free "str",
  .free "isinstance",
  .free "bool",
  .free "tuple",
  .free "list",
  .free "dict",
  .mkr "Mead",
  .noat "Mead" "cut",
  .noat "Mead" "many",
  .noat "Mead" "sized",
  .noat "Mead" "past",
  .noat "Mead" "ahead",
  .int "FEWEST" (3),
  .int "MOST" (12),
  .int "MOST_FIGURES" (400),
  .str "FIGURES" "0123456789",
  .glo "ONE",
  .glo "NOUGHT"]
def hfa : List He.Fa := hfa0 ++ hfa1
def hex0 (K : PySem.W.Frag) : List Bool := [PySem.W.isClsIn K (He.ga K "NoCutting"),
  decide (PySem.W.subIn K (.ref (He.ga K "NoCutting")) (.ref (He.ga K "NoCutting")) = some true),
  PySem.W.isClsIn K (He.ga K "NoFraction"),
  decide (PySem.W.subIn K (.ref (He.ga K "NoFraction")) (.ref (He.ga K "NoFraction")) = some true),
  PySem.W.isClsIn K (He.ga K "NoPost"),
  decide (PySem.W.subIn K (.ref (He.ga K "NoPost")) (.ref (He.ga K "NoPost")) = some true),
  PySem.W.isClsIn K (He.ga K "BadLength"),
  decide (PySem.W.subIn K (.ref (He.ga K "BadLength")) (.ref (He.ga K "BadLength")) = some true),
  PySem.W.isClsIn K (He.ga K "BadSheet"),
  decide (PySem.W.subIn K (.ref (He.ga K "BadSheet")) (.ref (He.ga K "BadSheet")) = some true),
  PySem.W.isClsIn K (He.ga K "MeadError"),
  decide (PySem.W.subIn K (.ref (He.ga K "MeadError")) (.ref (He.ga K "MeadError")) = some true),
  PySem.W.isClsIn K (He.ga K "NoBack"),
  decide (PySem.W.subIn K (.ref (He.ga K "NoBack")) (.ref (He.ga K "NoBack")) = some true),
  He.tupB K "ONE" [.int (1), .int (1)],
  He.tupB K "NOUGHT" [.int (0), .int (1)],
  decide (PySem.W.exmOne K (.ref (He.ga K "NoFraction")) (.ref (He.ga K "NoFraction")) = some true),
  decide (PySem.W.exmOne K (.ref (He.ga K "NoCutting")) (.ref (He.ga K "NoCutting")) = some true),
  decide (PySem.W.exmOne K (.ref (He.ga K "BadLength")) (.ref (He.ga K "BadLength")) = some true),
  decide (PySem.W.exmOne K (.ref (He.ga K "NoCutting")) (.ref (He.ga K "BadLength")) = some false),
  decide (PySem.W.exmOne K (.ref (He.ga K "BadLength")) (.ref (He.ga K "NoCutting")) = some false),
  decide (PySem.W.findIn K (.ref (He.ga K "BadSheet")) "__getattribute__" = some (some (.builtin "BaseException.__getattribute__"))),
  decide (PySem.W.findIn K (.ref (He.ga K "BadSheet")) "__getattr__" = some none),
  decide (PySem.W.hasDictIn K (He.ga K "BadSheet") = true),
  decide (PySem.W.findIn K (.ref (He.ga K "BadSheet")) "__class__" = some (some (.builtin "object.__class__"))),
  decide (PySem.W.specialIn K (.builtin "object.__class__") "__get__" = some (some (.builtin "getset_descriptor.__get__"))),
  decide (PySem.W.takesIn K (.builtin "object.__class__") = some true),
  decide (PySem.W.mroIn K (He.ga K "BadSheet") (.type "object") = some true),
  decide (PySem.W.kitOne K (.ref (He.ga K "BadSheet")) (.ref (He.ga K "MeadError")) = some true),
  decide (PySem.W.exmOne K (.ref (He.ga K "BadSheet")) (.ref (He.ga K "MeadError")) = some true),
  decide (PySem.W.kitOne K (.ref (He.ga K "BadSheet")) (.ref (He.ga K "BadSheet")) = some true),
  decide (PySem.W.exmOne K (.ref (He.ga K "BadSheet")) (.ref (He.ga K "BadSheet")) = some true)]
def hex (K : PySem.W.Frag) : List Bool := hex0 K
def loose0 : List Str := [("_wall" : Str), ("MeadError" : Str), ("NoFraction" : Str), ("NoCutting" : Str), ("NoPost" : Str), ("BadLength" : Str), ("NoBack" : Str), ("BadSheet" : Str), ("FEWEST" : Str), ("MOST" : Str), ("tie_of" : Str), ("crosses" : Str), ("sides" : Str), ("is_rope" : Str), ("kept" : Str), ("ties" : Str), ("plots" : Str), ("FIGURES" : Str), ("MOST_FIGURES" : Str), ("NOUGHT" : Str), ("ONE" : Str), ("measure" : Str), ("lowest" : Str), ("plus" : Str), ("less" : Str), ("times" : Str), ("over" : Str), ("is_part" : Str), ("is_length" : Str), ("whole_of" : Str), ("part_text" : Str), ("part_read" : Str), ("two_posts" : Str), ("between" : Str), ("spread" : Str), ("pair_mixed" : Str), ("third" : Str), ("stands" : Str), ("measured" : Str), ("sized_by" : Str)]
def loose1 : List Str := [("Mead" : Str), ("mead_text" : Str), ("tie_row" : Str), ("mead_read" : Str), ("_law_flow" : Str), ("_law_whole" : Str), ("_law_low" : Str), ("_law_part" : Str), ("_law_size" : Str), ("_law_many" : Str), ("_law_pair" : Str), ("_law_ears" : Str), ("_law_ropes" : Str), ("_law_sides" : Str), ("_law_ties" : Str), ("_law_sized" : Str), ("_law_cross" : Str), ("_law_tuple" : Str), ("_law_list" : Str), ("_law_dict" : Str), ("_law_is_at" : Str), ("_law_start" : Str), ("_law_fig" : Str), ("_law_part_of" : Str), ("_law_fits_ring" : Str), ("_law_sheet" : Str), ("_law_unsheet" : Str), ("_law_signs" : Str), ("_law_lines" : Str), ("_law_odd" : Str)]
def looseA : List Str := loose0 ++ loose1
abbrev hRow : PySem.W.OpenRow := PySem.W.OpenLaw.row PySem.Challenge.rw_postmead_k47_sheets_refused
abbrev hHook : PySem.W.Hook := hookP 1200 hfa hfn hex
noncomputable abbrev hOb (s : PySem.W.SharedT) : He.Al := obT 1200 hfa hfn hex s
theorem hRunA (w : World) (os : OsState) : (endR hRow 40000 w os).map (fun s => (HandSHeadRun.looksF hRow.prog (PySem.W.boot_heap w.params) s.abs, HandSHeadRun.seenQ (PySem.W.view hRow.prog [78]) looseA (importedModules hRow.prog.main.body) (fun s => PySem.W.xlAt (PySem.W.view hRow.prog [78]) [] s && PySem.W.recOk hRow.toRowW.records s) s.abs)) = some (true, PySem.W.openGood (PySem.W.view hRow.prog [78]) looseA) := by kernel_rfl
theorem hRunD (w : World) : Look hRow 40000 1200 w (fun K => (hfn.map fun d => He.fnObs K d.at_, hfn.all fun d => (He.Fa.code d.at_ d.qual).ok K)) (hfn.map He.FnD.val, true) := by
  intro os
  kernel_rfl
theorem hRunF0 (w : World) : Look hRow 40000 1200 w (fun K => hfa0.all fun f => f.ok K) true := by
  intro os
  kernel_rfl
theorem hRunF1 (w : World) : Look hRow 40000 1200 w (fun K => hfa1.all fun f => f.ok K) true := by
  intro os
  kernel_rfl
theorem hRunX0 (w : World) : Look hRow 40000 1200 w (fun K => (hex0 K).all id) true := by
  intro os
  kernel_rfl
theorem hRun (w : World) : HandSHeadRun.RunEq hRow (PySem.W.view hRow.prog [78]) hHook hOb 40000 looseA w := by
  refine run_of (hRunA w) fun os s e => obsP_of (congrArg Prod.fst ((hRunD w).at_ e)) (congrArg Prod.snd ((hRunD w).at_ e)) ?_ ?_
  · simp only [hfa, List.all_append, (hRunF0 w).at_ e, (hRunF1 w).at_ e, Bool.and_self]
  · simp only [hex, List.all_append, (hRunX0 w).at_ e, Bool.and_self]
theorem qe_NoCutting {K : PySem.W.Frag} {h : Heap} {mg : Str → Option Value} (X : K.In h) (G : h.Ns mainGlobals mg) (c : SaysP hfa hfn hex K) : Nonempty { e : ExAt K mg "NoCutting" // e.c = (He.ga K "NoCutting") } := ⟨⟨{ c := _, g := He.glo_ok X G (c.e.fact 2 (f := .glo "NoCutting") rfl), x := (He.exc_ok (c.e.fact 3 (f := .exc "NoCutting") rfl)).1, k := (He.exc_ok (c.e.fact 3 (f := .exc "NoCutting") rfl)).2.1, b := (He.exc_ok (c.e.fact 3 (f := .exc "NoCutting") rfl)).2.2.1, t := (He.exc_ok (c.e.fact 3 (f := .exc "NoCutting") rfl)).2.2.2, i := (c.b 0 (b := PySem.W.isClsIn K (He.ga K "NoCutting")) rfl), z := (c.d 1 (p := PySem.W.subIn K (.ref (He.ga K "NoCutting")) (.ref (He.ga K "NoCutting")) = some true) rfl) }, rfl⟩⟩
theorem qe_NoFraction {K : PySem.W.Frag} {h : Heap} {mg : Str → Option Value} (X : K.In h) (G : h.Ns mainGlobals mg) (c : SaysP hfa hfn hex K) : Nonempty { e : ExAt K mg "NoFraction" // e.c = (He.ga K "NoFraction") } := ⟨⟨{ c := _, g := He.glo_ok X G (c.e.fact 4 (f := .glo "NoFraction") rfl), x := (He.exc_ok (c.e.fact 5 (f := .exc "NoFraction") rfl)).1, k := (He.exc_ok (c.e.fact 5 (f := .exc "NoFraction") rfl)).2.1, b := (He.exc_ok (c.e.fact 5 (f := .exc "NoFraction") rfl)).2.2.1, t := (He.exc_ok (c.e.fact 5 (f := .exc "NoFraction") rfl)).2.2.2, i := (c.b 2 (b := PySem.W.isClsIn K (He.ga K "NoFraction")) rfl), z := (c.d 3 (p := PySem.W.subIn K (.ref (He.ga K "NoFraction")) (.ref (He.ga K "NoFraction")) = some true) rfl) }, rfl⟩⟩
theorem qe_NoPost {K : PySem.W.Frag} {h : Heap} {mg : Str → Option Value} (X : K.In h) (G : h.Ns mainGlobals mg) (c : SaysP hfa hfn hex K) : Nonempty { e : ExAt K mg "NoPost" // e.c = (He.ga K "NoPost") } := ⟨⟨{ c := _, g := He.glo_ok X G (c.e.fact 6 (f := .glo "NoPost") rfl), x := (He.exc_ok (c.e.fact 7 (f := .exc "NoPost") rfl)).1, k := (He.exc_ok (c.e.fact 7 (f := .exc "NoPost") rfl)).2.1, b := (He.exc_ok (c.e.fact 7 (f := .exc "NoPost") rfl)).2.2.1, t := (He.exc_ok (c.e.fact 7 (f := .exc "NoPost") rfl)).2.2.2, i := (c.b 4 (b := PySem.W.isClsIn K (He.ga K "NoPost")) rfl), z := (c.d 5 (p := PySem.W.subIn K (.ref (He.ga K "NoPost")) (.ref (He.ga K "NoPost")) = some true) rfl) }, rfl⟩⟩
theorem qe_BadLength {K : PySem.W.Frag} {h : Heap} {mg : Str → Option Value} (X : K.In h) (G : h.Ns mainGlobals mg) (c : SaysP hfa hfn hex K) : Nonempty { e : ExAt K mg "BadLength" // e.c = (He.ga K "BadLength") } := ⟨⟨{ c := _, g := He.glo_ok X G (c.e.fact 8 (f := .glo "BadLength") rfl), x := (He.exc_ok (c.e.fact 9 (f := .exc "BadLength") rfl)).1, k := (He.exc_ok (c.e.fact 9 (f := .exc "BadLength") rfl)).2.1, b := (He.exc_ok (c.e.fact 9 (f := .exc "BadLength") rfl)).2.2.1, t := (He.exc_ok (c.e.fact 9 (f := .exc "BadLength") rfl)).2.2.2, i := (c.b 6 (b := PySem.W.isClsIn K (He.ga K "BadLength")) rfl), z := (c.d 7 (p := PySem.W.subIn K (.ref (He.ga K "BadLength")) (.ref (He.ga K "BadLength")) = some true) rfl) }, rfl⟩⟩
theorem qe_BadSheet {K : PySem.W.Frag} {h : Heap} {mg : Str → Option Value} (X : K.In h) (G : h.Ns mainGlobals mg) (c : SaysP hfa hfn hex K) : Nonempty { e : ExAt K mg "BadSheet" // e.c = (He.ga K "BadSheet") } := ⟨⟨{ c := _, g := He.glo_ok X G (c.e.fact 10 (f := .glo "BadSheet") rfl), x := (He.exc_ok (c.e.fact 11 (f := .exc "BadSheet") rfl)).1, k := (He.exc_ok (c.e.fact 11 (f := .exc "BadSheet") rfl)).2.1, b := (He.exc_ok (c.e.fact 11 (f := .exc "BadSheet") rfl)).2.2.1, t := (He.exc_ok (c.e.fact 11 (f := .exc "BadSheet") rfl)).2.2.2, i := (c.b 8 (b := PySem.W.isClsIn K (He.ga K "BadSheet")) rfl), z := (c.d 9 (p := PySem.W.subIn K (.ref (He.ga K "BadSheet")) (.ref (He.ga K "BadSheet")) = some true) rfl) }, rfl⟩⟩
theorem qe_MeadError {K : PySem.W.Frag} {h : Heap} {mg : Str → Option Value} (X : K.In h) (G : h.Ns mainGlobals mg) (c : SaysP hfa hfn hex K) : Nonempty { e : ExAt K mg "MeadError" // e.c = (He.ga K "MeadError") } := ⟨⟨{ c := _, g := He.glo_ok X G (c.e.fact 12 (f := .glo "MeadError") rfl), x := (He.exc_ok (c.e.fact 13 (f := .exc "MeadError") rfl)).1, k := (He.exc_ok (c.e.fact 13 (f := .exc "MeadError") rfl)).2.1, b := (He.exc_ok (c.e.fact 13 (f := .exc "MeadError") rfl)).2.2.1, t := (He.exc_ok (c.e.fact 13 (f := .exc "MeadError") rfl)).2.2.2, i := (c.b 10 (b := PySem.W.isClsIn K (He.ga K "MeadError")) rfl), z := (c.d 11 (p := PySem.W.subIn K (.ref (He.ga K "MeadError")) (.ref (He.ga K "MeadError")) = some true) rfl) }, rfl⟩⟩
theorem qe_NoBack {K : PySem.W.Frag} {h : Heap} {mg : Str → Option Value} (X : K.In h) (G : h.Ns mainGlobals mg) (c : SaysP hfa hfn hex K) : Nonempty { e : ExAt K mg "NoBack" // e.c = (He.ga K "NoBack") } := ⟨⟨{ c := _, g := He.glo_ok X G (c.e.fact 14 (f := .glo "NoBack") rfl), x := (He.exc_ok (c.e.fact 15 (f := .exc "NoBack") rfl)).1, k := (He.exc_ok (c.e.fact 15 (f := .exc "NoBack") rfl)).2.1, b := (He.exc_ok (c.e.fact 15 (f := .exc "NoBack") rfl)).2.2.1, t := (He.exc_ok (c.e.fact 15 (f := .exc "NoBack") rfl)).2.2.2, i := (c.b 12 (b := PySem.W.isClsIn K (He.ga K "NoBack")) rfl), z := (c.d 13 (p := PySem.W.subIn K (.ref (He.ga K "NoBack")) (.ref (He.ga K "NoBack")) = some true) rfl) }, rfl⟩⟩
theorem qd_wall {K : PySem.W.Frag} {h : Heap} {mg : Str → Option Value} (X : K.In h) (G : h.Ns mainGlobals mg) (c : SaysP hfa hfn hex K) : Nonempty (DefAt K mg "_wall" "_wall" s_wall ["k"]) := by
  obtain ⟨oc, od, osl, kV, dc, pm, an, cd, ct, l, cc⟩ := c.def_ 0 (D := D_wall) rfl
  have F := fun_mk (st := s_wall) l cc (c.e.fact 16 (f := .keep "_wall") rfl)
  exact ⟨{ a := _, fd := _, F := F, g := He.glo_ok X G (c.e.fact 17 (f := .glo "_wall") rfl), b := F.binds (ps := ["k"]) fun _ _ _ _ _ _ us hl => match us, hl with | [_], _ => rfl }⟩
theorem qd_tie_of {K : PySem.W.Frag} {h : Heap} {mg : Str → Option Value} (X : K.In h) (G : h.Ns mainGlobals mg) (c : SaysP hfa hfn hex K) : Nonempty (DefAt K mg "tie_of" "tie_of" s_tie_of ["a", "b"]) := by
  obtain ⟨oc, od, osl, kV, dc, pm, an, cd, ct, l, cc⟩ := c.def_ 1 (D := D_tie_of) rfl
  have F := fun_mk (st := s_tie_of) l cc (c.e.fact 18 (f := .keep "tie_of") rfl)
  exact ⟨{ a := _, fd := _, F := F, g := He.glo_ok X G (c.e.fact 19 (f := .glo "tie_of") rfl), b := F.binds (ps := ["a", "b"]) fun _ _ _ _ _ _ us hl => match us, hl with | [_, _], _ => rfl }⟩
theorem qd_crosses {K : PySem.W.Frag} {h : Heap} {mg : Str → Option Value} (X : K.In h) (G : h.Ns mainGlobals mg) (c : SaysP hfa hfn hex K) : Nonempty (DefAt K mg "crosses" "crosses" s_crosses ["one", "other"]) := by
  obtain ⟨oc, od, osl, kV, dc, pm, an, cd, ct, l, cc⟩ := c.def_ 2 (D := D_crosses) rfl
  have F := fun_mk (st := s_crosses) l cc (c.e.fact 20 (f := .keep "crosses") rfl)
  exact ⟨{ a := _, fd := _, F := F, g := He.glo_ok X G (c.e.fact 21 (f := .glo "crosses") rfl), b := F.binds (ps := ["one", "other"]) fun _ _ _ _ _ _ us hl => match us, hl with | [_, _], _ => rfl }⟩
theorem qd_sides {K : PySem.W.Frag} {h : Heap} {mg : Str → Option Value} (X : K.In h) (G : h.Ns mainGlobals mg) (c : SaysP hfa hfn hex K) : Nonempty (DefAt K mg "sides" "sides" s_sides ["n"]) := by
  obtain ⟨oc, od, osl, kV, dc, pm, an, cd, ct, l, cc⟩ := c.def_ 3 (D := D_sides) rfl
  have F := fun_mk (st := s_sides) l cc (c.e.fact 22 (f := .keep "sides") rfl)
  exact ⟨{ a := _, fd := _, F := F, g := He.glo_ok X G (c.e.fact 23 (f := .glo "sides") rfl), b := F.binds (ps := ["n"]) fun _ _ _ _ _ _ us hl => match us, hl with | [_], _ => rfl }⟩
theorem qd_is_rope {K : PySem.W.Frag} {h : Heap} {mg : Str → Option Value} (X : K.In h) (G : h.Ns mainGlobals mg) (c : SaysP hfa hfn hex K) : Nonempty (DefAt K mg "is_rope" "is_rope" s_is_rope ["n", "pair"]) := by
  obtain ⟨oc, od, osl, kV, dc, pm, an, cd, ct, l, cc⟩ := c.def_ 4 (D := D_is_rope) rfl
  have F := fun_mk (st := s_is_rope) l cc (c.e.fact 24 (f := .keep "is_rope") rfl)
  exact ⟨{ a := _, fd := _, F := F, g := He.glo_ok X G (c.e.fact 25 (f := .glo "is_rope") rfl), b := F.binds (ps := ["n", "pair"]) fun _ _ _ _ _ _ us hl => match us, hl with | [_, _], _ => rfl }⟩
theorem qd_kept {K : PySem.W.Frag} {h : Heap} {mg : Str → Option Value} (X : K.In h) (G : h.Ns mainGlobals mg) (c : SaysP hfa hfn hex K) : Nonempty (DefAt K mg "kept" "kept" s_kept ["n", "ropes"]) := by
  obtain ⟨oc, od, osl, kV, dc, pm, an, cd, ct, l, cc⟩ := c.def_ 5 (D := D_kept) rfl
  have F := fun_mk (st := s_kept) l cc (c.e.fact 26 (f := .keep "kept") rfl)
  exact ⟨{ a := _, fd := _, F := F, g := He.glo_ok X G (c.e.fact 27 (f := .glo "kept") rfl), b := F.binds (ps := ["n", "ropes"]) fun _ _ _ _ _ _ us hl => match us, hl with | [_, _], _ => rfl }⟩
theorem qd_ties {K : PySem.W.Frag} {h : Heap} {mg : Str → Option Value} (X : K.In h) (G : h.Ns mainGlobals mg) (c : SaysP hfa hfn hex K) : Nonempty (DefAt K mg "ties" "ties" s_ties ["n", "cut"]) := by
  obtain ⟨oc, od, osl, kV, dc, pm, an, cd, ct, l, cc⟩ := c.def_ 6 (D := D_ties) rfl
  have F := fun_mk (st := s_ties) l cc (c.e.fact 28 (f := .keep "ties") rfl)
  exact ⟨{ a := _, fd := _, F := F, g := He.glo_ok X G (c.e.fact 29 (f := .glo "ties") rfl), b := F.binds (ps := ["n", "cut"]) fun _ _ _ _ _ _ us hl => match us, hl with | [_, _], _ => rfl }⟩
theorem qd_plots {K : PySem.W.Frag} {h : Heap} {mg : Str → Option Value} (X : K.In h) (G : h.Ns mainGlobals mg) (c : SaysP hfa hfn hex K) : Nonempty (DefAt K mg "plots" "plots" s_plots ["n", "cut"]) := by
  obtain ⟨oc, od, osl, kV, dc, pm, an, cd, ct, l, cc⟩ := c.def_ 7 (D := D_plots) rfl
  have F := fun_mk (st := s_plots) l cc (c.e.fact 30 (f := .keep "plots") rfl)
  exact ⟨{ a := _, fd := _, F := F, g := He.glo_ok X G (c.e.fact 31 (f := .glo "plots") rfl), b := F.binds (ps := ["n", "cut"]) fun _ _ _ _ _ _ us hl => match us, hl with | [_, _], _ => rfl }⟩
theorem qd_measure {K : PySem.W.Frag} {h : Heap} {mg : Str → Option Value} (X : K.In h) (G : h.Ns mainGlobals mg) (c : SaysP hfa hfn hex K) : Nonempty (DefAt K mg "measure" "measure" s_measure ["one", "other"]) := by
  obtain ⟨oc, od, osl, kV, dc, pm, an, cd, ct, l, cc⟩ := c.def_ 8 (D := D_measure) rfl
  have F := fun_mk (st := s_measure) l cc (c.e.fact 32 (f := .keep "measure") rfl)
  exact ⟨{ a := _, fd := _, F := F, g := He.glo_ok X G (c.e.fact 33 (f := .glo "measure") rfl), b := F.binds (ps := ["one", "other"]) fun _ _ _ _ _ _ us hl => match us, hl with | [_, _], _ => rfl }⟩
theorem qd_lowest {K : PySem.W.Frag} {h : Heap} {mg : Str → Option Value} (X : K.In h) (G : h.Ns mainGlobals mg) (c : SaysP hfa hfn hex K) : Nonempty (DefAt K mg "lowest" "lowest" s_lowest ["top", "bottom"]) := by
  obtain ⟨oc, od, osl, kV, dc, pm, an, cd, ct, l, cc⟩ := c.def_ 9 (D := D_lowest) rfl
  have F := fun_mk (st := s_lowest) l cc (c.e.fact 34 (f := .keep "lowest") rfl)
  exact ⟨{ a := _, fd := _, F := F, g := He.glo_ok X G (c.e.fact 35 (f := .glo "lowest") rfl), b := F.binds (ps := ["top", "bottom"]) fun _ _ _ _ _ _ us hl => match us, hl with | [_, _], _ => rfl }⟩
theorem qd_plus {K : PySem.W.Frag} {h : Heap} {mg : Str → Option Value} (X : K.In h) (G : h.Ns mainGlobals mg) (c : SaysP hfa hfn hex K) : Nonempty (DefAt K mg "plus" "plus" s_plus ["one", "other"]) := by
  obtain ⟨oc, od, osl, kV, dc, pm, an, cd, ct, l, cc⟩ := c.def_ 10 (D := D_plus) rfl
  have F := fun_mk (st := s_plus) l cc (c.e.fact 36 (f := .keep "plus") rfl)
  exact ⟨{ a := _, fd := _, F := F, g := He.glo_ok X G (c.e.fact 37 (f := .glo "plus") rfl), b := F.binds (ps := ["one", "other"]) fun _ _ _ _ _ _ us hl => match us, hl with | [_, _], _ => rfl }⟩
theorem qd_less {K : PySem.W.Frag} {h : Heap} {mg : Str → Option Value} (X : K.In h) (G : h.Ns mainGlobals mg) (c : SaysP hfa hfn hex K) : Nonempty (DefAt K mg "less" "less" s_less ["one", "other"]) := by
  obtain ⟨oc, od, osl, kV, dc, pm, an, cd, ct, l, cc⟩ := c.def_ 11 (D := D_less) rfl
  have F := fun_mk (st := s_less) l cc (c.e.fact 38 (f := .keep "less") rfl)
  exact ⟨{ a := _, fd := _, F := F, g := He.glo_ok X G (c.e.fact 39 (f := .glo "less") rfl), b := F.binds (ps := ["one", "other"]) fun _ _ _ _ _ _ us hl => match us, hl with | [_, _], _ => rfl }⟩
theorem qd_times {K : PySem.W.Frag} {h : Heap} {mg : Str → Option Value} (X : K.In h) (G : h.Ns mainGlobals mg) (c : SaysP hfa hfn hex K) : Nonempty (DefAt K mg "times" "times" s_times ["one", "other"]) := by
  obtain ⟨oc, od, osl, kV, dc, pm, an, cd, ct, l, cc⟩ := c.def_ 12 (D := D_times) rfl
  have F := fun_mk (st := s_times) l cc (c.e.fact 40 (f := .keep "times") rfl)
  exact ⟨{ a := _, fd := _, F := F, g := He.glo_ok X G (c.e.fact 41 (f := .glo "times") rfl), b := F.binds (ps := ["one", "other"]) fun _ _ _ _ _ _ us hl => match us, hl with | [_, _], _ => rfl }⟩
theorem qd_over {K : PySem.W.Frag} {h : Heap} {mg : Str → Option Value} (X : K.In h) (G : h.Ns mainGlobals mg) (c : SaysP hfa hfn hex K) : Nonempty (DefAt K mg "over" "over" s_over ["one", "other"]) := by
  obtain ⟨oc, od, osl, kV, dc, pm, an, cd, ct, l, cc⟩ := c.def_ 13 (D := D_over) rfl
  have F := fun_mk (st := s_over) l cc (c.e.fact 42 (f := .keep "over") rfl)
  exact ⟨{ a := _, fd := _, F := F, g := He.glo_ok X G (c.e.fact 43 (f := .glo "over") rfl), b := F.binds (ps := ["one", "other"]) fun _ _ _ _ _ _ us hl => match us, hl with | [_, _], _ => rfl }⟩
theorem qd_is_part {K : PySem.W.Frag} {h : Heap} {mg : Str → Option Value} (X : K.In h) (G : h.Ns mainGlobals mg) (c : SaysP hfa hfn hex K) : Nonempty (DefAt K mg "is_part" "is_part" s_is_part ["pair"]) := by
  obtain ⟨oc, od, osl, kV, dc, pm, an, cd, ct, l, cc⟩ := c.def_ 14 (D := D_is_part) rfl
  have F := fun_mk (st := s_is_part) l cc (c.e.fact 44 (f := .keep "is_part") rfl)
  exact ⟨{ a := _, fd := _, F := F, g := He.glo_ok X G (c.e.fact 45 (f := .glo "is_part") rfl), b := F.binds (ps := ["pair"]) fun _ _ _ _ _ _ us hl => match us, hl with | [_], _ => rfl }⟩
theorem qd_is_length {K : PySem.W.Frag} {h : Heap} {mg : Str → Option Value} (X : K.In h) (G : h.Ns mainGlobals mg) (c : SaysP hfa hfn hex K) : Nonempty (DefAt K mg "is_length" "is_length" s_is_length ["pair"]) := by
  obtain ⟨oc, od, osl, kV, dc, pm, an, cd, ct, l, cc⟩ := c.def_ 15 (D := D_is_length) rfl
  have F := fun_mk (st := s_is_length) l cc (c.e.fact 46 (f := .keep "is_length") rfl)
  exact ⟨{ a := _, fd := _, F := F, g := He.glo_ok X G (c.e.fact 47 (f := .glo "is_length") rfl), b := F.binds (ps := ["pair"]) fun _ _ _ _ _ _ us hl => match us, hl with | [_], _ => rfl }⟩
theorem qd_whole_of {K : PySem.W.Frag} {h : Heap} {mg : Str → Option Value} (X : K.In h) (G : h.Ns mainGlobals mg) (c : SaysP hfa hfn hex K) : Nonempty (DefAt K mg "whole_of" "whole_of" s_whole_of ["word"]) := by
  obtain ⟨oc, od, osl, kV, dc, pm, an, cd, ct, l, cc⟩ := c.def_ 16 (D := D_whole_of) rfl
  have F := fun_mk (st := s_whole_of) l cc (c.e.fact 48 (f := .keep "whole_of") rfl)
  exact ⟨{ a := _, fd := _, F := F, g := He.glo_ok X G (c.e.fact 49 (f := .glo "whole_of") rfl), b := F.binds (ps := ["word"]) fun _ _ _ _ _ _ us hl => match us, hl with | [_], _ => rfl }⟩
theorem qd_part_text {K : PySem.W.Frag} {h : Heap} {mg : Str → Option Value} (X : K.In h) (G : h.Ns mainGlobals mg) (c : SaysP hfa hfn hex K) : Nonempty (DefAt K mg "part_text" "part_text" s_part_text ["one"]) := by
  obtain ⟨oc, od, osl, kV, dc, pm, an, cd, ct, l, cc⟩ := c.def_ 17 (D := D_part_text) rfl
  have F := fun_mk (st := s_part_text) l cc (c.e.fact 50 (f := .keep "part_text") rfl)
  exact ⟨{ a := _, fd := _, F := F, g := He.glo_ok X G (c.e.fact 51 (f := .glo "part_text") rfl), b := F.binds (ps := ["one"]) fun _ _ _ _ _ _ us hl => match us, hl with | [_], _ => rfl }⟩
theorem qd_part_read {K : PySem.W.Frag} {h : Heap} {mg : Str → Option Value} (X : K.In h) (G : h.Ns mainGlobals mg) (c : SaysP hfa hfn hex K) : Nonempty (DefAt K mg "part_read" "part_read" s_part_read ["line"]) := by
  obtain ⟨oc, od, osl, kV, dc, pm, an, cd, ct, l, cc⟩ := c.def_ 18 (D := D_part_read) rfl
  have F := fun_mk (st := s_part_read) l cc (c.e.fact 52 (f := .keep "part_read") rfl)
  exact ⟨{ a := _, fd := _, F := F, g := He.glo_ok X G (c.e.fact 53 (f := .glo "part_read") rfl), b := F.binds (ps := ["line"]) fun _ _ _ _ _ _ us hl => match us, hl with | [_], _ => rfl }⟩
theorem qd_two_posts {K : PySem.W.Frag} {h : Heap} {mg : Str → Option Value} (X : K.In h) (G : h.Ns mainGlobals mg) (c : SaysP hfa hfn hex K) : Nonempty (DefAt K mg "two_posts" "two_posts" s_two_posts ["n", "a", "b"]) := by
  obtain ⟨oc, od, osl, kV, dc, pm, an, cd, ct, l, cc⟩ := c.def_ 19 (D := D_two_posts) rfl
  have F := fun_mk (st := s_two_posts) l cc (c.e.fact 54 (f := .keep "two_posts") rfl)
  exact ⟨{ a := _, fd := _, F := F, g := He.glo_ok X G (c.e.fact 55 (f := .glo "two_posts") rfl), b := F.binds (ps := ["n", "a", "b"]) fun _ _ _ _ _ _ us hl => match us, hl with | [_, _, _], _ => rfl }⟩
theorem qd_between {K : PySem.W.Frag} {h : Heap} {mg : Str → Option Value} (X : K.In h) (G : h.Ns mainGlobals mg) (c : SaysP hfa hfn hex K) : Nonempty (DefAt K mg "between" "between" s_between ["lengths", "a", "b"]) := by
  obtain ⟨oc, od, osl, kV, dc, pm, an, cd, ct, l, cc⟩ := c.def_ 20 (D := D_between) rfl
  have F := fun_mk (st := s_between) l cc (c.e.fact 56 (f := .keep "between") rfl)
  exact ⟨{ a := _, fd := _, F := F, g := He.glo_ok X G (c.e.fact 57 (f := .glo "between") rfl), b := F.binds (ps := ["lengths", "a", "b"]) fun _ _ _ _ _ _ us hl => match us, hl with | [_, _, _], _ => rfl }⟩
theorem qd_spread {K : PySem.W.Frag} {h : Heap} {mg : Str → Option Value} (X : K.In h) (G : h.Ns mainGlobals mg) (c : SaysP hfa hfn hex K) : Nonempty (DefAt K mg "spread" "spread" s_spread ["one", "other"]) := by
  obtain ⟨oc, od, osl, kV, dc, pm, an, cd, ct, l, cc⟩ := c.def_ 21 (D := D_spread) rfl
  have F := fun_mk (st := s_spread) l cc (c.e.fact 58 (f := .keep "spread") rfl)
  exact ⟨{ a := _, fd := _, F := F, g := He.glo_ok X G (c.e.fact 59 (f := .glo "spread") rfl), b := F.binds (ps := ["one", "other"]) fun _ _ _ _ _ _ us hl => match us, hl with | [_, _], _ => rfl }⟩
theorem qd_pair_mixed {K : PySem.W.Frag} {h : Heap} {mg : Str → Option Value} (X : K.In h) (G : h.Ns mainGlobals mg) (c : SaysP hfa hfn hex K) : Nonempty (DefAt K mg "pair_mixed" "pair_mixed" s_pair_mixed ["one", "part", "other", "share"]) := by
  obtain ⟨oc, od, osl, kV, dc, pm, an, cd, ct, l, cc⟩ := c.def_ 22 (D := D_pair_mixed) rfl
  have F := fun_mk (st := s_pair_mixed) l cc (c.e.fact 60 (f := .keep "pair_mixed") rfl)
  exact ⟨{ a := _, fd := _, F := F, g := He.glo_ok X G (c.e.fact 61 (f := .glo "pair_mixed") rfl), b := F.binds (ps := ["one", "part", "other", "share"]) fun _ _ _ _ _ _ us hl => match us, hl with | [_, _, _, _], _ => rfl }⟩
theorem qd_third {K : PySem.W.Frag} {h : Heap} {mg : Str → Option Value} (X : K.In h) (G : h.Ns mainGlobals mg) (c : SaysP hfa hfn hex K) : Nonempty (DefAt K mg "third" "third" s_third ["lengths", "stood", "a", "b", "c"]) := by
  obtain ⟨oc, od, osl, kV, dc, pm, an, cd, ct, l, cc⟩ := c.def_ 23 (D := D_third) rfl
  have F := fun_mk (st := s_third) l cc (c.e.fact 62 (f := .keep "third") rfl)
  exact ⟨{ a := _, fd := _, F := F, g := He.glo_ok X G (c.e.fact 63 (f := .glo "third") rfl), b := F.binds (ps := ["lengths", "stood", "a", "b", "c"]) fun _ _ _ _ _ _ us hl => match us, hl with | [_, _, _, _, _], _ => rfl }⟩
theorem qd_stands {K : PySem.W.Frag} {h : Heap} {mg : Str → Option Value} (X : K.In h) (G : h.Ns mainGlobals mg) (c : SaysP hfa hfn hex K) : Nonempty (DefAt K mg "stands" "stands" s_stands ["n", "cut", "lengths"]) := by
  obtain ⟨oc, od, osl, kV, dc, pm, an, cd, ct, l, cc⟩ := c.def_ 24 (D := D_stands) rfl
  have F := fun_mk (st := s_stands) l cc (c.e.fact 64 (f := .keep "stands") rfl)
  exact ⟨{ a := _, fd := _, F := F, g := He.glo_ok X G (c.e.fact 65 (f := .glo "stands") rfl), b := F.binds (ps := ["n", "cut", "lengths"]) fun _ _ _ _ _ _ us hl => match us, hl with | [_, _, _], _ => rfl }⟩
theorem qd_measured {K : PySem.W.Frag} {h : Heap} {mg : Str → Option Value} (X : K.In h) (G : h.Ns mainGlobals mg) (c : SaysP hfa hfn hex K) : Nonempty (DefAt K mg "measured" "measured" s_measured ["n", "cut", "lengths", "a", "b"]) := by
  obtain ⟨oc, od, osl, kV, dc, pm, an, cd, ct, l, cc⟩ := c.def_ 25 (D := D_measured) rfl
  have F := fun_mk (st := s_measured) l cc (c.e.fact 66 (f := .keep "measured") rfl)
  exact ⟨{ a := _, fd := _, F := F, g := He.glo_ok X G (c.e.fact 67 (f := .glo "measured") rfl), b := F.binds (ps := ["n", "cut", "lengths", "a", "b"]) fun _ _ _ _ _ _ us hl => match us, hl with | [_, _, _, _, _], _ => rfl }⟩
theorem qd_sized_by {K : PySem.W.Frag} {h : Heap} {mg : Str → Option Value} (X : K.In h) (G : h.Ns mainGlobals mg) (c : SaysP hfa hfn hex K) : Nonempty (DefAt K mg "sized_by" "sized_by" s_sized_by ["n", "cut", "lengths"]) := by
  obtain ⟨oc, od, osl, kV, dc, pm, an, cd, ct, l, cc⟩ := c.def_ 26 (D := D_sized_by) rfl
  have F := fun_mk (st := s_sized_by) l cc (c.e.fact 68 (f := .keep "sized_by") rfl)
  exact ⟨{ a := _, fd := _, F := F, g := He.glo_ok X G (c.e.fact 69 (f := .glo "sized_by") rfl), b := F.binds (ps := ["n", "cut", "lengths"]) fun _ _ _ _ _ _ us hl => match us, hl with | [_, _, _], _ => rfl }⟩
theorem qd_mead_text {K : PySem.W.Frag} {h : Heap} {mg : Str → Option Value} (X : K.In h) (G : h.Ns mainGlobals mg) (c : SaysP hfa hfn hex K) : Nonempty (DefAt K mg "mead_text" "mead_text" s_mead_text ["mead"]) := by
  obtain ⟨oc, od, osl, kV, dc, pm, an, cd, ct, l, cc⟩ := c.def_ 27 (D := D_mead_text) rfl
  have F := fun_mk (st := s_mead_text) l cc (c.e.fact 70 (f := .keep "mead_text") rfl)
  exact ⟨{ a := _, fd := _, F := F, g := He.glo_ok X G (c.e.fact 71 (f := .glo "mead_text") rfl), b := F.binds (ps := ["mead"]) fun _ _ _ _ _ _ us hl => match us, hl with | [_], _ => rfl }⟩
theorem qd_tie_row {K : PySem.W.Frag} {h : Heap} {mg : Str → Option Value} (X : K.In h) (G : h.Ns mainGlobals mg) (c : SaysP hfa hfn hex K) : Nonempty (DefAt K mg "tie_row" "tie_row" s_tie_row ["line"]) := by
  obtain ⟨oc, od, osl, kV, dc, pm, an, cd, ct, l, cc⟩ := c.def_ 28 (D := D_tie_row) rfl
  have F := fun_mk (st := s_tie_row) l cc (c.e.fact 72 (f := .keep "tie_row") rfl)
  exact ⟨{ a := _, fd := _, F := F, g := He.glo_ok X G (c.e.fact 73 (f := .glo "tie_row") rfl), b := F.binds (ps := ["line"]) fun _ _ _ _ _ _ us hl => match us, hl with | [_], _ => rfl }⟩
theorem qd_mead_read {K : PySem.W.Frag} {h : Heap} {mg : Str → Option Value} (X : K.In h) (G : h.Ns mainGlobals mg) (c : SaysP hfa hfn hex K) : Nonempty (DefAt K mg "mead_read" "mead_read" s_mead_read ["text"]) := by
  obtain ⟨oc, od, osl, kV, dc, pm, an, cd, ct, l, cc⟩ := c.def_ 29 (D := D_mead_read) rfl
  have F := fun_mk (st := s_mead_read) l cc (c.e.fact 74 (f := .keep "mead_read") rfl)
  exact ⟨{ a := _, fd := _, F := F, g := He.glo_ok X G (c.e.fact 75 (f := .glo "mead_read") rfl), b := F.binds (ps := ["text"]) fun _ _ _ _ _ _ us hl => match us, hl with | [_], _ => rfl }⟩
theorem qd_law_flow {K : PySem.W.Frag} {h : Heap} {mg : Str → Option Value} (X : K.In h) (G : h.Ns mainGlobals mg) (c : SaysP hfa hfn hex K) : Nonempty (DefAt K mg "_law_flow" "_law_flow" s_law_flow ["_law_script", "_law_many_here"]) := by
  obtain ⟨oc, od, osl, kV, dc, pm, an, cd, ct, l, cc⟩ := c.def_ 30 (D := D_law_flow) rfl
  have F := fun_mk (st := s_law_flow) l cc (c.e.fact 76 (f := .keep "_law_flow") rfl)
  exact ⟨{ a := _, fd := _, F := F, g := He.glo_ok X G (c.e.fact 77 (f := .glo "_law_flow") rfl), b := F.binds (ps := ["_law_script", "_law_many_here"]) fun _ _ _ _ _ _ us hl => match us, hl with | [_, _], _ => rfl }⟩
theorem qd_law_whole {K : PySem.W.Frag} {h : Heap} {mg : Str → Option Value} (X : K.In h) (G : h.Ns mainGlobals mg) (c : SaysP hfa hfn hex K) : Nonempty (DefAt K mg "_law_whole" "_law_whole" s_law_whole ["_law_found"]) := by
  obtain ⟨oc, od, osl, kV, dc, pm, an, cd, ct, l, cc⟩ := c.def_ 31 (D := D_law_whole) rfl
  have F := fun_mk (st := s_law_whole) l cc (c.e.fact 78 (f := .keep "_law_whole") rfl)
  exact ⟨{ a := _, fd := _, F := F, g := He.glo_ok X G (c.e.fact 79 (f := .glo "_law_whole") rfl), b := F.binds (ps := ["_law_found"]) fun _ _ _ _ _ _ us hl => match us, hl with | [_], _ => rfl }⟩
theorem qd_law_low {K : PySem.W.Frag} {h : Heap} {mg : Str → Option Value} (X : K.In h) (G : h.Ns mainGlobals mg) (c : SaysP hfa hfn hex K) : Nonempty (DefAt K mg "_law_low" "_law_low" s_law_low ["_law_top", "_law_bottom"]) := by
  obtain ⟨oc, od, osl, kV, dc, pm, an, cd, ct, l, cc⟩ := c.def_ 32 (D := D_law_low) rfl
  have F := fun_mk (st := s_law_low) l cc (c.e.fact 80 (f := .keep "_law_low") rfl)
  exact ⟨{ a := _, fd := _, F := F, g := He.glo_ok X G (c.e.fact 81 (f := .glo "_law_low") rfl), b := F.binds (ps := ["_law_top", "_law_bottom"]) fun _ _ _ _ _ _ us hl => match us, hl with | [_, _], _ => rfl }⟩
theorem qd_law_part {K : PySem.W.Frag} {h : Heap} {mg : Str → Option Value} (X : K.In h) (G : h.Ns mainGlobals mg) (c : SaysP hfa hfn hex K) : Nonempty (DefAt K mg "_law_part" "_law_part" s_law_part ["_law_found"]) := by
  obtain ⟨oc, od, osl, kV, dc, pm, an, cd, ct, l, cc⟩ := c.def_ 33 (D := D_law_part) rfl
  have F := fun_mk (st := s_law_part) l cc (c.e.fact 82 (f := .keep "_law_part") rfl)
  exact ⟨{ a := _, fd := _, F := F, g := He.glo_ok X G (c.e.fact 83 (f := .glo "_law_part") rfl), b := F.binds (ps := ["_law_found"]) fun _ _ _ _ _ _ us hl => match us, hl with | [_], _ => rfl }⟩
theorem qd_law_size {K : PySem.W.Frag} {h : Heap} {mg : Str → Option Value} (X : K.In h) (G : h.Ns mainGlobals mg) (c : SaysP hfa hfn hex K) : Nonempty (DefAt K mg "_law_size" "_law_size" s_law_size ["_law_one"]) := by
  obtain ⟨oc, od, osl, kV, dc, pm, an, cd, ct, l, cc⟩ := c.def_ 34 (D := D_law_size) rfl
  have F := fun_mk (st := s_law_size) l cc (c.e.fact 84 (f := .keep "_law_size") rfl)
  exact ⟨{ a := _, fd := _, F := F, g := He.glo_ok X G (c.e.fact 85 (f := .glo "_law_size") rfl), b := F.binds (ps := ["_law_one"]) fun _ _ _ _ _ _ us hl => match us, hl with | [_], _ => rfl }⟩
theorem qd_law_many {K : PySem.W.Frag} {h : Heap} {mg : Str → Option Value} (X : K.In h) (G : h.Ns mainGlobals mg) (c : SaysP hfa hfn hex K) : Nonempty (DefAt K mg "_law_many" "_law_many" s_law_many ["_law_row"]) := by
  obtain ⟨oc, od, osl, kV, dc, pm, an, cd, ct, l, cc⟩ := c.def_ 35 (D := D_law_many) rfl
  have F := fun_mk (st := s_law_many) l cc (c.e.fact 86 (f := .keep "_law_many") rfl)
  exact ⟨{ a := _, fd := _, F := F, g := He.glo_ok X G (c.e.fact 87 (f := .glo "_law_many") rfl), b := F.binds (ps := ["_law_row"]) fun _ _ _ _ _ _ us hl => match us, hl with | [_], _ => rfl }⟩
theorem qd_law_pair {K : PySem.W.Frag} {h : Heap} {mg : Str → Option Value} (X : K.In h) (G : h.Ns mainGlobals mg) (c : SaysP hfa hfn hex K) : Nonempty (DefAt K mg "_law_pair" "_law_pair" s_law_pair ["_law_a", "_law_b"]) := by
  obtain ⟨oc, od, osl, kV, dc, pm, an, cd, ct, l, cc⟩ := c.def_ 36 (D := D_law_pair) rfl
  have F := fun_mk (st := s_law_pair) l cc (c.e.fact 88 (f := .keep "_law_pair") rfl)
  exact ⟨{ a := _, fd := _, F := F, g := He.glo_ok X G (c.e.fact 89 (f := .glo "_law_pair") rfl), b := F.binds (ps := ["_law_a", "_law_b"]) fun _ _ _ _ _ _ us hl => match us, hl with | [_, _], _ => rfl }⟩
theorem qd_law_ears {K : PySem.W.Frag} {h : Heap} {mg : Str → Option Value} (X : K.In h) (G : h.Ns mainGlobals mg) (c : SaysP hfa hfn hex K) : Nonempty (DefAt K mg "_law_ears" "_law_ears" s_law_ears ["_law_n", "_law_row"]) := by
  obtain ⟨oc, od, osl, kV, dc, pm, an, cd, ct, l, cc⟩ := c.def_ 37 (D := D_law_ears) rfl
  have F := fun_mk (st := s_law_ears) l cc (c.e.fact 90 (f := .keep "_law_ears") rfl)
  exact ⟨{ a := _, fd := _, F := F, g := He.glo_ok X G (c.e.fact 91 (f := .glo "_law_ears") rfl), b := F.binds (ps := ["_law_n", "_law_row"]) fun _ _ _ _ _ _ us hl => match us, hl with | [_, _], _ => rfl }⟩
theorem qd_law_ropes {K : PySem.W.Frag} {h : Heap} {mg : Str → Option Value} (X : K.In h) (G : h.Ns mainGlobals mg) (c : SaysP hfa hfn hex K) : Nonempty (DefAt K mg "_law_ropes" "_law_ropes" s_law_ropes ["_law_ears_here"]) := by
  obtain ⟨oc, od, osl, kV, dc, pm, an, cd, ct, l, cc⟩ := c.def_ 38 (D := D_law_ropes) rfl
  have F := fun_mk (st := s_law_ropes) l cc (c.e.fact 92 (f := .keep "_law_ropes") rfl)
  exact ⟨{ a := _, fd := _, F := F, g := He.glo_ok X G (c.e.fact 93 (f := .glo "_law_ropes") rfl), b := F.binds (ps := ["_law_ears_here"]) fun _ _ _ _ _ _ us hl => match us, hl with | [_], _ => rfl }⟩
theorem qd_law_sides {K : PySem.W.Frag} {h : Heap} {mg : Str → Option Value} (X : K.In h) (G : h.Ns mainGlobals mg) (c : SaysP hfa hfn hex K) : Nonempty (DefAt K mg "_law_sides" "_law_sides" s_law_sides ["_law_n"]) := by
  obtain ⟨oc, od, osl, kV, dc, pm, an, cd, ct, l, cc⟩ := c.def_ 39 (D := D_law_sides) rfl
  have F := fun_mk (st := s_law_sides) l cc (c.e.fact 94 (f := .keep "_law_sides") rfl)
  exact ⟨{ a := _, fd := _, F := F, g := He.glo_ok X G (c.e.fact 95 (f := .glo "_law_sides") rfl), b := F.binds (ps := ["_law_n"]) fun _ _ _ _ _ _ us hl => match us, hl with | [_], _ => rfl }⟩
theorem qd_law_ties {K : PySem.W.Frag} {h : Heap} {mg : Str → Option Value} (X : K.In h) (G : h.Ns mainGlobals mg) (c : SaysP hfa hfn hex K) : Nonempty (DefAt K mg "_law_ties" "_law_ties" s_law_ties ["_law_n", "_law_cut"]) := by
  obtain ⟨oc, od, osl, kV, dc, pm, an, cd, ct, l, cc⟩ := c.def_ 40 (D := D_law_ties) rfl
  have F := fun_mk (st := s_law_ties) l cc (c.e.fact 96 (f := .keep "_law_ties") rfl)
  exact ⟨{ a := _, fd := _, F := F, g := He.glo_ok X G (c.e.fact 97 (f := .glo "_law_ties") rfl), b := F.binds (ps := ["_law_n", "_law_cut"]) fun _ _ _ _ _ _ us hl => match us, hl with | [_, _], _ => rfl }⟩
theorem qd_law_sized {K : PySem.W.Frag} {h : Heap} {mg : Str → Option Value} (X : K.In h) (G : h.Ns mainGlobals mg) (c : SaysP hfa hfn hex K) : Nonempty (DefAt K mg "_law_sized" "_law_sized" s_law_sized ["_law_all_ties", "_law_row"]) := by
  obtain ⟨oc, od, osl, kV, dc, pm, an, cd, ct, l, cc⟩ := c.def_ 41 (D := D_law_sized) rfl
  have F := fun_mk (st := s_law_sized) l cc (c.e.fact 98 (f := .keep "_law_sized") rfl)
  exact ⟨{ a := _, fd := _, F := F, g := He.glo_ok X G (c.e.fact 99 (f := .glo "_law_sized") rfl), b := F.binds (ps := ["_law_all_ties", "_law_row"]) fun _ _ _ _ _ _ us hl => match us, hl with | [_, _], _ => rfl }⟩
theorem qd_law_cross {K : PySem.W.Frag} {h : Heap} {mg : Str → Option Value} (X : K.In h) (G : h.Ns mainGlobals mg) (c : SaysP hfa hfn hex K) : Nonempty (DefAt K mg "_law_cross" "_law_cross" s_law_cross ["_law_one", "_law_other"]) := by
  obtain ⟨oc, od, osl, kV, dc, pm, an, cd, ct, l, cc⟩ := c.def_ 42 (D := D_law_cross) rfl
  have F := fun_mk (st := s_law_cross) l cc (c.e.fact 100 (f := .keep "_law_cross") rfl)
  exact ⟨{ a := _, fd := _, F := F, g := He.glo_ok X G (c.e.fact 101 (f := .glo "_law_cross") rfl), b := F.binds (ps := ["_law_one", "_law_other"]) fun _ _ _ _ _ _ us hl => match us, hl with | [_, _], _ => rfl }⟩
theorem qd_law_tuple {K : PySem.W.Frag} {h : Heap} {mg : Str → Option Value} (X : K.In h) (G : h.Ns mainGlobals mg) (c : SaysP hfa hfn hex K) : Nonempty (DefAt K mg "_law_tuple" "_law_tuple" s_law_tuple ["_law_found", "_law_many_here"]) := by
  obtain ⟨oc, od, osl, kV, dc, pm, an, cd, ct, l, cc⟩ := c.def_ 43 (D := D_law_tuple) rfl
  have F := fun_mk (st := s_law_tuple) l cc (c.e.fact 102 (f := .keep "_law_tuple") rfl)
  exact ⟨{ a := _, fd := _, F := F, g := He.glo_ok X G (c.e.fact 103 (f := .glo "_law_tuple") rfl), b := F.binds (ps := ["_law_found", "_law_many_here"]) fun _ _ _ _ _ _ us hl => match us, hl with | [_, _], _ => rfl }⟩
theorem qd_law_list {K : PySem.W.Frag} {h : Heap} {mg : Str → Option Value} (X : K.In h) (G : h.Ns mainGlobals mg) (c : SaysP hfa hfn hex K) : Nonempty (DefAt K mg "_law_list" "_law_list" s_law_list ["_law_found", "_law_many_here"]) := by
  obtain ⟨oc, od, osl, kV, dc, pm, an, cd, ct, l, cc⟩ := c.def_ 44 (D := D_law_list) rfl
  have F := fun_mk (st := s_law_list) l cc (c.e.fact 104 (f := .keep "_law_list") rfl)
  exact ⟨{ a := _, fd := _, F := F, g := He.glo_ok X G (c.e.fact 105 (f := .glo "_law_list") rfl), b := F.binds (ps := ["_law_found", "_law_many_here"]) fun _ _ _ _ _ _ us hl => match us, hl with | [_, _], _ => rfl }⟩
theorem qd_law_dict {K : PySem.W.Frag} {h : Heap} {mg : Str → Option Value} (X : K.In h) (G : h.Ns mainGlobals mg) (c : SaysP hfa hfn hex K) : Nonempty (DefAt K mg "_law_dict" "_law_dict" s_law_dict ["_law_found", "_law_due"]) := by
  obtain ⟨oc, od, osl, kV, dc, pm, an, cd, ct, l, cc⟩ := c.def_ 45 (D := D_law_dict) rfl
  have F := fun_mk (st := s_law_dict) l cc (c.e.fact 106 (f := .keep "_law_dict") rfl)
  exact ⟨{ a := _, fd := _, F := F, g := He.glo_ok X G (c.e.fact 107 (f := .glo "_law_dict") rfl), b := F.binds (ps := ["_law_found", "_law_due"]) fun _ _ _ _ _ _ us hl => match us, hl with | [_, _], _ => rfl }⟩
theorem qd_law_is_at {K : PySem.W.Frag} {h : Heap} {mg : Str → Option Value} (X : K.In h) (G : h.Ns mainGlobals mg) (c : SaysP hfa hfn hex K) : Nonempty (DefAt K mg "_law_is_at" "_law_is_at" s_law_is_at ["_law_mead", "_law_state"]) := by
  obtain ⟨oc, od, osl, kV, dc, pm, an, cd, ct, l, cc⟩ := c.def_ 46 (D := D_law_is_at) rfl
  have F := fun_mk (st := s_law_is_at) l cc (c.e.fact 108 (f := .keep "_law_is_at") rfl)
  exact ⟨{ a := _, fd := _, F := F, g := He.glo_ok X G (c.e.fact 109 (f := .glo "_law_is_at") rfl), b := F.binds (ps := ["_law_mead", "_law_state"]) fun _ _ _ _ _ _ us hl => match us, hl with | [_, _], _ => rfl }⟩
theorem qd_law_start {K : PySem.W.Frag} {h : Heap} {mg : Str → Option Value} (X : K.In h) (G : h.Ns mainGlobals mg) (c : SaysP hfa hfn hex K) : Nonempty (DefAt K mg "_law_start" "_law_start" s_law_start ["_law_row"]) := by
  obtain ⟨oc, od, osl, kV, dc, pm, an, cd, ct, l, cc⟩ := c.def_ 47 (D := D_law_start) rfl
  have F := fun_mk (st := s_law_start) l cc (c.e.fact 110 (f := .keep "_law_start") rfl)
  exact ⟨{ a := _, fd := _, F := F, g := He.glo_ok X G (c.e.fact 111 (f := .glo "_law_start") rfl), b := F.binds (ps := ["_law_row"]) fun _ _ _ _ _ _ us hl => match us, hl with | [_], _ => rfl }⟩
theorem qd_law_fig {K : PySem.W.Frag} {h : Heap} {mg : Str → Option Value} (X : K.In h) (G : h.Ns mainGlobals mg) (c : SaysP hfa hfn hex K) : Nonempty (DefAt K mg "_law_fig" "_law_fig" s_law_fig ["_law_word"]) := by
  obtain ⟨oc, od, osl, kV, dc, pm, an, cd, ct, l, cc⟩ := c.def_ 48 (D := D_law_fig) rfl
  have F := fun_mk (st := s_law_fig) l cc (c.e.fact 112 (f := .keep "_law_fig") rfl)
  exact ⟨{ a := _, fd := _, F := F, g := He.glo_ok X G (c.e.fact 113 (f := .glo "_law_fig") rfl), b := F.binds (ps := ["_law_word"]) fun _ _ _ _ _ _ us hl => match us, hl with | [_], _ => rfl }⟩
theorem qd_law_part_of {K : PySem.W.Frag} {h : Heap} {mg : Str → Option Value} (X : K.In h) (G : h.Ns mainGlobals mg) (c : SaysP hfa hfn hex K) : Nonempty (DefAt K mg "_law_part_of" "_law_part_of" s_law_part_of ["_law_word"]) := by
  obtain ⟨oc, od, osl, kV, dc, pm, an, cd, ct, l, cc⟩ := c.def_ 49 (D := D_law_part_of) rfl
  have F := fun_mk (st := s_law_part_of) l cc (c.e.fact 114 (f := .keep "_law_part_of") rfl)
  exact ⟨{ a := _, fd := _, F := F, g := He.glo_ok X G (c.e.fact 115 (f := .glo "_law_part_of") rfl), b := F.binds (ps := ["_law_word"]) fun _ _ _ _ _ _ us hl => match us, hl with | [_], _ => rfl }⟩
theorem qd_law_fits_ring {K : PySem.W.Frag} {h : Heap} {mg : Str → Option Value} (X : K.In h) (G : h.Ns mainGlobals mg) (c : SaysP hfa hfn hex K) : Nonempty (DefAt K mg "_law_fits_ring" "_law_fits_ring" s_law_fits_ring ["_law_n", "_law_ropes_here"]) := by
  obtain ⟨oc, od, osl, kV, dc, pm, an, cd, ct, l, cc⟩ := c.def_ 50 (D := D_law_fits_ring) rfl
  have F := fun_mk (st := s_law_fits_ring) l cc (c.e.fact 116 (f := .keep "_law_fits_ring") rfl)
  exact ⟨{ a := _, fd := _, F := F, g := He.glo_ok X G (c.e.fact 117 (f := .glo "_law_fits_ring") rfl), b := F.binds (ps := ["_law_n", "_law_ropes_here"]) fun _ _ _ _ _ _ us hl => match us, hl with | [_, _], _ => rfl }⟩
theorem qd_law_sheet {K : PySem.W.Frag} {h : Heap} {mg : Str → Option Value} (X : K.In h) (G : h.Ns mainGlobals mg) (c : SaysP hfa hfn hex K) : Nonempty (DefAt K mg "_law_sheet" "_law_sheet" s_law_sheet ["_law_state"]) := by
  obtain ⟨oc, od, osl, kV, dc, pm, an, cd, ct, l, cc⟩ := c.def_ 51 (D := D_law_sheet) rfl
  have F := fun_mk (st := s_law_sheet) l cc (c.e.fact 118 (f := .keep "_law_sheet") rfl)
  exact ⟨{ a := _, fd := _, F := F, g := He.glo_ok X G (c.e.fact 119 (f := .glo "_law_sheet") rfl), b := F.binds (ps := ["_law_state"]) fun _ _ _ _ _ _ us hl => match us, hl with | [_], _ => rfl }⟩
theorem qd_law_unsheet {K : PySem.W.Frag} {h : Heap} {mg : Str → Option Value} (X : K.In h) (G : h.Ns mainGlobals mg) (c : SaysP hfa hfn hex K) : Nonempty (DefAt K mg "_law_unsheet" "_law_unsheet" s_law_unsheet ["_law_text"]) := by
  obtain ⟨oc, od, osl, kV, dc, pm, an, cd, ct, l, cc⟩ := c.def_ 52 (D := D_law_unsheet) rfl
  have F := fun_mk (st := s_law_unsheet) l cc (c.e.fact 120 (f := .keep "_law_unsheet") rfl)
  exact ⟨{ a := _, fd := _, F := F, g := He.glo_ok X G (c.e.fact 121 (f := .glo "_law_unsheet") rfl), b := F.binds (ps := ["_law_text"]) fun _ _ _ _ _ _ us hl => match us, hl with | [_], _ => rfl }⟩
theorem qd_law_signs {K : PySem.W.Frag} {h : Heap} {mg : Str → Option Value} (X : K.In h) (G : h.Ns mainGlobals mg) (c : SaysP hfa hfn hex K) : Nonempty (DefAt K mg "_law_signs" "_law_signs" s_law_signs ["_law_text", "_law_row"]) := by
  obtain ⟨oc, od, osl, kV, dc, pm, an, cd, ct, l, cc⟩ := c.def_ 53 (D := D_law_signs) rfl
  have F := fun_mk (st := s_law_signs) l cc (c.e.fact 122 (f := .keep "_law_signs") rfl)
  exact ⟨{ a := _, fd := _, F := F, g := He.glo_ok X G (c.e.fact 123 (f := .glo "_law_signs") rfl), b := F.binds (ps := ["_law_text", "_law_row"]) fun _ _ _ _ _ _ us hl => match us, hl with | [_, _], _ => rfl }⟩
theorem qd_law_lines {K : PySem.W.Frag} {h : Heap} {mg : Str → Option Value} (X : K.In h) (G : h.Ns mainGlobals mg) (c : SaysP hfa hfn hex K) : Nonempty (DefAt K mg "_law_lines" "_law_lines" s_law_lines ["_law_text", "_law_row", "_law_n"]) := by
  obtain ⟨oc, od, osl, kV, dc, pm, an, cd, ct, l, cc⟩ := c.def_ 54 (D := D_law_lines) rfl
  have F := fun_mk (st := s_law_lines) l cc (c.e.fact 124 (f := .keep "_law_lines") rfl)
  exact ⟨{ a := _, fd := _, F := F, g := He.glo_ok X G (c.e.fact 125 (f := .glo "_law_lines") rfl), b := F.binds (ps := ["_law_text", "_law_row", "_law_n"]) fun _ _ _ _ _ _ us hl => match us, hl with | [_, _, _], _ => rfl }⟩
theorem qd_law_odd {K : PySem.W.Frag} {h : Heap} {mg : Str → Option Value} (X : K.In h) (G : h.Ns mainGlobals mg) (c : SaysP hfa hfn hex K) : Nonempty (DefAt K mg "_law_odd" "_law_odd" s_law_odd ["_law_text", "_law_row"]) := by
  obtain ⟨oc, od, osl, kV, dc, pm, an, cd, ct, l, cc⟩ := c.def_ 55 (D := D_law_odd) rfl
  have F := fun_mk (st := s_law_odd) l cc (c.e.fact 126 (f := .keep "_law_odd") rfl)
  exact ⟨{ a := _, fd := _, F := F, g := He.glo_ok X G (c.e.fact 127 (f := .glo "_law_odd") rfl), b := F.binds (ps := ["_law_text", "_law_row"]) fun _ _ _ _ _ _ us hl => match us, hl with | [_, _], _ => rfl }⟩
theorem qd_law {K : PySem.W.Frag} {h : Heap} {mg : Str → Option Value} (X : K.In h) (G : h.Ns mainGlobals mg) (c : SaysP hfa hfn hex K) : Nonempty (DefAt K mg "law" "law" s_law ["_law_script"]) := by
  obtain ⟨oc, od, osl, kV, dc, pm, an, cd, ct, l, cc⟩ := c.def_ 56 (D := D_law) rfl
  have F := fun_mk (st := s_law) l cc (c.e.fact 128 (f := .keep "law") rfl)
  exact ⟨{ a := _, fd := _, F := F, g := He.glo_ok X G (c.e.fact 129 (f := .glo "law") rfl), b := F.binds (ps := ["_law_script"]) fun _ _ _ _ _ _ us hl => match us, hl with | [_], _ => rfl }⟩
theorem qd_Mead___init__ {K : PySem.W.Frag} {h : Heap} {mg : Str → Option Value} (X : K.In h) (G : h.Ns mainGlobals mg) (c : SaysP hfa hfn hex K) : Nonempty { d : MethAt K (He.ga K "Mead") "__init__" "Mead.__init__" s_Mead___init__ ["self", "n", "ropes", "lengths"] // d.a = He.ma K (He.ga K "Mead") "__init__" } := by
  obtain ⟨oc, od, osl, kV, dc, pm, an, cd, ct, l, cc⟩ := c.def_ 57 (D := D_Mead___init__) rfl
  have M := He.meth_ok (c.e.fact 130 (f := .meth "Mead" "__init__") rfl)
  have F := fun_mk (st := s_Mead___init__) l cc M.kp
  exact ⟨⟨{ a := _, fd := _, F := F, M := M, b := F.binds (ps := ["self", "n", "ropes", "lengths"]) fun _ _ _ _ _ _ us hl => match us, hl with | [_, _, _, _], _ => rfl }, rfl⟩⟩
theorem qd_Mead_posts {K : PySem.W.Frag} {h : Heap} {mg : Str → Option Value} (X : K.In h) (G : h.Ns mainGlobals mg) (c : SaysP hfa hfn hex K) : Nonempty { d : MethAt K (He.ga K "Mead") "posts" "Mead.posts" s_Mead_posts ["self"] // d.a = He.ma K (He.ga K "Mead") "posts" } := by
  obtain ⟨oc, od, osl, kV, dc, pm, an, cd, ct, l, cc⟩ := c.def_ 58 (D := D_Mead_posts) rfl
  have M := He.meth_ok (c.e.fact 131 (f := .meth "Mead" "posts") rfl)
  have F := fun_mk (st := s_Mead_posts) l cc M.kp
  exact ⟨⟨{ a := _, fd := _, F := F, M := M, b := F.binds (ps := ["self"]) fun _ _ _ _ _ _ us hl => match us, hl with | [_], _ => rfl }, rfl⟩⟩
theorem qd_Mead_ropes {K : PySem.W.Frag} {h : Heap} {mg : Str → Option Value} (X : K.In h) (G : h.Ns mainGlobals mg) (c : SaysP hfa hfn hex K) : Nonempty { d : MethAt K (He.ga K "Mead") "ropes" "Mead.ropes" s_Mead_ropes ["self"] // d.a = He.ma K (He.ga K "Mead") "ropes" } := by
  obtain ⟨oc, od, osl, kV, dc, pm, an, cd, ct, l, cc⟩ := c.def_ 59 (D := D_Mead_ropes) rfl
  have M := He.meth_ok (c.e.fact 132 (f := .meth "Mead" "ropes") rfl)
  have F := fun_mk (st := s_Mead_ropes) l cc M.kp
  exact ⟨⟨{ a := _, fd := _, F := F, M := M, b := F.binds (ps := ["self"]) fun _ _ _ _ _ _ us hl => match us, hl with | [_], _ => rfl }, rfl⟩⟩
theorem qd_Mead_lengths {K : PySem.W.Frag} {h : Heap} {mg : Str → Option Value} (X : K.In h) (G : h.Ns mainGlobals mg) (c : SaysP hfa hfn hex K) : Nonempty { d : MethAt K (He.ga K "Mead") "lengths" "Mead.lengths" s_Mead_lengths ["self"] // d.a = He.ma K (He.ga K "Mead") "lengths" } := by
  obtain ⟨oc, od, osl, kV, dc, pm, an, cd, ct, l, cc⟩ := c.def_ 60 (D := D_Mead_lengths) rfl
  have M := He.meth_ok (c.e.fact 133 (f := .meth "Mead" "lengths") rfl)
  have F := fun_mk (st := s_Mead_lengths) l cc M.kp
  exact ⟨⟨{ a := _, fd := _, F := F, M := M, b := F.binds (ps := ["self"]) fun _ _ _ _ _ _ us hl => match us, hl with | [_], _ => rfl }, rfl⟩⟩
theorem qd_Mead_deeds {K : PySem.W.Frag} {h : Heap} {mg : Str → Option Value} (X : K.In h) (G : h.Ns mainGlobals mg) (c : SaysP hfa hfn hex K) : Nonempty { d : MethAt K (He.ga K "Mead") "deeds" "Mead.deeds" s_Mead_deeds ["self"] // d.a = He.ma K (He.ga K "Mead") "deeds" } := by
  obtain ⟨oc, od, osl, kV, dc, pm, an, cd, ct, l, cc⟩ := c.def_ 61 (D := D_Mead_deeds) rfl
  have M := He.meth_ok (c.e.fact 134 (f := .meth "Mead" "deeds") rfl)
  have F := fun_mk (st := s_Mead_deeds) l cc M.kp
  exact ⟨⟨{ a := _, fd := _, F := F, M := M, b := F.binds (ps := ["self"]) fun _ _ _ _ _ _ us hl => match us, hl with | [_], _ => rfl }, rfl⟩⟩
theorem qd_Mead_length {K : PySem.W.Frag} {h : Heap} {mg : Str → Option Value} (X : K.In h) (G : h.Ns mainGlobals mg) (c : SaysP hfa hfn hex K) : Nonempty { d : MethAt K (He.ga K "Mead") "length" "Mead.length" s_Mead_length ["self", "a", "b"] // d.a = He.ma K (He.ga K "Mead") "length" } := by
  obtain ⟨oc, od, osl, kV, dc, pm, an, cd, ct, l, cc⟩ := c.def_ 62 (D := D_Mead_length) rfl
  have M := He.meth_ok (c.e.fact 135 (f := .meth "Mead" "length") rfl)
  have F := fun_mk (st := s_Mead_length) l cc M.kp
  exact ⟨⟨{ a := _, fd := _, F := F, M := M, b := F.binds (ps := ["self", "a", "b"]) fun _ _ _ _ _ _ us hl => match us, hl with | [_, _, _], _ => rfl }, rfl⟩⟩
theorem qd_Mead_state {K : PySem.W.Frag} {h : Heap} {mg : Str → Option Value} (X : K.In h) (G : h.Ns mainGlobals mg) (c : SaysP hfa hfn hex K) : Nonempty { d : MethAt K (He.ga K "Mead") "state" "Mead.state" s_Mead_state ["self"] // d.a = He.ma K (He.ga K "Mead") "state" } := by
  obtain ⟨oc, od, osl, kV, dc, pm, an, cd, ct, l, cc⟩ := c.def_ 63 (D := D_Mead_state) rfl
  have M := He.meth_ok (c.e.fact 136 (f := .meth "Mead" "state") rfl)
  have F := fun_mk (st := s_Mead_state) l cc M.kp
  exact ⟨⟨{ a := _, fd := _, F := F, M := M, b := F.binds (ps := ["self"]) fun _ _ _ _ _ _ us hl => match us, hl with | [_], _ => rfl }, rfl⟩⟩
theorem qd_Mead_stand_at {K : PySem.W.Frag} {h : Heap} {mg : Str → Option Value} (X : K.In h) (G : h.Ns mainGlobals mg) (c : SaysP hfa hfn hex K) : Nonempty { d : MethAt K (He.ga K "Mead") "stand_at" "Mead.stand_at" s_Mead_stand_at ["self", "state"] // d.a = He.ma K (He.ga K "Mead") "stand_at" } := by
  obtain ⟨oc, od, osl, kV, dc, pm, an, cd, ct, l, cc⟩ := c.def_ 64 (D := D_Mead_stand_at) rfl
  have M := He.meth_ok (c.e.fact 137 (f := .meth "Mead" "stand_at") rfl)
  have F := fun_mk (st := s_Mead_stand_at) l cc M.kp
  exact ⟨⟨{ a := _, fd := _, F := F, M := M, b := F.binds (ps := ["self", "state"]) fun _ _ _ _ _ _ us hl => match us, hl with | [_, _], _ => rfl }, rfl⟩⟩
theorem qd_Mead_done {K : PySem.W.Frag} {h : Heap} {mg : Str → Option Value} (X : K.In h) (G : h.Ns mainGlobals mg) (c : SaysP hfa hfn hex K) : Nonempty { d : MethAt K (He.ga K "Mead") "done" "Mead.done" s_Mead_done ["self", "deed", "state"] // d.a = He.ma K (He.ga K "Mead") "done" } := by
  obtain ⟨oc, od, osl, kV, dc, pm, an, cd, ct, l, cc⟩ := c.def_ 65 (D := D_Mead_done) rfl
  have M := He.meth_ok (c.e.fact 138 (f := .meth "Mead" "done") rfl)
  have F := fun_mk (st := s_Mead_done) l cc M.kp
  exact ⟨⟨{ a := _, fd := _, F := F, M := M, b := F.binds (ps := ["self", "deed", "state"]) fun _ _ _ _ _ _ us hl => match us, hl with | [_, _, _], _ => rfl }, rfl⟩⟩
theorem qd_Mead_back {K : PySem.W.Frag} {h : Heap} {mg : Str → Option Value} (X : K.In h) (G : h.Ns mainGlobals mg) (c : SaysP hfa hfn hex K) : Nonempty { d : MethAt K (He.ga K "Mead") "back" "Mead.back" s_Mead_back ["self"] // d.a = He.ma K (He.ga K "Mead") "back" } := by
  obtain ⟨oc, od, osl, kV, dc, pm, an, cd, ct, l, cc⟩ := c.def_ 66 (D := D_Mead_back) rfl
  have M := He.meth_ok (c.e.fact 139 (f := .meth "Mead" "back") rfl)
  have F := fun_mk (st := s_Mead_back) l cc M.kp
  exact ⟨⟨{ a := _, fd := _, F := F, M := M, b := F.binds (ps := ["self"]) fun _ _ _ _ _ _ us hl => match us, hl with | [_], _ => rfl }, rfl⟩⟩
theorem qd_Mead_again {K : PySem.W.Frag} {h : Heap} {mg : Str → Option Value} (X : K.In h) (G : h.Ns mainGlobals mg) (c : SaysP hfa hfn hex K) : Nonempty { d : MethAt K (He.ga K "Mead") "again" "Mead.again" s_Mead_again ["self"] // d.a = He.ma K (He.ga K "Mead") "again" } := by
  obtain ⟨oc, od, osl, kV, dc, pm, an, cd, ct, l, cc⟩ := c.def_ 67 (D := D_Mead_again) rfl
  have M := He.meth_ok (c.e.fact 140 (f := .meth "Mead" "again") rfl)
  have F := fun_mk (st := s_Mead_again) l cc M.kp
  exact ⟨⟨{ a := _, fd := _, F := F, M := M, b := F.binds (ps := ["self"]) fun _ _ _ _ _ _ us hl => match us, hl with | [_], _ => rfl }, rfl⟩⟩
theorem tx_of {K : PySem.W.Frag} {h : Heap} {mg : Str → Option Value} (X : K.In h) (G : h.Ns mainGlobals mg) (c : SaysP hfa hfn hex K) : Nonempty (Tx0 K mg) := by
  obtain ⟨⟨e_NoCutting, ee_NoCutting⟩⟩ := qe_NoCutting X G c
  obtain ⟨⟨e_NoFraction, ee_NoFraction⟩⟩ := qe_NoFraction X G c
  obtain ⟨⟨e_NoPost, ee_NoPost⟩⟩ := qe_NoPost X G c
  obtain ⟨⟨e_BadLength, ee_BadLength⟩⟩ := qe_BadLength X G c
  obtain ⟨⟨e_BadSheet, ee_BadSheet⟩⟩ := qe_BadSheet X G c
  obtain ⟨⟨e_MeadError, ee_MeadError⟩⟩ := qe_MeadError X G c
  obtain ⟨⟨e_NoBack, ee_NoBack⟩⟩ := qe_NoBack X G c
  obtain ⟨⟨d_Mead___init__, dd_Mead___init__⟩⟩ := qd_Mead___init__ X G c
  obtain ⟨⟨d_Mead_posts, dd_Mead_posts⟩⟩ := qd_Mead_posts X G c
  obtain ⟨⟨d_Mead_ropes, dd_Mead_ropes⟩⟩ := qd_Mead_ropes X G c
  obtain ⟨⟨d_Mead_lengths, dd_Mead_lengths⟩⟩ := qd_Mead_lengths X G c
  obtain ⟨⟨d_Mead_deeds, dd_Mead_deeds⟩⟩ := qd_Mead_deeds X G c
  obtain ⟨⟨d_Mead_length, dd_Mead_length⟩⟩ := qd_Mead_length X G c
  obtain ⟨⟨d_Mead_state, dd_Mead_state⟩⟩ := qd_Mead_state X G c
  obtain ⟨⟨d_Mead_stand_at, dd_Mead_stand_at⟩⟩ := qd_Mead_stand_at X G c
  obtain ⟨⟨d_Mead_done, dd_Mead_done⟩⟩ := qd_Mead_done X G c
  obtain ⟨⟨d_Mead_back, dd_Mead_back⟩⟩ := qd_Mead_back X G c
  obtain ⟨⟨d_Mead_again, dd_Mead_again⟩⟩ := qd_Mead_again X G c
  obtain ⟨t_FEWEST, ht_FEWEST⟩ := He.int_ok X G (c.e.fact 160 (f := .int "FEWEST" (3)) rfl)
  obtain ⟨t_MOST, ht_MOST⟩ := He.int_ok X G (c.e.fact 161 (f := .int "MOST" (12)) rfl)
  obtain ⟨t_MOST_FIGURES, ht_MOST_FIGURES⟩ := He.int_ok X G (c.e.fact 162 (f := .int "MOST_FIGURES" (400)) rfl)
  obtain ⟨t_FIGURES, ht_FIGURES⟩ := He.str_ok X G (c.e.fact 163 (f := .str "FIGURES" "0123456789") rfl)
  exact ⟨{
    c_Mead := He.ga K "Mead",
    g_Mead := He.glo_ok X G (c.e.fact 0 (f := .glo "Mead") rfl),
    cl_Mead := He.cls_ok (c.e.fact 1 (f := .cls "Mead") rfl),
    d_wall := Classical.choice (qd_wall X G c),
    d_tie_of := Classical.choice (qd_tie_of X G c),
    d_crosses := Classical.choice (qd_crosses X G c),
    d_sides := Classical.choice (qd_sides X G c),
    d_is_rope := Classical.choice (qd_is_rope X G c),
    d_kept := Classical.choice (qd_kept X G c),
    d_ties := Classical.choice (qd_ties X G c),
    d_plots := Classical.choice (qd_plots X G c),
    d_measure := Classical.choice (qd_measure X G c),
    d_lowest := Classical.choice (qd_lowest X G c),
    d_plus := Classical.choice (qd_plus X G c),
    d_less := Classical.choice (qd_less X G c),
    d_times := Classical.choice (qd_times X G c),
    d_over := Classical.choice (qd_over X G c),
    d_is_part := Classical.choice (qd_is_part X G c),
    d_is_length := Classical.choice (qd_is_length X G c),
    d_whole_of := Classical.choice (qd_whole_of X G c),
    d_part_text := Classical.choice (qd_part_text X G c),
    d_part_read := Classical.choice (qd_part_read X G c),
    d_two_posts := Classical.choice (qd_two_posts X G c),
    d_between := Classical.choice (qd_between X G c),
    d_spread := Classical.choice (qd_spread X G c),
    d_pair_mixed := Classical.choice (qd_pair_mixed X G c),
    d_third := Classical.choice (qd_third X G c),
    d_stands := Classical.choice (qd_stands X G c),
    d_measured := Classical.choice (qd_measured X G c),
    d_sized_by := Classical.choice (qd_sized_by X G c),
    d_mead_text := Classical.choice (qd_mead_text X G c),
    d_tie_row := Classical.choice (qd_tie_row X G c),
    d_mead_read := Classical.choice (qd_mead_read X G c),
    d_law_flow := Classical.choice (qd_law_flow X G c),
    d_law_whole := Classical.choice (qd_law_whole X G c),
    d_law_low := Classical.choice (qd_law_low X G c),
    d_law_part := Classical.choice (qd_law_part X G c),
    d_law_size := Classical.choice (qd_law_size X G c),
    d_law_many := Classical.choice (qd_law_many X G c),
    d_law_pair := Classical.choice (qd_law_pair X G c),
    d_law_ears := Classical.choice (qd_law_ears X G c),
    d_law_ropes := Classical.choice (qd_law_ropes X G c),
    d_law_sides := Classical.choice (qd_law_sides X G c),
    d_law_ties := Classical.choice (qd_law_ties X G c),
    d_law_sized := Classical.choice (qd_law_sized X G c),
    d_law_cross := Classical.choice (qd_law_cross X G c),
    d_law_tuple := Classical.choice (qd_law_tuple X G c),
    d_law_list := Classical.choice (qd_law_list X G c),
    d_law_dict := Classical.choice (qd_law_dict X G c),
    d_law_is_at := Classical.choice (qd_law_is_at X G c),
    d_law_start := Classical.choice (qd_law_start X G c),
    d_law_fig := Classical.choice (qd_law_fig X G c),
    d_law_part_of := Classical.choice (qd_law_part_of X G c),
    d_law_fits_ring := Classical.choice (qd_law_fits_ring X G c),
    d_law_sheet := Classical.choice (qd_law_sheet X G c),
    d_law_unsheet := Classical.choice (qd_law_unsheet X G c),
    d_law_signs := Classical.choice (qd_law_signs X G c),
    d_law_lines := Classical.choice (qd_law_lines X G c),
    d_law_odd := Classical.choice (qd_law_odd X G c),
    d_law := Classical.choice (qd_law X G c),
    d_Mead___init__ := d_Mead___init__,
    d_Mead_posts := d_Mead_posts,
    d_Mead_ropes := d_Mead_ropes,
    d_Mead_lengths := d_Mead_lengths,
    d_Mead_deeds := d_Mead_deeds,
    d_Mead_length := d_Mead_length,
    d_Mead_state := d_Mead_state,
    d_Mead_stand_at := d_Mead_stand_at,
    d_Mead_done := d_Mead_done,
    d_Mead_back := d_Mead_back,
    d_Mead_again := d_Mead_again,
    m_min := He.free_ok X G (c.e.fact 141 (f := .free "min") rfl),
    m_max := He.free_ok X G (c.e.fact 142 (f := .free "max") rfl),
    m_sorted := He.free_ok X G (c.e.fact 143 (f := .free "sorted") rfl),
    m_range := He.free_ok X G (c.e.fact 144 (f := .free "range") rfl),
    m_len := He.free_ok X G (c.e.fact 145 (f := .free "len") rfl),
    m_abs := He.free_ok X G (c.e.fact 146 (f := .free "abs") rfl),
    m_int := He.free_ok X G (c.e.fact 147 (f := .free "int") rfl),
    m_str := He.free_ok X G (c.e.fact 148 (f := .free "str") rfl),
    m_isinstance := He.free_ok X G (c.e.fact 149 (f := .free "isinstance") rfl),
    m_bool := He.free_ok X G (c.e.fact 150 (f := .free "bool") rfl),
    m_tuple := He.free_ok X G (c.e.fact 151 (f := .free "tuple") rfl),
    m_list := He.free_ok X G (c.e.fact 152 (f := .free "list") rfl),
    m_dict := He.free_ok X G (c.e.fact 153 (f := .free "dict") rfl),
    mk_Mead := by rw [dd_Mead___init__]; exact He.mkr_ok (c.e.fact 154 (f := .mkr "Mead") rfl),
    n_Mead_cut := He.noat_ok (c.e.fact 155 (f := .noat "Mead" "cut") rfl),
    n_Mead_many := He.noat_ok (c.e.fact 156 (f := .noat "Mead" "many") rfl),
    n_Mead_sized := He.noat_ok (c.e.fact 157 (f := .noat "Mead" "sized") rfl),
    n_Mead_past := He.noat_ok (c.e.fact 158 (f := .noat "Mead" "past") rfl),
    n_Mead_ahead := He.noat_ok (c.e.fact 159 (f := .noat "Mead" "ahead") rfl),
    e_NoCutting := e_NoCutting,
    e_NoFraction := e_NoFraction,
    e_NoPost := e_NoPost,
    e_BadLength := e_BadLength,
    e_BadSheet := e_BadSheet,
    e_MeadError := e_MeadError,
    e_NoBack := e_NoBack,
    u_FEWEST := .int (3) t_FEWEST, g_FEWEST := ht_FEWEST, r_FEWEST := ⟨t_FEWEST, rfl⟩,
    u_MOST := .int (12) t_MOST, g_MOST := ht_MOST, r_MOST := ⟨t_MOST, rfl⟩,
    u_MOST_FIGURES := .int (400) t_MOST_FIGURES, g_MOST_FIGURES := ht_MOST_FIGURES, r_MOST_FIGURES := ⟨t_MOST_FIGURES, rfl⟩,
    u_FIGURES := .str "0123456789" t_FIGURES, g_FIGURES := ht_FIGURES, r_FIGURES := ⟨t_FIGURES, rfl⟩,
    c_ONE := He.ga K "ONE", g_ONE := He.glo_ok X G (c.e.fact 164 (f := .glo "ONE") rfl), r_ONE := rfl, v_ONE := fun H => He.tupB_ok (x := "ONE") (vs := [.int (1), .int (1)]) (c.b 14 (b := He.tupB K "ONE" [.int (1), .int (1)]) rfl) H,
    c_NOUGHT := He.ga K "NOUGHT", g_NOUGHT := He.glo_ok X G (c.e.fact 165 (f := .glo "NOUGHT") rfl), r_NOUGHT := rfl, v_NOUGHT := fun H => He.tupB_ok (x := "NOUGHT") (vs := [.int (0), .int (1)]) (c.b 15 (b := He.tupB K "NOUGHT" [.int (0), .int (1)]) rfl) H,
    exm_NoFraction_NoFraction := by rw [ee_NoFraction]; exact (c.d 16 (p := PySem.W.exmOne K (.ref (He.ga K "NoFraction")) (.ref (He.ga K "NoFraction")) = some true) rfl),
    exm_NoCutting_NoCutting := by rw [ee_NoCutting]; exact (c.d 17 (p := PySem.W.exmOne K (.ref (He.ga K "NoCutting")) (.ref (He.ga K "NoCutting")) = some true) rfl),
    exm_BadLength_BadLength := by rw [ee_BadLength]; exact (c.d 18 (p := PySem.W.exmOne K (.ref (He.ga K "BadLength")) (.ref (He.ga K "BadLength")) = some true) rfl),
    exm_NoCutting_BadLength := by rw [ee_NoCutting]; rw [ee_BadLength]; exact (c.d 19 (p := PySem.W.exmOne K (.ref (He.ga K "NoCutting")) (.ref (He.ga K "BadLength")) = some false) rfl),
    exm_BadLength_NoCutting := by rw [ee_NoCutting]; rw [ee_BadLength]; exact (c.d 20 (p := PySem.W.exmOne K (.ref (He.ga K "BadLength")) (.ref (He.ga K "NoCutting")) = some false) rfl),
    ex1_BadSheet := by rw [ee_BadSheet]; exact (c.d 21 (p := PySem.W.findIn K (.ref (He.ga K "BadSheet")) "__getattribute__" = some (some (.builtin "BaseException.__getattribute__"))) rfl),
    ex2_BadSheet := by rw [ee_BadSheet]; exact (c.d 22 (p := PySem.W.findIn K (.ref (He.ga K "BadSheet")) "__getattr__" = some none) rfl),
    ex3_BadSheet := by rw [ee_BadSheet]; exact (c.d 23 (p := PySem.W.hasDictIn K (He.ga K "BadSheet") = true) rfl),
    ex4_BadSheet := by rw [ee_BadSheet]; exact (c.d 24 (p := PySem.W.findIn K (.ref (He.ga K "BadSheet")) "__class__" = some (some (.builtin "object.__class__"))) rfl),
    ex5_BadSheet := by exact (c.d 25 (p := PySem.W.specialIn K (.builtin "object.__class__") "__get__" = some (some (.builtin "getset_descriptor.__get__"))) rfl),
    ex6_BadSheet := by exact (c.d 26 (p := PySem.W.takesIn K (.builtin "object.__class__") = some true) rfl),
    ex7_BadSheet := by rw [ee_BadSheet]; exact (c.d 27 (p := PySem.W.mroIn K (He.ga K "BadSheet") (.type "object") = some true) rfl),
    kit_BadSheet_MeadError := by rw [ee_BadSheet]; rw [ee_MeadError]; exact (c.d 28 (p := PySem.W.kitOne K (.ref (He.ga K "BadSheet")) (.ref (He.ga K "MeadError")) = some true) rfl),
    exm_BadSheet_MeadError := by rw [ee_BadSheet]; rw [ee_MeadError]; exact (c.d 29 (p := PySem.W.exmOne K (.ref (He.ga K "BadSheet")) (.ref (He.ga K "MeadError")) = some true) rfl),
    kit_BadSheet_BadSheet := by rw [ee_BadSheet]; exact (c.d 30 (p := PySem.W.kitOne K (.ref (He.ga K "BadSheet")) (.ref (He.ga K "BadSheet")) = some true) rfl),
    exm_BadSheet_BadSheet := by rw [ee_BadSheet]; exact (c.d 31 (p := PySem.W.exmOne K (.ref (He.ga K "BadSheet")) (.ref (He.ga K "BadSheet")) = some true) rfl) }⟩
theorem all_mk {l : PySem.W.OpenLaw} {w : World} {K : PySem.W.Frag} {mg : Str → Option Value} {fa : Addr} (ht : l.prog.given.tree = none) (hfa : mg "law" = some (.ref fa)) (T : Tx0 K mg) :
    ∃ fd : FuncData, (∀ (s : Shared) (v : Value), BindsTo s fd ⟨[v], []⟩ [("_law_script", v)]) ∧ ∀ b : Heap, K.In b → b.Ns mainGlobals mg → b.NoSeer → FnOk l.prog w K mg b CX0 58 fa fd ["_law_script"] (spLaw K) := by
  have e := hfa.symm.trans T.g_law
  cases e
  refine ⟨T.fd_law, fun s v => ?_, fun b _ _ z => ok_law (base := b) { toTx0 := T, seer := z, tree := ht }⟩
  obtain ⟨oc, od, kV, doc, pm, an, cdv, ct, osl, e, lk, hcd⟩ := T.F_law.ex
  rw [e]
  exact .of_eq rfl
end Pm
open PySem PySem.W PySem.Calls PyProof.Rows
set_option maxHeartbeats 0 in
theorem PySem.Challenge.cw_postmead_k47_sheets_refused_holds : PySem.Challenge.rw_postmead_k47_sheets_refused.Holds := by
  w_on; o_law
  refine HandSHeadRun.head_any (r := PySem.W.OpenLaw.row PySem.Challenge.rw_postmead_k47_sheets_refused) (q := PySem.W.view (PySem.W.OpenLaw.row PySem.Challenge.rw_postmead_k47_sheets_refused).prog [78]) (H := Pm.hHook) (ob := Pm.hOb) (M := 40000) (loose := Pm.looseA) (d := HandSHeadRun.topDef (PySem.W.OpenLaw.row PySem.Challenge.rw_postmead_k47_sheets_refused).prog 78) (kwd := []) Pm.obT_eq
    (by kernel_rfl) (fun s => by kernel_rfl) Pm.hRun (by kernel_rfl) (by kernel_rfl) (by kernel_rfl) (by rfl) (by first | assumption | decide +kernel) (by decide +kernel) ⟨rfl, rfl, rfl, rfl, rfl, by decide +kernel⟩ ?hw ?hc
  case hw => w_witness2
  case hc =>
    refine Pm.walk_seerE (l := PySem.Challenge.rw_postmead_k47_sheets_refused) (n := 63) (k := 58) (x := "_law_script") (CX := L2.CX0) rfl (by decide) (by kernel_rfl) (by kernel_rfl) ⟨rfl, by decide, by decide⟩ ?F (fun _ _ _ _ z => z)
    intro w mg fa h Y G hmg0
    obtain ⟨K, KX, c⟩ := Y
    have hmg : mg ("law" : PySem.Str) = some (.ref fa) := by
      have e : (HandSHeadRun.topDef (PySem.W.OpenLaw.row PySem.Challenge.rw_postmead_k47_sheets_refused).prog 78).name = ("law" : PySem.Str) := by kernel_rfl
      rw [← e]
      exact hmg0
    obtain ⟨T⟩ := Pm.tx_of KX G c
    obtain ⟨fd, hb, hF⟩ := Pm.all_mk (l := PySem.Challenge.rw_postmead_k47_sheets_refused) (w := w) rfl hmg T
    exact ⟨K, fd, Pm.spLaw K, KX, hb, fun H a ns hl hS => ⟨a, ns, rfl, hS, hl, fun _ => rfl⟩, hF⟩
#print axioms PySem.Challenge.cw_postmead_k47_sheets_refused_holds
